import PyProof.Rows.All
import Wide.All
import OpenK.AllK
import Wide.FinOn
import HandS.ForMost
import HandS.ForExc
import HandS.Style
import HandS.TupAny
import HandS.TupMul
import HandS.TupLe
import HandS.Conv
import HandS.SortInts
import HandS.Rev
import HandS.Zip
import KE.DataMinMax
import KE.DataMinKey
import KE.DataEq
import KE.DataFind
import KE.DataIsa
import KE.DataCmp
import KE.SortData
import KE.GoesEnum
import KE.GoesMore
import KE.GoesZip
import HandS.Walk
import HandS.Lambda
import KE.SortKeyHeap
import KE.KDictPairs
import KE.KDictZip
import HandS.Zip0
import HandS.WordsDict
import HandS.More
import HandS.Small
import KE.KDictDisplayH
import KE.KDictKeyed
import KE.KDictSum
import KE.KDictCopyH
import KE.SortCalls
import KE.LtData
import KE.KDictWalk
import HandS.Iter
import HandS.DictComp
import PyProof.DictCompW
import HandS.TupSets
import HandS.SetFor
import HandS.EndBits
import HandS.EndTab
import KE.KNestM
import PySem.Challenge.RW_curtainrise_k79_whole_quiet_lots
set_option Elab.async false
set_option linter.all false
set_option maxRecDepth 100000
/-! Ev1: a small syntax with slots, and its interpreter in plain Lean. -/
namespace Ev
open PySem L2 PySem.W

inductive PV where
  | d (x : PyData) | fre (x : PyData) | bor (x : PyData) | ref (n : Nat) | ty (n : String) | fn (n : Nat)
inductive Ob where
  | lst (xs : List PV) | dct (pd : List (PyData × PyData)) | tab (P : Nat) (q : Str)
abbrev Sto := List Ob
inductive R (α : Type) where
  | ok (a : α) (s : Sto) | ex (c : Nat) (fs : List PV) (s : Sto) | bad
inductive Cell where
  | no | v (x : PV) | own (x : PyData)
abbrev Envr := List Cell
inductive RS where
  | nx (e : Envr) (s : Sto) | br (e : Envr) (s : Sto) | ct (e : Envr) (s : Sto) | rt (v : PV) (s : Sto) | ex (c : Nat) (fs : List PV) (e : Envr) (s : Sto) | bad

def R.bind {α β : Type} (r : R α) (f : α → Sto → R β) : R β := match r with
  | .ok a s => f a s
  | .ex c fs s => .ex c fs s
  | .bad => .bad
/-- an option, in a state -/
def R.opt {α : Type} (o : Option α) (s : Sto) : R α := match o with
  | some a => .ok a s
  | none => .bad

inductive Op2 where | add | sub | mul | fdiv | mod | pow
inductive Cm where | lt | le | gt | ge | eq | ne | is_ | isnt | in_ | notin
/- what a key lambda answers of its one parameter -/
mutual
inductive LK where
  | p | ix (k : LK) (i : Nat) | len (k : LK) | neg (k : LK) | tup (ks : LKs)
inductive LKs where
  | nil | cons (k : LK) (ks : LKs)
end
inductive Bk where | sorted | max | min
inductive Bi where
  | len | abs | int | sum | max | min | any | all | sorted | tuple | list | isinst | str

mutual
inductive E where
  | var (i : Nat) | lit (x : PyData) | con (x : Str) (v : PyData) | ty (x : Str) (n : String)
  | op (o : Op2) (a b : E) | neg (a : E)
  | cmp (c : Cm) (a b : E) | chn (c1 c2 : Cm) (a b c : E)
  | andd (a b : E) | orr (a b : E) | nott (a : E) | ife (t a b : E)
  | tup (es : Es) | lst (es : Es) | lstR (es : Es) | box (a : E)
  | ix (a i : E) | sl (a : E) (lo hi : P) | rev (a : E)
  | call (f : Nat) (es : Es) | bi (b : Bi) (es : Es) | lrng (tp : Bool) (a b : E) 
  | lc (own : List Nat) (g : G) (it : It) (ts : Es) (e : E)
  | lset (a : E) | sset (a : E) | srtk (b : Bk) (n P : Nat) (q : Str) (k : LK) (a : E)
  | dzip (es : Es) | dnew | dsp (tp : Bool) (k v : E) | keep (a : E) | get1 (d k : E) | get2 (d k x : E)
  | dcp (own : List Nat) (g : G) (it : It) (ts : Es) (k e : E)
  | dcp2 (own : List Nat) (g : G) (it : It) (ts : Es) (v1 : List Nat) (g1 : G) (it1 : It) (ts1 : Es) (k e : E)
  | lc2 (own : List Nat) (g : G) (it : It) (ts : Es) (v1 : List Nat) (g1 : G) (it1 : It) (ts1 : Es) (e : E)
inductive P where
  | no | ex (e : E)
inductive Es where
  | nil | cons (e : E) (es : Es)
inductive It where
  | sq (a : E) | r1 (a : E) | r2 (a b : E) | r3 (a b c : E) | zp (a b : E) | en (a : E) | its (a : E) | vls (a : E)
inductive G where
  | nm (i : Nat) | tp (is : List Nat)
end

/-! ### values -/
def allD : List PV → Option (List PyData)
  | [] => some []
  | .d x :: r => (allD r).map (x :: ·)
  | _ :: _ => none
/-- read: a datum as it stands -/
def rd : PV → Sto → Option PyData
  | .d x, _ => some x
  | .fre x, _ => some x
  | .bor x, _ => some x
  | .ref n, st => match st[n]? with
    | some (.lst xs) => (allD xs).map .list
    | some (.dct pd) => some (.dict pd)
    | _ => none
  | _, _ => none
def isTab : Option PyData → Bool
  | some (.dict _) => true
  | _ => false
/-- kept: a datum that nobody changes any more -/
def asD : PV → Option PyData
  | .d x => some x
  | .fre (.list xs) => some (.list xs)
  | _ => none
/-- kept, or an object of the store -/
def asR : PV → Option PV
  | .d x => some (.d x)
  | .fre (.list xs) => some (.d (.list xs))
  | .ref n => some (.ref n)
  | _ => none
/-- what a walk goes over: with bo, what a slot owns too -/
def srcV (bo : Bool) : PV → Option (List PyData)
  | .d (.list xs) => some xs
  | .d (.tuple xs) => some xs
  | .d (.dict pd) => some (pd.map (·.1))
  | .fre (.list xs) => some xs
  | .bor (.list xs) => if bo then some xs else none
  | _ => none
/-- .. a list or a tuple -/
def srcL (bo : Bool) : PV → Option (List PyData)
  | .d (.dict _) => none
  | x => srcV bo x
def itsV : PV → Option (List PyData)
  | .d (.dict pd) => some (pd.map fun p => .tuple [p.1, p.2])
  | _ => none
def vlsV : PV → Option (List PyData)
  | .d (.dict pd) => some (pd.map (·.2))
  | _ => none
def asB : PV → Option Bool
  | .d (.bool b) => some b
  | _ => none

def mulOk (i j : Int) : Bool := decide (i.natAbs < 2 ^ 64) || decide (j.natAbs < 2 ^ 64)
def opD : Op2 → PyData → PyData → Option PV
  | .add, .int i, .int j => some (.d (.int (i + j)))
  | .add, .str x, .str y => if x.length + y.length ≤ sizeLine then some (.d (.str (x ++ y))) else none
  | .add, .list xs, .list ys => if xs.length + ys.length ≤ sizeLine then some (.fre (.list (xs ++ ys))) else none
  | .add, .tuple xs, .tuple ys => if xs.length + ys.length ≤ sizeLine then some (.d (.tuple (xs ++ ys))) else none
  | .sub, .int i, .int j => some (.d (.int (i - j)))
  | .mul, .int i, .int j => if mulOk i j then some (.d (.int (i * j))) else none
  | .mul, .list xs, .int k => if -(2 ^ 63) ≤ k ∧ k < 2 ^ 63 ∧ xs.length * k.toNat ≤ sizeLine then some (.fre (.list (List.replicate k.toNat xs).flatten)) else none
  | .fdiv, .int i, .int j => if 0 < j ∧ j < 1073741824 then some (.d (.int (i / j))) else none
  | .mod, .int i, .int j => if 0 < j then some (.d (.int (i % j))) else none
  | .pow, .int i, .int j => if 0 ≤ j ∧ j ≤ 1000000 ∧ i.natAbs < 2 ^ 64 then some (.d (.int (i ^ j.toNat))) else none
  | _, _, _ => none

/-- flat things -/
def eqD : PyData → PyData → Option Bool
  | .int i, .int j => some (decide (i = j))
  | .str x, .str y => some (decide (x = y))
  | .bool x, .bool y => some (decide (x = y))
  | .none, .none => some true
  | x, y => if x.plain && y.plain && decide (x.depth ≤ 60) then some (PyData.eqv x y) else none
def ltD : PyData → PyData → Option Bool
  | .int i, .int j => some (decide (i < j))
  | .none, _ => none
  | x, y => if alike x y && decide (x.depth ≤ 60) && x.plain && y.plain then some (dataLt x y) else none
def isNone : PyData → Bool
  | .none => true
  | _ => false
/-! ### dicts -/
inductive DKey where
  | k (a : Key) | t (as : List Key)
  deriving DecidableEq
def DKey.tup : DKey → Bool
  | .k _ => false
  | .t _ => true
def toKey : PyData → Option Key
  | .int i => some (.inl i)
  | .str x => some (.inr x)
  | _ => none
def toKeys : List PyData → Option (List Key)
  | [] => some []
  | x :: r => (toKey x).bind fun k => (toKeys r).map (k :: ·)
def dKey : PyData → Option DKey
  | .tuple xs => (toKeys xs).map .t
  | x => (toKey x).map .k
abbrev Tb := List (PyData × PyData)
def kOk (k : DKey) (pd : Tb) : Bool := pd.all fun p => match dKey p.1 with
  | some j => j.tup == k.tup
  | none => false
def kEq (k : DKey) (x : PyData) : Bool := decide (dKey x = some k)
def getD? (k : DKey) (pd : Tb) : Option PyData := (pd.find? fun p => kEq k p.1).map (·.2)
def putD (k : DKey) (x y : PyData) (pd : Tb) : Tb := if (pd.any fun p => kEq k p.1) = true then pd.map fun p => if kEq k p.1 = true then (p.1, y) else p else pd ++ [(x, y)]
def inD : PyData → PyData → Option Bool
  | x, .list ys => if x.plain && PyData.plainAll ys && decide (x.depth ≤ 60) then some (ys.any fun y => PyData.eqv y x) else none
  | x, .tuple ys => if x.plain && PyData.plainAll ys && decide (x.depth ≤ 60) then some (ys.any fun y => PyData.eqv y x) else none
  | x, .dict pd => (dKey x).bind fun k => if kOk k pd then some (pd.any fun p => kEq k p.1) else none
  | _, _ => none
def cmpD : Cm → PyData → PyData → Option Bool
  | .lt, x, y => ltD x y
  | .gt, x, y => ltD y x
  | .le, .int i, .int j => some (decide (i ≤ j))
  | .ge, .int i, .int j => some (decide (j ≤ i))
  | .eq, x, y => eqD x y
  | .ne, x, y => (eqD x y).map not
  | .is_, x, .none => some (isNone x)
  | .isnt, x, .none => some (!isNone x)
  | .is_, .bool x, .bool y => some (decide (x = y))
  | .isnt, .bool x, .bool y => some (decide (x ≠ y))
  | .in_, x, y => inD x y
  | .notin, x, y => (inD x y).map not
  | _, _, _ => none

def ixD : PyData → PyData → Option PyData
  | .list xs, .int i => atI xs i
  | .tuple xs, .int i => atI xs i
  | .dict pd, x => (dKey x).bind fun k => if kOk k pd then getD? k pd else none
  | _, _ => none
def getDD (x k y : PyData) : Option PyData := match x with
  | .dict pd => (dKey k).bind fun k => if kOk k pd then some ((getD? k pd).getD y) else none
  | _ => none
def cutL {α : Type} (xs : List α) (lo hi : Option Int) : List α := (xs.drop (HT.sIx xs.length 0 lo)).take (HT.sIx xs.length xs.length hi - HT.sIx xs.length 0 lo)
def slD : PyData → Option Int → Option Int → Option PV
  | .list xs, lo, hi => some (.fre (.list (cutL xs lo hi)))
  | .tuple xs, lo, hi => some (.d (.tuple (cutL xs lo hi)))
  | _, _, _ => none

def allInts : List PyData → Option (List Int)
  | [] => some []
  | .int i :: r => (allInts r).map (i :: ·)
  | _ :: _ => none
def allBools : List PyData → Option (List Bool)
  | [] => some []
  | .bool i :: r => (allBools r).map (i :: ·)
  | _ :: _ => none
def allIntTs : List PyData → Option (List (List Int))
  | [] => some []
  | .tuple ys :: r => (allInts ys).bind fun ns => (allIntTs r).map (ns :: ·)
  | _ :: _ => none
/-- how many are in the set of it; no two alike -/
def lsetD : PyData → Option PV
  | .list xs => (allInts xs).bind fun ns => if decide ns.Nodup && decide (ns.length ≤ 4000) then some (.d (.int ns.length)) else none
  | .tuple xs => (allIntTs xs).bind fun ks => if decide ks.Nodup && decide (ks.length < 64) then some (.d (.int ks.length)) else none
  | _ => none
/-- sorted(set(..)) of a tuple of ascending ints -/
def ssetD : PyData → Option PV
  | .tuple xs => (allInts xs).bind fun ns => if decide (ns.Pairwise (· < ·)) && decide (ns.length < 63) then some (.fre (.list xs)) else none
  | _ => none
def itemsD : PyData → Option (List PyData)
  | .list xs => some xs
  | .tuple xs => some xs
  | _ => none
/-- .. or a dict's keys -/
def itemsK : PyData → Option (List PyData)
  | .list xs => some xs
  | .tuple xs => some xs
  | .dict pd => some (pd.map (·.1))
  | _ => none
def isaD (n : String) : PyData → Option Bool
  | x => if n = "int" then some (PyData.isInt x) else if n = "bool" then some (PyData.isBool x) else if n = "str" then some (PyData.isStr x)
    else if n = "tuple" then some (PyData.isTuple x) else if n = "list" then some (PyData.isList x) else if n = "dict" then some (PyData.isDict x) else none
def alikeAllB (xs : List PyData) : Bool := xs.all (fun x => xs.all fun y => alike x y) && xs.all fun x => !isNone x && decide (x.depth ≤ 60)
def sortableB (xs : List PyData) : Bool := (xs.all fun x => match x with | .tuple (_ :: _) => true | _ => false) || (xs.all fun x => match x with | .tuple _ => false | .none => false | _ => true)
/-- all tuples, the first empty -/
def sort0B : List PyData → Bool
  | .tuple [] :: r => r.all PyData.isTuple
  | _ => false
/- no dict within -/
mutual
def flatD : PyData → Bool
  | .dict _ => false
  | .list xs => flatDs xs
  | .tuple xs => flatDs xs
  | _ => true
def flatDs : List PyData → Bool
  | [] => true
  | x :: r => flatD x && flatDs r
end
/-! ### sorting, by structure -/
def mrg {α : Type} (le : α → α → Bool) : Nat → List α → List α → List α
  | 0, _, _ => []
  | _ + 1, [], ys => ys
  | _ + 1, x :: xs, [] => x :: xs
  | n + 1, x :: xs, y :: ys => if le x y = true then x :: mrg le n xs (y :: ys) else y :: mrg le n (x :: xs) ys
def msF {α : Type} (le : α → α → Bool) : Nat → List α → List α
  | 0, xs => xs
  | _ + 1, [] => []
  | _ + 1, [a] => [a]
  | n + 1, a :: b :: xs => mrg le (xs.length + 3) (msF le n ((a :: b :: xs).take ((xs.length + 3) / 2))) (msF le n ((a :: b :: xs).drop ((xs.length + 3) / 2)))
theorem mrg_eq {α : Type} (le : α → α → Bool) : ∀ (n : Nat) (xs ys : List α), xs.length + ys.length < n → mrg le n xs ys = xs.merge ys le
  | 0, _, _, h => absurd h (Nat.not_lt_zero _)
  | _ + 1, [], ys, _ => by rw [mrg, List.nil_merge]
  | _ + 1, x :: xs, [], _ => by rw [mrg, List.merge_right]
  | n + 1, x :: xs, y :: ys, h => by
    simp only [List.length_cons] at h
    rw [mrg, List.cons_merge_cons, mrg_eq le n xs (y :: ys) (by simp only [List.length_cons]; omega), mrg_eq le n (x :: xs) ys (by simp only [List.length_cons]; omega)]
theorem msF_eq {α : Type} (le : α → α → Bool) : ∀ (n : Nat) (xs : List α), xs.length ≤ n → msF le n xs = xs.mergeSort le
  | 0, xs, h => by
    have : xs = [] := List.length_eq_zero_iff.mp (by omega)
    subst this
    rw [msF, List.mergeSort_nil]
  | _ + 1, [], _ => by rw [msF, List.mergeSort_nil]
  | _ + 1, [a], _ => by rw [msF, List.mergeSort_singleton]
  | n + 1, a :: b :: xs, h => by
    simp only [List.length_cons] at h
    rw [msF, List.mergeSort.eq_3, mrg_eq]
    · rw [msF_eq le n _ (by simp only [List.length_take, List.length_cons]; omega), msF_eq le n _ (by simp only [List.length_drop, List.length_cons]; omega)]
      simp [List.MergeSort.Internal.splitInTwo, List.splitAt_eq]
    · rw [msF_eq le n _ (by simp only [List.length_take, List.length_cons]; omega), msF_eq le n _ (by simp only [List.length_drop, List.length_cons]; omega), List.length_mergeSort, List.length_mergeSort]
      simp only [List.length_take, List.length_drop, List.length_cons]
      omega
def sortD (xs : List PyData) : List PyData := msF (dataLe false id) xs.length xs
theorem sortD_eq (xs : List PyData) : sortD xs = xs.mergeSort (dataLe false id) := msF_eq _ _ _ (Nat.le_refl _)
mutual
def lkD : LK → PyData → Option PyData
  | .p, x => some x
  | .ix k i, x => match lkD k x with
    | some (.tuple xs) => if i < 1000 then xs[i]? else none
    | _ => none
  | .len k, x => match lkD k x with
    | some (.tuple xs) => if xs.length ≤ sizeLine then some (.int xs.length) else none
    | _ => none
  | .neg k, x => match lkD k x with
    | some (.int i) => some (.int (-i))
    | _ => none
  | .tup ks, x => match lkDs ks x with
    | some xs => if xs.length ≤ 1000 then some (.tuple xs) else none
    | none => none
def lkDs : LKs → PyData → Option (List PyData)
  | .nil, _ => some []
  | .cons k ks, x => match lkD k x, lkDs ks x with
    | some y, some ys => some (y :: ys)
    | _, _ => none
end
/- no list, no dict within -/
mutual
def noLD : PyData → Bool
  | .dict _ => false
  | .list _ => false
  | .tuple xs => noLDs xs
  | _ => true
def noLDs : List PyData → Bool
  | [] => true
  | x :: r => noLD x && noLDs r
end
def keyF (k : LK) (d : PyData) : PyData := (lkD k d).getD .none
def keyOk (k : LK) (ds : List PyData) : Bool := ds.all (fun d => (lkD k d).isSome) && (ds.map (keyF k)).all noLD && alikeAllB (ds.map (keyF k))
def maxK (key : PyData → PyData) (x : PyData) (xs : List PyData) : PyData := xs.foldl (fun a y => if dataLt (key a) (key y) then y else a) x
def minK (key : PyData → PyData) (x : PyData) (xs : List PyData) : PyData := xs.foldl (fun a y => if dataLt (key y) (key a) then y else a) x
def sortK (k : LK) (xs : List PyData) : List PyData := msF (dataLe false (keyF k)) xs.length xs
theorem sortK_eq (k : LK) (xs : List PyData) : sortK k xs = xs.mergeSort (dataLe false (keyF k)) := msF_eq _ _ _ (Nat.le_refl _)
/-- sorted, max, min with a key lambda -/
def srtkD (b : Bk) (k : LK) (x : PyData) : Option PV := (itemsD x).bind fun xs => if keyOk k xs && flatDs xs && decide (xs.length ≤ sizeLine) then match b, xs with
    | .sorted, _ => if sortableB (xs.map (keyF k)) then some (.fre (.list (sortK k xs))) else none
    | .max, y :: r => some (.d (maxK (keyF k) y r))
    | .min, y :: r => some (.d (minK (keyF k) y r))
    | _, _ => none else none
def isTb (st : Sto) (n P : Nat) (q : Str) : Bool := match st[n]? with
  | some (.tab P' q') => decide (P' = P) && decide (q' = q)
  | _ => false
/-- builtins, by what they read; int lists first -/
def biD : Bi → List PyData → Option PV
  | .len, [.list xs] => some (.d (.int xs.length))
  | .len, [.tuple xs] => some (.d (.int xs.length))
  | .len, [.dict xs] => some (.d (.int xs.length))
  | .len, [.str x] => if x.length ≤ sizeLine then some (.d (.int x.length)) else none
  | .abs, [.int i] => some (.d (.int (if i < 0 then -i else i)))
  | .int, [.int i] => some (.d (.int i))
  | .int, [.bool b] => some (.d (.int (if b then 1 else 0)))
  | .sum, [x] => (itemsD x).bind fun xs => (allInts xs).map fun ns => .d (.int ns.sum)
  | .any, [.list xs] => (allBools xs).map fun bs => .d (.bool (bs.any id))
  | .all, [.list xs] => (allBools xs).map fun bs => .d (.bool (bs.all id))
  | .max, [.int i, .int j] => some (.d (.int (if j > i then j else i)))
  | .min, [.int i, .int j] => some (.d (.int (if j < i then j else i)))
  | .max, [x] => (itemsD x).bind fun xs => match xs with
    | [] => none
    | y :: r => match allInts (y :: r) with
      | some (n :: ns) => some (.d (.int (ns.foldl max n)))
      | _ => if alikeAllB (y :: r) then some (.d (maxD y r)) else none
  | .min, [x] => (itemsD x).bind fun xs => match xs with
    | [] => none
    | y :: r => match allInts (y :: r) with
      | some (n :: ns) => some (.d (.int (ns.foldl min n)))
      | _ => if alikeAllB (y :: r) then some (.d (minD y r)) else none
  | .tuple, [.list xs] => some (.d (.tuple xs))
  | .tuple, [.tuple xs] => some (.d (.tuple xs))
  | .list, [.list xs] => some (.fre (.list xs))
  | .list, [.tuple xs] => some (.fre (.list xs))
  | .sorted, [x] => (itemsK x).bind fun xs => if alikeAllB xs && (sortableB xs || (PyData.isList x && sort0B xs)) && decide (xs.length ≤ sizeLine) then some (.fre (.list (sortD xs))) else none
  | _, _ => none
def biV : Bi → List PV → Sto → Option PV
  | .isinst, [x, .ty n], st => (rd x st).bind fun y => (if flatD y then isaD n y else none).map fun b => .d (.bool b)
  | b, [x], st => (rd x st).bind fun y => biD b [y]
  | b, [x, y], st => (rd x st).bind fun u => (rd y st).bind fun w => biD b [u, w]
  | _, _, _ => none

def rgL (a b : Int) : List PyData := (List.range (b - a).toNat).map fun (i : Nat) => PyData.int (a + (i : Int))
def rgC (a c : Int) (n : Nat) : List PyData := (List.range n).map fun (i : Nat) => PyData.int (a + (i : Int) * c)
def smallI (i : Int) : Bool := decide (i.natAbs < 2 ^ 62)
def zipD : List PyData → List PyData → List PyData
  | x :: xs, y :: ys => .tuple [x, y] :: zipD xs ys
  | _, _ => []
def enD (i : Int) : List PyData → List PyData
  | x :: xs => .tuple [.int i, x] :: enD (i + 1) xs
  | [] => []

def setC (e : Envr) (i : Nat) (c : Cell) : Envr := e.set i c
def wipeC (e : Envr) : List Nat → Envr
  | [] => e
  | v :: vs => (wipeC e vs).set v .no
def setAll (e : Envr) : List Nat → List PyData → Option Envr
  | [], [] => some e
  | i :: is, x :: xs => setAll (e.set i (.v (.d x))) is xs
  | _, _ => none
/-- a target takes a datum -/
def asg (e : Envr) : G → PyData → Option Envr
  | .nm i, x => some (e.set i (.v (.d x)))
  | .tp is, .tuple xs => setAll e is xs
  | _, _ => none
def notOwn (e : Envr) (i : Nat) : Bool := match e[i]? with
  | some (.own _) => false
  | _ => true
def lcL (f : PyData → Sto → R (Option PyData)) : List PyData → Sto → List PyData → R (List PyData)
  | [], st, acc => .ok acc st
  | x :: xs, st, acc => (f x st).bind fun o st1 => match o with
    | some y => if acc.length < sizeLine then lcL f xs st1 (acc ++ [y]) else .bad
    | none => lcL f xs st1 acc
/-- a dict that is made -/
def dpL (f : PyData → Sto → R (Option (PyData × PyData))) : List PyData → Sto → Tb → R Tb
  | [], st, acc => .ok acc st
  | x :: xs, st, acc => (f x st).bind fun o st1 => match o with
    | some p => match toKey p.1 with
      | some k => if acc.length < sizeLine then dpL f xs st1 (putD (.k k) p.1 p.2 acc) else .bad
      | none => .bad
    | none => dpL f xs st1 acc
/-- dict(zip(keys, values)) -/
def dzD : List PyData → List PyData → Tb → Option Tb
  | [], _, acc => some acc
  | x :: xs, [], acc => (toKey x).bind fun _ => dzD xs [] acc
  | x :: xs, y :: ys, acc => (toKey x).bind fun k => dzD xs ys (putD (.k k) x y acc)
def dzV : List PyData → Option PV
  | [.tuple xs, .tuple ys] => (dzD xs ys []).map fun pd => .fre (.dict pd)
  | _ => none
/-- an outer loop -/
def outL {β : Type} (f : PyData → Sto → β → R β) : List PyData → Sto → β → R β
  | [], st, acc => .ok acc st
  | x :: xs, st, acc => (f x st acc).bind fun acc1 st1 => outL f xs st1 acc1
def noEx {α : Type} : R α → R α
  | .ex _ _ _ => .bad
  | r => r

section
variable (c : Nat → List PV → Sto → R PV)
mutual
def evE : E → Envr → Sto → R PV
  | .var i, e, st => match e[i]? with
    | some (.v x) => .ok x st
    | some (.own x) => .ok (.bor x) st
    | _ => .bad
  | .lit x, _, st => .ok (.d x) st
  | .con _ x, _, st => .ok (.d x) st
  | .ty _ n, _, st => .ok (.ty n) st
  | .op o a b, e, st => (evE a e st).bind fun x s1 => (evE b e s1).bind fun y s2 => R.opt ((rd x s2).bind fun u => (rd y s2).bind fun w => opD o u w) s2
  | .neg a, e, st => (evE a e st).bind fun x s1 => match x with
    | .d (.int i) => .ok (.d (.int (-i))) s1
    | _ => .bad
  | .cmp o a b, e, st => (evE a e st).bind fun x s1 => (evE b e s1).bind fun y s2 => R.opt ((rd x s2).bind fun u => (rd y s2).bind fun w => (cmpD o u w).map fun b => .d (.bool b)) s2
  | .chn o o2 a b b2, e, st => (evE a e st).bind fun x s1 => (evE b e s1).bind fun y s2 =>
      match (rd x s2).bind fun u => (rd y s2).bind fun w => cmpD o u w with
      | some true => (evE b2 e s2).bind fun z s3 => R.opt ((rd y s3).bind fun u => (rd z s3).bind fun w => (cmpD o2 u w).map fun b => .d (.bool b)) s3
      | some false => .ok (.d (.bool false)) s2
      | none => .bad
  | .andd a b, e, st => (evE a e st).bind fun x s1 => match x with
    | .d (.bool true) => (evE b e s1).bind fun y s2 => R.opt ((asB y).map fun k => .d (.bool k)) s2
    | .d (.bool false) => .ok (.d (.bool false)) s1
    | _ => .bad
  | .orr a b, e, st => (evE a e st).bind fun x s1 => match x with
    | .d (.bool false) => (evE b e s1).bind fun y s2 => R.opt ((asB y).map fun k => .d (.bool k)) s2
    | .d (.bool true) => .ok (.d (.bool true)) s1
    | _ => .bad
  | .nott a, e, st => (evE a e st).bind fun x s1 => match x with
    | .d (.bool k) => .ok (.d (.bool (!k))) s1
    | _ => .bad
  | .ife t a b, e, st => (evE t e st).bind fun x s1 => match x with
    | .d (.bool true) => evE a e s1
    | .d (.bool false) => evE b e s1
    | _ => .bad
  | .tup es, e, st => (evDs es e st).bind fun xs s1 => if xs.length ≤ sizeLine then .ok (.d (.tuple xs)) s1 else .bad
  | .lst es, e, st => (evDs es e st).bind fun xs s1 => if xs.length ≤ sizeLine then .ok (.fre (.list xs)) s1 else .bad
  | .lstR es, e, st => (evRs es e st).bind fun xs s1 => if xs.length ≤ sizeLine then .ok (.ref s1.length) (s1 ++ [.lst xs]) else .bad
  | .box a, e, st => (evE a e st).bind fun x s1 => match x with
    | .fre (.list xs) => .ok (.ref s1.length) (s1 ++ [.lst (xs.map .d)])
    | .fre (.dict pd) => .ok (.ref s1.length) (s1 ++ [.dct pd])
    | _ => .bad
  | .ix a i, e, st => (evE a e st).bind fun x s1 => (evE i e s1).bind fun y s2 => match x, y with
    | .ref n, .d (.int j) => match s2[n]? with
      | some (.lst xs) => R.opt (atI xs j) s2
      | _ => R.opt ((rd x s2).bind fun u => (rd y s2).bind fun w => (ixD u w).map .d) s2
    | _, _ => R.opt ((rd x s2).bind fun u => (rd y s2).bind fun w => (ixD u w).map .d) s2
  | .sl a lo hi, e, st => (evE a e st).bind fun x s1 => (evP lo e s1).bind fun i s2 => (evP hi e s2).bind fun j s3 => R.opt ((rd x s3).bind fun u => slD u i j) s3
  | .rev a, e, st => (evE a e st).bind fun x s1 => match rd x s1 with
    | some (.list xs) => .ok (.fre (.list xs.reverse)) s1
    | some (.tuple xs) => .ok (.d (.tuple xs.reverse)) s1
    | _ => .bad
  | .call f es, e, st => (evRs es e st).bind fun xs s1 => c f xs s1
  | .bi b es, e, st => (evAs es e st).bind fun xs s1 => R.opt (biV b xs s1) s1
  | .lrng tp a b, e, st => (evE a e st).bind fun x s1 => (evE b e s1).bind fun y s2 => match x, y with
    | .d (.int i), .d (.int j) => if smallI i && smallI j && decide ((j - i).toNat ≤ sizeLine) then .ok (cond tp (.d (.tuple (rgL i j))) (.fre (.list (rgL i j)))) s2 else .bad
    | _, _ => .bad
  | .lc own g it ts y, e, st => if own.all (notOwn e) then (evI it true e st).bind fun xs s1 =>
      (lcL (fun x s => match asg (wipeC e own) g x with
        | some e1 => (noEx (evTs ts e1 s)).bind fun b s2 => if b then (noEx (evE y e1 s2)).bind fun v s3 => R.opt ((asD v).map some) s3 else .ok none s2
        | none => .bad) xs s1 []).bind fun ys s2 => .ok (.fre (.list ys)) s2
    else .bad
  | .sset a, e, st => (evE a e st).bind fun x s1 => R.opt ((rd x s1).bind ssetD) s1
  | .lset a, e, st => (evE a e st).bind fun x s1 => R.opt ((rd x s1).bind lsetD) s1
  | .srtk b n P q k a, e, st => (evE a e st).bind fun x s1 => if isTb s1 n P q then R.opt ((rd x s1).bind (srtkD b k)) s1 else .bad
  | .dzip es, e, st => (evDs es e st).bind fun xs s1 => R.opt (dzV xs) s1
  | .dnew, _, st => .ok (.fre (.dict [])) st
  | .dsp tp k v, e, st => (evE k e st).bind fun x s1 => (evE v e s1).bind fun y s2 => match asD x, asD y with
    | some a, some b => match dKey a with
      | some j => if j.tup = tp then .ok (.fre (.dict [(a, b)])) s2 else .bad
      | none => .bad
    | _, _ => .bad
  | .keep a, e, st => (evE a e st).bind fun x s1 => match x with
    | .fre (.dict pd) => .ok (.d (.dict pd)) s1
    | _ => .bad
  | .get1 d k, e, st => (evE d e st).bind fun x s1 => if isTab (rd x s1) then (evE k e s1).bind fun y s2 => R.opt ((rd x s2).bind fun u => (rd y s2).bind fun w => (getDD u w .none).map .d) s2 else .bad
  | .get2 d k z, e, st => (evE d e st).bind fun x s1 => if isTab (rd x s1) then (evE k e s1).bind fun y s2 => (evE z e s2).bind fun v s3 => match asD v with
    | some b => R.opt ((rd x s3).bind fun u => (rd y s3).bind fun w => (getDD u w b).map .d) s3
    | none => .bad else .bad
  | .dcp own g it ts k y, e, st => if own.all (notOwn e) then (evI it true e st).bind fun xs s1 =>
      (dpL (fun x s => match asg (wipeC e own) g x with
        | some e1 => (noEx (evTs ts e1 s)).bind fun b s2 => if b then (noEx (evE k e1 s2)).bind fun u s3 => (noEx (evE y e1 s3)).bind fun v s4 => match asD u, asD v with
          | some a, some b => .ok (some (a, b)) s4
          | _, _ => .bad
          else .ok none s2
        | none => .bad) xs s1 []).bind fun ys s2 => .ok (.fre (.dict ys)) s2
    else .bad
  | .dcp2 own g it ts v1 g1 it1 ts1 k y, e, st => if own.all (notOwn e) && v1.all (fun i => decide (i ∈ own)) then (evI it true e st).bind fun xs s1 =>
      (outL (fun x s acc => match asg (wipeC e own) g x with
        | some e1 => (noEx (evTs ts e1 s)).bind fun b s2 => if b then (noEx (evI it1 true e1 s2)).bind fun xs1 s3 =>
            dpL (fun x s => match asg (wipeC e1 v1) g1 x with
              | some e2 => (noEx (evTs ts1 e2 s)).bind fun b s2 => if b then (noEx (evE k e2 s2)).bind fun u s3 => (noEx (evE y e2 s3)).bind fun v s4 => match asD u, asD v with
                | some a, some b => .ok (some (a, b)) s4
                | _, _ => .bad
                else .ok none s2
              | none => .bad) xs1 s3 acc
          else .ok acc s2
        | none => .bad) xs s1 []).bind fun ys s2 => .ok (.fre (.dict ys)) s2
    else .bad
  | .lc2 own g it ts v1 g1 it1 ts1 y, e, st => if own.all (notOwn e) && v1.all (fun i => decide (i ∈ own)) then (evI it true e st).bind fun xs s1 =>
      (outL (fun x s acc => match asg (wipeC e own) g x with
        | some e1 => (noEx (evTs ts e1 s)).bind fun b s2 => if b then (noEx (evI it1 true e1 s2)).bind fun xs1 s3 =>
            lcL (fun x s => match asg (wipeC e1 v1) g1 x with
              | some e2 => (noEx (evTs ts1 e2 s)).bind fun b s2 => if b then (noEx (evE y e2 s2)).bind fun v s3 => R.opt ((asD v).map some) s3 else .ok none s2
              | none => .bad) xs1 s3 acc
          else .ok acc s2
        | none => .bad) xs s1 []).bind fun ys s2 => .ok (.fre (.list ys)) s2
    else .bad
/-- tests, all of which hold -/
def evTs : Es → Envr → Sto → R Bool
  | .nil, _, st => .ok true st
  | .cons t ts, e, st => (evE t e st).bind fun x s1 => match asB x with
    | some true => evTs ts e s1
    | some false => .ok false s1
    | none => .bad
def evDs : Es → Envr → Sto → R (List PyData)
  | .nil, _, st => .ok [] st
  | .cons a es, e, st => (evE a e st).bind fun x s1 => match asD x with
    | some u => (evDs es e s1).bind fun us s2 => .ok (u :: us) s2
    | none => .bad
def evRs : Es → Envr → Sto → R (List PV)
  | .nil, _, st => .ok [] st
  | .cons a es, e, st => (evE a e st).bind fun x s1 => match asR x with
    | some u => (evRs es e s1).bind fun us s2 => .ok (u :: us) s2
    | none => .bad
def evAs : Es → Envr → Sto → R (List PV)
  | .nil, _, st => .ok [] st
  | .cons a es, e, st => (evE a e st).bind fun x s1 => (evAs es e s1).bind fun us s2 => .ok (x :: us) s2
/-- a part of a slice -/
def evP : P → Envr → Sto → R (Option Int)
  | .no, _, st => .ok none st
  | .ex a, e, st => (evE a e st).bind fun x s1 => match x with
    | .d (.int i) => .ok (some i) s1
    | _ => .bad
def evI : It → Bool → Envr → Sto → R (List PyData)
  | .sq a, bo, e, st => (evE a e st).bind fun x s1 => R.opt (srcV bo x) s1
  | .r1 a, bo, e, st => (evE a e st).bind fun x s1 => match x with
    | .d (.int j) => if smallI j then .ok (rgL 0 j) s1 else .bad
    | _ => .bad
  | .r2 a b, bo, e, st => (evE a e st).bind fun x s1 => (evE b e s1).bind fun y s2 => match x, y with
    | .d (.int i), .d (.int j) => if smallI i && smallI j then .ok (rgL i j) s2 else .bad
    | _, _ => .bad
  | .r3 a b c3, bo, e, st => (evE a e st).bind fun x s1 => (evE b e s1).bind fun y s2 => (evE c3 e s2).bind fun z s3 => match x, y, z with
    | .d (.int i), .d (.int j), .d (.int k) => if k = -1 ∧ smallI i = true ∧ smallI j = true then .ok (rgC i (-1) (i - j).toNat) s3 else .bad
    | _, _, _ => .bad
  | .zp a b, bo, e, st => (evE a e st).bind fun x s1 => (evE b e s1).bind fun y s2 => R.opt ((srcL bo x).bind fun us => (srcL bo y).map fun ws => zipD us ws) s2
  | .en a, bo, e, st => (evE a e st).bind fun x s1 => R.opt ((srcL bo x).map (enD 0)) s1
  | .its a, bo, e, st => (evE a e st).bind fun x s1 => R.opt (itsV x) s1
  | .vls a, bo, e, st => (evE a e st).bind fun x s1 => R.opt (vlsV x) s1
end
end
end Ev

set_option maxRecDepth 100000
/-! Ez1: dict(zip(x, y)) of two tuples: a turn of the zip while its last pair is still out. -/
namespace Ev
open PySem L2 PySem.W
section
variable {prog : Program} {w : World} {A : Around} {E : Value → Shared → Prop} {s : Shared}
/-- what stands in the heap while a zip of two tuples is walked: its own pair, two iterators at i and j -/
structure ZT (h : Heap) (TI i1 i2 l1 l2 : Addr) (xs ys : Array Value) (i j : Nat) : Prop where
  ti : IsPair h TI (.ref i1) (.ref i2)
  a : h.IsTupleIter i1 l1 i
  b : h.IsTupleIter i2 l2 j
  la : h.IsTuple l1 xs
  lb : h.IsTuple l2 ys
theorem ZT.go {h h' : Heap} {TI i1 i2 l1 l2 : Addr} {xs ys : Array Value} {i j : Nat} (t : ZT h TI i1 i2 l1 l2 xs ys i j) (k : ∀ b ∈ [TI, i1, i2, l1, l2], ∀ o, h.get? b = some o → h'.get? b = some o) : ZT h' TI i1 i2 l1 l2 xs ys i j :=
  ⟨k _ (by simp) _ t.ti, t.a.at fun o e => k _ (by simp) o e, t.b.at fun o e => k _ (by simp) o e, t.la.at fun o e => k _ (by simp) o e, t.lb.at fun o e => k _ (by simp) o e⟩
/-- a turn: a new pair, or the end -/
theorem zt_next {z TI TO T i1 i2 l1 l2 : Addr} {f : Bool} {oT : Obj} {i j : Nat} {xs ys : Array Value} {Q : Fin → Shared → Prop} (hh : A.handled = none) (D : ZipApart z TI TO i1 i2 l1 l2) (hz : IsZipHeld s.heap z TI TO T f) (hT : s.heap.get? T = some oT) (t : ZT s.heap TI i1 i2 l1 l2 xs ys i j)
    (hit : ∀ x y h', xs[i]? = some x → ys[j]? = some y → IsZipHeld h' z TI TO T true → ZT h' TI i1 i2 l1 l2 xs ys (i + 1) (j + 1) → IsPair h' s.heap.objs.size x y → (∀ c o, c ≠ z → c ≠ i1 → c ≠ i2 → s.heap.get? c = some o → h'.get? c = some o) → Q (.done (.ret (.ref s.heap.objs.size))) { s with heap := h' })
    (hen : ∀ h' e, xs[i]? = none ∨ ys[j]? = none → (∀ c o, c ≠ z → c ≠ i1 → c ≠ i2 → s.heap.get? c = some o → h'.get? c = some o) → (∃ o, h'.get? e = some o ∧ o.cls = .type "StopIteration") → E (.ref e) { s with heap := h' }) :
    wpAny (model prog w) A (Builtin.«zip.__next__» ⟨[.ref z], []⟩) Q E s := by
  have step2 : wpAny (model prog w) A (field (.ref z) 2) (fun v s' => v = .bool false ∧ s' = s) E s := wpAny_field hz rfl (x := .bool false) rfl ⟨rfl, rfl⟩
  have step3 : wpAny (model prog w) A (field (.ref z) 3) (fun v s' => v = .ref TI ∧ s' = s) E s := wpAny_field hz rfl (x := .ref TI) rfl ⟨rfl, rfl⟩
  have its : wpAny (model prog w) A (seqItems? (.ref TI)) (fun v s' => v = some #[.ref i1, .ref i2] ∧ s' = s) E s := wpAny_seqItems t.ti rfl ⟨rfl, rfl⟩
  show wpAny _ _ (field (.ref z) 2 >>= _) _ _ _
  refine wpAny_bind (thn step2 ?_)
  rintro v s' ⟨rfl, rfl⟩
  show wpAny _ _ (field (.ref z) 3 >>= _) _ _ _
  refine wpAny_bind (thn step3 ?_)
  rintro v s' ⟨rfl, rfl⟩
  refine wpAny_bind (thn its ?_)
  rintro v s' ⟨rfl, rfl⟩
  show wpAny _ _ (Builtin.SmallTypes.ownedTupleIsFree (.ref z) >>= _) _ _ _
  refine wpAny_bind (wpAny_tupleHeld_zip hz hT ?_)
  intro h1 hz1 sb1
  have t1 : ZT h1 TI i1 i2 l1 l2 xs ys i j := t.go fun b hb o e => sb1.extBut b o (by
    simp only [List.mem_cons, List.not_mem_nil, or_false] at hb
    rcases hb with rfl | rfl | rfl | rfl | rfl
    · exact D.TIz
    · exact D.i1z
    · exact D.i2z
    · exact D.l1z
    · exact D.l2z) e
  simp only [Bool.false_eq_true, if_false]
  refine wpAny_bind ?_
  rw [← Array.forIn_toList]
  simp only [List.forIn_cons, List.forIn_nil]
  refine wpAny_bind (wpAny_bind (wpAny_holding ?_))
  show wpAny _ _ (Builtin.SmallTypes.nextOf (.ref i1) >>= _) _ _ _
  cases hx : xs[i]? with
  | none =>
    refine wpAny_bind (RZ.nextOf_tuple_end (s := { s' with heap := h1 }) hh t1.a t1.la hx ?_)
    intro h2 e k2 he
    exact hen h2 e (.inl hx) (fun c o n0 n1 _ g => k2 c o n1 (sb1.extBut c o n0 g)) he
  | some x =>
    refine wpAny_bind (RZ.nextOf_tuple_item (s := { s' with heap := h1 }) t1.a t1.la hx ?_)
    intro h2 a2 sb2
    refine wpAny_pure ?_
    refine wpAny_pure ?_
    refine wpAny_bind (wpAny_bind (wpAny_holding ?_))
    show wpAny _ _ (Builtin.SmallTypes.nextOf (.ref i2) >>= _) _ _ _
    have b2 : h2.IsTupleIter i2 l2 j := t1.b.extBut sb2.extBut D.i12.symm
    have lb2 : h2.IsTuple l2 ys := t1.lb.extBut sb2.extBut D.l2i1
    cases hy : ys[j]? with
    | none =>
      refine wpAny_bind (RZ.nextOf_tuple_end (s := { s' with heap := h2 }) hh b2 lb2 hy ?_)
      intro h3 e k3 he
      exact hen h3 e (.inr hy) (fun c o n0 n1 n2 g => k3 c o n2 (sb2.extBut c o n1 (sb1.extBut c o n0 g))) he
    | some y =>
      refine wpAny_bind (RZ.nextOf_tuple_item (s := { s' with heap := h2 }) b2 lb2 hy ?_)
      intro h3 b3 sb3
      refine wpAny_pure ?_
      refine wpAny_pure (wpAny_pure ?_)
      show wpAny _ _ (newTuple [x, y] >>= _) _ _ _
      refine wpAny_bind (wpAny_newTuple ?_)
      have sz : h3.objs.size = s'.heap.objs.size := by rw [sb3.1, sb2.1, sb1.1]
      have up : ∀ c o, c ≠ z → c ≠ i1 → c ≠ i2 → s'.heap.get? c = some o → (h3.push { cls := .type "tuple", data := .seq #[x, y] }).get? c = some o := fun c o n0 n1 n2 g => Heap.get?_push_of_some _ (sb3.extBut c o n2 (sb2.extBut c o n1 (sb1.extBut c o n0 g)))
      have z3 : IsZipHeld (h3.push { cls := .type "tuple", data := .seq #[x, y] }) z TI TO T true := Heap.get?_push_of_some _ (sb3.extBut _ _ D.i2z.symm (sb2.extBut _ _ D.i1z.symm hz1))
      have t3 : ZT (h3.push { cls := .type "tuple", data := .seq #[x, y] }) TI i1 i2 l1 l2 xs ys (i + 1) (j + 1) :=
        ⟨up _ _ D.TIz D.TIi1 D.TIi2 t.ti, (a2.extBut sb3.extBut D.i12).at fun o g => Heap.get?_push_of_some _ g, b3.at fun o g => Heap.get?_push_of_some _ g, t.la.at fun o g => up _ o D.l1z D.l1i1 D.l1i2 g, t.lb.at fun o g => up _ o D.l2z D.l2i1 D.l2i2 g⟩
      have np : IsPair (h3.push { cls := .type "tuple", data := .seq #[x, y] }) s'.heap.objs.size x y := by rw [← sz]; exact Heap.get?_push_size _ rfl
      refine wpAny_pure ?_
      show Q (.done (.ret (.ref h3.objs.size))) _
      rw [sz]
      exact hit x y _ hx hy z3 t3 np up
end
end Ev

set_option maxRecDepth 100000
/-! Ez2: a zip of two tuples as what dict() is made of. -/
namespace Ev
open PySem L2 PySem.W
section
variable {prog : Program} {w : World} {A : Around} {E : Value → Shared → Prop} {s : Shared}
theorem zt_py {z TI TO T i1 i2 l1 l2 : Addr} {f : Bool} {oT : Obj} {i j : Nat} {xs ys : Array Value} {Q : Option Value → Shared → Prop} (hh : A.handled = none) (D : ZipApart z TI TO i1 i2 l1 l2) (hz : IsZipHeld s.heap z TI TO T f) (hT : s.heap.get? T = some oT) (t : ZT s.heap TI i1 i2 l1 l2 xs ys i j)
    (hit : ∀ x y h', xs[i]? = some x → ys[j]? = some y → IsZipHeld h' z TI TO T true → ZT h' TI i1 i2 l1 l2 xs ys (i + 1) (j + 1) → IsPair h' s.heap.objs.size x y → (∀ c o, c ≠ z → c ≠ i1 → c ≠ i2 → s.heap.get? c = some o → h'.get? c = some o) → Q (some (.ref s.heap.objs.size)) { s with heap := h' })
    (hen : ∀ h', xs[i]? = none ∨ ys[j]? = none → (∀ c o, c ≠ z → c ≠ i1 → c ≠ i2 → s.heap.get? c = some o → h'.get? c = some o) → Q none { s with heap := h' }) :
    wpAny (model prog w) A (pyNext (.ref z)) Q E s := by
  have ty : s.TypeIs (.ref z) "zip" := ⟨_, hz, rfl⟩
  unfold pyNext
  refine wpAny_bind (wpAny_attempt (wpAny_callSpecial?_slot (name := Str.ofString "__next__") ty F.slot_zip_next (wpAny_call_entry F.slot_zip_next ty F.entry_zip_next (zt_next hh D hz hT t ?_ ?_) (F.args_zip_next_1 _))))
  · intro x y h' hx hy z3 t3 np up
    exact ⟨_, rfl, wpAny_pure (hit x y h' hx hy z3 t3 np up)⟩
  · rintro h' e hn up ⟨o, ho, hc⟩
    refine wpAny_bind (wpAny_isInstance (T := "StopIteration") (b := true) ⟨o, ho, hc⟩ isSubtype_stop ?_)
    exact wpAny_pure (hen h' hn up)
/-- the state of the walk ahead of turn i: the zip is still whole, or its last pair T is out -/
def ZSt (h : Heap) (z TI TO i1 i2 l1 l2 d : Addr) (xs ys : Array Value) (i : Nat) : Prop :=
  ZT h TI i1 i2 l1 l2 xs ys i i ∧ ((IsZip h z TI TO .none ∧ ∃ a b, IsPair h TO a b) ∨ ∃ T f oT, IsZipHeld h z TI TO T f ∧ h.get? T = some oT ∧ T ≠ z ∧ T ≠ i1 ∧ T ≠ i2 ∧ T ≠ d)
theorem zs_src {z TI TO i1 i2 l1 l2 d : Addr} (hh : A.handled = none) (D : ZipApart z TI TO i1 i2 l1 l2) (nd : ∀ b ∈ [z, TI, TO, i1, i2, l1, l2], d ≠ b) (xs ys : Array Value) :
    PairSrc prog w A z d [z, TO, i1, i2] (min xs.size ys.size) (fun i k v => xs[i]? = some k ∧ ys[i]? = some v) (fun i h => ZSt h z TI TO i1 i2 l1 l2 d xs ys i) where
  off := fun q => by
    simp only [List.mem_cons, List.not_mem_nil, or_false] at q
    rcases q with q | q | q | q
    · exact nd z (by simp) q
    · exact nd TO (by simp) q
    · exact nd i1 (by simp) q
    · exact nd i2 (by simp) q
  frame := fun i h h' st k => by
    obtain ⟨t, q⟩ := st
    refine ⟨t.go fun b hb o e => k b o (fun x => nd b (by simp only [List.mem_cons, List.not_mem_nil, or_false] at hb ⊢; rcases hb with q | q | q | q | q <;> simp [q]) x.symm) e, ?_⟩
    rcases q with ⟨hz, a, b, ht⟩ | ⟨T, f, oT, hz, hT, n1, n2, n3, n4⟩
    · exact .inl ⟨k _ _ (nd z (by simp)).symm hz, a, b, k _ _ (nd TO (by simp)).symm ht⟩
    · exact .inr ⟨T, f, oT, k _ _ (nd z (by simp)).symm hz, k _ _ n4 hT, n1, n2, n3, n4⟩
  item := fun i s Q E hi st hd hQ => by
    obtain ⟨t, q⟩ := st
    have x1 : i < xs.size := by omega
    have y1 : i < ys.size := by omega
    have ex := Array.getElem?_eq_getElem x1
    have ey := Array.getElem?_eq_getElem y1
    have old : ∀ {c o}, s.heap.get? c = some o → s.heap.objs.size ≠ c := fun e => Nat.ne_of_gt (Heap.lt_size e)
    have o1 : s.heap.objs.size ≠ i1 := let ⟨_, e, _⟩ := t.a; old e
    have o2 : s.heap.objs.size ≠ i2 := let ⟨_, e, _⟩ := t.b; old e
    rcases q with ⟨hz, a, b, ht⟩ | ⟨T, f, oT, hz, hT, n1, n2, n3, n4⟩
    · refine RZ.pyNext_zipT_item D hz t.ti ht t.a t.b t.la t.lb ex ey ?_
      intro h' z' to' a' b' np sz k
      refine hQ s.heap.objs.size _ _ h' s.toks ⟨ex, ey⟩ (.inl ⟨_, np, rfl, _, rfl⟩) ⟨⟨k _ _ D.TIz D.TITO D.TIi1 D.TIi2 t.ti, a', b', t.la.at fun o e => k _ o D.l1z D.l1TO D.l1i1 D.l1i2 e, t.lb.at fun o e => k _ o D.l2z D.l2TO D.l2i1 D.l2i2 e⟩, .inr ⟨s.heap.objs.size, false, _, z', np, old hz, o1, o2, Nat.ne_of_gt hd⟩⟩ ?_
      intro c o hc e
      simp only [List.mem_cons, List.not_mem_nil, or_false, not_or] at hc
      exact k c o hc.1 hc.2.1 hc.2.2.1 hc.2.2.2 e
    · refine zt_py hh D hz hT t ?_ ?_
      · intro x y h' hx hy z' t' np k
        refine hQ s.heap.objs.size x y h' s.toks ⟨hx, hy⟩ (.inl ⟨_, np, rfl, _, rfl⟩) ⟨t', .inr ⟨T, true, oT, z', k _ _ n1 n2 n3 hT, n1, n2, n3, n4⟩⟩ ?_
        intro c o hc e
        simp only [List.mem_cons, List.not_mem_nil, or_false, not_or] at hc
        exact k c o hc.1 hc.2.2.1 hc.2.2.2 e
      · intro h' hn k
        rcases hn with hn | hn
        · rw [hn] at ex; cases ex
        · rw [hn] at ey; cases ey
  done := fun s Q E st hQ => by
    obtain ⟨t, q⟩ := st
    have hn : xs[min xs.size ys.size]? = none ∨ ys[min xs.size ys.size]? = none := by
      rcases Nat.le_total xs.size ys.size with h | h
      · left; rw [Nat.min_eq_left h]; exact Array.getElem?_eq_none (Nat.le_refl _)
      · right; rw [Nat.min_eq_right h]; exact Array.getElem?_eq_none (Nat.le_refl _)
    rcases q with ⟨hz, a, b, ht⟩ | ⟨T, f, oT, hz, hT, n1, n2, n3, n4⟩
    · refine RZ.pyNext_zipT_end hh D hz t.ti ht t.a t.b t.la t.lb hn ?_
      intro h' k
      refine hQ h' s.toks fun c o hc e => ?_
      simp only [List.mem_cons, List.not_mem_nil, or_false, not_or] at hc
      exact k c o hc.1 hc.2.1 hc.2.2.1 hc.2.2.2 e
    · refine zt_py hh D hz hT t ?_ ?_
      · intro x y h' hx hy
        rcases hn with hn | hn
        · rw [hn] at hx; cases hx
        · rw [hn] at hy; cases hy
      · intro h' _ k
        refine hQ h' s.toks fun c o hc e => ?_
        simp only [List.mem_cons, List.not_mem_nil, or_false, not_or] at hc
        exact k c o hc.1 hc.2.2.1 hc.2.2.2 e
theorem zs_arg (z TI TO i1 i2 l1 l2 : Addr) (D : ZipApart z TI TO i1 i2 l1 l2) (xs ys : Array Value) :
    PairArg prog w "zip" z [z, TI, TO, i1, i2, l1, l2] [z, TO, i1, i2] (min xs.size ys.size) (fun i k v => xs[i]? = some k ∧ ys[i]? = some v)
      (fun h => IsZip h z TI TO .none ∧ (∃ a b, IsPair h TO a b) ∧ ZT h TI i1 i2 l1 l2 xs ys 0 0) where
  type := fun s ok => ⟨_, ok.1, rfl⟩
  notDict := by decide
  keep := fun h h' ok k => ⟨k _ _ ok.1, let ⟨a, b, e⟩ := ok.2.1; ⟨a, b, k _ _ e⟩, ok.2.2.go fun b _ o e => k b o e⟩
  there := fun h ok b hb => by
    obtain ⟨hz, ⟨a, c, ht⟩, t⟩ := ok
    simp only [List.mem_cons, List.not_mem_nil, or_false] at hb
    rcases hb with rfl | rfl | rfl | rfl | rfl | rfl | rfl
    · exact ⟨_, hz⟩
    · exact ⟨_, t.ti⟩
    · exact ⟨_, ht⟩
    · obtain ⟨o, e, _⟩ := t.a; exact ⟨o, e⟩
    · obtain ⟨o, e, _⟩ := t.b; exact ⟨o, e⟩
    · obtain ⟨o, e, _⟩ := t.la; exact ⟨o, e⟩
    · obtain ⟨o, e, _⟩ := t.lb; exact ⟨o, e⟩
  sub := fun b hb => by simp only [List.mem_cons, List.not_mem_nil, or_false] at hb ⊢; rcases hb with q | q | q | q <;> simp [q]
  noKeys := fun A s Q E hA ok h => getAttrOr_miss_zip ok.1 rfl rfl rfl zip_no_keys (by decide +kernel) hA h
  iter := fun A s d Q E hA ok hd hdf h => by
    obtain ⟨hz, ht, t⟩ := ok
    refine wpAny_pyIter_zip hz (h z [z, TO, i1, i2] (fun i h => ZSt h z TI TO i1 i2 l1 l2 d xs ys i) s.heap s.toks (zs_src hA D (fun b hb e => hdf (by rw [e]; exact hb)) xs ys) ⟨t, .inl ⟨hz, ht⟩⟩ (fun _ _ e => e) fun b hb => .inl hb)
end
end Ev

set_option maxRecDepth 100000
/-! Ez3: dict(zip(x, y)). -/
namespace Ev
open PySem L2 PySem.W PyProof.Rows PySem.SeqAt Calls
theorem vals_at : ∀ {vs : List V} {us : List Value} {i : Nat} {u : Value}, Vals vs us → us[i]? = some u → ∃ v, vs[i]? = some v ∧ RelV v u
  | _, _, i, u, .nil, h => by simp at h
  | _, _, 0, u, .cons r t, h => by simp at h; subst h; exact ⟨_, rfl, r⟩
  | _, _, i + 1, u, .cons r t, h => by
    obtain ⟨v, h1, h2⟩ := vals_at (i := i) (u := u) t (by simpa using h)
    exact ⟨v, by simpa using h1, h2⟩
theorem kv_zip : ∀ {ks : List Key} {us : List V} {ws : List Value}, Vals us ws → KV (ks.zip us) (ks.zip ws)
  | [], _, _, _ => by rw [List.zip_nil_left, List.zip_nil_left]; exact Paired.nil
  | _ :: _, _, _, .nil => by rw [List.zip_nil_right, List.zip_nil_right]; exact Paired.nil
  | k :: ks, _, _, .cons r t => by
    rw [List.zip_cons_cons, List.zip_cons_cons]
    exact Paired.cons ⟨rfl, r⟩ (kv_zip t)
/-- its reading -/
def tDz (K : PySem.W.Frag) (t : TA) : TE := fun σ H Q => t σ H fun vs H1 => ∃ (a b : Addr) (ks : List Key) (us : List V), vs = [V.ref a, V.ref b] ∧ SqT K H1 a (ks.map kV) ∧ SqT K H1 b us ∧ ∀ p, H1 p = none → Q (.ref p) (upd H1 p (.dK (mergeK [] (ks.zip us))))
theorem pe_dz {X : Cx} {e e2 : Expr} {ta : TA} {p p2 pos pos2 : Pos} (hc : X.calm = true) (hg : Gl X "dict") (hm : X.mg "dict" = none) (hg2 : Gl X "zip") (hm2 : X.mg "zip" = none) (ha : PA X [e, e2] ta)
    (hs : starEach [e, e2] X.env = (false, eval e X.env) :: starEach [e2] X.env) (hpl : (backTo pos2 (starEach [e2] X.env)).any (·.1) = false)
    (hs2 : starEach [.Call (.Name "zip" p2) [e, e2] [] pos2] X.env = (false, eval (.Call (.Name "zip" p2) [e, e2] [] pos2) X.env) :: starEach [] X.env := by rfl) :
    PE X (.Call (.Name "dict" p) [.Call (.Name "zip" p2) [e, e2] [] pos2] [] pos) (tDz X.K ta) := by
  refine ⟨fun pins s σ H Q I h => ?_⟩
  refine Call_ (ld_blt I hg hm PyProof.Rows.boot_dict (PyProof.Rows.callWith_type1 (args_cons (Call_ (ld_blt I hg2 hm2 PyProof.Rows.boot_zip (PyProof.Rows.callWith_type1 (thn (ha.run pos2 pins s σ H _ I h) fun us s1 ⟨vs, H1, I1, r1, q1⟩ => ?_) hs hpl))) hs2) hs2 rfl))
  obtain ⟨a, b, ks, ys, ev, ka, kb, q⟩ := q1
  subst ev
  cases r1 with
  | cons r rr =>
    cases rr with
    | cons r' rr =>
      cases rr
      cases r
      cases r'
      obtain ⟨its, rv, p1, z1⟩ := I1.tuple ka
      obtain ⟨its2, rv2, p2', z2⟩ := I1.tuple kb
      obtain ⟨o1, ho1, _⟩ := id p1
      obtain ⟨o2, ho2, _⟩ := id p2'
      have t1 : s1.heap.IsTuple a its.toArray := p1
      have t2 : s1.heap.IsTuple b its2.toArray := p2'
      refine RZ.call_zipT t1 t2 ?_
      intro h' hz hTI hTO h1 h2 hsz hk
      refine args_nil ?_
      have D := PySem.W.ktu_apart s1.heap.objs.size a b (Heap.lt_size ho1) (Heap.lt_size ho2)
      have lk : its.length = ks.length := by
        have := rv.length
        rw [List.length_map] at this
        exact this.symm
      have l2 : (ks.zip its2).length ≤ sizeLine := by
        rw [List.length_zip]
        have h0 : (ks.map kV).length ≤ sizeLine := z1
        rw [List.length_map] at h0
        omega
      refine call_dict_pairs (knd := mixKind X.prog X.w) (kvs := ks.zip its2) (s := { s1 with heap := h' }) (zs_arg _ _ _ _ _ a b D its.toArray its2.toArray) (I1.ok.hd hc)
        ⟨hz, ⟨_, _, hTO⟩, hTI, h1, h2, t1.at fun o e => hk _ o e, t2.at fun o e => hk _ o e⟩ ⟨?_, ?_⟩ ?_ ?_
      · rw [List.length_zip, List.size_toArray, List.size_toArray, lk]
      · rintro i key v ⟨e1, e2⟩
        rw [← Array.getElem?_toList] at e1 e2
        obtain ⟨y, hy, ry⟩ := vals_at rv e1
        rw [List.getElem?_map] at hy
        obtain ⟨k, hk1, rfl⟩ := Option.map_eq_some_iff.mp hy
        exact ⟨k, by rw [List.getElem?_zip_eq_some]; exact ⟨hk1, e2⟩, kV_is ry⟩
      · rw [List.length_zip] at l2
        rw [List.size_toArray, List.size_toArray, lk]
        exact l2
      · intro h'' tk dd up
        have kp : ∀ c o, s1.heap.get? c = some o → h''.get? c = some o := fun c o e => up c o (fun q => by
          have hlt : c < s1.heap.objs.size := Heap.lt_size e
          have hle : ∀ n : Nat, c ≠ s1.heap.objs.size + n := fun n x => absurd (x ▸ hlt) (Nat.not_lt.mpr (Nat.le_add_right _ _))
          simp only [List.mem_cons, List.not_mem_nil, or_false] at q
          rcases q with q | q | q | q
          · exact hle 4 q
          · exact hle 3 q
          · exact hle 0 q
          · exact hle 1 q) (hk c o e)
        have sz2 : h'.objs.size = s1.heap.objs.size + 5 := hsz
        have hlen : (mergeK [] (ks.zip ys)).length ≤ sizeLine := by
          have h1 := length_mergeK (ks.zip ys) []
          have h3 : ys.length = its2.length := rv2.length
          rw [List.length_nil, List.length_zip, h3] at h1
          rw [List.length_zip] at l2
          omega
        have hsys : (h'.objs.size == sysModules) = false := beq_eq_false_iff_ne.mpr (Ne.symm (Nat.ne_of_lt (Nat.lt_of_lt_of_le I1.big (by rw [sz2]; exact Nat.le_add_right _ _))))
        exact ⟨.ref h'.objs.size, _, I1.laid (a := h'.objs.size) (t' := tk) (o := .dK (mergeK [] (ks.zip ys))) kp (by rw [sz2]; exact Nat.le_add_right _ _) (dk_new hlen hsys ((kv_zip rv2).merge .nil) dd), rfl, q _ (I1.hok.fresh (by rw [sz2]; exact Nat.le_add_right _ _))⟩
end Ev

set_option maxRecDepth 100000
/-! Ev2: how data lie in the heap; the relation between the interpreter's state and the machine's. -/
namespace Ev
open PySem L2 PySem.W

def SqLK (K : PySem.W.Frag) (a : Addr) (xs : List V) : Prop :=
  ∃ (o : Obj) (its : Array Value) (n : Nat), K.lookup a = some o ∧ o.cls = .type "list" ∧ o.dict = none ∧ o.data = .seq its n ∧ its.size ≤ sizeLine ∧ Vals xs its.toList
def keyD : Key → PyData
  | .inl i => .int i
  | .inr x => .str x
def keysD (ks : List Key) : PyData := .tuple (ks.map keyD)
/- kept data; a dict that is kept is locked -/
mutual
inductive RD (K : PySem.W.Frag) (pr : Addr → Prop) (H : Hp) : V → PyData → Prop
  | non : RD K pr H .non .none
  | bl (b : Bool) : RD K pr H (.bl b) (.bool b)
  | int (i : Int) : RD K pr H (.int i) (.int i)
  | str (x : Str) : RD K pr H (.str x) (.str x)
  | tup {a : Addr} {xs : List V} {ds : List PyData} : H a = some (.tup xs) → RDs K pr H xs ds → RD K pr H (.ref a) (.tuple ds)
  | lst {a : Addr} {xs : List V} {ds : List PyData} : Rd H a (.lst xs) → ¬ pr a → RDs K pr H xs ds → RD K pr H (.ref a) (.list ds)
  | lstK {a : Addr} {xs : List V} {ds : List PyData} : SqLK K a xs → RDs K pr H xs ds → RD K pr H (.ref a) (.list ds)
  | dct {a : Addr} {o : Obj} {kvs : List (Key × V)} {pd : Tb} : H a = some (.frz o (.dK kvs)) → RDk K pr H kvs pd → RD K pr H (.ref a) (.dict pd)
  | dctT {a : Addr} {o : Obj} {kvs : List (List Key × V)} {pd : Tb} : H a = some (.frz o (.dT kvs)) → RDt K pr H kvs pd → RD K pr H (.ref a) (.dict pd)
inductive RDs (K : PySem.W.Frag) (pr : Addr → Prop) (H : Hp) : List V → List PyData → Prop
  | nil : RDs K pr H [] []
  | cons {v : V} {vs : List V} {d : PyData} {ds : List PyData} : RD K pr H v d → RDs K pr H vs ds → RDs K pr H (v :: vs) (d :: ds)
inductive RDk (K : PySem.W.Frag) (pr : Addr → Prop) (H : Hp) : List (Key × V) → Tb → Prop
  | nil : RDk K pr H [] []
  | cons {k : Key} {v : V} {kvs : List (Key × V)} {x d : PyData} {pd : Tb} : x = keyD k → RD K pr H v d → RDk K pr H kvs pd → RDk K pr H ((k, v) :: kvs) ((x, d) :: pd)
inductive RDt (K : PySem.W.Frag) (pr : Addr → Prop) (H : Hp) : List (List Key × V) → Tb → Prop
  | nil : RDt K pr H [] []
  | cons {k : List Key} {v : V} {kvs : List (List Key × V)} {x d : PyData} {pd : Tb} : x = keysD k → RD K pr H v d → RDt K pr H kvs pd → RDt K pr H ((k, v) :: kvs) ((x, d) :: pd)
end
abbrev nopr : Addr → Prop := fun _ => False
structure Keep (pr : Addr → Prop) (H : Hp) (pr' : Addr → Prop) (H' : Hp) : Prop where
  k : ∀ a o, H a = some o → ¬ pr a → H' a = some o ∧ ¬ pr' a
  t : ∀ a xs, H a = some (.tup xs) → H' a = some (.tup xs)
  z : ∀ a o u, H a = some (.frz o u) → H' a = some (.frz o u)
section
variable {K : PySem.W.Frag} {pr pr' : Addr → Prop} {H H' : Hp}
theorem Keep.rd (k : Keep pr H pr' H') {a : Addr} {u : HO} (h : Rd H a u) (n : ¬ pr a) : Rd H' a u ∧ ¬ pr' a := by
  rcases h with h | ⟨o, h⟩
  · exact ⟨.inl (k.k _ _ h n).1, (k.k _ _ h n).2⟩
  · exact ⟨.inr ⟨o, (k.k _ _ h n).1⟩, (k.k _ _ h n).2⟩
mutual
theorem RD.keep (k : Keep pr H pr' H') : ∀ {v : V} {d : PyData}, RD K pr H v d → RD K pr' H' v d
  | _, _, .non => .non
  | _, _, .bl b => .bl b
  | _, _, .int i => .int i
  | _, _, .str x => .str x
  | _, _, .tup h r => .tup (k.t _ _ h) (RDs.keep k r)
  | _, _, .lst h n r => .lst (k.rd h n).1 (k.rd h n).2 (RDs.keep k r)
  | _, _, .lstK h r => .lstK h (RDs.keep k r)
  | _, _, .dct h r => .dct (k.z _ _ _ h) (RDk.keep k r)
  | _, _, .dctT h r => .dctT (k.z _ _ _ h) (RDt.keep k r)
theorem RDs.keep (k : Keep pr H pr' H') : ∀ {v : List V} {d : List PyData}, RDs K pr H v d → RDs K pr' H' v d
  | _, _, .nil => .nil
  | _, _, .cons h r => .cons (RD.keep k h) (RDs.keep k r)
theorem RDk.keep (k : Keep pr H pr' H') : ∀ {v : List (Key × V)} {d : Tb}, RDk K pr H v d → RDk K pr' H' v d
  | _, _, .nil => .nil
  | _, _, .cons e h r => .cons e (RD.keep k h) (RDk.keep k r)
theorem RDt.keep (k : Keep pr H pr' H') : ∀ {v : List (List Key × V)} {d : Tb}, RDt K pr H v d → RDt K pr' H' v d
  | _, _, .nil => .nil
  | _, _, .cons e h r => .cons e (RD.keep k h) (RDt.keep k r)
end
theorem Keep.anti (h : ∀ a, pr' a → pr a) : Keep pr H pr' H := ⟨fun a o e n => ⟨e, fun q => n (h a q)⟩, fun _ _ h => h, fun _ _ _ h => h⟩
theorem RD.q {v : V} {d : PyData} (h : RD K pr H v d) : RD K nopr H v d := h.keep (.anti fun _ q => q.elim)
theorem RDs.q {v : List V} {d : List PyData} (h : RDs K pr H v d) : RDs K nopr H v d := h.keep (.anti fun _ q => q.elim)
theorem RDs.length : ∀ {v : List V} {d : List PyData}, RDs K pr H v d → v.length = d.length
  | _, _, .nil => rfl
  | _, _, .cons _ r => by rw [List.length_cons, List.length_cons, RDs.length r]
theorem RDs.get : ∀ {v : List V} {d : List PyData} {i : Nat} {x : PyData}, RDs K pr H v d → d[i]? = some x → ∃ u, v[i]? = some u ∧ RD K pr H u x
  | _, _, _, _, .nil, e => by simp at e
  | _, _, 0, _, .cons h r, e => by simp at e; subst e; exact ⟨_, rfl, h⟩
  | _, _, i + 1, x, .cons h r, e => by
    obtain ⟨u, h1, h2⟩ := RDs.get (i := i) (x := x) r (by simpa using e)
    exact ⟨u, by simpa using h1, h2⟩
theorem RDs.get' : ∀ {v : List V} {d : List PyData} {i : Nat} {u : V}, RDs K pr H v d → v[i]? = some u → ∃ x, d[i]? = some x ∧ RD K pr H u x
  | _, _, _, _, .nil, e => by simp at e
  | _, _, 0, _, .cons h r, e => by simp at e; subst e; exact ⟨_, rfl, h⟩
  | _, _, i + 1, x, .cons h r, e => by
    obtain ⟨u, h1, h2⟩ := RDs.get' (i := i) (u := x) r (by simpa using e)
    exact ⟨u, by simpa using h1, h2⟩
theorem RDs.append : ∀ {v v' : List V} {d d' : List PyData}, RDs K pr H v d → RDs K pr H v' d' → RDs K pr H (v ++ v') (d ++ d')
  | _, _, _, _, .nil, h => h
  | _, _, _, _, .cons h r, h' => .cons h (RDs.append r h')
theorem RDs.take : ∀ {v : List V} {d : List PyData} (n : Nat), RDs K pr H v d → RDs K pr H (v.take n) (d.take n)
  | _, _, 0, _ => .nil
  | _, _, _ + 1, .nil => .nil
  | _, _, n + 1, .cons h r => .cons h (RDs.take n r)
theorem RDs.drop : ∀ {v : List V} {d : List PyData} (n : Nat), RDs K pr H v d → RDs K pr H (v.drop n) (d.drop n)
  | _, _, 0, h => h
  | _, _, _ + 1, .nil => .nil
  | _, _, n + 1, .cons h r => RDs.drop n r
theorem RDs.reverse {v : List V} {d : List PyData} (h : RDs K pr H v d) : RDs K pr H v.reverse d.reverse := by
  induction v generalizing d with
  | nil => cases h; exact .nil
  | cons a v ih =>
    cases h with
    | cons h r => rw [List.reverse_cons, List.reverse_cons]; exact (ih r).append (.cons h .nil)
theorem RDs.set {x : V} {u : PyData} (q : RD K pr H x u) : ∀ {v : List V} {d : List PyData} (n : Nat), RDs K pr H v d → RDs K pr H (v.set n x) (d.set n u)
  | _, _, _, .nil => .nil
  | _, _, 0, .cons h r => .cons q r
  | _, _, n + 1, .cons h r => .cons h (RDs.set q n r)
theorem RDs.eraseIdx : ∀ {v : List V} {d : List PyData} (n : Nat), RDs K pr H v d → RDs K pr H (v.eraseIdx n) (d.eraseIdx n)
  | _, _, _, .nil => .nil
  | _, _, 0, .cons h r => r
  | _, _, n + 1, .cons h r => .cons h (RDs.eraseIdx n r)
theorem RDs.dropLast {v : List V} {d : List PyData} (h : RDs K pr H v d) : RDs K pr H v.dropLast d.dropLast := by
  rw [List.dropLast_eq_take, List.dropLast_eq_take, h.length]
  exact h.take _
theorem RDs.rep : ∀ {v : List V} {d : List PyData} (n : Nat), RDs K pr H v d → RDs K pr H (List.replicate n v).flatten (List.replicate n d).flatten
  | _, _, 0, _ => .nil
  | _, _, n + 1, h => by rw [List.replicate_succ, List.replicate_succ, List.flatten_cons, List.flatten_cons]; exact h.append (RDs.rep n h)
theorem RDs.ints : ∀ (ns : List Int), RDs K pr H (ns.map V.int) (ns.map PyData.int)
  | [] => .nil
  | n :: ns => .cons (.int n) (RDs.ints ns)
theorem allInts_eq : ∀ {ds : List PyData} {ns : List Int}, allInts ds = some ns → ds = ns.map PyData.int
  | [], ns, h => by simp [allInts] at h; subst h; rfl
  | .int i :: r, ns, h => by
    simp only [allInts, Option.map_eq_some_iff] at h
    obtain ⟨ms, h1, rfl⟩ := h
    rw [allInts_eq h1]; rfl
  | .none :: _, _, h => by simp [allInts] at h
  | .bool _ :: _, _, h => by simp [allInts] at h
  | .str _ :: _, _, h => by simp [allInts] at h
  | .list _ :: _, _, h => by simp [allInts] at h
  | .tuple _ :: _, _, h => by simp [allInts] at h
  | .dict _ :: _, _, h => by simp [allInts] at h
theorem allBools_eq : ∀ {ds : List PyData} {ns : List Bool}, allBools ds = some ns → ds = ns.map PyData.bool
  | [], ns, h => by simp [allBools] at h; subst h; rfl
  | .bool i :: r, ns, h => by
    simp only [allBools, Option.map_eq_some_iff] at h
    obtain ⟨ms, h1, rfl⟩ := h
    rw [allBools_eq h1]; rfl
  | .none :: _, _, h => by simp [allBools] at h
  | .int _ :: _, _, h => by simp [allBools] at h
  | .str _ :: _, _, h => by simp [allBools] at h
  | .list _ :: _, _, h => by simp [allBools] at h
  | .tuple _ :: _, _, h => by simp [allBools] at h
  | .dict _ :: _, _, h => by simp [allBools] at h
theorem RDs.to_ints : ∀ {v : List V} {ns : List Int}, RDs K pr H v (ns.map PyData.int) → v = ns.map V.int
  | _, [], .nil => rfl
  | _, n :: ns, .cons h r => by cases h; rw [RDs.to_ints r]; rfl
theorem RDs.to_bools : ∀ {v : List V} {ns : List Bool}, RDs K pr H v (ns.map PyData.bool) → v = ns.map V.bl
  | _, [], .nil => rfl
  | _, n :: ns, .cons h r => by cases h; rw [RDs.to_bools r]; rfl
/-- .. as HandS reads data -/
theorem RD.sqL {a : Addr} {ds : List PyData} (h : RD K pr H (.ref a) (.list ds)) : ∃ xs, SqL K H a xs ∧ RDs K pr H xs ds := by
  cases h with
  | lst h n r => exact ⟨_, .inl h, r⟩
  | lstK h r => exact ⟨_, .inr h, r⟩
theorem RD.sqT {a : Addr} {ds : List PyData} (h : RD K pr H (.ref a) (.tuple ds)) : ∃ xs, SqT K H a xs ∧ RDs K pr H xs ds := by
  cases h with
  | tup h r => exact ⟨_, .inl (.inl h), r⟩
theorem RD.isL {v : V} {ds : List PyData} (h : RD K pr H v (.list ds)) : ∃ a xs, v = .ref a ∧ SqL K H a xs ∧ RDs K pr H xs ds := by
  cases h with
  | lst h n r => exact ⟨_, _, rfl, .inl h, r⟩
  | lstK h r => exact ⟨_, _, rfl, .inr h, r⟩
theorem RD.isT {v : V} {ds : List PyData} (h : RD K pr H v (.tuple ds)) : ∃ a xs, v = .ref a ∧ H a = some (.tup xs) ∧ RDs K pr H xs ds := by
  cases h with
  | tup h r => exact ⟨_, _, rfl, h, r⟩
mutual
theorem RD.dp : ∀ {v : V} {d : PyData}, RD K pr H v d → flatD d = true → Dp K H v d
  | _, _, .non, _ => .non
  | _, _, .bl b, _ => .bl b
  | _, _, .int i, _ => .int i
  | _, _, .str x, _ => .str x
  | _, _, .tup h r, f => .tup (.inl (.inl h)) (RDs.dp r (by rw [flatD] at f; exact f))
  | _, _, .lst h _ r, f => .lst (.inl h) (RDs.dp r (by rw [flatD] at f; exact f))
  | _, _, .lstK h r, f => .lst (.inr h) (RDs.dp r (by rw [flatD] at f; exact f))
  | _, _, .dct _ _, f => by rw [flatD] at f; cases f
  | _, _, .dctT _ _, f => by rw [flatD] at f; cases f
theorem RDs.dp : ∀ {v : List V} {d : List PyData}, RDs K pr H v d → flatDs d = true → DpAll K H v d
  | _, _, .nil, _ => .nil
  | _, _, .cons h r, f => by
    rw [flatDs, Bool.and_eq_true] at f
    exact .cons (RD.dp h f.1) (RDs.dp r f.2)
end
mutual
theorem plain_flat : ∀ d : PyData, d.plain = true → flatD d = true
  | .none, _ => rfl
  | .bool _, _ => rfl
  | .int _, _ => rfl
  | .str _, _ => rfl
  | .list xs, h => by rw [PyData.plain] at h; rw [flatD]; exact plains_flat xs h
  | .tuple xs, h => by rw [PyData.plain] at h; rw [flatD]; exact plains_flat xs h
  | .dict _, h => by simp [PyData.plain] at h
theorem plains_flat : ∀ d : List PyData, PyData.plainAll d = true → flatDs d = true
  | [], _ => rfl
  | x :: r, h => by
    rw [PyData.plainAll, Bool.and_eq_true] at h
    rw [flatDs, plain_flat x h.1, plains_flat r h.2]; rfl
end
end

/-! ### the state -/
structure Gs where
  B : Addr → Prop
  H0 : Hp
  r0 : List Addr
  r : List Addr
  e : Envr
  s : St
def Gs.Pr (g : Gs) (a : Addr) : Prop := g.B a ∨ a ∈ g.r ∨ ∃ (i : Nat) (x : PyData), g.e[i]? = some (.own x) ∧ g.s[i]? = some (some (.ref a))
/-- a value that may be kept -/
def RepK (K : PySem.W.Frag) (g : Gs) (H : Hp) (v : V) : PV → Prop
  | .d x => RD K g.Pr H v x
  | .ref n => ∃ a, v = .ref a ∧ g.r[n]? = some a
  | .ty n => v = .ty n
  | _ => False
/-- what a slot or a temporary owns -/
def DctAt (K : PySem.W.Frag) (pr : Addr → Prop) (H : Hp) (u : HO) (pd : Tb) : Prop := match u with
  | .dK kvs => RDk K pr H kvs pd
  | .dT kvs => RDt K pr H kvs pd
  | _ => False
theorem DctAt.mut {K : PySem.W.Frag} {pr : Addr → Prop} {H : Hp} {u : HO} {pd : Tb} (h : DctAt K pr H u pd) : Mut (some u) := by
  cases u with
  | dK _ => trivial
  | dT _ => trivial
  | _ => exact h.elim
theorem DctAt.keep {K : PySem.W.Frag} {pr pr' : Addr → Prop} {H H' : Hp} {u : HO} {pd : Tb} (h : DctAt K pr H u pd) (k : Keep pr H pr' H') : DctAt K pr' H' u pd := by
  cases u with
  | dK _ => exact RDk.keep k h
  | dT _ => exact RDt.keep k h
  | _ => exact h.elim
def OwnAt (K : PySem.W.Frag) (g : Gs) (H : Hp) (a : Addr) : PyData → Prop
  | .list ds => ∃ vs, H a = some (.lst vs) ∧ RDs K g.Pr H vs ds
  | .dict pd => ∃ u, H a = some u ∧ DctAt K g.Pr H u pd
  | _ => False
def Rep (K : PySem.W.Frag) (g : Gs) (Bo : Addr → Prop) (H : Hp) (v : V) : PV → Prop
  | .fre x => ∃ a, v = .ref a ∧ OwnAt K g H a x ∧ g.B a ∧ ¬ Bo a ∧ g.H0 a = none
  | .bor x => ∃ (i : Nat) (a : Addr), v = .ref a ∧ g.e[i]? = some (.own x) ∧ g.s[i]? = some (some (.ref a))
  | x => RepK K g H v x
/-- a code object's table; its codes are nobody's -/
def TabP (pr : Addr → Prop) (H : Hp) (P : Addr) (q : Str) : Prop := ∃ ps : Array Value, H P = some (.tbl ps) ∧ TriplesOk ps.toList ∧ ∀ (pos : Pos) (cv : Value), codeAmong pos ps.toList = some cv → ∃ c, cv = .ref c ∧ H c = some (LamX.CodeO c q) ∧ ¬ pr c
theorem TabP.keep {pr pr' : Addr → Prop} {H H' : Hp} {P : Addr} {q : Str} (t : TabP pr H P q) (e : ∀ u, H P = some u → H' P = some u) (k : Keep pr H pr' H') : TabP pr' H' P q := by
  obtain ⟨ps, h1, h2, h3⟩ := t
  refine ⟨ps, e _ h1, h2, fun pos cv hc => ?_⟩
  obtain ⟨c, e1, e2, e3⟩ := h3 pos cv hc
  exact ⟨c, e1, (k.k _ _ e2 e3).1, (k.k _ _ e2 e3).2⟩
/-- what stands at a store's place -/
def Chg : HO → Prop
  | .tup _ => False
  | .frz _ _ => False
  | _ => True
theorem Chg.of {u : HO} (h : Mut (some u)) : Chg u := by
  cases u <;> first | trivial | exact h.elim
def ObAt (K : PySem.W.Frag) (g : Gs) (H : Hp) (a : Addr) : Ob → Prop
  | .lst xs => ∃ vs, H a = some (.lst vs) ∧ Paired (RepK K g H) vs xs
  | .dct pd => ∃ u, H a = some u ∧ DctAt K g.Pr H u pd
  | .tab P q => a = P ∧ TabP g.Pr H a q
theorem Paired.imp {α β : Type} {F G : α → β → Prop} (f : ∀ a b, F a b → G a b) : ∀ {l₁ : List α} {l₂ : List β}, Paired F l₁ l₂ → Paired G l₁ l₂
  | _, _, .nil => .nil
  | _, _, .cons r t => .cons (f _ _ r) (Paired.imp f t)
theorem ObAt.mut {K : PySem.W.Frag} {g : Gs} {H : Hp} {a : Addr} {o : Ob} (h : ObAt K g H a o) : ∃ u, H a = some u ∧ Chg u := by
  cases o with
  | lst xs => obtain ⟨vs, h1, _⟩ := h; exact ⟨_, h1, trivial⟩
  | dct pd => obtain ⟨u, h1, d⟩ := h; exact ⟨u, h1, .of d.mut⟩
  | tab P q => obtain ⟨_, ps, h1, _⟩ := h; exact ⟨_, h1, trivial⟩
theorem ObAt.ne {K : PySem.W.Frag} {g : Gs} {H : Hp} {a : Addr} {o : Ob} (h : ObAt K g H a o) : H a ≠ none := by
  obtain ⟨u, e, _⟩ := h.mut
  rw [e]; exact fun q => nomatch q
/-- an object of the store goes on -/
theorem ObAt.go {K : PySem.W.Frag} {g g' : Gs} {H H' : Hp} {a : Addr} {o : Ob} (h : ObAt K g H a o) (e : ∀ u, H a = some u → H' a = some u) (kp : Keep g.Pr H g'.Pr H') (rk : ∀ v x, RepK K g H v x → RepK K g' H' v x) : ObAt K g' H' a o := by
  cases o with
  | lst xs => obtain ⟨vs, h1, h2⟩ := h; exact ⟨vs, e _ h1, Paired.imp rk h2⟩
  | dct pd => obtain ⟨u, h1, d⟩ := h; exact ⟨u, e _ h1, d.keep kp⟩
  | tab P q => exact ⟨h.1, h.2.keep e kp⟩
structure Sim (K : PySem.W.Frag) (g : Gs) (st : Sto) (H : Hp) : Prop where
  len : g.e.length = g.s.length
  val : ∀ (i : Nat) x, g.e[i]? = some (.v x) → ∃ v, g.s[i]? = some (some v) ∧ RepK K g H v x
  own : ∀ (i : Nat) x, g.e[i]? = some (.own x) → ∃ a, g.s[i]? = some (some (.ref a)) ∧ OwnAt K g H a x ∧ ¬ g.B a ∧ a ∉ g.r ∧ g.H0 a = none
  inj : ∀ (i j : Nat) x y (a : Addr), g.e[i]? = some (.own x) → g.e[j]? = some (.own y) → g.s[i]? = some (some (.ref a)) → g.s[j]? = some (some (.ref a)) → i = j
  slen : st.length = g.r.length
  sto : ∀ (n : Nat) o, st[n]? = some o → ∃ a, g.r[n]? = some a ∧ ObAt K g H a o
  rB : ∀ a ∈ g.r, ¬ g.B a
  nd : g.r.Nodup
  bt : ∀ a, g.B a → H a ≠ none
  pre : g.r0 <+: g.r
  new : ∀ a ∈ g.r, a ∈ g.r0 ∨ g.H0 a = none
  fr : ∀ a o, g.H0 a = some o → a ∉ g.r0 → H a = some o
structure Nx (g g' : Gs) (H H' : Hp) : Prop where
  e : g'.e = g.e
  s : g'.s = g.s
  h0 : g'.H0 = g.H0
  r0 : g'.r0 = g.r0
  B : ∀ a, g.B a → g'.B a
  bn : ∀ a, g'.B a → g.B a ∨ H a = none
  pre : g.r <+: g'.r
  rn : ∀ a ∈ g'.r, a ∈ g.r ∨ H a = none
  fr : ∀ a o, H a = some o → a ∉ g.r → H' a = some o
section
variable {K : PySem.W.Frag} {g g' g1 g2 : Gs} {st st' st1 : Sto} {H H' H1 H2 : Hp}
theorem Sim.tr (S : Sim K g st H) {a : Addr} (h : a ∈ g.r) : ∃ u, H a = some u ∧ Chg u := by
  obtain ⟨n, hn, e⟩ := List.mem_iff_getElem.mp h
  have hs : n < st.length := by rw [S.slen]; exact hn
  obtain ⟨b, hb, ob⟩ := S.sto n st[n] (List.getElem?_eq_getElem hs)
  rw [List.getElem?_eq_getElem hn] at hb
  have hb := Option.some.inj hb
  rw [e] at hb
  subst hb
  exact ob.mut
theorem OwnAt.mut {a : Addr} {x : PyData} (h : OwnAt K g H a x) : ∃ u, H a = some u ∧ Mut (some u) := by
  cases x with
  | list ds => obtain ⟨vs, h, _⟩ := h; exact ⟨_, h, trivial⟩
  | dict pd => obtain ⟨u, h, d⟩ := h; exact ⟨u, h, d.mut⟩
  | _ => exact h.elim
theorem OwnAt.ne {a : Addr} {x : PyData} (h : OwnAt K g H a x) : H a ≠ none := by
  obtain ⟨u, e, _⟩ := h.mut
  rw [e]; exact fun q => nomatch q
theorem OwnAt.keep {a : Addr} {x : PyData} (h : OwnAt K g H a x) (e : ∀ u, H a = some u → H' a = some u) (k : Keep g.Pr H g'.Pr H') : OwnAt K g' H' a x := by
  cases x with
  | list ds => obtain ⟨vs, h1, h2⟩ := h; exact ⟨vs, e _ h1, h2.keep k⟩
  | dict pd => obtain ⟨u, h1, h2⟩ := h; exact ⟨u, e _ h1, h2.keep k⟩
  | _ => exact h.elim
theorem Sim.prt (S : Sim K g st H) {a : Addr} (h : g.Pr a) : H a ≠ none := by
  rcases h with h | h | ⟨i, x, h1, h2⟩
  · exact S.bt a h
  · obtain ⟨vs, e, _⟩ := S.tr h; rw [e]; exact fun q => nomatch q
  · obtain ⟨b, hb, o, _⟩ := S.own i x h1
    rw [h2] at hb; cases hb
    exact o.ne
theorem Nx.refl : Nx g g H H := ⟨rfl, rfl, rfl, rfl, fun _ h => h, fun _ h => .inl h, List.prefix_refl _, fun _ h => .inl h, fun _ _ h _ => h⟩
theorem Nx.trk (n : Nx g g' H H') (S' : Sim K g' st' H') {a : Addr} (h : H' a = none) : H a = none := by
  cases q : H a with
  | none => rfl
  | some o =>
    by_cases hr : a ∈ g.r
    · obtain ⟨vs, e, _⟩ := S'.tr (n.pre.subset hr); rw [e] at h; cases h
    · rw [n.fr a o q hr] at h; cases h
theorem Nx.trans (n1 : Nx g g1 H H1) (S1 : Sim K g1 st1 H1) (n2 : Nx g1 g2 H1 H2) : Nx g g2 H H2 where
  e := n2.e.trans n1.e
  s := n2.s.trans n1.s
  h0 := n2.h0.trans n1.h0
  r0 := n2.r0.trans n1.r0
  B := fun a h => n2.B a (n1.B a h)
  bn := fun a h => by
    rcases n2.bn a h with h | h
    · exact n1.bn a h
    · exact .inr (n1.trk S1 h)
  pre := n1.pre.trans n2.pre
  rn := fun a h => by
    rcases n2.rn a h with h | h
    · exact n1.rn a h
    · exact .inr (n1.trk S1 h)
  fr := fun a o e hr => n2.fr a o (n1.fr a o e hr) fun h => by
    rcases n1.rn a h with h | h
    · exact hr h
    · rw [e] at h; cases h
theorem Nx.pr (n : Nx g g' H H') {a : Addr} (h : g'.Pr a) : g.Pr a ∨ H a = none := by
  rcases h with h | h | ⟨i, x, h1, h2⟩
  · exact (n.bn a h).imp .inl id
  · exact (n.rn a h).imp (fun h => .inr (.inl h)) id
  · rw [n.e] at h1; rw [n.s] at h2; exact .inl (.inr (.inr ⟨i, x, h1, h2⟩))
theorem Nx.keep (n : Nx g g' H H') (S : Sim K g st H) : Keep g.Pr H g'.Pr H' where
  k := fun a o e h => ⟨n.fr a o e fun q => h (.inr (.inl q)), fun q => by
    rcases n.pr q with q | q
    · exact h q
    · rw [e] at q; cases q⟩
  t := fun a xs h => n.fr a _ h fun q => by
    obtain ⟨vs, e, mu⟩ := S.tr q
    rw [e] at h; cases h; exact mu
  z := fun a o u h => n.fr a _ h fun q => by
    obtain ⟨vs, e, mu⟩ := S.tr q
    rw [e] at h; cases h; exact mu
theorem RepK.keep (n : Nx g g' H H') (S : Sim K g st H) {v : V} {x : PV} (h : RepK K g H v x) : RepK K g' H' v x := by
  cases x with
  | d x => exact RD.keep (n.keep S) h
  | ref k =>
    obtain ⟨a, e, q⟩ := h
    refine ⟨a, e, ?_⟩
    obtain ⟨t, ht⟩ := n.pre
    rw [← ht, List.getElem?_append_left (List.getElem?_eq_some_iff.mp q).1]
    exact q
  | ty k => exact h
  | fre _ => exact h
  | bor _ => exact h
  | fn _ => exact h
theorem Rep.keep (n : Nx g g' H H') (S : Sim K g st H) {Bo : Addr → Prop} {v : V} {x : PV} (h : Rep K g Bo H v x) : Rep K g' Bo H' v x := by
  cases x with
  | fre x =>
    obtain ⟨a, e, o, hb, hn, h0⟩ := h
    exact ⟨a, e, o.keep (fun u q => n.fr a u q fun q => S.rB a q hb) (n.keep S), n.B a hb, hn, by rw [n.h0]; exact h0⟩
  | bor x =>
    obtain ⟨i, a, e, h1, h2⟩ := h
    exact ⟨i, a, e, by rw [n.e]; exact h1, by rw [n.s]; exact h2⟩
  | d x => exact RepK.keep n S (x := .d x) h
  | ref k => exact RepK.keep n S (x := .ref k) h
  | ty k => exact RepK.keep n S (x := .ty k) h
  | fn _ => exact h
theorem Rep.mono {Bo Bo' : Addr → Prop} (hb : ∀ a, Bo' a → Bo a) {v : V} {x : PV} (h : Rep K g Bo H v x) : Rep K g Bo' H v x := by
  cases x with
  | fre x => obtain ⟨a, e, o, h1, h2, h3⟩ := h; exact ⟨a, e, o, h1, fun q => h2 (hb a q), h3⟩
  | bor x => exact h
  | d x => exact h
  | ref k => exact h
  | ty k => exact h
  | fn _ => exact h
/-- fewer private addresses -/
def Gs.wB (g : Gs) (B : Addr → Prop) : Gs := { g with B := B }
theorem Gs.wB_pr {B : Addr → Prop} (hb : ∀ a, B a → g.B a) {a : Addr} (h : (g.wB B).Pr a) : g.Pr a := by
  rcases h with h | h
  · exact .inl (hb a h)
  · exact .inr h
theorem RepK.weak {B : Addr → Prop} (hb : ∀ a, B a → g.B a) {v : V} {x : PV} (h : RepK K g H v x) : RepK K (g.wB B) H v x := by
  cases x with
  | d x => exact RD.keep (.anti fun _ q => Gs.wB_pr hb q) h
  | ref k => exact h
  | ty k => exact h
  | fre _ => exact h
  | bor _ => exact h
  | fn _ => exact h
theorem OwnAt.weak {B : Addr → Prop} (hb : ∀ a, B a → g.B a) {a : Addr} {x : PyData} (h : OwnAt K g H a x) : OwnAt K (g.wB B) H a x :=
  h.keep (fun _ q => q) (.anti fun _ q => Gs.wB_pr hb q)
theorem ObAt.weak {B : Addr → Prop} (hb : ∀ a, B a → g.B a) {a : Addr} {o : Ob} (h : ObAt K g H a o) : ObAt K (g.wB B) H a o :=
  h.go (fun _ q => q) (.anti fun _ q => Gs.wB_pr hb q) fun _ _ q => RepK.weak hb q
theorem Sim.weak {B : Addr → Prop} (S : Sim K g st H) (hb : ∀ a, B a → g.B a) : Sim K (g.wB B) st H where
  len := S.len
  val := fun i x h => let ⟨v, h1, h2⟩ := S.val i x h; ⟨v, h1, h2.weak hb⟩
  own := fun i x h => let ⟨a, h1, h2, h3, h4, h5⟩ := S.own i x h; ⟨a, h1, h2.weak hb, fun q => h3 (hb a q), h4, h5⟩
  inj := S.inj
  slen := S.slen
  sto := fun n o h => let ⟨a, h1, h2⟩ := S.sto n o h; ⟨a, h1, h2.weak hb⟩
  rB := fun a h q => S.rB a h (hb a q)
  nd := S.nd
  bt := fun a h => S.bt a (hb a h)
  pre := S.pre
  new := S.new
  fr := S.fr
theorem Nx.weak (n : Nx g g' H H') : Nx g (g'.wB g.B) H H' := ⟨n.e, n.s, n.h0, n.r0, fun _ h => h, fun _ h => .inl h, n.pre, n.rn, n.fr⟩
/-- a new object is laid -/
theorem Keep.laid {pr : Addr → Prop} {p : Addr} {o : HO} (hp : H p = none) : Keep pr H pr (upd H p o) where
  k := fun a u e n => ⟨by rw [upd_ne (ne_of_none e hp)]; exact e, n⟩
  t := fun a xs h => by rw [upd_ne (ne_of_none h hp)]; exact h
  z := fun a o u h => by rw [upd_ne (ne_of_none h hp)]; exact h
theorem RepK.laid {p : Addr} {o : HO} (hp : H p = none) {v : V} {x : PV} (h : RepK K g H v x) : RepK K g (upd H p o) v x := by
  cases x with
  | d x => exact RD.keep (.laid hp) h
  | _ => exact h
theorem OwnAt.laid {p a : Addr} {o : HO} (hp : H p = none) {x : PyData} (h : OwnAt K g H a x) : OwnAt K g (upd H p o) a x :=
  h.keep (fun u q => by rw [upd_ne (ne_of_none q hp)]; exact q) (.laid hp)
theorem ObAt.laid {p a : Addr} {u : HO} (hp : H p = none) {o : Ob} (h : ObAt K g H a o) : ObAt K g (upd H p u) a o := by
  exact h.go (fun u q => by rw [upd_ne (ne_of_none q hp)]; exact q) (.laid hp) fun _ _ q => RepK.laid hp q
theorem Sim.laid {p : Addr} {o : HO} (S : Sim K g st H) (hp : H p = none) : Sim K g st (upd H p o) where
  len := S.len
  val := fun i x h => let ⟨v, h1, h2⟩ := S.val i x h; ⟨v, h1, h2.laid hp⟩
  own := fun i x h => let ⟨a, h1, h2, h3⟩ := S.own i x h; ⟨a, h1, h2.laid hp, h3⟩
  inj := S.inj
  slen := S.slen
  sto := fun n o h => let ⟨a, h1, h2⟩ := S.sto n o h; ⟨a, h1, h2.laid hp⟩
  rB := S.rB
  nd := S.nd
  bt := fun a h q => S.bt a h (by
    unfold upd at q
    split at q
    · cases q
    · exact q)
  pre := S.pre
  new := S.new
  fr := fun a u e h => by
    have := S.fr a u e h
    rw [upd_ne (ne_of_none this hp)]; exact this
theorem Nx.laid {p : Addr} {o : HO} (n : Nx g g' H H') (S' : Sim K g' st' H') (hp : H' p = none) : Nx g g' H (upd H' p o) :=
  ⟨n.e, n.s, n.h0, n.r0, n.B, n.bn, n.pre, n.rn, fun a u e h => by
    have := n.fr a u e h
    rw [upd_ne (ne_of_none this hp)]; exact this⟩
/-- .. known to nobody -/
def Gs.aB (g : Gs) (p : Addr) : Gs := { g with B := fun a => g.B a ∨ a = p }
theorem Gs.aB_pr {p a : Addr} (h : (g.aB p).Pr a) : g.Pr a ∨ a = p := by
  rcases h with (h | h) | h
  · exact .inl (.inl h)
  · exact .inr h
  · exact .inl (.inr h)
theorem Keep.fresh {p : Addr} {o : HO} (hp : H p = none) : Keep g.Pr H (g.aB p).Pr (upd H p o) where
  k := fun a u e n => ⟨by rw [upd_ne (ne_of_none e hp)]; exact e, fun q => by
    rcases Gs.aB_pr q with q | q
    · exact n q
    · exact ne_of_none e hp q⟩
  t := (Keep.laid (pr := g.Pr) hp).t
  z := (Keep.laid (pr := g.Pr) hp).z
theorem RepK.fresh {p : Addr} {o : HO} (hp : H p = none) {v : V} {x : PV} (h : RepK K g H v x) : RepK K (g.aB p) (upd H p o) v x := by
  cases x with
  | d x => exact RD.keep (.fresh hp) h
  | _ => exact h
theorem OwnAt.fresh {p a : Addr} {o : HO} (hp : H p = none) {x : PyData} (h : OwnAt K g H a x) : OwnAt K (g.aB p) (upd H p o) a x :=
  h.keep (fun u q => by rw [upd_ne (ne_of_none q hp)]; exact q) (.fresh hp)
theorem ObAt.fresh {p a : Addr} {u : HO} (hp : H p = none) {o : Ob} (h : ObAt K g H a o) : ObAt K (g.aB p) (upd H p u) a o := by
  exact h.go (fun u q => by rw [upd_ne (ne_of_none q hp)]; exact q) (.fresh hp) fun _ _ q => RepK.fresh hp q
theorem Sim.fresh {p : Addr} {o : HO} (S : Sim K g st H) (hp : H p = none) : Sim K (g.aB p) st (upd H p o) where
  len := S.len
  val := fun i x h => let ⟨v, h1, h2⟩ := S.val i x h; ⟨v, h1, h2.fresh hp⟩
  own := fun i x h => by
    obtain ⟨a, h1, h2, h3, h4⟩ := S.own i x h
    exact ⟨a, h1, h2.fresh hp, fun q => q.elim h3 fun q => h2.ne (by rw [q]; exact hp), h4⟩
  inj := S.inj
  slen := S.slen
  sto := fun n o h => let ⟨a, h1, h2⟩ := S.sto n o h; ⟨a, h1, h2.fresh hp⟩
  rB := fun a h q => q.elim (S.rB a h) fun q => by
    obtain ⟨vs, e, _⟩ := S.tr h
    exact ne_of_none e hp q
  nd := S.nd
  bt := fun a h q => by
    unfold upd at q
    split at q
    · cases q
    · rename_i hne
      exact h.elim (fun h => S.bt a h q) fun h => hne h
  pre := S.pre
  new := S.new
  fr := (S.laid hp).fr
theorem Nx.fresh {p : Addr} {o : HO} (n : Nx g g' H H') (S' : Sim K g' st' H') (hp : H' p = none) : Nx g (g'.aB p) H (upd H' p o) :=
  ⟨n.e, n.s, n.h0, n.r0, fun a h => .inl (n.B a h), fun a h => h.elim (n.bn a) fun h => .inr (by subst h; exact n.trk S' hp), n.pre, n.rn, (n.laid S' hp).fr⟩
/-- an address that is free now was free at the entry -/
theorem Sim.h0 (S : Sim K g st H) {a : Addr} (h : H a = none) : g.H0 a = none := by
  cases q : g.H0 a with
  | none => rfl
  | some o =>
    by_cases hr : a ∈ g.r0
    · obtain ⟨vs, e, _⟩ := S.tr (S.pre.subset hr); rw [e] at h; cases h
    · rw [S.fr a o q hr] at h; cases h
/-- the values, read -/
theorem allD_eq : ∀ {xs : List PV} {ds : List PyData} {vs : List V}, allD xs = some ds → Paired (RepK K g H) vs xs → RDs K g.Pr H vs ds
  | [], ds, _, h, .nil => by simp [allD] at h; subst h; exact .nil
  | .d x :: r, ds, _, h, .cons p q => by
    simp only [allD, Option.map_eq_some_iff] at h
    obtain ⟨ms, h1, rfl⟩ := h
    exact .cons p (allD_eq h1 q)
  | .fre _ :: _, _, _, h, _ => by simp [allD] at h
  | .bor _ :: _, _, _, h, _ => by simp [allD] at h
  | .ref _ :: _, _, _, h, _ => by simp [allD] at h
  | .ty _ :: _, _, _, h, _ => by simp [allD] at h
  | .fn _ :: _, _, _, h, _ => by simp [allD] at h
/-- a datum read: the top as it stands, what lies within is kept -/
def RT (K : PySem.W.Frag) (pr : Addr → Prop) (H : Hp) (v : V) : PyData → Prop
  | .list ds => ∃ a xs, v = .ref a ∧ SqL K H a xs ∧ RDs K pr H xs ds
  | .tuple ds => ∃ a xs, v = .ref a ∧ H a = some (.tup xs) ∧ RDs K pr H xs ds
  | .dict pd => ∃ a u, v = .ref a ∧ Rd H a u ∧ DctAt K pr H u pd
  | x => RD K pr H v x
theorem RD.rt {pr : Addr → Prop} {v : V} {x : PyData} (h : RD K pr H v x) : RT K pr H v x := by
  cases x with
  | list ds => exact h.isL
  | tuple ds => exact h.isT
  | dict pd =>
    cases h with
    | dct h r => exact ⟨_, _, rfl, .inr ⟨_, h⟩, r⟩
    | dctT h r => exact ⟨_, _, rfl, .inr ⟨_, h⟩, r⟩
  | _ => exact h
theorem RT.q {pr : Addr → Prop} {v : V} {x : PyData} (h : RT K pr H v x) (nd : ∀ pd, x ≠ .dict pd) : RD K nopr H v x := by
  cases x with
  | list ds =>
    obtain ⟨a, xs, rfl, h | h, r⟩ := h
    · exact .lst h id r.q
    · exact .lstK h r.q
  | tuple ds =>
    obtain ⟨a, xs, rfl, h, r⟩ := h
    exact .tup h r.q
  | dict pd => exact absurd rfl (nd pd)
  | _ => exact RD.q h
theorem RT.keep {pr pr' : Addr → Prop} {v : V} {x : PyData} (hp : ∀ a, pr' a → pr a) (h : RT K pr H v x) : RT K pr' H v x := by
  cases x with
  | list ds => obtain ⟨a, xs, e, h, r⟩ := h; exact ⟨a, xs, e, h, r.keep (.anti hp)⟩
  | tuple ds => obtain ⟨a, xs, e, h, r⟩ := h; exact ⟨a, xs, e, h, r.keep (.anti hp)⟩
  | dict pd => obtain ⟨a, u, e, h, r⟩ := h; exact ⟨a, u, e, h, r.keep (.anti hp)⟩
  | _ => exact RD.keep (.anti hp) h
theorem OwnAt.rt {a : Addr} {x : PyData} (o : OwnAt K g H a x) : RT K g.Pr H (.ref a) x := by
  cases x with
  | list ds => obtain ⟨vs, o1, o2⟩ := o; exact ⟨a, vs, rfl, .inl (.inl o1), o2⟩
  | dict pd => obtain ⟨u, o1, o2⟩ := o; exact ⟨a, u, rfl, .inl o1, o2⟩
  | _ => exact o.elim
theorem Rep.rt (S : Sim K g st H) {Bo : Addr → Prop} {v : V} {x : PV} {d : PyData} (h : Rep K g Bo H v x) (e : rd x st = some d) : RT K g.Pr H v d := by
  cases x with
  | d x => cases e; exact RD.rt h
  | fre x =>
    cases e
    obtain ⟨a, rfl, o, _⟩ := h
    exact o.rt
  | bor x =>
    cases e
    obtain ⟨i, a, rfl, h1, h2⟩ := h
    obtain ⟨b, h3, o, _⟩ := S.own i _ h1
    rw [h2] at h3; cases h3
    exact o.rt
  | ref n =>
    obtain ⟨a, rfl, hn⟩ := h
    simp only [Ev.rd] at e
    cases q : st[n]? with
    | none => rw [q] at e; cases e
    | some o =>
      rw [q] at e
      obtain ⟨b, hb, ob⟩ := S.sto n o q
      rw [hn] at hb; cases hb
      cases o with
      | lst xs =>
        obtain ⟨vs, h1, h2⟩ := ob
        simp only [Option.map_eq_some_iff] at e
        obtain ⟨ds, e1, rfl⟩ := e
        exact ⟨a, vs, rfl, .inl (.inl h1), allD_eq e1 h2⟩
      | dct pd =>
        obtain ⟨u, h1, h2⟩ := ob
        cases e
        exact ⟨a, u, rfl, .inl h1, h2⟩
      | tab P q => cases e
  | ty n => cases e
  | fn n => cases e
/-- .. and kept -/
theorem Rep.asD (n : Nx g g' H H') {v : V} {x : PV} {d : PyData} (S' : Sim K g' st' H') (h : Rep K g' g.B H' v x) (e : asD x = some d) : RD K (g'.wB g.B).Pr H' v d := by
  cases x with
  | d x => cases e; exact RD.keep (.anti fun _ q => Gs.wB_pr n.B q) h
  | fre x =>
    cases x with
    | list ds => ?_
    | _ => cases e
    cases e
    obtain ⟨a, rfl, o, hb, hn, h0⟩ := h
    obtain ⟨vs, o1, o2⟩ := o
    refine .lst (.inl o1) ?_ (o2.keep (.anti fun _ q => Gs.wB_pr n.B q))
    rintro (q | q | ⟨i, x, q1, q2⟩)
    · exact hn q
    · exact S'.rB a q hb
    · obtain ⟨b, h1, _, h2, _⟩ := S'.own i x q1
      have q2 : g'.s[i]? = some (some (.ref a)) := q2
      rw [q2] at h1; cases h1
      exact h2 hb
  | bor x => cases e
  | ref n => cases e
  | ty n => cases e
  | fn n => cases e
theorem Rep.asR (n : Nx g g' H H') {v : V} {x y : PV} (S' : Sim K g' st' H') (h : Rep K g' g.B H' v x) (e : asR x = some y) : RepK K (g'.wB g.B) H' v y := by
  cases x with
  | d x => cases e; exact Rep.asD n S' (x := .d x) h rfl
  | fre x =>
    cases x with
    | list ds => cases e; exact Rep.asD n S' (x := .fre (.list ds)) h rfl
    | _ => cases e
  | bor x => cases e
  | ref n => cases e; exact h
  | ty n => cases e
  | fn n => cases e
end
end Ev

set_option maxRecDepth 100000
/-! Ev3: operators and builtins by values. -/
namespace Ev
open PySem L2 PySem.W PyProof.Rows PySem.SeqAt

/-- what is wanted of a value, from a state on -/
def Fin (K : PySem.W.Frag) (g : Gs) (st : Sto) (H : Hp) (v : PV) (Q : VK) : Prop := ∀ g' H' w, Nx g g' H H' → Sim K g' st H' → Rep K g' g.B H' w v → Q w H'
section
variable {K : PySem.W.Frag} {g : Gs} {st : Sto} {H : Hp} {Q : VK}
theorem Fin.val (F : Fin K g st H (.d x) Q) (S : Sim K g st H) {v : V} (h : RD K g.Pr H v x) : Q v H := F g H v Nx.refl S h
theorem Fin.int {i : Int} (F : Fin K g st H (.d (.int i)) Q) (S : Sim K g st H) : Q (.int i) H := F.val S (.int i)
theorem Fin.bl {i : Bool} (F : Fin K g st H (.d (.bool i)) Q) (S : Sim K g st H) : Q (.bl i) H := F.val S (.bl i)
theorem Fin.tup {ds : List PyData} {vs : List V} (F : Fin K g st H (.d (.tuple ds)) Q) (S : Sim K g st H) (r : RDs K g.Pr H vs ds) : ∀ p, H p = none → Q (.ref p) (upd H p (.tup vs)) := fun p hp =>
  F g _ _ (Nx.refl.laid S hp) (S.laid hp) (show RD _ _ _ _ _ from .tup upd_same (r.keep (.laid hp)))
theorem Fin.lst {ds : List PyData} {vs : List V} (F : Fin K g st H (.fre (.list ds)) Q) (S : Sim K g st H) (r : RDs K g.Pr H vs ds) : ∀ p, H p = none → Q (.ref p) (upd H p (.lst vs)) := fun p hp =>
  F _ _ _ (Nx.refl.fresh S hp) (S.fresh hp) ⟨p, rfl, ⟨vs, upd_same, r.keep (.fresh hp)⟩, .inr rfl, fun q => S.bt p q hp, S.h0 hp⟩
end

/-! ### more rules by values -/
section
variable {X : Cx}
theorem op_catG : OpR X (binaryOp .Add) (fun x y H Q => ∃ l b xs zs, x = .ref l ∧ y = .ref b ∧ SqL X.K H l xs ∧ SqL X.K H b zs ∧ xs.length + zs.length ≤ sizeLine ∧ ∀ p, H p = none → Q (.ref p) (upd H p (.lst (xs ++ zs)))) := by
  intro pins s σ H x y v u Q I rx ry h
  obtain ⟨l, b, xs, zs, rfl, rfl, hH, hB, hz, q⟩ := h
  cases rx
  cases ry
  obtain ⟨its, r, pl, z⟩ := I.list hH
  obtain ⟨its2, r2, pl2, z2⟩ := I.list hB
  obtain ⟨⟨cls, dd, data, sl⟩, ho, hc, n, hd⟩ := pl.isList
  obtain ⟨⟨cls2, dd2, data2, sl2⟩, ho2, hc2, n2, hd2⟩ := pl2.isList
  simp only at hc hd hc2 hd2
  subst hc hd hc2 hd2
  have e : its.toArray ++ its2.toArray = (its ++ its2).toArray := by simp
  have e1 := r.length
  have e2 := r2.length
  refine concat_meets ⟨_, ho, rfl⟩ ⟨_, ho2, rfl⟩ noFill_list_add seq_list_add PySem.F.slot_list_add PySem.F.entry_list_add (PySem.F.args_list_add_2 _ _) (list_addW l b its.toArray its2.toArray n n2 dd dd2 sl sl2 (by simp; omega)) ⟨ho, ho2, ?_⟩
  rw [e]
  exact ⟨.ref _, _, I.lnew (t' := s.toks) (r.append r2) (by rw [List.length_append]; omega), rfl, q _ I.fresh⟩
theorem op_repG : OpR X (binaryOp .Mult) (fun x y H Q => ∃ l k xs, x = .ref l ∧ y = .int k ∧ SqL X.K H l xs ∧ -(2 ^ 63) ≤ k ∧ k < 2 ^ 63 ∧ xs.length * k.toNat ≤ sizeLine ∧
    ∀ p, H p = none → Q (.ref p) (upd H p (.lst (List.replicate k.toNat xs).flatten))) := by
  intro pins s σ H x y v u Q I rx ry h
  obtain ⟨l, k, xs, rfl, rfl, hH, h1, h2, hz, q⟩ := h
  cases rx
  obtain ⟨t, rfl⟩ := ry
  obtain ⟨its, r, pl, z⟩ := I.list hH
  obtain ⟨⟨cls, dd, data, sl⟩, ho, hc, n, hd⟩ := pl.isList
  simp only at hc hd
  subst hc hd
  have e1 := r.length
  have hsz' : its.toArray.size * k.toNat ≤ 2 ^ 24 := by rw [List.size_toArray, ← e1]; exact hz
  refine wpAny_binaryOp_repeat_ref (T := "list") (U := "int") (by decide) ⟨_, ho, rfl⟩ (fun s' => typeIs_int s' k t) noFill_list_mul PySem.F.fills_int_mul PySem.F.slot_int_rmul repeat_list PySem.F.slot_int_index.lookup
    (call_meets PySem.F.slot_int_rmul (typeIs_int s k t) PySem.F.entry_int_rmul (PySem.F.args_int_rmul_2 _ _) (lm_int_rmul_list_any k t l its.toArray n dd sl)
      ⟨ho, rfl, ⟨_, ho, rfl⟩, call_meets PySem.F.slot_list_mul ⟨_, ho, rfl⟩ PySem.F.entry_list_mul (PySem.F.args_list_mul_2 _ _)
        (lm_list_mul_any l its.toArray n dd sl k t (by simp [Builtin.List.listFitsIndex]; omega) (by simp at hsz' ⊢; omega) (by simp [Builtin.List.listTooLong, sizeLine]; simp at hsz'; omega))
        ⟨ho, ?_⟩⟩)
  rw [show (List.foldl (fun x1 x2 => x1 ++ x2) #[] (List.replicate (if its.toArray.isEmpty = true then 0 else k.toNat) its.toArray)) = (List.replicate k.toNat its).flatten.toArray from listMul_foldl_if _ _]
  exact ⟨.ref _, _, I.lnew (t' := s.toks) (r.rep k.toNat) (by rw [PyProof.Rows.lm_len_rep_flat, Nat.mul_comm]; exact hz), rfl, q _ I.fresh⟩

/-- comparisons of data that are read -/
theorem op_dat {op : CmpOp} {f : PyData → PyData → Bool} {C : PyData → PyData → Prop}
    (rule : ∀ (prog : Program) (w : World) (A : Around) (E : Value → Shared → Prop) (s : Shared) (a b : Value) (da db : PyData) (as bs : List Addr) (Q : Value → Shared → Prop), A.units + 70 < cLine → C da db →
      Reads s.heap a da as → Reads s.heap b db bs → Q (.bool (f da db)) s → wpAny (model prog w) A (compareOp op a b) Q E s) (pl : ∀ d e, C d e → d.plain = true ∧ e.plain = true) (hu : X.A.units + 70 < cLine) :
    OpR X (compareOp op) (fun x y H Q => ∃ d e, RD X.K nopr H x d ∧ RD X.K nopr H y e ∧ C d e ∧ Q (.bl (f d e)) H) := by
  intro pins s σ H x y v u Q I rx ry h
  obtain ⟨d, e, h1, h2, hc, q⟩ := h
  obtain ⟨as, r1⟩ := Dp.reads I d x v (h1.dp (plain_flat _ (pl d e hc).1)) rx
  obtain ⟨bs, r2⟩ := Dp.reads I e y u (h2.dp (plain_flat _ (pl d e hc).2)) ry
  exact rule _ _ _ _ s v u d e as bs _ hu hc r1 r2 ⟨.bl _, H, I, rfl, q⟩
def CEq (d e : PyData) : Prop := d.plain = true ∧ e.plain = true ∧ d.depth ≤ 60
theorem op_eqP (hu : X.A.units + 70 < cLine) : OpR X (compareOp .Eq) (fun x y H Q => ∃ d e, RD X.K nopr H x d ∧ RD X.K nopr H y e ∧ CEq d e ∧ Q (.bl (PyData.eqv d e)) H) :=
  op_dat (fun _ _ A _ _ _ _ da db _ _ _ hu hc r1 r2 q => eq_plain r1 r2 hc.1 hc.2.1 (by have := hc.2.2; have := Nat.min_le_left da.depth db.depth; omega) q) (fun _ _ h => ⟨h.1, h.2.1⟩) hu
theorem op_neP (hu : X.A.units + 70 < cLine) : OpR X (compareOp .NotEq) (fun x y H Q => ∃ d e, RD X.K nopr H x d ∧ RD X.K nopr H y e ∧ CEq d e ∧ Q (.bl (!PyData.eqv d e)) H) :=
  op_dat (fun _ _ A _ _ _ _ da db _ _ _ hu hc r1 r2 q => ne_plain r1 r2 hc.1 hc.2.1 (by have := hc.2.2; have := Nat.min_le_left da.depth db.depth; omega) q) (fun _ _ h => ⟨h.1, h.2.1⟩) hu
def CLt (d e : PyData) : Prop := alike d e = true ∧ d ≠ .none ∧ d.depth ≤ 60 ∧ d.plain = true ∧ e.plain = true
def CGt (d e : PyData) : Prop := alike d e = true ∧ d ≠ .none ∧ e.depth ≤ 60 ∧ d.plain = true ∧ e.plain = true
theorem op_ltP (hu : X.A.units + 70 < cLine) : OpR X (compareOp .Lt) (fun x y H Q => ∃ d e, RD X.K nopr H x d ∧ RD X.K nopr H y e ∧ CLt d e ∧ Q (.bl (dataLt d e)) H) :=
  op_dat (fun _ _ A _ _ _ _ da db _ _ _ hu hc r1 r2 q => lt_data r1 r2 hc.1 hc.2.1 (by have := hc.2.2.1; have := Nat.min_le_left da.depth db.depth; omega) q) (fun _ _ h => h.2.2.2) hu
theorem op_gtP (hu : X.A.units + 70 < cLine) : OpR X (compareOp .Gt) (fun x y H Q => ∃ d e, RD X.K nopr H x d ∧ RD X.K nopr H y e ∧ CGt d e ∧ Q (.bl (dataLt e d)) H) :=
  op_dat (fun _ _ A _ _ _ _ da db _ _ _ hu hc r1 r2 q => gt_data r1 r2 hc.1 hc.2.1 (by have := hc.2.2.1; have := Nat.min_le_right da.depth db.depth; omega) q) (fun _ _ h => h.2.2.2) hu
def CIn (d e : PyData) : Prop := d.plain = true ∧ d.depth ≤ 60 ∧ ∃ ys, (e = .list ys ∨ e = .tuple ys) ∧ PyData.plainAll ys = true
theorem cIn_plain (d e : PyData) (h : CIn d e) : d.plain = true ∧ e.plain = true := by
  obtain ⟨h1, _, ys, rfl | rfl, h3⟩ := h
  · exact ⟨h1, by rw [PyData.plain]; exact h3⟩
  · exact ⟨h1, by rw [PyData.plain]; exact h3⟩
def fIn (d e : PyData) : Bool := match e with
  | .list ys => ys.any fun y => PyData.eqv y d
  | .tuple ys => ys.any fun y => PyData.eqv y d
  | _ => false
theorem op_inP (hu : X.A.units + 70 < cLine) : OpR X (compareOp .In) (fun x y H Q => ∃ d e, RD X.K nopr H x d ∧ RD X.K nopr H y e ∧ CIn d e ∧ Q (.bl (fIn d e)) H) :=
  op_dat (fun _ _ A _ _ _ _ da db _ _ _ hu hc r1 r2 q => by
    obtain ⟨h1, h2, ys, rfl | rfl, h3⟩ := hc
    · exact in_list_data r2 r1 h3 h1 (by have := Nat.min_le_right (PyData.depthAll ys) da.depth; omega) q
    · exact in_tuple_data r2 r1 h3 h1 (by have := Nat.min_le_right (PyData.depthAll ys) da.depth; omega) q) cIn_plain hu
theorem op_notinP (hu : X.A.units + 70 < cLine) : OpR X (compareOp .NotIn) (fun x y H Q => ∃ d e, RD X.K nopr H x d ∧ RD X.K nopr H y e ∧ CIn d e ∧ Q (.bl (!fIn d e)) H) :=
  op_dat (f := fun d e => !fIn d e) (fun _ _ A _ _ _ _ da db _ _ _ hu hc r1 r2 q => by
    obtain ⟨h1, h2, ys, rfl | rfl, h3⟩ := hc
    · exact notIn_list_data r2 r1 h3 h1 (by have := Nat.min_le_right (PyData.depthAll ys) da.depth; omega) q
    · exact notIn_tuple_data r2 r1 h3 h1 (by have := Nat.min_le_right (PyData.depthAll ys) da.depth; omega) q) cIn_plain hu
theorem rel_none {v : V} {x : PyData} {H : Hp} {pr : Addr → Prop} {K : PySem.W.Frag} (h : RD K pr H v x) : decide (v = .non) = isNone x := by
  cases h <;> rfl
end
end Ev

set_option maxRecDepth 100000
/-! Ev3d: dicts by values; the empty one is of both kinds. -/
namespace Ev
open PySem L2 PySem.W PyProof.Rows PySem.SeqAt PySem.Spec
section
variable {X : Cx} {pins : List (Addr × Obj)} {σ : L2.St} {H : Hp} {s : Shared} {a : Addr} {y v d : V} {u r : Value} {o : Option V} {A : Around} {E : Value → Shared → Prop}
theorem emp_t (I : L2.Inv X pins σ H s) (e : Rd H a (.dK [])) : (a == sysModules) = false ∧ s.heap.DictOfH (tupleKind (mixKind X.prog X.w)) a [] := by
  obtain ⟨_, hd, vs, rel, ob, es, ep, h1, h2, h3, _, h5, _⟩ := dk_rd I.hok e
  cases rel
  refine ⟨hd, ob, es, ep, h1, h2, h3, ?_, (fun x hx => nomatch hx), List.nodup_nil⟩
  cases q : es.toList with
  | nil => rfl
  | cons _ _ => rw [q] at h5; cases h5
theorem emp_k (I : L2.Inv X pins σ H s) (e : Rd H a (.dT [])) : (a == sysModules) = false ∧ s.heap.DictOf (mixKind X.prog X.w) a [] := by
  obtain ⟨_, hd, xs, rel, ob, es, ep, h1, h2, h3, h4, _⟩ := dt_rd I.hok e
  cases rel
  have e0 : es.toList = [] := h4
  refine ⟨hd, ob, es, ep, h1, h2, h3, fun e he => ?_, by rw [e0]; exact .nil, List.nodup_nil⟩
  have := Array.mem_toList_iff.mpr he
  rw [e0] at this
  cases this
/-- the empty dict, asked by a key of the other kind -/
def DEmp (H : Hp) (a : Addr) (y : V) : Prop := (Rd H a (.dK []) ∧ ∃ (b : Addr) (k : List Key), y = .ref b ∧ H b = some (.tup (k.map kV))) ∨ (Rd H a (.dT []) ∧ ∃ k : Key, y = kV k)
def DG (H : Hp) (a : Addr) (y : V) (o : Option V) : Prop := DGet H a y o ∨ (o = none ∧ DEmp H a y)
theorem DG.isD (g : DG H a y o) : IsD H a := by
  rcases g with (⟨kvs, _, e, _⟩ | ⟨kvs, _, _, e, _⟩) | ⟨_, ⟨e, _⟩ | ⟨e, _⟩⟩
  · exact .inl ⟨kvs, e⟩
  · exact .inr ⟨kvs, e⟩
  · exact .inl ⟨_, e⟩
  · exact .inr ⟨_, e⟩
theorem g_in {Q : Value → Shared → Prop} (hu : A.units + 1 < cLine) (I : L2.Inv X pins σ H s) (g : DG H a y o) (ry : RelV y u) (h : ∀ s', L2.Inv X pins σ H s' → Q (.bool o.isSome) s') : wpAny (model X.prog X.w) A (compareOp .In u (.ref a)) Q E s := by
  rcases g with g | ⟨rfl, ⟨e, b, k, rfl, eb⟩ | ⟨e, k, rfl⟩⟩
  · exact d_in hu I g ry h
  · cases (show u = Value.ref b from ry)
    obtain ⟨hd, dd⟩ := emp_t I e
    exact wpAny_in_heap (tupleKind_room_in1 hu) (key_of I.hok eb) hd dd (h _ (I.tok _))
  · obtain ⟨hd, dd⟩ := emp_k I e
    exact wpAny_in_of (kV_is ry) hd dd.mapOf (h _ (I.tok _))
theorem g_notIn {Q : Value → Shared → Prop} (hu : A.units + 1 < cLine) (I : L2.Inv X pins σ H s) (g : DG H a y o) (ry : RelV y u) (h : ∀ s', L2.Inv X pins σ H s' → Q (.bool (!o.isSome)) s') : wpAny (model X.prog X.w) A (compareOp .NotIn u (.ref a)) Q E s := by
  rcases g with g | ⟨rfl, ⟨e, b, k, rfl, eb⟩ | ⟨e, k, rfl⟩⟩
  · exact d_notIn hu I g ry h
  · cases (show u = Value.ref b from ry)
    obtain ⟨hd, dd⟩ := emp_t I e
    exact wpAny_notIn_heap (tupleKind_room_in1 hu) (key_of I.hok eb) hd dd (h _ (I.tok _))
  · obtain ⟨hd, dd⟩ := emp_k I e
    exact wpAny_notIn_of (kV_is ry) hd dd.mapOf (h _ (I.tok _))
theorem g_get1 {Q : Value → Shared → Prop} (hu : A.units + 1 < cLine) (I : L2.Inv X pins σ H s) (g : DG H a y o) (ry : RelV y u) (h : ∀ w' s', L2.Inv X pins σ H s' → RelV (o.getD .non) w' → Q w' s') :
    wpAny (model X.prog X.w) A (call (.builtin "dict.get") [.ref a, u]) Q E s := by
  rcases g with g | ⟨rfl, ⟨e, b, k, rfl, eb⟩ | ⟨e, k, rfl⟩⟩
  · exact d_get1 hu I g ry h
  · cases (show u = Value.ref b from ry)
    obtain ⟨hd, dd⟩ := emp_t I e
    exact call_meetsIn PySem.F.slot_dict_get dd.typeIs PySem.F.entry_dict_get (PySem.F.args_dict_get_2 _ _) (meetsH_dict_get (tupleKind (mixKind X.prog X.w)) a b hd) ⟨tupleKind_room_in1 hu, k, [], key_of I.hok eb, dd, h _ _ (I.tok _) rfl⟩
  · obtain ⟨hd, dd⟩ := emp_k I e
    exact call_meetsIn PySem.F.slot_dict_get dd.typeIs PySem.F.entry_dict_get (PySem.F.args_dict_get_2 _ _) (meets_dict_get (mixKind X.prog X.w) a (kV_is ry) hd) ⟨_, dd.mapOf, h _ _ (I.tok _) rfl⟩
theorem g_get2 {Q : Value → Shared → Prop} (hu : A.units + 1 < cLine) (I : L2.Inv X pins σ H s) (g : DG H a y o) (ry : RelV y u) (rd : RelV d r) (h : ∀ w' s', L2.Inv X pins σ H s' → RelV (o.getD d) w' → Q w' s') :
    wpAny (model X.prog X.w) A (call (.builtin "dict.get") [.ref a, u, r]) Q E s := by
  rcases g with g | ⟨rfl, ⟨e, b, k, rfl, eb⟩ | ⟨e, k, rfl⟩⟩
  · exact d_get2 hu I g ry rd h
  · cases (show u = Value.ref b from ry)
    obtain ⟨hd, dd⟩ := emp_t I e
    exact call_meetsIn PySem.F.slot_dict_get dd.typeIs PySem.F.entry_dict_get (PySem.F.args_dict_get_3 _ _ _) (meetsH_dict_get_default (tupleKind (mixKind X.prog X.w)) a b hd r) ⟨tupleKind_room_in1 hu, k, [], key_of I.hok eb, dd, h _ _ (I.tok _) rd⟩
  · obtain ⟨hd, dd⟩ := emp_k I e
    exact call_meetsIn PySem.F.slot_dict_get dd.typeIs PySem.F.entry_dict_get (PySem.F.args_dict_get_3 _ _ _) (meets_dict_get_default (mixKind X.prog X.w) a (kV_is ry) hd r) ⟨_, dd.mapOf, h _ _ (I.tok _) rd⟩
/-- the empty dict of one's own, taken for one of the other kind -/
theorem swap_t (I : L2.Inv X pins σ H s) (e : H a = some (.dK [])) : L2.Inv X pins σ (upd H a (.dT [])) s := by
  obtain ⟨hd, ob, es, ep, h1, h2, h3, h4, _, _⟩ := emp_t I (.inl e)
  exact I.write (x := a) (e := a) (t' := s.toks) (h' := s.heap) (by rw [e]; trivial) (.inl rfl) (fun b v _ q => q) ⟨ob, h1⟩ ⟨Nat.zero_le _, hd, [], .nil, ob, es, ep, h1, h2, h3, h4, List.nodup_nil⟩
theorem swap_k (I : L2.Inv X pins σ H s) (e : H a = some (.dT [])) : L2.Inv X pins σ (upd H a (.dK [])) s := by
  obtain ⟨hd, dd⟩ := emp_k I (.inl e)
  obtain ⟨ob, es, ep, h1, h2⟩ := dd
  exact I.write (x := a) (e := a) (t' := s.toks) (h' := s.heap) (by rw [e]; trivial) (.inl rfl) (fun b v _ q => q) ⟨ob, h1⟩ ⟨Nat.zero_le _, hd, [], .nil, ob, es, ep, h1, h2⟩
/-- the heap behind a[y] = v -/
def DPutE (H : Hp) (a : Addr) (y v : V) (H' : Hp) : Prop := DPut H a y v H' ∨
  (H a = some (.dK []) ∧ ∃ (b : Addr) (k : List Key), y = .ref b ∧ H b = some (.tup (k.map kV)) ∧ H' = upd H a (.dT [(k, v)])) ∨ (H a = some (.dT []) ∧ ∃ k : Key, y = kV k ∧ H' = upd H a (.dK [(k, v)]))
theorem set_dictE (hu : X.A.units + 1 < cLine) : PSet X (fun o i v H Q => ∃ a H', o = .ref a ∧ DPutE H a i v H' ∧ Q H') := by
  intro pins s σ H o i v ov iv u Q I ro ri rv h
  obtain ⟨a, H', eo, g, q⟩ := h
  subst eo
  cases (show ov = Value.ref a from ro)
  rcases g with g | ⟨e, b, k, rfl, eb, rfl⟩ | ⟨e, k, rfl, rfl⟩
  · exact d_setItem hu I g ri rv fun s' I' => ⟨H', I', q⟩
  · refine d_setItem hu (swap_t I e) (DPut.t (a := a) (k := k) (v := v) upd_same (by rw [upd_ne (ne_of eb e (fun z => nomatch z))]; exact eb) (by decide)) ri rv fun s' I' => ⟨_, I', ?_⟩
    rw [upd_upd]
    exact q
  · refine d_setItem hu (swap_k I e) (DPut.k (a := a) (k := k) (v := v) upd_same (by decide)) ri rv fun s' I' => ⟨_, I', ?_⟩
    rw [upd_upd]
    exact q
end
section
variable {X : Cx}
theorem PSet.or {t t' : TSet} (h : PSet X t) (h' : PSet X t') : PSet X (fun o i v H Q => t o i v H Q ∨ t' o i v H Q) := by
  intro pins s σ H o i v ov iv u Q I ro ri rv q
  rcases q with q | q
  · exact h pins s σ H o i v ov iv u Q I ro ri rv q
  · exact h' pins s σ H o i v ov iv u Q I ro ri rv q
def rInD : R2 := fun x y H Q => ∃ a o, y = .ref a ∧ DG H a x o ∧ Q (.bl o.isSome) H
def rNotInD : R2 := fun x y H Q => ∃ a o, y = .ref a ∧ DG H a x o ∧ Q (.bl (!o.isSome)) H
theorem op_inD (hu : X.A.units + 1 < cLine) : OpR X (compareOp .In) rInD := by
  intro pins s σ H x y v u Q I rx ry h
  obtain ⟨a, o, rfl, g, q⟩ := h
  cases (show u = Value.ref a from ry)
  exact g_in hu I g rx fun s' I' => ⟨.bl _, H, I', rfl, q⟩
theorem op_notinD (hu : X.A.units + 1 < cLine) : OpR X (compareOp .NotIn) rNotInD := by
  intro pins s σ H x y v u Q I rx ry h
  obtain ⟨a, o, rfl, g, q⟩ := h
  cases (show u = Value.ref a from ry)
  exact g_notIn hu I g rx fun s' I' => ⟨.bl _, H, I', rfl, q⟩
def rIxDct : R2 := fun x y H Q => ∃ a v, x = .ref a ∧ DGet H a y (some v) ∧ Q v H
theorem ix_dict (hu : X.A.units + 1 < cLine) : IxR X rIxDct := by
  intro value slice pins s σ H x y v u Q I rx ry h hs
  obtain ⟨a, w, rfl, g, q⟩ := h
  cases (show v = Value.ref a from rx)
  have ht := dict_typeIs I g
  rcases g with ⟨kvs, k, e, rfl, l⟩ | ⟨kvs, k, b, e, rfl, eb, l⟩
  · obtain ⟨z, hd, vs, rel, dd⟩ := dk_rd I.hok e
    obtain ⟨w', hw, rw'⟩ := RelO.some_of (v := w) (o := valueAt vs k) (by rw [l]; exact rel.val k)
    exact subscriptTail_builtinR (x := w') ht PySem.F.slot_dict_getitem.lookup (wpAny_getItem_of (kV_is ry) dd.mapOf hw ⟨rfl, w, H, I.tok _, rw', q⟩) hs
  · cases (show u = Value.ref b from ry)
    obtain ⟨z, hd, xs, rel, dd⟩ := dt_rd I.hok e
    obtain ⟨w', hw, rw'⟩ := RelO.some_of (v := w) (o := (atKey xs k).map (·.2)) (by rw [l]; exact rel.val k)
    obtain ⟨p, hp, hp2⟩ := Option.map_eq_some_iff.mp hw
    refine subscriptTail_builtinR (x := w') ht PySem.F.slot_dict_getitem.lookup (wpAny_getItem_heap (tupleKind_room_in1 hu) (key_of I.hok eb) dd hp ?_) hs
    rw [hp2]
    exact ⟨rfl, w, H, I.tok _, rw', q⟩
def tGet1 (td ty : TE) : TE := fun σ H Q => td σ H fun x H1 => ∃ a, x = .ref a ∧ IsD H1 a ∧ ty σ H1 fun y H2 => ∃ o, DG H2 a y o ∧ Q (o.getD .non) H2
def tGet2 (td ty tx : TE) : TE := fun σ H Q => td σ H fun x H1 => ∃ a, x = .ref a ∧ IsD H1 a ∧ ty σ H1 fun y H2 => tx σ H2 fun z H3 => ∃ o, DG H3 a y o ∧ Q (o.getD z) H3
variable {o e f : Expr} {apos cpos pos : Pos} {td ty tx tk tv : TE}
theorem pe_getE1 (hu : X.A.units + 1 < cLine) (ho : PE X o td) (he : PE X e ty) (m : M1 X o "get" apos e cpos) : PE X (.Call (.Attribute o "get" apos) [e] [] cpos) (tGet1 td ty) := by
  refine ⟨fun pins s σ H Q I h => wpAny_Call_method m.base m.few m.line PySem.F.plainAttrs_dict PySem.F.slot_dict_get PySem.F.type_dict_get (thn (ho.run pins s σ H _ I h) fun u t1 ⟨x, J1, Y1, rx, a, ex, di, q1⟩ => ?_)⟩
  subst ex
  obtain rfl : u = Value.ref a := rx
  obtain ⟨z1, z2, _⟩ := isD_at Y1 di
  refine ⟨z1, z2, ?_⟩
  rw [m.trees]
  exact Calls.callWith_builtin rfl (Calls.evalArgs_plain (Calls.spliced_cons (thn (he.run pins t1 σ J1 _ Y1 q1) fun iv t2 ⟨y, J2, Y2, ry, ov, g, q2⟩ => Calls.spliced_nil (g_get1 hu Y2 g ry fun w' t3 Y3 rw' => ⟨_, J2, Y3, rw', q2⟩))))
theorem pe_getE2 (hu : X.A.units + 1 < cLine) (ho : PE X o td) (he : PE X e ty) (hf : PE X f tx) (m : M2 X o "get" apos e f cpos) : PE X (.Call (.Attribute o "get" apos) [e, f] [] cpos) (tGet2 td ty tx) := by
  refine ⟨fun pins s σ H Q I h => wpAny_Call_method m.base m.few m.line PySem.F.plainAttrs_dict PySem.F.slot_dict_get PySem.F.type_dict_get (thn (ho.run pins s σ H _ I h) fun u t1 ⟨x, J1, Y1, rx, a, ex, di, q1⟩ => ?_)⟩
  subst ex
  obtain rfl : u = Value.ref a := rx
  obtain ⟨z1, z2, _⟩ := isD_at Y1 di
  refine ⟨z1, z2, ?_⟩
  rw [m.trees]
  exact Calls.callWith_builtin rfl (Calls.evalArgs_plain (Calls.spliced_cons (thn (he.run pins t1 σ J1 _ Y1 q1) fun iv t2 ⟨y, J2, Y2, ry, q2⟩ =>
    Calls.spliced_cons (thn (hf.run pins t2 σ J2 _ Y2 q2) fun fv t3 ⟨z, J3, Y3, rz, ov, g, q3⟩ => Calls.spliced_nil (g_get2 hu Y3 g ry rz fun w' t4 Y4 rw' => ⟨_, J3, Y4, rw', q3⟩)))))
theorem one_le : 1 ≤ sizeLine := by decide
/-- {k: v}, k a tuple -/
def tDsp1T (tk tv : TE) : TE := fun σ H Q => ∀ p, H p = none → tk σ (upd H p (.dT [])) fun x H1 => tv σ H1 fun y H2 => H2 p = some (.dT []) ∧ ∃ (b : Addr) (k : List Key), x = .ref b ∧ H2 b = some (.tup (k.map kV)) ∧ Q (.ref p) (upd H2 p (.dT [(k, y)]))
theorem pe_dsp1T (hu : X.A.units + 1 < cLine) {k v : Expr} (hk : PE X k tk) (hv : PE X v tv) : PE X (.Dict [some k] [v] pos) (tDsp1T tk tv) := by
  refine ⟨fun pins s σ H Q I q => ?_⟩
  have hn := I.hok.fresh (Nat.le_refl s.heap.objs.size)
  have Y1 := I.laid (a := s.heap.objs.size) (o := .dT []) (h' := s.heap.push { cls := .type "dict", data := .dict #[] }) (t' := s.toks) (fun _ _ q => Heap.get?_push_of_some _ q) (Nat.le_refl _) (dt_empty s.heap I.big)
  have hall : ([some k] : List (Option Expr)).all (·.isSome) = true := rfl
  have hpt := zip_pairTrees [some k] [v] X.env pos hall rfl
  have hne : pairTrees [some k] [v] X.env pos ≠ [] := fun z => by
    have := pairTrees_length [some k] [v] X.env pos hall rfl
    rw [z] at this
    cases this
  have hle : (pairTrees [some k] [v] X.env pos).length ≤ 15 := by
    rw [pairTrees_length [some k] [v] X.env pos hall rfl]
    exact Nat.le_of_ble_eq_true rfl
  rw [arm_eval_Dict, hpt, dictDisplay_pairs _ hne (by omega)]
  refine wpAny_bind (wpAny_standAt (wpAny_bind (wpAny_subDictH (knd := tupleKind (mixKind X.prog X.w)) (show X.A.units < cLine by omega) hle (pairTrees_cons_walk (thn (hk.run pins _ σ _ _ Y1 (q _ hn)) fun u t1 ⟨x, J1, Z1, rx, q1⟩ =>
    thn (hv.run pins t1 σ J1 _ Z1 q1) fun u2 t2 ⟨y, J2, Z2, ry, ep, b, ks, ex, eb, q2⟩ => pairTrees_nil_walk ?_)))))
  subst ex
  cases (show u = Value.ref b from rx)
  obtain ⟨hd, _⟩ := emp_k Z2 (.inl ep)
  obtain ⟨_, _, xs, rel, dd⟩ := dt_of Z2.hok ep
  cases rel
  refine ⟨[(ks, b, u2)], ⟨rfl, rfl, key_of Z2.hok eb, trivial⟩, dd, fun h' tk' dd' sb => wpAny_pure ⟨.ref s.heap.objs.size, _, ?_, rfl, q2⟩⟩
  obtain ⟨o1, es, ep', g1, g2, g3, g4, _, g5⟩ := dd'
  refine d_write Z2 (by rw [ep]; exact True.intro) sb ⟨o1, g1⟩ ⟨one_le, hd, [(ks, b, u2)], .cons ⟨rfl, ?_, ry⟩ .nil, o1, es, ep', g1, g2, g3, g4, g5⟩
  rw [upd_ne (ne_of eb ep (fun z => nomatch z))]
  exact eb
/-- what is made is locked -/
def tKeep (t : TE) : TE := fun σ H Q => t σ H fun v H1 => ∃ d u, v = .ref d ∧ H1 d = some u ∧ Mut (some u) ∧ ∀ od, Q v (upd H1 d (.frz od u))
theorem pe_keep {t : TE} (h : PE X e t) : PE X e (tKeep t) := by
  refine ⟨fun pins s σ H Q I q => thn (h.run pins s σ H _ I q) fun w s1 ⟨v, H1, I1, rv, d, u, ev, hd, mu, k⟩ => ?_⟩
  obtain ⟨od, I2⟩ := I1.lock hd mu
  exact ⟨v, _, I2, rv, k od⟩
/-- ahead of the next statement a thing is locked -/
def tLk (t : TS) : TS := fun D σ H => ∃ d u, H d = some u ∧ Mut (some u) ∧ ∀ od, t D σ (upd H d (.frz od u))
theorem pss_lk {es : List Stmt} {t : TS} (h : PSs X es t) : PSs X es (tLk t) := by
  refine ⟨fun pins s σ H D I q => ?_⟩
  obtain ⟨d, u, hd, mu, q⟩ := q
  obtain ⟨od, I2⟩ := I.lock hd mu
  exact h.run pins s σ _ D I2 (q od)
end
end Ev

set_option maxRecDepth 100000
/-! Ev3e: tables of data against dicts of the heap. -/
namespace Ev
open PySem L2 PySem.W PyProof.Rows PySem.SeqAt
section
variable {K : PySem.W.Frag} {pr pr' : Addr → Prop} {H H' : Hp}
theorem toKey_D : ∀ {x : PyData} {k : Key}, toKey x = some k → x = keyD k
  | .int i, k, h => by cases h; rfl
  | .str i, k, h => by cases h; rfl
  | .none, _, h => nomatch h
  | .bool _, _, h => nomatch h
  | .list _, _, h => nomatch h
  | .tuple _, _, h => nomatch h
  | .dict _, _, h => nomatch h
theorem toKey_keyD (k : Key) : toKey (keyD k) = some k := by cases k <;> rfl
theorem toKeys_D : ∀ {xs : List PyData} {ks : List Key}, toKeys xs = some ks → xs = ks.map keyD
  | [], ks, h => by cases h; rfl
  | x :: r, ks, h => by
    rw [toKeys, Option.bind_eq_some_iff] at h
    obtain ⟨k, h1, h2⟩ := h
    obtain ⟨js, h3, rfl⟩ := Option.map_eq_some_iff.mp h2
    rw [List.map_cons, toKey_D h1, toKeys_D h3]
theorem toKeys_map : ∀ ks : List Key, toKeys (ks.map keyD) = some ks
  | [] => rfl
  | k :: ks => by rw [List.map_cons, toKeys, toKey_keyD, toKeys_map ks]; rfl
theorem dKey_keyD (k : Key) : dKey (keyD k) = some (.k k) := by cases k <;> rfl
theorem dKey_keysD (ks : List Key) : dKey (keysD ks) = some (.t ks) := by
  show (toKeys (ks.map keyD)).map DKey.t = _
  rw [toKeys_map]; rfl
def DKey.enc : DKey → PyData
  | .k a => keyD a
  | .t ks => keysD ks
theorem dKey_enc {x : PyData} {k : DKey} (h : dKey x = some k) : x = k.enc := by
  cases x with
  | tuple xs =>
    obtain ⟨ks, h1, rfl⟩ := Option.map_eq_some_iff.mp (show (toKeys xs).map DKey.t = some k from h)
    show PyData.tuple xs = .tuple _
    rw [toKeys_D h1]
  | int i => cases h; rfl
  | str i => cases h; rfl
  | none => cases h
  | bool _ => cases h
  | list _ => cases h
  | dict _ => cases h
theorem kEq_k {a : Key} {j : Key} : kEq (.k a) (keyD j) = decide (j = a) := by
  unfold kEq
  rw [dKey_keyD]
  by_cases h : j = a <;> simp [h]
theorem kEq_t {a j : List Key} : kEq (.t a) (keysD j) = decide (j = a) := by
  unfold kEq
  rw [dKey_keysD]
  by_cases h : j = a <;> simp [h]
/-- a value as a key -/
def KeyV (H : Hp) (x : V) : DKey → Prop
  | .k a => x = kV a
  | .t ks => ∃ b : Addr, x = .ref b ∧ H b = some (.tup (ks.map kV))
theorem rd_key {v : V} {x : PyData} {k : Key} (h : RD K pr H v x) (e : toKey x = some k) : v = kV k := by
  rw [toKey_D e] at h
  cases k with
  | inl i =>
    have h : RD K pr H v (.int i) := h
    cases h; rfl
  | inr i =>
    have h : RD K pr H v (.str i) := h
    cases h; rfl
theorem rds_keys : ∀ {vs : List V} {xs : List PyData} {ks : List Key}, RDs K pr H vs xs → toKeys xs = some ks → vs = ks.map kV
  | _, _, ks, .nil, h => by cases h; rfl
  | _, _, ks, .cons r t, h => by
    rw [toKeys, Option.bind_eq_some_iff] at h
    obtain ⟨k, h1, h2⟩ := h
    obtain ⟨js, h3, rfl⟩ := Option.map_eq_some_iff.mp h2
    rw [List.map_cons, rd_key r h1, rds_keys t h3]
theorem rt_key {v : V} {x : PyData} {k : DKey} (h : RT K pr H v x) (e : dKey x = some k) : KeyV H v k := by
  cases x with
  | tuple xs =>
    obtain ⟨ks, h1, rfl⟩ := Option.map_eq_some_iff.mp (show (toKeys xs).map DKey.t = some k from e)
    obtain ⟨a, ws, rfl, q, r⟩ := h
    rw [rds_keys r h1] at q
    exact ⟨a, rfl, q⟩
  | int i =>
    cases e
    have h : RD K pr H v (.int i) := h
    cases h; rfl
  | str i =>
    cases e
    have h : RD K pr H v (.str i) := h
    cases h; rfl
  | none => cases e
  | bool _ => cases e
  | list _ => cases e
  | dict _ => cases e
/-- how a look-up answers -/
def Ans (K : PySem.W.Frag) (pr : Addr → Prop) (H : Hp) (o : Option V) (d : Option PyData) : Prop := match d with
  | some d => ∃ v, o = some v ∧ RD K pr H v d
  | none => o = none
theorem rdk_get (a : Key) : ∀ {kvs : List (Key × V)} {pd : Tb}, RDk K pr H kvs pd → Ans K pr H (valV kvs a) (getD? (.k a) pd)
  | _, _, .nil => rfl
  | (k, v) :: kvs, (x, d) :: pd, .cons e r t => by
    subst e
    by_cases h : k = a
    · rw [valV_pos (p := (k, v)) h]
      unfold getD?
      rw [List.find?_cons]
      simp only [kEq_k, h, decide_true]
      exact ⟨v, rfl, r⟩
    · rw [valV_neg (p := (k, v)) h]
      unfold getD?
      rw [List.find?_cons]
      simp only [kEq_k, h, decide_false]
      exact rdk_get a t
theorem rdt_get (a : List Key) : ∀ {kvs : List (List Key × V)} {pd : Tb}, RDt K pr H kvs pd → Ans K pr H (valV kvs a) (getD? (.t a) pd)
  | _, _, .nil => rfl
  | (k, v) :: kvs, (x, d) :: pd, .cons e r t => by
    subst e
    by_cases h : k = a
    · rw [valV_pos (p := (k, v)) h]
      unfold getD?
      rw [List.find?_cons]
      simp only [kEq_t, h, decide_true]
      exact ⟨v, rfl, r⟩
    · rw [valV_neg (p := (k, v)) h]
      unfold getD?
      rw [List.find?_cons]
      simp only [kEq_t, h, decide_false]
      exact rdt_get a t
theorem rdk_kind {ks : List Key} {kvs : List (Key × V)} {pd : Tb} (r : RDk K pr H kvs pd) (h : kOk (.t ks) pd = true) : kvs = [] ∧ pd = [] := by
  cases r with
  | nil => exact ⟨rfl, rfl⟩
  | cons e _ _ =>
    subst e
    unfold kOk at h
    rw [List.all_cons, Bool.and_eq_true] at h
    have h := h.1
    rw [dKey_keyD] at h
    cases h
theorem rdt_kind {k : Key} {kvs : List (List Key × V)} {pd : Tb} (r : RDt K pr H kvs pd) (h : kOk (.k k) pd = true) : kvs = [] ∧ pd = [] := by
  cases r with
  | nil => exact ⟨rfl, rfl⟩
  | cons e _ _ =>
    subst e
    unfold kOk at h
    rw [List.all_cons, Bool.and_eq_true] at h
    have h := h.1
    rw [dKey_keysD] at h
    cases h
theorem dct_get {a : Addr} {u : HO} {pd : Tb} {x : V} {k : DKey} (hu : Rd H a u) (hd : DctAt K pr H u pd) (hx : KeyV H x k) (ok : kOk k pd = true) : ∃ o, DG H a x o ∧ Ans K pr H o (getD? k pd) := by
  cases u with
  | dK kvs =>
    have hd : RDk K pr H kvs pd := hd
    cases k with
    | k a' => exact ⟨_, .inl (.inl ⟨kvs, a', hu, hx, rfl⟩), rdk_get a' hd⟩
    | t ks =>
      obtain ⟨rfl, rfl⟩ := rdk_kind hd ok
      obtain ⟨b, hb, eb⟩ := hx
      exact ⟨none, .inr ⟨rfl, .inl ⟨hu, b, ks, hb, eb⟩⟩, rfl⟩
  | dT kvs =>
    have hd : RDt K pr H kvs pd := hd
    cases k with
    | k a' =>
      obtain ⟨rfl, rfl⟩ := rdt_kind hd ok
      exact ⟨none, .inr ⟨rfl, .inr ⟨hu, a', hx⟩⟩, rfl⟩
    | t ks =>
      obtain ⟨b, hb, eb⟩ := hx
      exact ⟨_, .inl (.inr ⟨kvs, ks, b, hu, hb, eb, rfl⟩), rdt_get ks hd⟩
  | _ => exact hd.elim
theorem DG.some {a : Addr} {x v : V} (g : DG H a x (some v)) : DGet H a x (some v) := by
  rcases g with g | ⟨e, _⟩
  · exact g
  · cases e
theorem any_get (k : DKey) : ∀ pd : Tb, (pd.any fun p => kEq k p.1) = (getD? k pd).isSome
  | [] => rfl
  | p :: r => by
    unfold getD?
    rw [List.any_cons, List.find?_cons]
    cases h : kEq k p.1 with
    | true => simp
    | false => simpa [getD?] using any_get k r
theorem Ans.isSome {o : Option V} {d : Option PyData} (h : Ans K pr H o d) : o.isSome = d.isSome := by
  cases d with
  | some d => obtain ⟨v, rfl, _⟩ := h; rfl
  | none => cases (show o = none from h); rfl
theorem rdk_any (a : Key) {kvs : List (Key × V)} {pd : Tb} (r : RDk K pr H kvs pd) : (kvs.any fun kv => decide (kv.1 = a)) = pd.any fun p => kEq (.k a) p.1 := by
  rw [valV_any, any_get, (rdk_get a r).isSome]
theorem rdt_any (a : List Key) {kvs : List (List Key × V)} {pd : Tb} (r : RDt K pr H kvs pd) : (kvs.any fun kv => decide (kv.1 = a)) = pd.any fun p => kEq (.t a) p.1 := by
  rw [valV_any, any_get, (rdt_get a r).isSome]
theorem rdk_put {a : Key} {v : V} {d : PyData} {kvs : List (Key × V)} {pd : Tb} (r : RDk K pr H kvs pd) (hv : RD K pr H v d) : RDk K pr H (putK kvs a v) (putD (.k a) (keyD a) d pd) := by
  unfold putK putD
  rw [rdk_any a r]
  split
  · have : ∀ {kvs : List (Key × V)} {pd : Tb}, RDk K pr H kvs pd → RDk K pr H (kvs.map fun kv => if kv.1 = a then (kv.1, v) else kv) (pd.map fun p => if kEq (.k a) p.1 = true then (p.1, d) else p) := by
      intro kvs pd r
      induction kvs generalizing pd with
      | nil => cases r; exact .nil
      | cons p kvs ih =>
        cases r with
        | @cons k v' _ x d' pd e h t =>
          subst e
          rw [List.map_cons, List.map_cons]
          by_cases hk : k = a
          · have h1 : kEq (.k a) (keyD k) = true := by rw [kEq_k]; exact decide_eq_true hk
            rw [if_pos hk, if_pos h1]
            exact .cons rfl hv (ih t)
          · have h1 : ¬ kEq (.k a) (keyD k) = true := by rw [kEq_k, decide_eq_false hk]; exact Bool.false_ne_true
            rw [if_neg hk, if_neg h1]
            exact .cons rfl h (ih t)
    exact this r
  · have : ∀ {kvs : List (Key × V)} {pd : Tb}, RDk K pr H kvs pd → RDk K pr H (kvs ++ [(a, v)]) (pd ++ [(keyD a, d)]) := by
      intro kvs pd r
      induction kvs generalizing pd with
      | nil => cases r; exact .cons rfl hv .nil
      | cons p kvs ih => cases r with | cons e h t => exact .cons e h (ih t)
    exact this r
theorem rdt_put {a : List Key} {v : V} {d : PyData} {kvs : List (List Key × V)} {pd : Tb} (r : RDt K pr H kvs pd) (hv : RD K pr H v d) : RDt K pr H (putK kvs a v) (putD (.t a) (keysD a) d pd) := by
  unfold putK putD
  rw [rdt_any a r]
  split
  · have : ∀ {kvs : List (List Key × V)} {pd : Tb}, RDt K pr H kvs pd → RDt K pr H (kvs.map fun kv => if kv.1 = a then (kv.1, v) else kv) (pd.map fun p => if kEq (.t a) p.1 = true then (p.1, d) else p) := by
      intro kvs pd r
      induction kvs generalizing pd with
      | nil => cases r; exact .nil
      | cons p kvs ih =>
        cases r with
        | @cons k v' _ x d' pd e h t =>
          subst e
          rw [List.map_cons, List.map_cons]
          by_cases hk : k = a
          · have h1 : kEq (.t a) (keysD k) = true := by rw [kEq_t]; exact decide_eq_true hk
            rw [if_pos hk, if_pos h1]
            exact .cons rfl hv (ih t)
          · have h1 : ¬ kEq (.t a) (keysD k) = true := by rw [kEq_t, decide_eq_false hk]; exact Bool.false_ne_true
            rw [if_neg hk, if_neg h1]
            exact .cons rfl h (ih t)
    exact this r
  · have : ∀ {kvs : List (List Key × V)} {pd : Tb}, RDt K pr H kvs pd → RDt K pr H (kvs ++ [(a, v)]) (pd ++ [(keysD a, d)]) := by
      intro kvs pd r
      induction kvs generalizing pd with
      | nil => cases r; exact .cons rfl hv .nil
      | cons p kvs ih => cases r with | cons e h t => exact .cons e h (ih t)
    exact this r
theorem rdk_len : ∀ {kvs : List (Key × V)} {pd : Tb}, RDk K pr H kvs pd → kvs.length = pd.length
  | _, _, .nil => rfl
  | _, _, .cons _ _ t => by rw [List.length_cons, List.length_cons, rdk_len t]
theorem rdt_len : ∀ {kvs : List (List Key × V)} {pd : Tb}, RDt K pr H kvs pd → kvs.length = pd.length
  | _, _, .nil => rfl
  | _, _, .cons _ _ t => by rw [List.length_cons, List.length_cons, rdt_len t]
theorem dct_put {a : Addr} {u : HO} {pd : Tb} {x v : V} {y d : PyData} {k : DKey} (hu : H a = some u) (hd : DctAt K pr H u pd) (hx : KeyV H x k) (hy : dKey y = some k) (ok : kOk k pd = true) (hl : pd.length < sizeLine) (hv : RD K pr H v d) :
    ∃ u', DPutE H a x v (upd H a u') ∧ DctAt K pr H u' (putD k y d pd) := by
  cases u with
  | dK kvs =>
    have hd : RDk K pr H kvs pd := hd
    cases k with
    | k a' =>
      cases hx
      rw [dKey_enc hy]
      exact ⟨_, .inl (.k hu (by rw [rdk_len hd]; exact hl)), rdk_put hd hv⟩
    | t ks =>
      obtain ⟨rfl, rfl⟩ := rdk_kind hd ok
      obtain ⟨b, hb, eb⟩ := hx
      rw [dKey_enc hy]
      exact ⟨.dT [(ks, v)], .inr (.inl ⟨hu, b, ks, hb, eb, rfl⟩), .cons rfl hv .nil⟩
  | dT kvs =>
    have hd : RDt K pr H kvs pd := hd
    cases k with
    | k a' =>
      obtain ⟨rfl, rfl⟩ := rdt_kind hd ok
      rw [dKey_enc hy]
      exact ⟨.dK [(a', v)], .inr (.inr ⟨hu, a', hx, rfl⟩), .cons rfl hv .nil⟩
    | t ks =>
      obtain ⟨b, rfl, eb⟩ := hx
      rw [dKey_enc hy]
      exact ⟨_, .inl (.t hu eb (by rw [rdt_len hd]; exact hl)), rdt_put hd hv⟩
  | _ => exact hd.elim
end
section
variable {X : Cx}
theorem len_dt {pins : List (Addr × Obj)} {σ : L2.St} {H : Hp} {s : Shared} {a : Addr} {A : Around} {E : Value → Shared → Prop} {Q : Value → Shared → Prop} {kvs : List (List Key × V)} (I : L2.Inv X pins σ H s) (e : Rd H a (.dT kvs)) (h : ∀ t s', L2.Inv X pins σ H s' → Q (.int kvs.length t) s') :
    wpAny (model X.prog X.w) A (call (.builtin "len") [.ref a]) Q E s := by
  obtain ⟨z, hd, xs, rel, dd⟩ := dt_rd I.hok e
  have hm : s.heap.DictKeyed (tupleKind (mixKind X.prog X.w)) a (pairsH xs) := ⟨xs, dd, rfl⟩
  have hl : (pairsH xs).length = kvs.length := by rw [pairsH_length]; exact (Paired.length rel).symm
  refine PyProof.Rows.call_len_slot (n := (pairsH xs).length) hm.typeIs PySem.F.slot_dict_len (fun Q' hq => len_keyed hd hm hq) (by omega) (by rw [hl]; rw [sizeLine_eq] at z; omega) ?_
  rw [hl]
  exact h _ _ (I.tok _)
def rLenD : List V → Hp → VK → Prop := fun xs H Q => ∃ (a : Addr) (n : Nat), xs = [V.ref a] ∧ ((∃ kvs, Rd H a (.dK kvs) ∧ kvs.length = n) ∨ ∃ kvs, Rd H a (.dT kvs) ∧ kvs.length = n) ∧ Q (.int n) H
theorem call_lenDct : CallR X (.builtin "len") rLenD := by
  intro pins s σ H xs us Q I r h
  obtain ⟨a, n, rfl, ha, q⟩ := h
  obtain ⟨u, rfl, ru⟩ := vals1 r
  cases ru
  rcases ha with ⟨kvs, e, rfl⟩ | ⟨kvs, e, rfl⟩
  · exact d_len I e fun t s' I' => ⟨.int kvs.length, H, I', ⟨t, rfl⟩, q⟩
  · exact len_dt I e fun t s' I' => ⟨.int kvs.length, H, I', ⟨t, rfl⟩, q⟩
theorem dct_len {K : PySem.W.Frag} {pr : Addr → Prop} {H : Hp} {a : Addr} {u : HO} {pd : Tb} (hu : Rd H a u) (hd : DctAt K pr H u pd) : (∃ kvs, Rd H a (.dK kvs) ∧ kvs.length = pd.length) ∨ ∃ kvs, Rd H a (.dT kvs) ∧ kvs.length = pd.length := by
  cases u with
  | dK kvs => exact .inl ⟨kvs, hu, rdk_len hd⟩
  | dT kvs => exact .inr ⟨kvs, hu, rdt_len hd⟩
  | _ => exact hd.elim
end
end Ev

set_option maxRecDepth 100000
/-! Ev4: builtins by values, over data. -/
namespace Ev
open PySem L2 PySem.W PyProof.Rows PySem.SeqAt

mutual
theorem alike_plain : ∀ d : PyData, alike d d = true → d.plain = true
  | .none, _ => rfl
  | .bool _, _ => rfl
  | .int _, _ => rfl
  | .str _, _ => rfl
  | .list xs, h => by rw [PyData.plain]; exact alikes_plain xs (by simpa [alike] using h)
  | .tuple xs, h => by rw [PyData.plain]; exact alikes_plain xs (by simpa [alike] using h)
  | .dict _, h => by simp [alike] at h
theorem alikes_plain : ∀ d : List PyData, alikeAll d d = true → PyData.plainAll d = true
  | [], _ => rfl
  | x :: xs, h => by
    have h' := alike_all_cons h
    rw [PyData.plainAll, alike_plain x h'.1, alikes_plain xs h'.2]; rfl
end
/-- iter over a tuple, collected -/
theorem collect_tuple {prog : Program} {w : World} {A : Around} {E : Value → Shared → Prop} {s : Shared} {l : Addr} {vs : List Value} {Q : List Value → Shared → Prop} (hl : s.heap.IsTuple l vs.toArray)
    (h : Q vs { s with heap := (s.heap.push (seqObj "list" #[] 0)).update s.heap.objs.size (Obj.mapSeq (· ++ vs.toArray)) }) (hsz : vs.length ≤ sizeLine) :
    wpAny (model prog w) A (collect (.ref l)) Q E s := by
  obtain ⟨o, ho, hc, n, hd⟩ := id hl
  unfold collect
  refine wpAny_bind (wpAny_runValue (codeAny_builtin entry_proto_collect' ?_))
  show wpAny _ _ (do again (.builtin "list.__iadd__" ⟨[← newList [], .ref l], []⟩)) _ _ s
  refine wpAny_bind (wpAny_newList (wpAny_pure ⟨Code.quiet_builtin _ (by decide +kernel), codeAny_builtin entry_list_iadd' ?_⟩))
  show wpAny _ _ (Builtin.List.listExtendWith (.ref s.heap.objs.size) (.ref l) (.ref s.heap.objs.size)) _ _ { s with heap := s.heap.push (seqObj "list" #[] 0) }
  unfold Builtin.List.listExtendWith
  have ho' : (s.heap.push (seqObj "list" #[] 0)).get? l = some o := Heap.get?_push_of_some _ ho
  refine wpAny_bind (wpAny_typeOf (T := "tuple") ⟨o, ho', hc⟩ ?_)
  have ht : (Value.type "tuple" == Value.type "tuple") = true := by rfl
  rw [if_pos (by rw [ht]; simp)]
  refine wpAny_bind (listItems_at ho' hd ?_)
  refine wpAny_bind (listItems_at (xs := #[]) (n := 0) (Heap.get?_push_size _ rfl) rfl ?_)
  rw [if_neg (by simp)]
  refine wpAny_bind (listUpdate_at (xs := #[]) (n := 0) (Heap.get?_push_size _ rfl) rfl ?_ (Nat.zero_le _) (by show (#[] ++ vs.toArray).size ≤ sizeLine + 1; simp only [Array.size_append, List.size_toArray, List.length_nil]; omega))
  refine wpAny_pure ?_
  show wpAny (model prog w) A (do
      let o ← load s.heap.objs.size
      match o.data with
      | .seq xs _ => pure xs.toList
      | _ => unsupported "internal:collect") Q E { s with heap := (s.heap.push (seqObj "list" #[] 0)).update s.heap.objs.size (Obj.mapSeq (· ++ vs.toArray)) }
  refine wpAny_bind (wpAny_load (get?_update_seq (Heap.get?_push_size _ rfl) _) ?_)
  show wpAny _ _ (pure ((#[] : Array Value) ++ vs.toArray).toList) Q E _
  rw [show ((#[] : Array Value) ++ vs.toArray).toList = vs by simp]
  exact wpAny_pure h
theorem sorted_of_sortT {prog : Program} {w : World} {A : Around} {E : Value → Shared → Prop} {s : Shared} {l : Addr} {vs : List Value} {kw : List (Str × Value)} {Q : Value → Shared → Prop} (hl : s.heap.IsTuple l vs.toArray) (hL : vs.length ≤ sizeLine) (ha1 : argsOk "sorted" ⟨[.ref l], kw⟩) (ha2 : ∀ x, argsOk "list.sort" ⟨[.ref x], kw⟩)
    (body : ∀ E' : Value → Shared → Prop, wpAny (model prog w) A.in1.in1 (Builtin.«list.sort» ⟨[.ref (s.heap.objs.size + 1)], kw⟩) (fun f s' => f = .done (.ret .none) ∧ Q (.ref (s.heap.objs.size + 1)) s') E' { s with heap := copyHeap s.heap vs }) :
    wpAny (model prog w) A (call (.builtin "sorted") [.ref l] kw) Q E s := by
  refine call_function_entry_kw kind_sorted plain_sorted entry_sorted ha1 ?_
  unfold Builtin.«sorted»
  refine wpAny_bind (m := checkCount "sorted" 1 1 _) (wpAny_pure ?_)
  refine wpAny_bind (collect_tuple hl ?_ hL)
  refine wpAny_bind (wpAny_newList ?_ hL)
  have hsz : ((s.heap.push (seqObj "list" #[] 0)).update s.heap.objs.size (Obj.mapSeq (· ++ vs.toArray))).objs.size = s.heap.objs.size + 1 := by
    rw [Heap.size_update, size_push']
  show wpAny _ _ _ _ _ { s with heap := copyHeap s.heap vs }
  rw [hsz]
  refine wpAny_bind (wpAny_holding (wpAny_call_entry_kw slot_list_sort ⟨_, copyHeap_at s.heap vs, rfl⟩ entry_list_sort ?body (ha2 _)))
  case body =>
    show wpAny (model prog w) A.in1.in1 (Builtin.«list.sort» ⟨[.ref (s.heap.objs.size + 1)], kw⟩) _ _ _
    refine wpAny_mono (body _) (fun f s' hf => ?_) fun _ _ e => e
    obtain ⟨rfl, hq⟩ := hf
    exact ⟨_, rfl, wpAny_pure ⟨_, rfl, hq⟩⟩
theorem sorted_dataT {prog : Program} {w : World} {A : Around} {E : Value → Shared → Prop} {s : Shared} {β : Type} {vs : List Value} {bs : List β} {enc : β → PyData} {R : Value → β → Prop} {l : Addr} {Q : Value → Shared → Prop} (hl : s.heap.IsTuple l vs.toArray) (e : EachIs R vs bs) (er : EachIs (fun v b => ∃ as, Reads s.heap v (enc b) as) vs bs) (hal : AllAlike (bs.map enc)) (hk : Sortable (bs.map enc)) (hL : bs.length ≤ sizeLine)
    (hu : ∀ b, b ∈ bs → A.units + 2 + (enc b).depth < cLine) (h : ∀ out, out.length = bs.length → EachIs R out (bs.mergeSort (dataLe false enc)) → Q (.ref (s.heap.objs.size + 1)) { s with heap := sortedAll s.heap vs (List.toArray out) }) :
    wpAny (model prog w) A (call (.builtin "sorted") [.ref l]) Q E s := by
  have er' : EachIs (fun v b => ∃ as, Reads (sortingHeap (copyHeap s.heap vs) (s.heap.objs.size + 1) vs) v (enc b) as) vs bs := er.mono fun _ _ ⟨as, r⟩ => ⟨as, PyProof.Rows.Reads.keeps (fun _ _ => sorting_copy_old) r⟩
  refine sorted_of_sortT hl (by rw [e.length]; exact hL) (args_sorted1 _) (fun _ => args_list_sort _) fun _ => list_sort_vals (s := { s with heap := copyHeap s.heap vs }) (copyHeap_at s.heap vs)
    (SortsAt.data (s := { s with heap := sortingHeap (copyHeap s.heap vs) (s.heap.objs.size + 1) vs }) (each_map (R := fun v d => ∃ as, Reads (sortingHeap (copyHeap s.heap vs) (s.heap.objs.size + 1) vs) v d as) enc er') hal hk (bound_map hu)) (by rw [e.length]; exact hL) ⟨rfl, ?_⟩
  exact h _ (by rw [sortVals_length false rfl]; exact e.length) (sortVals_data false e er' hal)

section
variable {X : Cx} {pins : List (Addr × Obj)} {σ : L2.St} {H : Hp} {s : Shared} {pr : Addr → Prop}
/-- a list or a tuple that is read -/
def RSeq (K : PySem.W.Frag) (pr : Addr → Prop) (H : Hp) (v : V) (ds : List PyData) : Prop := RT K pr H v (.list ds) ∨ RT K pr H v (.tuple ds)
theorem itemsD_seq {K : PySem.W.Frag} {v : V} {x : PyData} {ds : List PyData} (h : RT K pr H v x) (e : itemsD x = some ds) : RSeq K pr H v ds := by
  cases x with
  | list xs => cases e; exact .inl h
  | tuple xs => cases e; exact .inr h
  | _ => cases e
theorem seq_reads (I : L2.Inv X pins σ H s) {v : V} {u : Value} {ds : List PyData} (h : RSeq X.K pr H v ds) (r : RelV v u) (fl : flatDs ds = true) : ∃ (a : Addr) (xs : List V) (its : List Value) (as : List Addr), u = .ref a ∧ RDs X.K pr H xs ds ∧ Vals xs its ∧ ReadsAll s.heap its ds as ∧ xs.length ≤ sizeLine ∧
    (s.heap.IsList a its.toArray ∨ s.heap.IsTuple a its.toArray) := by
  rcases h with ⟨a, xs, rfl, h, r1⟩ | ⟨a, xs, rfl, h, r1⟩
  · obtain ⟨its, rv, pl, z⟩ := I.list h
    obtain ⟨as, ra⟩ := Dp.readsAll I ds xs its (r1.dp fl) rv
    exact ⟨a, xs, its, as, r, r1, rv, ra, z, .inl pl.isList⟩
  · obtain ⟨its, rv, pl, z⟩ := I.tuple (.inl (.inl h))
    obtain ⟨as, ra⟩ := Dp.readsAll I ds xs its (r1.dp fl) rv
    exact ⟨a, xs, its, as, r, r1, rv, ra, z, .inr pl⟩
theorem vals_get' : ∀ {xs : List V} {us : List Value} {i : Nat} {u : Value}, Vals xs us → us[i]? = some u → ∃ x, xs[i]? = some x ∧ RelV x u
  | _, _, _, _, .nil, e => by simp at e
  | _, _, 0, _, .cons r _, e => by simp at e; subst e; exact ⟨_, rfl, r⟩
  | _, _, i + 1, u, .cons _ t, e => by
    obtain ⟨x, h1, h2⟩ := vals_get' (i := i) (u := u) t (by simpa using e)
    exact ⟨x, by simpa using h1, h2⟩
theorem pick_data (I : L2.Inv X pins σ H s) {xs : List V} {its : List Value} {ds : List PyData} {bs : List Addr} {i : Nat} {v : Value} {m : PyData} {h' : Heap} (rv : Vals xs its) (r : RDs X.K pr H xs ds)
    (pl : ∀ d ∈ ds, d.plain = true) (hv : its[i]? = some v) (hr : Reads h' v m bs) (hk : ∀ b o, s.heap.get? b = some o → h'.get? b = some o) : ∃ y, RelV y v ∧ RD X.K pr H y m := by
  obtain ⟨y, hy, ry⟩ := vals_get' rv hv
  obtain ⟨d, hd, rd⟩ := r.get' hy
  obtain ⟨cs, rr⟩ := Dp.reads I d y v (rd.dp (plain_flat _ (pl d (List.mem_of_getElem? hd)))) ry
  have e := plain_unique d m v cs bs (pl d (List.mem_of_getElem? hd)) (PyProof.Rows.Reads.keeps hk rr) hr
  subst e
  exact ⟨y, ry, rd⟩
theorem depthAll_le : ∀ {ds : List PyData} {n : Nat}, (∀ d ∈ ds, d.depth ≤ n) → PyData.depthAll ds ≤ n
  | [], _, _ => Nat.zero_le _
  | d :: ds, n, h => by
    rw [PyData.depthAll]
    exact Nat.max_le.mpr ⟨h d List.mem_cons_self, depthAll_le fun e he => h e (List.mem_cons_of_mem _ he)⟩
theorem alikeAllB_spec {ds : List PyData} (h : alikeAllB ds = true) : AlikeAll ds ∧ AllAlike ds ∧ (∀ d ∈ ds, d.plain = true) ∧ (∀ d ∈ ds, d.depth ≤ 60) := by
  unfold alikeAllB at h
  simp only [Bool.and_eq_true, List.all_eq_true, decide_eq_true_eq, Bool.not_eq_true'] at h
  obtain ⟨h1, h2⟩ := h
  refine ⟨⟨fun x hx y hy => h1 x hx y hy, fun x hx e => ?_⟩, fun x hx y hy => h1 x hx y hy, fun d hd => alike_plain d (h1 d hd d hd), fun d hd => (h2 d hd).2⟩
  have := (h2 x hx).1
  rw [e] at this
  simp [isNone] at this
theorem flats_of : ∀ {ds : List PyData}, (∀ d ∈ ds, d.plain = true) → flatDs ds = true
  | [], _ => rfl
  | d :: ds, h => by rw [flatDs, plain_flat d (h d List.mem_cons_self), flats_of fun e he => h e (List.mem_cons_of_mem _ he)]; rfl
theorem flats_ints : ∀ ns : List Int, flatDs (ns.map PyData.int) = true
  | [] => rfl
  | n :: ns => by rw [List.map_cons, flatDs, flats_ints ns]; rfl
theorem call_maxD (hc : X.calm = true) (hu : X.A.units + 70 < cLine) : CallR X (.builtin "max") (fun vs H Q => ∃ pr x y ds, vs = [x] ∧ RSeq X.K pr H x (y :: ds) ∧ alikeAllB (y :: ds) = true ∧ ∀ v, RD X.K pr H v (maxD y ds) → Q v H) := by
  intro pins s σ H vs us Q I r h
  obtain ⟨pr, x, y, ds, rfl, hs, ha, q⟩ := h
  obtain ⟨u, rfl, rx⟩ := vals1 r
  obtain ⟨a, xs, its, as, rfl, r1, rv, ra, z, hl⟩ := seq_reads I hs rx (flats_of (alikeAllB_spec ha).2.2.1)
  obtain ⟨a1, a2, a3, a4⟩ := alikeAllB_spec ha
  have hd := depthAll_le a4
  have fin : ∀ (i : Nat) (v : Value) (h' : Heap) (tk : Nat) (bs : List Addr), its.toArray[i]? = some v → Reads h' v (maxD y ds) bs → (∀ b o, s.heap.get? b = some o → h'.get? b = some o) → EP X pins σ Q v { s with heap := h', toks := tk } := fun i v h' tk bs hv hr hk => by
    obtain ⟨w, rw', rd⟩ := pick_data I rv r1 a3 (by simpa using hv) hr hk
    exact ⟨w, H, I.kept hk, rw', q w rd⟩
  rcases hl with hl | hl
  · exact max_list_data (I.ok.hd hc) hl ra a1 (by omega) fin
  · exact max_tuple_data (I.ok.hd hc) hl ra a1 (by omega) fin
theorem call_minD (hc : X.calm = true) (hu : X.A.units + 70 < cLine) : CallR X (.builtin "min") (fun vs H Q => ∃ pr x y ds, vs = [x] ∧ RSeq X.K pr H x (y :: ds) ∧ alikeAllB (y :: ds) = true ∧ ∀ v, RD X.K pr H v (minD y ds) → Q v H) := by
  intro pins s σ H vs us Q I r h
  obtain ⟨pr, x, y, ds, rfl, hs, ha, q⟩ := h
  obtain ⟨u, rfl, rx⟩ := vals1 r
  obtain ⟨a, xs, its, as, rfl, r1, rv, ra, z, hl⟩ := seq_reads I hs rx (flats_of (alikeAllB_spec ha).2.2.1)
  obtain ⟨a1, a2, a3, a4⟩ := alikeAllB_spec ha
  have hd := depthAll_le a4
  have fin : ∀ (i : Nat) (v : Value) (h' : Heap) (tk : Nat) (bs : List Addr), its.toArray[i]? = some v → Reads h' v (minD y ds) bs → (∀ b o, s.heap.get? b = some o → h'.get? b = some o) → EP X pins σ Q v { s with heap := h', toks := tk } := fun i v h' tk bs hv hr hk => by
    obtain ⟨w, rw', rd⟩ := pick_data I rv r1 a3 (by simpa using hv) hr hk
    exact ⟨w, H, I.kept hk, rw', q w rd⟩
  rcases hl with hl | hl
  · exact min_list_data (I.ok.hd hc) hl ra a1 (by omega) fin
  · exact min_tuple_data (I.ok.hd hc) hl ra a1 (by omega) fin
theorem sortableB_spec {ds : List PyData} (h : sortableB ds = true) : Sortable ds := by
  unfold sortableB at h
  simp only [Bool.or_eq_true, List.all_eq_true] at h
  rcases h with h | h
  · refine .inl fun d hd => ?_
    have := h d hd
    split at this
    · exact ⟨_, _, rfl⟩
    · cases this
  · refine .inr fun d hd => ?_
    have := h d hd
    constructor
    · rintro rfl; cases this
    · rintro xs rfl; cases this
theorem rds_each : ∀ {xs : List V} {its : List Value} {ds : List PyData}, Vals xs its → RDs X.K pr H xs ds → EachIs (fun v d => ∃ x, RelV x v ∧ RD X.K pr H x d) its ds
  | _, _, _, .nil, .nil => .nil
  | _, _, _, .cons r rv, .cons h hs => .cons ⟨_, r, h⟩ (rds_each rv hs)
theorem each_rds : ∀ {its : List Value} {ds : List PyData}, EachIs (fun v d => ∃ x, RelV x v ∧ RD X.K pr H x d) its ds → ∃ xs, Vals xs its ∧ RDs X.K pr H xs ds
  | _, _, .nil => ⟨[], .nil, .nil⟩
  | _, _, .cons ⟨x, r, h⟩ t => by
    obtain ⟨xs, rv, hs⟩ := each_rds t
    exact ⟨x :: xs, .cons r rv, .cons h hs⟩
theorem rds_eachF : ∀ {xs : List V} {its : List Value} {ds : List PyData}, Vals xs its → RDs X.K pr H xs ds → flatDs ds = true → EachIs (fun v d => ∃ x, RelV x v ∧ RD X.K pr H x d ∧ flatD d = true) its ds
  | _, _, _, .nil, .nil, _ => .nil
  | _, _, _, .cons r rv, .cons h hs, f => by
    rw [flatDs, Bool.and_eq_true] at f
    exact .cons ⟨_, r, h, f.1⟩ (rds_eachF rv hs f.2)
theorem call_sortedD (hu : X.A.units + 70 < cLine) : CallR X (.builtin "sorted") (fun vs H Q => ∃ pr x ds, vs = [x] ∧ RSeq X.K pr H x ds ∧ alikeAllB ds = true ∧ sortableB ds = true ∧ ∀ p ws, RDs X.K pr H ws (ds.mergeSort (dataLe false id)) → H p = none → Q (.ref p) (upd H p (.lst ws))) := by
  intro pins s σ H vs us Q I r h
  obtain ⟨pr, x, ds, rfl, hs, ha, hk, q⟩ := h
  obtain ⟨u, rfl, rx⟩ := vals1 r
  obtain ⟨a, xs, its, as, rfl, r1, rv, ra, z, hl⟩ := seq_reads I hs rx (flats_of (alikeAllB_spec ha).2.2.1)
  obtain ⟨a1, a2, a3, a4⟩ := alikeAllB_spec ha
  have e := rds_each (X := X) rv r1
  have er : EachIs (fun v (d : PyData) => ∃ as, Reads s.heap v (id d) as) its ds := (rds_eachF (X := X) rv r1 (flats_of a3)).mono fun v d ⟨y, ry, rd, f⟩ => Dp.reads I d y v (rd.dp f) ry
  have hz : ds.length ≤ sizeLine := by rw [← r1.length]; exact z
  have fin : ∀ out : List Value, out.length = ds.length → EachIs (fun v d => ∃ x, RelV x v ∧ RD X.K pr H x d) out (ds.mergeSort (dataLe false id)) → EP X pins σ Q (.ref (s.heap.objs.size + 1)) { s with heap := sortedAll s.heap its (List.toArray out) } := fun out hl ho => by
    obtain ⟨ws, rw', hws⟩ := each_rds ho
    obtain ⟨ep, he'⟩ := PyProof.Rows.sortedAll_at s.heap its out.toArray
    have hlen : ws.length ≤ sizeLine := by rw [rw'.length, hl]; exact hz
    exact ⟨.ref _, upd H (s.heap.objs.size + 1) (.lst ws), I.laid (t' := s.toks) (fun _ _ => PyProof.Rows.sortedAll_old) (Nat.le_succ _) ⟨hlen, out, ep, rw', he'⟩, rfl, q _ _ hws (I.hok.fresh (Nat.le_succ _))⟩
  rcases hl with hl | hl
  · exact sorted_data hl e er (by rw [List.map_id]; exact a2) (by rw [List.map_id]; exact sortableB_spec hk) hz (fun b hb => by have := a4 b hb; show _ + b.depth < _; omega) fin
  · exact sorted_dataT hl e er (by rw [List.map_id]; exact a2) (by rw [List.map_id]; exact sortableB_spec hk) hz (fun b hb => by have := a4 b hb; show _ + b.depth < _; omega) fin
theorem sum_tup_raw {prog : Program} {w : World} {A : Around} {E : Value → Shared → Prop} {s : Shared} {l : Addr} {its : List Value} {ns : List Int} {Q : Value → Shared → Prop} (hh : A.handled = none) (hl : s.heap.IsTuple l its.toArray) (hi : IntsAre its ns)
    (h : ∀ h' tk t', (∀ b o, s.heap.get? b = some o → h'.get? b = some o) → Q (.int ns.sum t') { s with heap := h', toks := tk }) : wpAny (model prog w) A (call (.builtin "sum") [.ref l]) Q E s := by
  obtain ⟨xs, e⟩ := hi.allInts.items
  have hn : numsOf (intItems xs).toList = ns := by rw [← e]; exact hi.numsOf
  rw [nums_intItems] at hn
  rw [e] at hl
  have hlt : l < s.heap.objs.size := by obtain ⟨_, e, _⟩ := hl; exact Heap.lt_size e
  refine call_sum_walkG (wpAny_pyIter_tuple hl ?_)
  refine ⟨s.heap.objs.size, [s.heap.objs.size, l], [s.heap.objs.size], _, _, _, numAt xs, rfl, Walks.tuple (A := A.in1) hh _ l (Nat.ne_of_lt hlt) (intItems xs), ⟨⟨_, Heap.get?_push_size _ rfl, rfl, rfl⟩, hl.push _⟩, fun b hb => ?_, (fun _ _ => intItems_at), fun h' tk t' hk => ?_⟩
  · show b < (s.heap.push _).objs.size
    rw [Heap.size_push]
    rcases List.mem_cons.mp hb with rfl | hb
    · exact Nat.lt_succ_self _
    · rcases List.mem_cons.mp hb with rfl | hb
      · exact Nat.lt_succ_of_lt hlt
      · cases hb
  · have := h h' tk t' fun b o e => hk b o (fun hb => absurd (Heap.lt_size e) ((List.mem_singleton.mp hb) ▸ Nat.lt_irrefl _)) (Heap.get?_push_of_some _ e)
    rw [preSum_eq, List.take_of_length_le (by simp [intItems]), hn]; exact this
theorem call_sumD (hc : X.calm = true) : CallR X (.builtin "sum") (fun vs H Q => ∃ pr x, ∃ ns : List Int, vs = [x] ∧ RSeq X.K pr H x (ns.map PyData.int) ∧ Q (.int ns.sum) H) := by
  intro pins s σ H vs us Q I r h
  obtain ⟨pr, x, ns, rfl, hs, q⟩ := h
  obtain ⟨u, rfl, rx⟩ := vals1 r
  obtain ⟨a, xs, its, as, rfl, r1, rv, ra, z, hl⟩ := seq_reads I hs rx (flats_ints ns)
  have e := r1.to_ints
  subst e
  rcases hl with hl | hl
  · exact sum_raw (I.ok.hd hc) hl rv.ints fun h' tk t' hk => ⟨.int _, H, I.kept hk, ⟨_, rfl⟩, q⟩
  · exact sum_tup_raw (I.ok.hd hc) hl rv.ints fun h' tk t' hk => ⟨.int _, H, I.kept hk, ⟨_, rfl⟩, q⟩
theorem call_isaD : CallR X (.builtin "isinstance") (fun vs H Q => ∃ x n d b, vs = [x, .ty n] ∧ RD X.K nopr H x d ∧ flatD d = true ∧ isaD n d = some b ∧ Q (.bl b) H) := by
  intro pins s σ H vs us Q I r h
  obtain ⟨x, n, d, b, rfl, hs, hf, hb, q⟩ := h
  obtain ⟨u, u2, rfl, rx, ry⟩ : ∃ u u2, us = [u, u2] ∧ RelV x u ∧ RelV (.ty n) u2 := by
    cases r with
    | cons r1 r2 =>
      cases r2 with
      | cons r2 r3 => cases r3; exact ⟨_, _, rfl, r1, r2⟩
  cases ry
  obtain ⟨as, rr⟩ := Dp.reads I d x u (hs.dp hf) rx
  unfold isaD at hb
  split at hb
  · rename_i e; cases hb; subst e; exact isinstance_int_data rr fun tk _ => ⟨.bl _, H, I.tok tk, rfl, q⟩
  split at hb
  · rename_i e; cases hb; subst e; exact isinstance_bool_data rr fun tk _ => ⟨.bl _, H, I.tok tk, rfl, q⟩
  split at hb
  · rename_i e; cases hb; subst e; exact isinstance_str_data rr fun tk _ => ⟨.bl _, H, I.tok tk, rfl, q⟩
  split at hb
  · rename_i e; cases hb; subst e; exact isinstance_tuple_data rr fun tk _ => ⟨.bl _, H, I.tok tk, rfl, q⟩
  split at hb
  · rename_i e; cases hb; subst e; exact isinstance_list_data rr fun tk _ => ⟨.bl _, H, I.tok tk, rfl, q⟩
  split at hb
  · rename_i e; cases hb; subst e; exact isinstance_dict_data rr fun tk _ => ⟨.bl _, H, I.tok tk, rfl, q⟩
  · cases hb
end
end Ev

set_option maxRecDepth 100000
/-! Ev4d: sorted of a dict. -/
namespace Ev
open PySem L2 PySem.W PyProof.Rows PySem.SeqAt PySem.Spec
/-- sorted over a dict, by its entries -/
theorem sorted_raw {prog : Program} {w : World} {A : Around} {E : Value → Shared → Prop} {s : Shared} {d : Addr} {es : Array DictEntry} {ep : Nat} {bs : List PyData} {R : Value → PyData → Prop} {Q : Value → Shared → Prop} (hh : A.in1.handled = none) (lo : (d == sysModules) = false) (hr : s.heap.DictRaw d es ep)
    (e : EachIs R (es.toList.map (·.key)) bs) (er : EachIs (fun v b => ∃ as, Reads s.heap v b as) (es.toList.map (·.key)) bs) (hal : AllAlike bs) (hk : Sortable bs) (hL : bs.length ≤ sizeLine) (hu : ∀ b, b ∈ bs → A.units + 2 + b.depth < cLine)
    (h : ∀ (h0 h' : Heap) tk (out : List Value) (p : Addr) (n : Nat), (∀ b o, s.heap.get? b = some o → h0.get? b = some o) → (∀ b o, h0.get? b = some o → h'.get? b = some o) → h0.objs.size ≤ p → h'.get? p = some (seqObj "list" out.toArray n) → out.length = bs.length → EachIs R out (bs.mergeSort (dataLe false id)) → Q (.ref p) { s with heap := h', toks := tk }) :
    wpAny (model prog w) A (call (.builtin "sorted") [.ref d]) Q E s := by
  refine Calls.call_function_entry kind_sorted plain_sorted entry_sorted (args_sorted1 _) ?_
  unfold Builtin.«sorted»
  refine wpAny_bind (m := checkCount "sorted" 1 1 _) (wpAny_pure ?_)
  have hz : es.size ≤ sizeLine := by
    have := e.length
    rw [List.length_map, Array.length_toList] at this
    omega
  refine wpAny_bind (PySem.W.kdu_collect (A := A.in1) (PySem.KdlSrc.rawDict (es := es) (ep := ep) lo) hh hr hz fun h' tk acc hk' hacc => ?_)
  have ea : acc.toList = es.toList.map (·.key) := by
    apply List.ext_getElem?
    intro i
    by_cases hi : i < es.size
    · have h1 : i < acc.size := by rw [hacc.1]; exact hi
      have h2 := hacc.2 i acc[i] (by rw [Array.getElem?_eq_getElem h1])
      obtain ⟨_, h3⟩ := h2
      rw [Array.getElem?_toList, Array.getElem?_eq_getElem h1, h3, List.getElem?_map, Array.getElem?_toList, Array.getElem?_eq_getElem hi]
      rfl
    · rw [List.getElem?_eq_none (by rw [Array.length_toList, hacc.1]; omega), List.getElem?_eq_none (by rw [List.length_map, Array.length_toList]; omega)]
  have hvl : acc.toList.length ≤ sizeLine := by rw [Array.length_toList, hacc.1]; exact hz
  rw [← ea] at e er
  refine wpAny_bind (wpAny_newList ?_ hvl)
  have hoL : (h'.push (seqObj "list" acc.toList.toArray 0)).get? h'.objs.size = some (seqObj "list" acc.toList.toArray 0) := Heap.get?_push_size _ rfl
  show wpAny _ _ _ _ _ { s with heap := h'.push (seqObj "list" acc.toList.toArray 0), toks := tk }
  have old : ∀ b o, s.heap.get? b = some o → (sortingHeap (h'.push (seqObj "list" acc.toList.toArray 0)) h'.objs.size acc.toList).get? b = some o := fun b o q => by
    have q' := hk' b o q
    exact sortingHeap_old (Nat.ne_of_lt (Heap.lt_size q')) (Heap.get?_push_of_some _ q')
  have er' : EachIs (fun v b => ∃ as, Reads (sortingHeap (h'.push (seqObj "list" acc.toList.toArray 0)) h'.objs.size acc.toList) v b as) acc.toList bs := er.mono fun _ _ ⟨as, r⟩ => ⟨as, PyProof.Rows.Reads.keeps (fun b o => old b o) r⟩
  refine wpAny_bind (wpAny_holding (wpAny_call_entry slot_list_sort ⟨_, hoL, rfl⟩ entry_list_sort (list_sort_vals (s := { s with heap := h'.push (seqObj "list" acc.toList.toArray 0), toks := tk }) hoL
    (SortsAt.data (s := { s with heap := sortingHeap (h'.push (seqObj "list" acc.toList.toArray 0)) h'.objs.size acc.toList, toks := tk }) er' hal hk hu) hvl ⟨_, rfl, ?_⟩) (args_list_sort _)))
  obtain ⟨e', he'⟩ := sortedHeap_at (vs := acc.toList) (out := (sortVals (dataKind (sortingHeap (h'.push (seqObj "list" acc.toList.toArray 0)) h'.objs.size acc.toList) bs) false acc.toList acc.toList).toArray) hoL
  refine wpAny_pure ⟨_, rfl, h h' _ _ _ _ _ hk' (fun b o q => ?_) (Nat.le_refl _) he' ?_ ?_⟩
  · have hb := Heap.lt_size q
    rw [sortedHeap_old (Nat.ne_of_lt hb) (by rw [size_push']; exact Nat.lt_succ_of_lt hb)]
    exact Heap.get?_push_of_some _ q
  · rw [sortVals_length false rfl]; exact e.length
  · have := sortVals_data (enc := id) (h' := sortingHeap (h'.push (seqObj "list" acc.toList.toArray 0)) h'.objs.size acc.toList) false e er' (by rw [List.map_id]; exact hal)
    rw [List.map_id] at this
    exact this
section
variable {X : Cx} {pins : List (Addr × Obj)} {σ : L2.St} {H : Hp} {s : Shared} {pr : Addr → Prop}
theorem keyD_rd {pr : Addr → Prop} {K : PySem.W.Frag} (k : L2.Key) : RD K pr H (kV k) (keyD k) := by
  cases k with
  | inl i => exact .int i
  | inr x => exact .str x
theorem pairs_keys {P : Program} {w : World} {pr : Addr → Prop} {K : PySem.W.Frag} : ∀ {es : List DictEntry} {vs : List (L2.Key × Value)} {kvs : List (L2.Key × V)} {pd : Tb}, Pairs (mixKind P w) es vs → KV kvs vs → RDk K pr H kvs pd → ∃ xs, Vals xs (es.map (·.key)) ∧ RDs K pr H xs (pd.map (·.1))
  | [], [], kvs, pd, .nil, r, h => by
    cases r
    cases h
    exact ⟨[], .nil, .nil⟩
  | e :: es, kv :: vs, kvs, pd, .cons a b t, r, h => by
    cases r with
    | @cons p _ ps _ r1 r2 =>
      cases h with
      | cons e1 _ h2 =>
        subst e1
        obtain ⟨xs, q1, q2⟩ := pairs_keys t r2 h2
        have r1 := r1.1
        dsimp only at r1
        rw [← r1] at a
        refine ⟨kV _ :: xs, .cons (relV_key a) q1, .cons ?_ q2⟩
        exact keyD_rd _
theorem keysD_rd : ∀ ks : List L2.Key, RDs X.K pr H (ks.map kV) (ks.map keyD)
  | [] => .nil
  | .inl i :: ks => .cons (.int i) (keysD_rd ks)
  | .inr i :: ks => .cons (.str i) (keysD_rd ks)
theorem paired_keys {P : Program} {w : World} : ∀ {xs : List (List L2.Key × Addr × Value)} {kvs : List (List L2.Key × V)} {pd : Tb}, KT H kvs xs → RDt X.K pr H kvs pd → ∃ us, Vals us ((xs.map (entryOfKey (tupleKind (mixKind P w)))).map (·.key)) ∧ RDs X.K pr H us (pd.map (·.1))
  | [], kvs, pd, r, h => by
    cases r
    cases h
    exact ⟨[], .nil, .nil⟩
  | x :: xs, kvs, pd, r, h => by
    cases r with
    | cons r1 r2 =>
      cases h with
      | cons e1 _ h2 =>
        subst e1
        obtain ⟨us, q1, q2⟩ := paired_keys (P := P) (w := w) r2 h2
        exact ⟨.ref x.2.1 :: us, .cons rfl q1, .cons (.tup r1.2.1 (keysD_rd _)) q2⟩
def rSortDct (K : PySem.W.Frag) : List V → Hp → VK → Prop := fun xs H Q => ∃ (pr : Addr → Prop) (a : Addr) (u : HO) (pd : Tb), xs = [.ref a] ∧ Rd H a u ∧ DctAt K pr H u pd ∧ alikeAllB (pd.map (·.1)) = true ∧ sortableB (pd.map (·.1)) = true ∧ pd.length ≤ sizeLine ∧
  ∀ p ws, RDs K pr H ws ((pd.map (·.1)).mergeSort (dataLe false id)) → H p = none → Q (.ref p) (upd H p (.lst ws))
theorem call_sortedDct (hc : X.calm = true) (hu : X.A.units + 70 < cLine) : CallR X (.builtin "sorted") (rSortDct X.K) := by
  intro pins s σ H vs us Q I r h
  obtain ⟨pr, a, u, pd, rfl, hr, hd, ha, hk, hz, q⟩ := h
  obtain ⟨uv, rfl, rx⟩ := vals1 r
  cases rx
  have key : ∃ es ep xs, (a == sysModules) = false ∧ s.heap.DictRaw a es ep ∧ Vals xs (es.toList.map (·.key)) ∧ RDs X.K pr H xs (pd.map (·.1)) := by
    cases u with
    | dK kvs =>
      obtain ⟨_, lo, ws, rel, o, es, ep, h1, h2, h3, _, h5, _⟩ := dk_rd I.hok hr
      obtain ⟨xs, q1, q2⟩ := pairs_keys h5 rel hd
      exact ⟨es, ep, xs, lo, ⟨o, h1, h2, h3⟩, q1, q2⟩
    | dT kvs =>
      obtain ⟨_, lo, ws, rel, o, es, ep, h1, h2, h3, h4, _, _⟩ := dt_rd I.hok hr
      obtain ⟨xs, q1, q2⟩ := paired_keys (P := X.prog) (w := X.w) rel hd
      rw [← h4] at q1
      exact ⟨es, ep, xs, lo, ⟨o, h1, h2, h3⟩, q1, q2⟩
    | _ => exact hd.elim
  obtain ⟨es, ep, xs, lo, hraw, rv, r1⟩ := key
  obtain ⟨a1, a2, a3, a4⟩ := alikeAllB_spec ha
  have er : EachIs (fun v (d : PyData) => ∃ as, Reads s.heap v d as) (es.toList.map (·.key)) (pd.map (·.1)) := (rds_eachF (X := X) rv r1 (flats_of a3)).mono fun v d ⟨y, ry, rd, f⟩ => Dp.reads I d y v (rd.dp f) ry
  refine sorted_raw (I.ok.hd hc) lo hraw (rds_each (X := X) rv r1) er a2 (sortableB_spec hk) (by rw [List.length_map]; exact hz) (fun b hb => by have := a4 b hb; omega) fun h0 h' tk out p n hk0 hk' hp ho hl hout => ?_
  obtain ⟨ws, rw', hws⟩ := each_rds hout
  have hlen : ws.length ≤ sizeLine := by rw [rw'.length, hl, List.length_map]; exact hz
  exact ⟨.ref p, upd H p (.lst ws), (I.kept (t' := tk) hk0).laid (t' := tk) hk' hp ⟨hlen, out, n, rw', ho⟩, rfl, q _ _ hws ((I.kept (t' := tk) hk0).hok.fresh hp)⟩
end
end Ev

set_option maxRecDepth 100000
/-! Ev4s: sorting tuples of which the first is the empty one. -/
namespace Ev
open PySem L2 PySem.W PyProof.Rows PySem.SeqAt PySem.Spec
section
variable {prog : Program} {w : World} {A : Around} {E : Value → Shared → Prop} {s : Shared}
theorem call_tupLt {Q : Value → Shared → Prop} {l b : Addr} {us ws : Array Value} {e r : Nat → Bool} (kl : s.heap.IsTuple l us) (kb : s.heap.IsTuple b ws)
    (ke : ∀ j (h1 : j < us.size) (h2 : j < ws.size), EqAt A.in1 s us[j] ws[j] (e j)) (kr : ∀ j (h1 : j < us.size) (h2 : j < ws.size), e j = false → RcLt A.in1 s us[j] ws[j] (r j))
    (k : Q (.bool (firstLt e r (decide (us.size < ws.size)) (List.range (min us.size ws.size)))) s) : wpAny (model prog w) A (call (.builtin "tuple.__lt__") [.ref l, .ref b]) Q E s := by
  obtain ⟨⟨c1, d1, t1, z1⟩, o1, q1, n1, x1⟩ := id kl
  obtain ⟨⟨c2, d2, t2, z2⟩, o2, q2, n2, x2⟩ := id kb
  simp only at q1 x1 q2 x2
  subst q1 x1 q2 x2
  exact call_meets F.slot_tuple_lt ⟨_, o1, rfl⟩ F.entry_tuple_lt (F.args_tuple_lt_2 _ _) (tuple_ltAt l b us ws n1 n2 d1 d2 z1 z2 e r) ⟨o1, o2, ke, kr, k⟩
theorem oneLt_tup {xs ys : List PyData} {a b : Value} {as bs : List Addr} {Q : Bool → Shared → Prop} (ra : Reads s.heap a (.tuple xs) as) (rb : Reads s.heap b (.tuple ys) bs) (h : alike (.tuple xs) (.tuple ys) = true)
    (hu : A.units + min (PyData.tuple xs).depth (PyData.tuple ys).depth < cLine) (hq : Q (dataLt (.tuple xs) (.tuple ys)) s) : wpAny (model prog w) A (oneLt' true a b) Q E s := by
  have hal : alikeAll xs ys = true := by simpa [alike] using h
  cases ra with
  | @tuple l o us n _ as₁ h1 h2 h3 h4 =>
    cases rb with
    | @tuple l' o' ws n' _ bs₁ k1 k2 k3 k4 =>
      have n1 : us.size = xs.length := by simpa using ReadsAll.length _ _ _ h4
      have n2 : ws.size = ys.length := by simpa using ReadsAll.length _ _ _ k4
      rw [dataLt_tuple, ← firstLt_toks xs ys hal, ← n1, ← n2] at hq
      rw [oneLt'_eq]
      simp only [if_true]
      refine wpAny_bind (wpAny_cRoomFor (room_here hu) ?_)
      refine wpAny_bind (wpAny_callSpecialIfBound?_slot (T := "tuple") ⟨_, h1, h2⟩ F.slot_tuple_lt (call_tupLt (e := pairEq xs ys) (r := fun j => dataLt (xs.getD j .none) (ys.getD j .none)) ⟨_, h1, h2, _, h3⟩ ⟨_, k1, k2, _, k3⟩ (fun j j1 j2 => ?_) (fun j j1 j2 hj => ?_) ?_))
      · have := eqAt_alikeAll xs ys A.in1 s us.toList ws.toList _ _ h4 k4 hal (room_in hu) j (by simpa using j1) (by simpa using j2)
        simpa using this
      · have := rcLt_alikeAll xs ys A.in1 s us.toList ws.toList _ _ h4 k4 hal (room_in hu) j (by simpa using j1) (by simpa using j2) hj
        simpa using this
      · exact wpAny_truthy_bool hq
def TupF (h : Heap) : List Value → List (Option Value) → Prop
  | [], [] => True
  | v :: vs, f :: fs => (∃ a o xs n, v = .ref a ∧ h.get? a = some o ∧ o.cls = .type "tuple" ∧ o.data = .seq xs n ∧ xs[0]? = f) ∧ TupF h vs fs
  | _, _ => False
theorem tupF_firsts {M : Model} : ∀ (vs : List Value) (fs : List (Option Value)) {Q : List (Option Value) → Shared → Prop}, TupF s.heap vs fs → Q fs s → wpAny M A (vs.mapM firstOfTuple') Q E s
  | [], [], _, _, h => by rw [List.mapM_nil]; exact wpAny_pure h
  | [], _ :: _, _, t, _ => t.elim
  | _ :: _, [], _, t, _ => t.elim
  | v :: vs, f :: fs, Q, t, h => by
    obtain ⟨⟨a, o, xs, n, rfl, ho, hc, hd, hf⟩, t⟩ := t
    rw [List.mapM_cons]
    refine wpAny_bind ?_
    rw [kas_first_eq]
    refine wpAny_bind (Looks.here (show Looks M s.heap (typeOf (.ref a)) o.cls from (Looks.ld ho).andThen .now) ?_)
    rw [hc, if_neg (show ¬ ((Value.type "tuple" != Value.type "tuple") = true) by simp)]
    refine wpAny_bind (listItems_at ho hd (wpAny_pure ?_))
    rw [hf]
    exact wpAny_bind (tupF_firsts vs fs (Q := fun bs s' => wpAny M A (pure (f :: bs)) Q E s') t (wpAny_pure h))
theorem kind_tup0 {M : Model} {vs : List Value} {fs : List (Option Value)} {Q : SortKind → Shared → Prop} (t : TupF s.heap vs (none :: fs)) (hT : ∀ v ∈ vs, Looks M s.heap (typeOf v) (.type "tuple")) (h : Q oneType' s) : wpAny M A (keyKind' vs.toArray) Q E s := by
  obtain ⟨v1, vr, rfl⟩ : ∃ v1 vr, vs = v1 :: vr := by
    cases vs with
    | nil => exact t.elim
    | cons v1 vr => exact ⟨v1, vr, rfl⟩
  rw [kat_kind_eq, List.mapM_toArray, map_eq_pure_bind]
  refine wpAny_bind (wpAny_bind (tupF_firsts _ _ t (wpAny_pure ?_)))
  rw [if_neg (by simp), if_neg (by simp)]
  rw [oneTypeOnly'_eq, List.mapM_toArray, map_eq_pure_bind]
  refine wpAny_bind (wpAny_bind (wpAny_bind (kas_mapM (r := Value.type "tuple") _ (fun v hv Q' hq => (hT v hv).here hq) (wpAny_pure ?_))))
  have all1 : ((List.map (fun _ => Value.type "tuple") (v1 :: vr)).toArray.all fun x => x == Value.type "tuple") = true := by
    simp only [List.all_toArray, List.all_map, List.all_eq_true]
    intro _ _
    exact beq_self_eq_true _
  have z0 : (List.map (fun _ => Value.type "tuple") (v1 :: vr)).toArray[0]? = some (Value.type "tuple") := by simp
  rw [z0]
  simp only [all1, if_true]
  exact wpAny_pure (wpAny_pure h)
theorem reads_tupF : ∀ {vs : List Value} {ds : List PyData}, EachIs (fun v d => ∃ as, Reads s.heap v d as) vs ds → (∀ d ∈ ds, ∃ xs, d = .tuple xs) → ∃ fs, TupF s.heap vs fs ∧ (∀ r, ds = .tuple [] :: r → ∃ gs, fs = none :: gs)
  | _, _, .nil, _ => ⟨[], trivial, fun r h => nomatch h⟩
  | _, _, .cons (b := d) ⟨as, r⟩ t, ht => by
    obtain ⟨fs, h1, _⟩ := reads_tupF t fun d hd => ht d (List.mem_cons_of_mem _ hd)
    obtain ⟨xs, rfl⟩ := ht _ List.mem_cons_self
    cases r with
    | @tuple a o us n _ _ ho hc hd hr =>
      refine ⟨us[0]? :: fs, ⟨⟨a, o, us, n, rfl, ho, hc, hd, rfl⟩, h1⟩, fun r e => ⟨fs, ?_⟩⟩
      cases e
      have : us.toList = [] := by cases q : us.toList with
        | nil => rfl
        | cons _ _ => rw [q] at hr; cases hr
      rw [← Array.getElem?_toList, this]
      rfl
theorem sort0B_spec {ds : List PyData} (h : sort0B ds = true) : (∃ r, ds = .tuple [] :: r) ∧ ∀ d ∈ ds, ∃ xs, d = .tuple xs := by
  unfold sort0B at h
  split at h
  · rename_i r
    refine ⟨⟨r, rfl⟩, fun d hd => ?_⟩
    rcases List.mem_cons.mp hd with e | e
    · exact ⟨[], e⟩
    · have := List.all_eq_true.mp h d e
      cases d with
      | tuple xs => exact ⟨xs, rfl⟩
      | _ => cases this
  · cases h
theorem sortsAt0 {vs : List Value} {ds : List PyData} (e : EachIs (fun v d => ∃ as, Reads s.heap v d as) vs ds) (hal : AllAlike ds) (hk : sort0B ds = true) (hu : ∀ d, d ∈ ds → A.units + d.depth < cLine) : SortsAt prog w A s (dataKind s.heap ds) vs := by
  obtain ⟨⟨r, hr⟩, ht⟩ := sort0B_spec hk
  refine ⟨fun v hv => ?_, ?_⟩
  · obtain ⟨d, hd, as, r⟩ := e.left v hv
    exact ⟨_, dataKind_some hal hd r⟩
  · refine ⟨oneType', ?_, fun h2 E Q hq => ?_⟩
    · intro E x y a b Q ha hb hq
      obtain ⟨d, as, hd, ra, rfl⟩ := dataKind_inv ha
      obtain ⟨d', as', hd', rb, rfl⟩ := dataKind_inv hb
      rw [keyLt'_oneType]
      obtain ⟨xs, rfl⟩ := ht d hd
      obtain ⟨ys, rfl⟩ := ht d' hd'
      exact oneLt_tup ra rb (hal _ hd _ hd') (Nat.lt_of_le_of_lt (Nat.add_le_add_left (Nat.min_le_left _ _) _) (hu _ hd)) hq
    · obtain ⟨fs, t1, t2⟩ := reads_tupF e ht
      obtain ⟨gs, rfl⟩ := t2 r hr
      refine kind_tup0 t1 (fun v hv => ?_) hq
      obtain ⟨d, hd, as, rr⟩ := e.left v hv
      obtain ⟨xs, rfl⟩ := ht d hd
      exact looks_reads rr
end
section
variable {X : Cx}
theorem call_sorted0 (hu : X.A.units + 70 < cLine) : CallR X (.builtin "sorted") (fun vs H Q => ∃ pr x ds, vs = [x] ∧ RT X.K pr H x (.list ds) ∧ alikeAllB ds = true ∧ sort0B ds = true ∧ ∀ p ws, RDs X.K pr H ws (ds.mergeSort (dataLe false id)) → H p = none → Q (.ref p) (upd H p (.lst ws))) := by
  intro pins s σ H vs us Q Y r h
  obtain ⟨pr, x, ds, rfl, hs, ha, hk, q⟩ := h
  obtain ⟨u, rfl, rx⟩ := vals1 r
  obtain ⟨a, xs, rfl, hq, r1⟩ := hs
  cases rx
  obtain ⟨its, rv, pl, hz0⟩ := Y.list hq
  obtain ⟨a1, a2, a3, a4⟩ := alikeAllB_spec ha
  have e := rds_each (X := X) rv r1
  have er : EachIs (fun v (d : PyData) => ∃ as, Reads s.heap v d as) its ds := (rds_eachF (X := X) rv r1 (flats_of a3)).mono fun v d ⟨y, ry, rd, f⟩ => Dp.reads Y d y v (rd.dp f) ry
  have hz : ds.length ≤ sizeLine := by rw [← r1.length]; exact hz0
  have er' : EachIs (fun v b => ∃ as, Reads (sortingHeap (copyHeap s.heap its) (s.heap.objs.size + 1) its) v b as) its ds := er.mono fun _ _ ⟨as, r⟩ => ⟨as, PyProof.Rows.Reads.keeps (fun _ _ => sorting_copy_old) r⟩
  refine sorted_vals pl.isList (sortsAt0 (s := { s with heap := sortingHeap (copyHeap s.heap its) (s.heap.objs.size + 1) its }) er' a2 hk (fun b hb => by have := a4 b hb; show X.A.units + 2 + b.depth < _; omega)) (by rw [e.length]; exact hz) ?_
  have hlen : (sortVals (dataKind (sortingHeap (copyHeap s.heap its) (s.heap.objs.size + 1) its) ds) false its its).length = ds.length := by rw [sortVals_length false rfl]; exact e.length
  have hout := sortVals_data (enc := id) (h' := sortingHeap (copyHeap s.heap its) (s.heap.objs.size + 1) its) false e er' (by rw [List.map_id]; exact a2)
  rw [List.map_id] at hout
  obtain ⟨ws, rw', hws⟩ := each_rds hout
  obtain ⟨ep, he'⟩ := PyProof.Rows.sortedAll_at s.heap its (sortVals (dataKind (sortingHeap (copyHeap s.heap its) (s.heap.objs.size + 1) its) ds) false its its).toArray
  have hlw : ws.length ≤ sizeLine := by rw [rw'.length, hlen]; exact hz
  exact ⟨.ref _, upd H (s.heap.objs.size + 1) (.lst ws), Y.laid (t' := s.toks) (fun _ _ => PyProof.Rows.sortedAll_old) (Nat.le_succ _) ⟨hlw, _, ep, rw', he'⟩, rfl, q _ _ hws (Y.hok.fresh (Nat.le_succ _))⟩
end
end Ev

set_option maxRecDepth 100000
/-! Ev5: enumerate and zip over lists and tuples in any mix. -/
namespace Ev
open PySem L2 PySem.W PyProof.Rows PySem.SeqAt

def SqK (K : PySem.W.Frag) : Bool → Hp → Addr → List V → Prop
  | true => SqL K
  | false => SqT K
def IterAt (h : Heap) (it a : Addr) (i : Nat) : Bool → Prop
  | true => h.IsListIter it a i
  | false => h.IsTupleIter it a i
def SeqOf (h : Heap) (a : Addr) (its : Array Value) : Bool → Prop
  | true => h.IsList a its
  | false => h.IsTuple a its
def itO (a : Addr) : Bool → Obj
  | true => { cls := .type "list_iterator", data := .fields #[.ref a, .int 0 0] }
  | false => { cls := .type "tuple_iterator", data := .fields #[.ref a, .int 0 0] }
theorem drawsK {prog : Program} {w : World} {A : Around} (hh : A.handled = none) (it a : Addr) (hne : a ≠ it) (its : Array Value) (k : Bool) :
    Draws prog w A it [it, a] its.size (fun i v => its[i]? = some v) (fun i h => IterAt h it a i k ∧ SeqOf h a its k) := by
  cases k
  · exact Draws.tuple hh it a hne its
  · exact Draws.list hh it a hne its
theorem beginsK (a : Addr) (its : Array Value) (k : Bool) : Begins (.ref a) (itO a k) fun h => SeqOf h a its k := by
  cases k
  · exact begins_tuple a its
  · exact begins_list a its
theorem IterAt.mk {h : Heap} {it a : Addr} {k : Bool} (e : h.get? it = some (itO a k)) : IterAt h it a 0 k := by
  cases k
  · exact ⟨_, e, rfl, rfl⟩
  · exact ⟨_, e, rfl, rfl⟩
theorem IterAt.obj {h : Heap} {it a : Addr} {i : Nat} {k : Bool} (e : IterAt h it a i k) : ∃ o, h.get? it = some o ∧ ∀ v, o.data ≠ .cell v := by
  cases k
  · obtain ⟨o, e, _, d⟩ := e; exact ⟨o, e, fun v q => by rw [d] at q; cases q⟩
  · obtain ⟨o, e, _, d⟩ := e; exact ⟨o, e, fun v q => by rw [d] at q; cases q⟩
theorem IterAt.keep {h h' : Heap} {it a : Addr} {i : Nat} {k : Bool} (e : IterAt h it a i k) (hk : ∀ o, h.get? it = some o → h'.get? it = some o) : IterAt h' it a i k := by
  cases k
  · obtain ⟨o, e, r⟩ := e; exact ⟨o, hk _ e, r⟩
  · obtain ⟨o, e, r⟩ := e; exact ⟨o, hk _ e, r⟩
theorem IterAt.ne {h : Heap} {it a b : Addr} {i : Nat} {k j : Bool} {its : Array Value} (e : IterAt h it a i k) (s : SeqOf h b its j) : b ≠ it := by
  rintro rfl
  cases k <;> cases j <;> (obtain ⟨o, e1, e2, _⟩ := e; obtain ⟨o', s1, s2, _⟩ := s; rw [e1] at s1; cases s1; rw [e2] at s2; exact absurd (Value.type.inj s2) (by decide))
section
variable {X : Cx} {pins : List (Addr × Obj)} {σ : L2.St} {H : Hp} {s : Shared} {a : Addr} {xs ys : List V} {k : Bool}
theorem inv_seq (I : L2.Inv X pins σ H s) (h : SqK X.K k H a xs) : ∃ its : List Value, Vals xs its ∧ SeqOf s.heap a its.toArray k ∧ xs.length ≤ sizeLine := by
  cases k
  · obtain ⟨its, r, p, z⟩ := I.tuple h; exact ⟨its, r, p, z⟩
  · obtain ⟨its, r, p, z⟩ := I.list h; exact ⟨its, r, p.isList, z⟩
theorem inv_seq_inj (I : L2.Inv X pins σ H s) (h : SqK X.K k H a xs) (h' : SqK X.K k H a ys) : xs = ys := by
  cases k
  · exact I.tuple_inj h h'
  · exact I.list_inj h h'
end
set_option maxHeartbeats 1000000 in
theorem meets_enum1 {v : Value} {o : Obj} {H : Heap → Prop} (B : Begins v o H) :
    Meets (Builtin.«enumerate.__new__» ⟨[.type "enumerate", v], []⟩) (fun _ R s => H s.heap ∧
      R (.ok (.ret (.ref (s.heap.push o).objs.size))) { s with heap := (s.heap.push o).push { cls := .type "enumerate", data := .fields #[.none, .bool false, .ref s.heap.objs.size, rawInt 0, .none, .none] } }) :=
  .of_wp fun prog w A R s h => by
    obtain ⟨hp, g, d, tk, os⟩ := s; obtain ⟨h1, h⟩ := h
    have hsub := sub_enumerate
    have q1 : ∀ {A' : Around} {E : Value → Shared → Prop} {Q : Value → Shared → Prop}, Q (.ref hp.objs.size) ⟨hp.push o, g, d, tk, os⟩ → wpAny (model prog w) A' (pyIter v) Q E ⟨hp, g, d, tk, os⟩ :=
      fun q => B.iter prog w _ _ ⟨hp, g, d, tk, os⟩ _ h1 q
    wp_walk using q1
    refine wpAny_stack_any fun st => wpAny_pure ?_
    split
    · rename_i c _ _ _ _ _
      cases (c == Value.type "enumerate")
      · wp_walk using q1
        exact ⟨_, rfl, h⟩
      · wp_walk using q1
        exact ⟨_, rfl, h⟩
    · wp_walk using q1
      exact ⟨_, rfl, h⟩
theorem enum1_begins {prog : Program} {w : World} {A : Around} {E : Value → Shared → Prop} {s : Shared} {v : Value} {o : Obj} {H : Heap → Prop} {Q : Value → Shared → Prop} (B : Begins v o H) (h1 : H s.heap)
    (h : ∀ h', IsEnum h' (s.heap.objs.size + 1) s.heap.objs.size 0 .none → h'.get? s.heap.objs.size = some o → h'.objs.size = s.heap.objs.size + 2 →
      (∀ b o, s.heap.get? b = some o → h'.get? b = some o) → Q (.ref (s.heap.objs.size + 1)) { s with heap := h' }) :
    wpAny (model prog w) A (call (.type "enumerate") [v]) Q E s := by
  refine callType_new PySem.F.called_enumerate (by decide) (PySem.F.typeCall_enumerate_1 _) (PySem.F.newCall_enumerate_1 _) (fun obj => PySem.F.args_object_init_2 obj _) PySem.F.entry_enumerate_new
    (meets_enum1 B) ⟨h1, ?_⟩
  have hz : (s.heap.push o).objs.size = s.heap.objs.size + 1 := Heap.size_push ..
  show _ ∧ _
  rw [hz]
  have he : IsEnum ((s.heap.push o).push { cls := .type "enumerate", data := .fields #[.none, .bool false, .ref s.heap.objs.size, rawInt 0, .none, .none] }) (s.heap.objs.size + 1) s.heap.objs.size 0 .none := by
    have := Heap.get?_push_size (s.heap.push o) (o := { cls := .type "enumerate", data := .fields #[.none, .bool false, .ref s.heap.objs.size, rawInt 0, .none, .none] }) rfl
    rw [hz] at this; exact this
  refine ⟨⟨_, he, rfl⟩, h _ he (Heap.get?_push_of_some _ (Heap.get?_push_size _ B.free)) (by rw [Heap.size_push, hz]) fun b o x => Heap.get?_push_of_some _ (Heap.get?_push_of_some _ x)⟩

def ItE (K : PySem.W.Frag) (k : Bool) (a : Addr) : L2.It :=
  ⟨fun i H => ∃ (xs : List V) (x : V), SqK K k H a xs ∧ xs[i]? = some x, fun i H v H' => ∃ T x, v = .ref T ∧ H T = none ∧ H' = upd H T (.tup [.int (i : Nat), x]) ∧ ∀ xs, SqK K k H a xs → xs[i]? = some x, fun i H => ∃ xs : List V, SqK K k H a xs ∧ xs.length = i⟩
theorem turn_enumK {P : Program} {w : World} {K : PySem.W.Frag} {elts : List Expr} {kk : Nat} {tpos : Pos} (k : Bool) (a e it : Addr) (hea : e ≠ a) :
    Turn P w K (.Tuple elts kk tpos) (ItE K k a) [e, it] e (fun i h => (∃ old, IsEnum h e it ((i : Nat) : Int) old) ∧ IterAt h it a i k ∧ e ≠ it) where
  mem := by simp
  obj := fun i h st b hb => by
    obtain ⟨⟨old, he⟩, hi, _⟩ := st
    have e' : b = e ∨ b = it := by simpa using hb
    rcases e' with z | z
    · rw [z]; exact ⟨_, he, fun v q => nomatch q⟩
    · rw [z]; exact hi.obj
  keep := fun i h h' st hk => let ⟨⟨old, he⟩, hi, hne⟩ := st; ⟨⟨old, hk e (by simp) _ he⟩, hi.keep fun o q => hk it (by simp) o q, hne⟩
  item := by
    intro X hP hw hK hc i pins s σ H E I hf st hg
    subst hP hw hK
    obtain ⟨⟨old, he⟩, hit, hne⟩ := st
    obtain ⟨xs, x, hq, hx⟩ := hg
    obtain ⟨its, rv, p, hz⟩ := inv_seq I hq
    obtain ⟨u, hu, ru⟩ := rv.get hx
    have hel : e < s.heap.objs.size := Heap.lt_size he
    have hil : it < s.heap.objs.size := by obtain ⟨o, q, _⟩ := hit.obj; exact Heap.lt_size q
    have hlt : i < its.toArray.size := by
      have := (List.getElem?_eq_some_iff.mp hu).1
      simpa using this
    refine wpAny_pyNext_enum_itemD (drawsK (A := X.A.in1) (show X.A.in1.handled = none from I.ok.hd hc) it a (hit.ne p) its.toArray k) he ⟨hit, p⟩ hlt hne (by simp [hne, hea]) fun y h' tk hy ho hst hT hsz hk => ?_
    have ey : y = u := by
      have hu' : its.toArray[i]? = some u := by simpa using hu
      have hy : its.toArray[i]? = some y := hy
      rw [hu'] at hy; exact (Option.some.inj hy).symm
    subst ey
    have hit' := hst.1
    refine ⟨_, rfl, wpAny_letOwnedTupleGo_enum (s := { s with heap := h', toks := tk + 1 }) ho fun h'' he' sb => ?_⟩
    have hT2 : h''.get? s.heap.objs.size = some { cls := .type "tuple", data := .seq #[.int i tk, y] } := (sb.2 _ (Nat.ne_of_gt hel)).trans hT
    have new : ObjOk X.prog X.w (upd H s.heap.objs.size (.tup [.int (i : Nat), x])) h'' s.heap.objs.size (.tup [.int (i : Nat), x]) :=
      ⟨by show 2 ≤ sizeLine; decide, [.int i tk, y], .cons ⟨_, rfl⟩ (.cons ru .nil), ⟨_, hT2, rfl, _, rfl⟩⟩
    have I1 : L2.Inv X pins σ (upd H s.heap.objs.size (.tup [.int (i : Nat), x])) { s with heap := h'', toks := tk + 1 } :=
      I.turnedNew (ch := [e, it]) (fun b ob hb q => (sb.2 b (fun z => hb (by simp [z]))).trans (hk b ob (fun z => hb (by simp [z])) (fun z => hb (by simp [z])) q)) hf (Nat.le_refl _) new
    refine ⟨.ref s.heap.objs.size, _, I1, rfl, ⟨_, x, rfl, I.hok.fresh (Nat.le_refl _), rfl, fun ys hy => by rw [inv_seq_inj I hy hq]; exact hx⟩, ⟨⟨y, ?_⟩, hit'.keep fun o q => (sb.2 it (Ne.symm hne)).trans q, hne⟩, fun b hb => ?_⟩
    · have e1 : ((i + 1 : Nat) : Int) = (i : Int) + 1 := by omega
      rw [e1]; exact he'
    · have hb' : b < s.heap.objs.size := by
        have e' : b = e ∨ b = it := by simpa using hb
        rcases e' with z | z
        · rw [z]; exact hel
        · rw [z]; exact hil
      rw [upd_ne (Nat.ne_of_lt hb')]
      exact (hf b hb).1
  done := by
    intro X hP hw hK hc i pins s σ H E I hf st hg
    subst hP hw hK
    obtain ⟨⟨old, he⟩, hit, hne⟩ := st
    obtain ⟨xs, hq, hx⟩ := hg
    obtain ⟨its, rv, p, hz⟩ := inv_seq I hq
    obtain ⟨f0, f1, f2, f3, f4, f5⟩ := hf it (by simp)
    have hl := rv.length
    have hi : its.toArray.size = i := by rw [List.size_toArray, ← hl]; exact hx
    exact wpAny_pyNext_enum_endD (drawsK (A := X.A.in1) (show X.A.in1.handled = none from I.ok.hd hc) it a (hit.ne p) its.toArray k) he (by rw [hi]; exact ⟨hit, p⟩) fun h' eb => ⟨rfl, I.turned (t' := s.toks) (fun b o hb q => eb b o hb q) f0 f1 f3 f4 f5⟩
  self := fun A i s Q E st h => let ⟨⟨_, he⟩, _⟩ := st; wpAny_pyIter_enum he h
theorem pi_enumK {X : Cx} {e : Expr} {ta : TA} {p pos tpos : Pos} {elts : List Expr} {kk : Nat} (hg : Gl X "enumerate") (hm : X.mg "enumerate" = none) (ha : PA X [e] ta) (hs : starEach [e] X.env = [(false, eval e X.env)]) :
    PI X (.Tuple elts kk tpos) (.Call (.Name "enumerate" p) [e] [] pos) (fun σ H R => ta σ H fun vs H1 => ∃ k a xs, vs = [.ref a] ∧ SqK X.K k H1 a xs ∧ R (ItE X.K k a) H1) := by
  refine ⟨fun pins s σ H R I h => ?_⟩
  refine Call_ (ld_blt I hg hm boot_enumerate (PyProof.Rows.callWith_type1 (thn (ha.run pos pins s σ H _ I h) fun us s1 ⟨vs, H1, I1, r1, q1⟩ => ?_) hs rfl))
  obtain ⟨k, a, xs, ex, hq, q⟩ := q1
  subst ex
  cases r1 with
  | cons r rr =>
    cases rr
    cases r
    obtain ⟨its, rv, p', hz⟩ := inv_seq I1 hq
    have hal : a < s1.heap.objs.size := by
      cases k
      · obtain ⟨o, e, _⟩ := p'; exact Heap.lt_size e
      · obtain ⟨o, e, _⟩ := p'; exact Heap.lt_size e
    refine enum1_begins (beginsK a its.toArray k) p' fun h' he hit hsz hk => wpAny_pyIter_enum he ?_
    have I2 : L2.Inv X pins σ H1 { s1 with heap := h' } := I1.kept (t' := s1.toks) hk
    refine ⟨s1.heap.objs.size + 1, [s1.heap.objs.size + 1, s1.heap.objs.size], _, _, H1, rfl, I2, turn_enumK k a (s1.heap.objs.size + 1) s1.heap.objs.size (Nat.ne_of_gt (Nat.lt_succ_of_lt hal)), ⟨⟨.none, he⟩, .mk hit, Nat.succ_ne_self _⟩, fun b hb => ?_, q⟩
    have e' : b = s1.heap.objs.size + 1 ∨ b = s1.heap.objs.size := by simpa using hb
    have hle : s1.heap.objs.size ≤ b := by
      rcases e' with z | z
      · rw [z]; exact Nat.le_add_right _ _
      · rw [z]; exact Nat.le_refl _
    exact I1.fpOk hle (I1.hok.fresh hle)

def ItZ (K : PySem.W.Frag) (k j : Bool) (a b : Addr) : L2.It :=
  ⟨fun i H => ∃ (xs ys : List V) (x y : V), SqK K k H a xs ∧ SqK K j H b ys ∧ xs[i]? = some x ∧ ys[i]? = some y,
    fun i H v H' => ∃ T x y, v = .ref T ∧ H T = none ∧ H' = upd H T (.tup [x, y]) ∧ (∀ xs, SqK K k H a xs → xs[i]? = some x) ∧ ∀ ys, SqK K j H b ys → ys[i]? = some y,
    fun i H => ∃ xs ys : List V, SqK K k H a xs ∧ SqK K j H b ys ∧ i ≤ xs.length ∧ i ≤ ys.length ∧ (i = xs.length ∨ i = ys.length)⟩
theorem turn_zipK {P : Program} {w : World} {K : PySem.W.Frag} {elts : List Expr} {kk : Nat} {tpos : Pos} {k j : Bool} {a b z TI TO i1 i2 : Addr} (D : ZipSep2 z TI TO i1 i2 [i1, a] [i2, b]) :
    Turn P w K (.Tuple elts kk tpos) (ItZ K k j a b) [z, TI, TO, i1, i2] z (fun i h => IsZip h z TI TO .none ∧ IsTupOf2 h TI (.ref i1) (.ref i2) ∧ (∃ x y, IsTupOf2 h TO x y) ∧ IterAt h i1 a i k ∧ IterAt h i2 b i j) where
  mem := by simp
  obj := fun i h st c hc => by
    obtain ⟨hz, hTI, ⟨x, y, hTO⟩, h1, h2⟩ := st
    have e' : c = z ∨ c = TI ∨ c = TO ∨ c = i1 ∨ c = i2 := by simpa using hc
    rcases e' with q | q | q | q | q
    · rw [q]; exact ⟨_, hz, fun v q => nomatch q⟩
    · rw [q]; exact ⟨_, hTI, fun v q => nomatch q⟩
    · rw [q]; exact ⟨_, hTO, fun v q => nomatch q⟩
    · rw [q]; exact h1.obj
    · rw [q]; exact h2.obj
  keep := fun i h h' st hk => by
    obtain ⟨hz, hTI, ⟨x, y, hTO⟩, h1, h2⟩ := st
    exact ⟨hk z (by simp) _ hz, hk TI (by simp) _ hTI, ⟨x, y, hk TO (by simp) _ hTO⟩, h1.keep fun o q => hk i1 (by simp) o q, h2.keep fun o q => hk i2 (by simp) o q⟩
  item := by
    intro X hP hw hK hc i pins s σ H E I hf st hg
    subst hP hw hK
    obtain ⟨hz, hTI, ⟨x0, y0, hTO⟩, h1, h2⟩ := st
    obtain ⟨xs, ys, x, y, hqx, hqy, hx, hy⟩ := hg
    obtain ⟨its, rv, p, _⟩ := inv_seq I hqx
    obtain ⟨its2, rv2, p2, _⟩ := inv_seq I hqy
    obtain ⟨u, hu, ru⟩ := rv.get hx
    obtain ⟨u2, hu2, ru2⟩ := rv2.get hy
    have hzl : z < s.heap.objs.size := Heap.lt_size hz
    have hlt1 : i < its.toArray.size := by simpa using (List.getElem?_eq_some_iff.mp hu).1
    have hlt2 : i < its2.toArray.size := by simpa using (List.getElem?_eq_some_iff.mp hu2).1
    refine wpAny_pyNext_zipD2_item D (drawsK (A := X.A.in1) (show X.A.in1.handled = none from I.ok.hd hc) i1 a (h1.ne p) its.toArray k) (drawsK (A := X.A.in1) (show X.A.in1.handled = none from I.ok.hd hc) i2 b (h2.ne p2) its2.toArray j) hz hTI hTO ⟨h1, p⟩ ⟨h2, p2⟩ hlt1 hlt2 fun v1 v2 h' tk e1 e2 z' TO' st1 st2 hT hsz hk => ?_
    have ev1 : v1 = u := by
      have q : its.toArray[i]? = some u := by simpa using hu
      have e1 : its.toArray[i]? = some v1 := e1
      rw [q] at e1; exact (Option.some.inj e1).symm
    have ev2 : v2 = u2 := by
      have q : its2.toArray[i]? = some u2 := by simpa using hu2
      have e2 : its2.toArray[i]? = some v2 := e2
      rw [q] at e2; exact (Option.some.inj e2).symm
    subst ev1 ev2
    have h1' := st1.1
    have h2' := st2.1
    refine ⟨_, rfl, wpAny_letOwnedTupleGo_zip (s := { s with heap := h', toks := tk }) z' fun h'' z'' sb => ?_⟩
    have hT2 : h''.get? s.heap.objs.size = some { cls := .type "tuple", data := .seq #[v1, v2] } := (sb.2 _ (Nat.ne_of_gt hzl)).trans hT
    have new : ObjOk X.prog X.w (upd H s.heap.objs.size (.tup [x, y])) h'' s.heap.objs.size (.tup [x, y]) :=
      ⟨by show 2 ≤ sizeLine; decide, [v1, v2], .cons ru (.cons ru2 .nil), ⟨_, hT2, rfl, _, rfl⟩⟩
    have I1 : L2.Inv X pins σ (upd H s.heap.objs.size (.tup [x, y])) { s with heap := h'', toks := tk } :=
      I.turnedNew (t' := tk) (ch := [z, TI, TO, i1, i2]) (fun c o hb q => (sb.2 c (fun q' => hb (by simp [q']))).trans (hk c o (fun q' => hb (by simp [q'])) (fun q' => hb (by simp [q'])) (fun q' => hb (by simp [q'])) (fun q' => hb (by simp [q'])) q)) hf (Nat.le_refl _) new
    have i1z : i1 ≠ z := fun q => D.zf1 (by simp [q])
    have i2z : i2 ≠ z := fun q => D.zf2 (by simp [q])
    refine ⟨.ref s.heap.objs.size, _, I1, rfl, ⟨_, x, y, rfl, I.hok.fresh (Nat.le_refl _), rfl, fun l hl => by rw [inv_seq_inj I hl hqx]; exact hx, fun l hl => by rw [inv_seq_inj I hl hqy]; exact hy⟩, ⟨z'', ?_, ⟨v1, v2, ?_⟩, ?_, ?_⟩, fun c hcm => ?_⟩
    · exact (sb.2 _ D.TIz).trans (hk _ _ D.TIz D.TITO D.TIi1 D.TIi2 hTI)
    · exact (sb.2 _ D.TOz).trans TO'
    · exact h1'.keep fun o q => (sb.2 _ i1z).trans q
    · exact h2'.keep fun o q => (sb.2 _ i2z).trans q
    · have hlt : c < s.heap.objs.size := by
        have e' : c = z ∨ c = TI ∨ c = TO ∨ c = i1 ∨ c = i2 := by simpa using hcm
        rcases e' with q | q | q | q | q
        · rw [q]; exact hzl
        · rw [q]; exact Heap.lt_size hTI
        · rw [q]; exact Heap.lt_size hTO
        · rw [q]; obtain ⟨_, e1, _⟩ := h1.obj; exact Heap.lt_size e1
        · rw [q]; obtain ⟨_, e2, _⟩ := h2.obj; exact Heap.lt_size e2
      rw [upd_ne (Nat.ne_of_lt hlt)]
      exact (hf c hcm).1
  done := by
    intro X hP hw hK hc i pins s σ H E I hf st hg
    subst hP hw hK
    obtain ⟨hz, hTI, ⟨x0, y0, hTO⟩, h1, h2⟩ := st
    obtain ⟨xs, ys, hqx, hqy, hi1, hi2, hend⟩ := hg
    obtain ⟨its, rv, p, _⟩ := inv_seq I hqx
    obtain ⟨its2, rv2, p2, _⟩ := inv_seq I hqy
    have l1 := rv.length
    have l2 := rv2.length
    exact wpAny_pyNext_zipD2_end D (drawsK (A := X.A.in1) (show X.A.in1.handled = none from I.ok.hd hc) i1 a (h1.ne p) its.toArray k) (drawsK (A := X.A.in1) (show X.A.in1.handled = none from I.ok.hd hc) i2 b (h2.ne p2) its2.toArray j) hz hTI hTO ⟨h1, p⟩ ⟨h2, p2⟩ (by simp; omega) (by simp; omega) (by simp; omega) fun h' tk hk => ⟨rfl, I.turnedL (t' := tk) (ch := [z, TI, TO, i1, i2]) (fun c o hb q =>
      hk c o (fun q' => hb (by simp [q'])) (fun q' => hb (by simp [q'])) (fun q' => hb (by simp [q'])) (fun q' => hb (by simp [q'])) q) hf⟩
  self := fun A i s Q E st h => wpAny_pyIter_zip st.1 h
theorem seqOf_lt {h : Heap} {a : Addr} {its : Array Value} {k : Bool} (p : SeqOf h a its k) : a < h.objs.size := by
  cases k
  · obtain ⟨o, e, _⟩ := p; exact Heap.lt_size e
  · obtain ⟨o, e, _⟩ := p; exact Heap.lt_size e
theorem pi_zipK {X : Cx} {e e2 : Expr} {ta : TA} {p pos tpos : Pos} {elts : List Expr} {kk : Nat} (hg : Gl X "zip") (hm : X.mg "zip" = none) (ha : PA X [e, e2] ta)
    (hs : starEach [e, e2] X.env = (false, eval e X.env) :: starEach [e2] X.env) (hpl : (backTo pos (starEach [e2] X.env)).any (·.1) = false) :
    PI X (.Tuple elts kk tpos) (.Call (.Name "zip" p) [e, e2] [] pos) (fun σ H R => ta σ H fun vs H1 => ∃ k j a b xs ys, vs = [.ref a, .ref b] ∧ SqK X.K k H1 a xs ∧ SqK X.K j H1 b ys ∧ R (ItZ X.K k j a b) H1) := by
  refine ⟨fun pins s σ H R I h => ?_⟩
  refine Call_ (ld_blt I hg hm PyProof.Rows.boot_zip (PyProof.Rows.callWith_type1 (thn (ha.run pos pins s σ H _ I h) fun us s1 ⟨vs, H1, I1, r1, q1⟩ => ?_) hs hpl))
  obtain ⟨k, j, a, b, xs, ys, ex, hqx, hqy, q⟩ := q1
  subst ex
  cases r1 with
  | cons r rr =>
    cases rr with
    | cons r' rr =>
      cases rr
      cases r
      cases r'
      have fresh5 : ∀ c, c ∈ [s1.heap.objs.size + 4, s1.heap.objs.size + 2, s1.heap.objs.size + 3, s1.heap.objs.size, s1.heap.objs.size + 1] → FpOk X pins H1 c := fun c hcm => by
        have e' : c = s1.heap.objs.size + 4 ∨ c = s1.heap.objs.size + 2 ∨ c = s1.heap.objs.size + 3 ∨ c = s1.heap.objs.size ∨ c = s1.heap.objs.size + 1 := by simpa using hcm
        have hle : s1.heap.objs.size ≤ c := by
          rcases e' with z | z | z | z | z
          · rw [z]; exact Nat.le_add_right _ _
          · rw [z]; exact Nat.le_add_right _ _
          · rw [z]; exact Nat.le_add_right _ _
          · rw [z]; exact Nat.le_refl _
          · rw [z]; exact Nat.le_add_right _ _
        exact I1.fpOk hle (I1.hok.fresh hle)
      obtain ⟨its, rv, p1, _⟩ := inv_seq I1 hqx
      obtain ⟨its2, rv2, p2, _⟩ := inv_seq I1 hqy
      refine zip_begins2 (beginsK a its.toArray k) (beginsK b its2.toArray j) p1 p2 fun h' hz hTI hTO h1 h2 hsz hk => wpAny_pyIter_zip hz ?_
      have I2 : L2.Inv X pins σ H1 { s1 with heap := h' } := I1.kept (t' := s1.toks) hk
      exact ⟨s1.heap.objs.size + 4, [s1.heap.objs.size + 4, s1.heap.objs.size + 2, s1.heap.objs.size + 3, s1.heap.objs.size, s1.heap.objs.size + 1], _, _, H1, rfl, I2,
        turn_zipK (zip_sep2 (fp1 := [a]) (fp2 := [b]) (fun c hc => by rw [List.mem_singleton.mp hc]; exact seqOf_lt p1) (fun c hc => by rw [List.mem_singleton.mp hc]; exact seqOf_lt p2)), ⟨hz, hTI, ⟨_, _, hTO⟩, .mk h1, .mk h2⟩, fresh5, q⟩
end Ev

set_option maxRecDepth 100000
/-! Ev6: the interpreter's steps as readings; slots, calls, walks, comprehensions. -/
namespace Ev
open PySem L2 PySem.W PyProof.Rows PySem.SeqAt

def RP {α : Type} (r : R α) (p : α → Sto → Prop) : Prop := match r with
  | .ok a s => p a s
  | _ => False
theorem RP.imp {α : Type} {r : R α} {p q : α → Sto → Prop} (h : RP r p) (f : ∀ a s, p a s → q a s) : RP r q := by
  cases r with
  | ok a s => exact f a s h
  | _ => exact h
theorem RP.bind {α β : Type} {r : R α} {f : α → Sto → R β} {p : β → Sto → Prop} (h : RP (r.bind f) p) : RP r fun a s => RP (f a s) p := by
  cases r with
  | ok a s => exact h
  | _ => exact h
theorem RP.opt {α : Type} {o : Option α} {s : Sto} {p : α → Sto → Prop} (h : RP (R.opt o s) p) : ∃ a, o = some a ∧ p a s := by
  cases o with
  | some a => exact ⟨a, rfl, h⟩
  | none => exact h.elim
theorem RP.noEx {α : Type} {r : R α} {p : α → Sto → Prop} (h : RP (noEx r) p) : RP r p := by
  cases r with
  | ok a s => exact h
  | _ => exact h

section
variable {X : Cx}
theorem _root_.L2.PE.imp {e : Expr} {t t' : TE} (h : PE X e t) (i : ∀ σ H Q, t' σ H Q → t σ H Q) : PE X e t' := ⟨fun pins s σ H Q I q => h.run pins s σ H Q I (i _ _ _ q)⟩
theorem _root_.L2.PT.imp {e : Expr} {t t' : TT} (h : PT X e t) (i : ∀ σ H Q, t' σ H Q → t σ H Q) : PT X e t' := ⟨fun pins s σ H Q I q => h.run pins s σ H Q I (i _ _ _ q)⟩
theorem _root_.L2.PW.imp {e : Expr} {t t' : TT} (h : PW X e t) (i : ∀ σ H Q, t' σ H Q → t σ H Q) : PW X e t' := ⟨fun wh pins s σ H Q I q => h.run wh pins s σ H Q I (i _ _ _ q)⟩
theorem _root_.L2.PTs.imp {e : List Expr} {t t' : TT} (h : PTs X e t) (i : ∀ σ H Q, t' σ H Q → t σ H Q) : PTs X e t' := ⟨fun pins s σ H Q I q => h.run pins s σ H Q I (i _ _ _ q)⟩
theorem _root_.L2.PA.imp {e : List Expr} {t t' : TA} (h : PA X e t) (i : ∀ σ H Q, t' σ H Q → t σ H Q) : PA X e t' := ⟨fun pos pins s σ H Q I q => h.run pos pins s σ H Q I (i _ _ _ q)⟩
theorem _root_.L2.PO.imp {e : Option Expr} {t t' : L2.St → Hp → (Option Int → Hp → Prop) → Prop} (h : PO X e t) (i : ∀ σ H Q, t' σ H Q → t σ H Q) : PO X e t' := ⟨fun pins s σ H Q I q => h.run pins s σ H Q I (i _ _ _ q)⟩
theorem _root_.L2.PI.imp {tg e : Expr} {t t' : TI} (h : PI X tg e t) (i : ∀ σ H Q, t' σ H Q → t σ H Q) : PI X tg e t' := ⟨fun pins s σ H Q I q => h.run pins s σ H Q I (i _ _ _ q)⟩
theorem _root_.L2.PSs.imp {e : List Stmt} {t t' : TS} (h : PSs X e t) (i : ∀ D σ H, t' D σ H → t D σ H) : PSs X e t' := ⟨fun pins s σ H Q I q => h.run pins s σ H Q I (i _ _ _ q)⟩
theorem _root_.L2.PS.imp {e : Stmt} {t t' : TS} (h : PS X e t) (i : ∀ D σ H, t' D σ H → t D σ H) : PS X e t' := ⟨fun pins s σ H Q I q => h.run pins s σ H Q I (i _ _ _ q)⟩
end

section
variable (K : PySem.W.Frag)
def tEv (f : Envr → Sto → R PV) : TE := fun σ H Q => ∃ g st, g.s = σ ∧ Sim K g st H ∧ RP (f g.e st) fun v st' => Fin K g st' H v Q
def tTe (f : Envr → Sto → R PV) : TT := fun σ H Q => ∃ g st, g.s = σ ∧ Sim K g st H ∧ RP (f g.e st) fun v st' => ∃ b, v = .d (.bool b) ∧ ∀ g' H', Nx g g' H H' → Sim K g' st' H' → Q b H'
def tTs (f : Envr → Sto → R Bool) : TT := fun σ H Q => ∃ g st, g.s = σ ∧ Sim K g st H ∧ RP (f g.e st) fun b st' => ∀ g' H', Nx g g' H H' → Sim K g' st' H' → Q b H'
def tDs (f : Envr → Sto → R (List PyData)) : TA := fun σ H Q => ∃ g st, g.s = σ ∧ Sim K g st H ∧ RP (f g.e st) fun ds st' => ∀ g' H' ws, Nx g g' H H' → Sim K g' st' H' → g'.B = g.B → RDs K g'.Pr H' ws ds → Q ws H'
def tRs (f : Envr → Sto → R (List PV)) : TA := fun σ H Q => ∃ g st, g.s = σ ∧ Sim K g st H ∧ RP (f g.e st) fun ds st' => ∀ g' H' ws, Nx g g' H H' → Sim K g' st' H' → g'.B = g.B → Paired (RepK K g' H') ws ds → Q ws H'
def tAs (f : Envr → Sto → R (List PV)) : TA := fun σ H Q => ∃ g st, g.s = σ ∧ Sim K g st H ∧ RP (f g.e st) fun ds st' => ∀ g' H' ws, Nx g g' H H' → Sim K g' st' H' → Paired (Rep K g' g.B H') ws ds → Q ws H'
def tPo (f : Envr → Sto → R (Option Int)) : L2.St → Hp → (Option Int → Hp → Prop) → Prop := fun σ H Q => ∃ g st, g.s = σ ∧ Sim K g st H ∧ RP (f g.e st) fun o st' => ∀ g' H', Nx g g' H H' → Sim K g' st' H' → Q o H'
end
section
variable {K : PySem.W.Frag} {g g' g1 g2 : Gs} {st st' st1 st2 : Sto} {H H' H1 H2 : Hp} {Q : VK}
theorem Fin.at {v : PV} (F : Fin K g st H v Q) (n : Nx g g2 H H2) (S : Sim K g2 st2 H2) : Fin K (g2.wB g.B) st H2 v Q := fun g' H' w n' S' r =>
  F g' H' w (n.weak.trans (S.weak n.B) n') S' r
theorem wB_self : g.wB g.B = g := rfl

/-! ### slots -/
theorem Sim.setv {i : Nat} {v : V} {x : PV} (S : Sim K g st H) (r : RepK K g H v x) (hx : (∃ y, x = .d y) ∨ (∃ n, x = .ref n) ∨ ∃ n, x = .ty n := by first | exact .inl ⟨_, rfl⟩ | assumption) :
    Sim K { g with e := g.e.set i (.v x), s := g.s.set i (some v) } st H ∧ ∀ a, Gs.Pr { g with e := g.e.set i (.v x), s := g.s.set i (some v) } a → g.Pr a := by
  have sub : ∀ a, Gs.Pr { g with e := g.e.set i (.v x), s := g.s.set i (some v) } a → g.Pr a := by
    rintro a (h | h | ⟨j, y, h1, h2⟩)
    · exact .inl h
    · exact .inr (.inl h)
    · by_cases hj : i = j
      · subst hj
        have h1 : (g.e.set i (.v x))[i]? = some (.own y) := h1
        rw [List.getElem?_set] at h1
        split at h1
        · split at h1
          · cases h1
          · cases h1
        · rename_i h; exact absurd rfl h
      · have h1 : (g.e.set i (.v x))[j]? = some (.own y) := h1
        have h2 : (g.s.set i (some v))[j]? = some (some (.ref a)) := h2
        rw [List.getElem?_set_ne hj] at h1 h2
        exact .inr (.inr ⟨j, y, h1, h2⟩)
  have rk : ∀ {w : V} {y : PV}, RepK K g H w y → RepK K { g with e := g.e.set i (.v x), s := g.s.set i (some v) } H w y := fun {w y} h => by
    cases y with
    | d y => exact RD.keep (.anti sub) h
    | _ => exact h
  have ow : ∀ {a : Addr} {y : PyData}, OwnAt K g H a y → OwnAt K { g with e := g.e.set i (.v x), s := g.s.set i (some v) } H a y := fun {a y} h => h.keep (fun _ q => q) (.anti sub)
  refine ⟨⟨by show (g.e.set i _).length = (g.s.set i _).length; rw [List.length_set, List.length_set]; exact S.len, fun j y h => ?_, fun j y h => ?_, fun j k y z a h1 h2 h3 h4 => ?_, S.slen, fun n o h => ?_, S.rB, S.nd, S.bt, S.pre, S.new, S.fr⟩, sub⟩
  · have h : (g.e.set i (.v x))[j]? = some (.v y) := h
    by_cases hj : i = j
    · subst hj
      rw [List.getElem?_set] at h
      split at h
      · split at h
        · rename_i hlt
          cases h
          refine ⟨v, ?_, rk r⟩
          show (g.s.set i (some v))[i]? = _
          rw [List.getElem?_set_self (by rw [← S.len]; exact hlt)]
        · cases h
      · rename_i h'; exact absurd rfl h'
    · rw [List.getElem?_set_ne hj] at h
      obtain ⟨w, h1, h2⟩ := S.val j y h
      exact ⟨w, by show (g.s.set i (some v))[j]? = _; rw [List.getElem?_set_ne hj]; exact h1, rk h2⟩
  · have h : (g.e.set i (.v x))[j]? = some (.own y) := h
    by_cases hj : i = j
    · subst hj
      rw [List.getElem?_set] at h
      split at h
      · split at h
        · cases h
        · cases h
      · rename_i h'; exact absurd rfl h'
    · rw [List.getElem?_set_ne hj] at h
      obtain ⟨a, h1, h2, h3⟩ := S.own j y h
      exact ⟨a, by show (g.s.set i (some v))[j]? = _; rw [List.getElem?_set_ne hj]; exact h1, ow h2, h3⟩
  · have h1 : (g.e.set i (.v x))[j]? = some (.own y) := h1
    have h2 : (g.e.set i (.v x))[k]? = some (.own z) := h2
    have h3 : (g.s.set i (some v))[j]? = some (some (.ref a)) := h3
    have h4 : (g.s.set i (some v))[k]? = some (some (.ref a)) := h4
    have nj : i ≠ j := fun e => by
      subst e
      rw [List.getElem?_set] at h1
      split at h1
      · split at h1
        · cases h1
        · cases h1
      · rename_i h'; exact absurd rfl h'
    have nk : i ≠ k := fun e => by
      subst e
      rw [List.getElem?_set] at h2
      split at h2
      · split at h2
        · cases h2
        · cases h2
      · rename_i h'; exact absurd rfl h'
    rw [List.getElem?_set_ne nj] at h1 h3
    rw [List.getElem?_set_ne nk] at h2 h4
    exact S.inj j k y z a h1 h2 h3 h4
  · obtain ⟨a, h1, h2⟩ := S.sto n o h
    refine ⟨a, h1, ?_⟩
    exact h2.go (fun _ q => q) (.anti sub) fun _ _ q => rk q
theorem Sim.setn {i : Nat} (S : Sim K g st H) :
    Sim K { g with e := g.e.set i .no, s := g.s.set i none } st H ∧ ∀ a, Gs.Pr { g with e := g.e.set i .no, s := g.s.set i none } a → g.Pr a := by
  have no : ∀ {j : Nat} {c : Cell}, (g.e.set i .no)[j]? = some c → c ≠ .no → i ≠ j ∧ g.e[j]? = some c := fun {j c} h hc => by
    by_cases hj : i = j
    · subst hj
      rw [List.getElem?_set] at h
      split at h
      · split at h
        · cases h; exact absurd rfl hc
        · cases h
      · rename_i h'; exact absurd rfl h'
    · rw [List.getElem?_set_ne hj] at h; exact ⟨hj, h⟩
  have sub : ∀ a, Gs.Pr { g with e := g.e.set i .no, s := g.s.set i none } a → g.Pr a := by
    rintro a (h | h | ⟨j, y, h1, h2⟩)
    · exact .inl h
    · exact .inr (.inl h)
    · obtain ⟨hj, h1⟩ := no h1 (fun q => nomatch q)
      have h2 : (g.s.set i none)[j]? = some (some (.ref a)) := h2
      rw [List.getElem?_set_ne hj] at h2
      exact .inr (.inr ⟨j, y, h1, h2⟩)
  have rk : ∀ {w : V} {y : PV}, RepK K g H w y → RepK K { g with e := g.e.set i .no, s := g.s.set i none } H w y := fun {w y} h => by
    cases y with
    | d y => exact RD.keep (.anti sub) h
    | _ => exact h
  refine ⟨⟨by show (g.e.set i _).length = (g.s.set i _).length; rw [List.length_set, List.length_set]; exact S.len, fun j y h => ?_, fun j y h => ?_, fun j k y z a h1 h2 h3 h4 => ?_, S.slen, fun n o h => ?_, S.rB, S.nd, S.bt, S.pre, S.new, S.fr⟩, sub⟩
  · obtain ⟨hj, h⟩ := no h (fun q => nomatch q)
    obtain ⟨w, h1, h2⟩ := S.val j y h
    exact ⟨w, by show (g.s.set i none)[j]? = _; rw [List.getElem?_set_ne hj]; exact h1, rk h2⟩
  · obtain ⟨hj, h⟩ := no h (fun q => nomatch q)
    obtain ⟨a, h1, h2, h3⟩ := S.own j y h
    refine ⟨a, by show (g.s.set i none)[j]? = _; rw [List.getElem?_set_ne hj]; exact h1, ?_, h3⟩
    exact h2.keep (fun _ q => q) (.anti sub)
  · obtain ⟨nj, h1⟩ := no h1 (fun q => nomatch q)
    obtain ⟨nk, h2⟩ := no h2 (fun q => nomatch q)
    have h3 : (g.s.set i none)[j]? = some (some (.ref a)) := h3
    have h4 : (g.s.set i none)[k]? = some (some (.ref a)) := h4
    rw [List.getElem?_set_ne nj] at h3
    rw [List.getElem?_set_ne nk] at h4
    exact S.inj j k y z a h1 h2 h3 h4
  · obtain ⟨a, h1, h2⟩ := S.sto n o h
    refine ⟨a, h1, ?_⟩
    exact h2.go (fun _ q => q) (.anti sub) fun _ _ q => rk q

/-! ### calls -/
/-- what a callee sees of the state -/
def Gs.cal (g : Gs) (H : Hp) : Gs := ⟨fun a => g.B a ∨ ∃ (i : Nat) (x : PyData), g.e[i]? = some (.own x) ∧ g.s[i]? = some (some (.ref a)), H, g.r, g.r, [], []⟩
theorem Gs.cal_pr {a : Addr} : (g.cal H).Pr a ↔ g.Pr a := by
  constructor
  · rintro ((h | h) | h | ⟨i, x, h, _⟩)
    · exact .inl h
    · exact .inr (.inr h)
    · exact .inr (.inl h)
    · simp [Gs.cal] at h
  · rintro (h | h | h)
    · exact .inl (.inl h)
    · exact .inr (.inl h)
    · exact .inl (.inr h)
theorem RepK.pr {ga gb : Gs} (hr : gb.r = ga.r) (hp : ∀ a, gb.Pr a → ga.Pr a) {v : V} {x : PV} (h : RepK K ga H v x) : RepK K gb H v x := by
  cases x with
  | d x => exact RD.keep (.anti hp) h
  | ref n => obtain ⟨a, e, q⟩ := h; exact ⟨a, e, by rw [hr]; exact q⟩
  | ty n => exact h
  | fre _ => exact h
  | bor _ => exact h
  | fn _ => exact h
theorem ObAt.pr {ga gb : Gs} (hr : gb.r = ga.r) (hp : ∀ a, gb.Pr a → ga.Pr a) {a : Addr} {x : Ob} (h : ObAt K ga H a x) : ObAt K gb H a x :=
  h.go (fun _ q => q) (.anti hp) fun _ _ q => RepK.pr hr hp q
theorem Sim.cal (S : Sim K g st H) : Sim K (g.cal H) st H where
  len := rfl
  val := fun i x h => by simp [Gs.cal] at h
  own := fun i x h => by simp [Gs.cal] at h
  inj := fun i j x y a h => by simp [Gs.cal] at h
  slen := S.slen
  sto := fun n o h => let ⟨a, h1, h2⟩ := S.sto n o h; ⟨a, h1, ObAt.pr (ga := g) (gb := g.cal H) rfl (fun _ q => Gs.cal_pr.mp q) h2⟩
  rB := fun a h q => by
    rcases q with q | ⟨i, x, q1, q2⟩
    · exact S.rB a h q
    · obtain ⟨b, h1, _, _, h3, _⟩ := S.own i x q1
      rw [q2] at h1; cases h1
      exact h3 h
  nd := S.nd
  bt := fun a h => S.prt (Gs.cal_pr.mp (.inl h))
  pre := List.prefix_refl _
  new := fun a h => .inl h
  fr := fun a o h _ => h
/-- behind the call -/
theorem Sim.after (S : Sim K g st H) (n : Nx (g.cal H) g' H H') (S' : Sim K g' st' H') (hB : g'.B = (g.cal H).B) :
    Nx g { g with r := g'.r } H H' ∧ Sim K { g with r := g'.r } st' H' ∧ ∀ a, Gs.Pr { g with r := g'.r } a ↔ g'.Pr a := by
  have nx : Nx g { g with r := g'.r } H H' := ⟨rfl, rfl, rfl, rfl, fun _ h => h, fun _ h => .inl h, n.pre, n.rn, n.fr⟩
  have pr : ∀ a, Gs.Pr { g with r := g'.r } a ↔ g'.Pr a := fun a => by
    constructor
    · rintro (h | h | h)
      · exact .inl (by rw [hB]; exact .inl h)
      · exact .inr (.inl h)
      · exact .inl (by rw [hB]; exact .inr h)
    · rintro (h | h | ⟨i, x, h, _⟩)
      · rw [hB] at h
        rcases h with h | h
        · exact .inl h
        · exact .inr (.inr h)
      · exact .inr (.inl h)
      · rw [n.e] at h; simp [Gs.cal] at h
  refine ⟨nx, ?_, pr⟩
  exact {
    len := S.len
    val := fun i x h => let ⟨v, h1, h2⟩ := S.val i x h; ⟨v, h1, h2.keep nx S⟩
    own := fun i x h => by
      obtain ⟨a, h1, h2, h3, h4, h5⟩ := S.own i x h
      refine ⟨a, h1, h2.keep (fun u q => n.fr a u q h4) (nx.keep S), h3, fun q => ?_, h5⟩
      rcases n.rn a q with q | q
      · exact h4 q
      · exact h2.ne q
    inj := S.inj
    slen := S'.slen
    sto := fun n o h => let ⟨a, h1, h2⟩ := S'.sto n o h; ⟨a, h1, ObAt.pr (ga := g') (gb := { g with r := g'.r }) rfl (fun a q => (pr a).mp q) h2⟩
    rB := fun a h q => S'.rB a h (by rw [hB]; exact .inl q)
    nd := S'.nd
    bt := fun a h => S'.bt a (by rw [hB]; exact .inl h)
    pre := S.pre.trans n.pre
    new := fun a h => by
      rcases n.rn a h with h | h
      · exact S.new a h
      · exact .inr (S.h0 h)
    fr := fun a o h hr => by
      refine n.fr a o (S.fr a o h hr) fun q => ?_
      rcases S.new a q with q | q
      · exact hr q
      · rw [h] at q; cases q }
def spF (K : PySem.W.Frag) (c : Nat → List PV → Sto → R PV) (n m : Nat) : Sp := fun vs H Q _ => vs.length = m ∧ ∃ g st args, g.e = [] ∧ g.s = [] ∧ Sim K g st H ∧ Paired (RepK K g H) vs args ∧
  RP (c n args st) fun v st' => ∀ g' H' w, Nx g g' H H' → Sim K g' st' H' → g'.B = g.B → RepK K g' H' w v → Q w H'
end
end Ev

set_option maxRecDepth 100000
/-! Ev7: what operators and builtins ask, answered by the interpreter. -/
namespace Ev
open PySem L2 PySem.W PyProof.Rows PySem.SeqAt

section
variable {K : PySem.W.Frag} {g : Gs} {st : Sto} {H : Hp} {Q : VK} {x y : V} {u w : PyData}
theorem RT.qp {K : PySem.W.Frag} {H : Hp} {x : V} {d : PyData} {pr : Addr → Prop} (h : RT K pr H x d) (p : d.plain = true) : RD K nopr H x d := h.q fun pd e => by
  subst e
  simp [PyData.plain] at p
theorem RT.rel_none {K : PySem.W.Frag} {H : Hp} {x : V} {d : PyData} {pr : Addr → Prop} (h : RT K pr H x d) : decide (x = .non) = isNone d := by
  cases d with
  | dict pd => obtain ⟨a, u, rfl, _⟩ := h; rfl
  | list pd => obtain ⟨a, u, rfl, _⟩ := h; rfl
  | tuple pd => obtain ⟨a, u, rfl, _⟩ := h; rfl
  | _ => exact Ev.rel_none (pr := pr) (K := K) h
theorem RT.int {i : Int} {pr : Addr → Prop} (h : RT K pr H x (.int i)) : x = .int i := by
  have h : RD K pr H x (.int i) := h
  cases h; rfl
theorem RT.bl {i : Bool} {pr : Addr → Prop} (h : RT K pr H x (.bool i)) : x = .bl i := by
  have h : RD K pr H x (.bool i) := h
  cases h; rfl
theorem RT.str {i : Str} {pr : Addr → Prop} (h : RT K pr H x (.str i)) : x = .str i := by
  have h : RD K pr H x (.str i) := h
  cases h; rfl
theorem RT.non {pr : Addr → Prop} (h : RT K pr H x .none) : x = .non := by
  have h : RD K pr H x .none := h
  cases h; rfl
theorem RD.int_ {i : Int} {pr : Addr → Prop} (h : RD K pr H x (.int i)) : x = .int i := by cases h; rfl
theorem RD.bl_ {i : Bool} {pr : Addr → Prop} (h : RD K pr H x (.bool i)) : x = .bl i := by cases h; rfl
end

def opOf : Op2 → Operator
  | .add => .Add | .sub => .Sub | .mul => .Mult | .fdiv => .FloorDiv | .mod => .Mod | .pow => .Pow
def rAdd4 (K : PySem.W.Frag) : R2 := fun x y H Q => (((∃ i j, x = .int i ∧ y = .int j ∧ Q (.int (i + j)) H) ∨ (∃ i j, x = .str i ∧ y = .str j ∧ i.length + j.length ≤ sizeLine ∧ Q (.str (i ++ j)) H)) ∨
  (rCatA K x y H Q)) ∨ (∃ l b xs zs, x = .ref l ∧ y = .ref b ∧ SqL K H l xs ∧ SqL K H b zs ∧ xs.length + zs.length ≤ sizeLine ∧ ∀ p, H p = none → Q (.ref p) (upd H p (.lst (xs ++ zs))))
def rMul2 (K : PySem.W.Frag) : R2 := fun x y H Q => (rI CMul (fun i j => .int (i * j)) x y H Q) ∨ (∃ l k xs, x = .ref l ∧ y = .int k ∧ SqL K H l xs ∧ -(2 ^ 63) ≤ k ∧ k < 2 ^ 63 ∧ xs.length * k.toNat ≤ sizeLine ∧
    ∀ p, H p = none → Q (.ref p) (upd H p (.lst (List.replicate k.toNat xs).flatten)))
def rOp (K : PySem.W.Frag) : Op2 → R2
  | .add => rAdd4 K
  | .sub => rI0 fun i j => .int (i - j)
  | .mul => rMul2 K
  | .fdiv => rI CDiv fun i j => .int (i / j)
  | .mod => rI (fun _ j => 0 < j) fun i j => .int (i % j)
  | .pow => rI CPow fun i j => .int (i ^ j.toNat)
theorem op_all {X : Cx} (o : Op2) : OpR X (binaryOp (opOf o)) (rOp X.K o) := by
  cases o with
  | add => exact OpR.or (OpR.or (OpR.or op_add op_add_str) op_catA) op_catG
  | sub => exact op_sub
  | mul => exact OpR.or op_mul op_repG
  | fdiv => exact op_fdiv
  | mod => exact op_mod
  | pow => exact op_pow
theorem op_spec {K : PySem.W.Frag} {g : Gs} {st : Sto} {H : Hp} {Q : VK} {x y : V} {u w : PyData} {v : PV} (o : Op2) (hv : opD o u w = some v) (S : Sim K g st H) (h1 : RT K g.Pr H x u) (h2 : RT K g.Pr H y w) (F : Fin K g st H v Q) : rOp K o x y H Q := by
  cases o with
  | add =>
    cases u <;> cases w <;> simp only [opD] at hv <;> try (cases hv; done)
    · cases hv
      cases h1.int; cases h2.int
      exact .inl (.inl (.inl ⟨_, _, rfl, rfl, F.int S⟩))
    · split at hv
      · rename_i hl
        cases hv
        cases h1.str; cases h2.str
        exact .inl (.inl (.inr ⟨_, _, rfl, rfl, hl, F.val S (.str _)⟩))
      · cases hv
    · split at hv
      · rename_i hl
        cases hv
        obtain ⟨a, xs, rfl, q1, r1⟩ := h1
        obtain ⟨b, ys, rfl, q2, r2⟩ := h2
        exact .inr ⟨a, b, xs, ys, rfl, rfl, q1, q2, by rw [r1.length, r2.length]; exact hl, F.lst S (r1.append r2)⟩
      · cases hv
    · split at hv
      · rename_i hl
        cases hv
        obtain ⟨a, xs, rfl, q1, r1⟩ := h1
        obtain ⟨b, ys, rfl, q2, r2⟩ := h2
        refine .inl (.inr ⟨a, b, xs, ys, rfl, rfl, .inl (.inl q1), .inl (.inl q2), by rw [r1.length, r2.length]; exact hl, fun e => ?_, fun _ e => ?_, fun _ _ => F.tup S (r1.append r2)⟩)
        · subst e
          cases r1
          exact F.val S (.tup q2 r2)
        · subst e
          cases r2
          rw [List.append_nil] at F
          exact F.val S (.tup q1 r1)
      · cases hv
  | sub =>
    cases u <;> cases w <;> simp only [opD] at hv <;> try (cases hv; done)
    cases hv
    cases h1.int; cases h2.int
    exact ⟨_, _, rfl, rfl, F.int S⟩
  | mul =>
    cases u <;> cases w <;> simp only [opD] at hv <;> try (cases hv; done)
    · split at hv
      · rename_i hl
        cases hv
        cases h1.int; cases h2.int
        refine .inl ⟨_, _, rfl, rfl, ?_, F.int S⟩
        (simp only [mulOk, Bool.or_eq_true, decide_eq_true_eq] at hl; unfold CMul; omega)
      · cases hv
    · split at hv
      · rename_i hl
        cases hv
        cases h2.int
        obtain ⟨a, xs, rfl, q1, r1⟩ := h1
        exact .inr ⟨a, _, xs, rfl, rfl, q1, hl.1, hl.2.1, by rw [r1.length]; exact hl.2.2, F.lst S (r1.rep _)⟩
      · cases hv
  | fdiv =>
    cases u <;> cases w <;> simp only [opD] at hv <;> try (cases hv; done)
    split at hv
    · rename_i hl
      cases hv
      cases h1.int; cases h2.int
      exact ⟨_, _, rfl, rfl, hl, F.int S⟩
    · cases hv
  | mod =>
    cases u <;> cases w <;> simp only [opD] at hv <;> try (cases hv; done)
    split at hv
    · rename_i hl
      cases hv
      cases h1.int; cases h2.int
      exact ⟨_, _, rfl, rfl, hl, F.int S⟩
    · cases hv
  | pow =>
    cases u <;> cases w <;> simp only [opD] at hv <;> try (cases hv; done)
    split at hv
    · rename_i hl
      cases hv
      cases h1.int; cases h2.int
      exact ⟨_, _, rfl, rfl, hl, F.int S⟩
    · cases hv

/-! ### comparisons -/
def cmOf : Cm → CmpOp
  | .lt => .Lt | .le => .LtE | .gt => .Gt | .ge => .GtE | .eq => .Eq | .ne => .NotEq | .is_ => .Is | .isnt => .IsNot | .in_ => .In | .notin => .NotIn
def rDat (K : PySem.W.Frag) (C : PyData → PyData → Prop) (f : PyData → PyData → Bool) : R2 := fun x y H Q => ∃ d e, RD K nopr H x d ∧ RD K nopr H y e ∧ C d e ∧ Q (.bl (f d e)) H
def rCm (K : PySem.W.Frag) : Cm → R2
  | .lt => fun x y H Q => rI0 (fun i j => .bl (decide (i < j))) x y H Q ∨ rDat K CLt dataLt x y H Q
  | .gt => fun x y H Q => rI0 (fun i j => .bl (decide (j < i))) x y H Q ∨ rDat K CGt (fun d e => dataLt e d) x y H Q
  | .le => rI0 fun i j => .bl (decide (i ≤ j))
  | .ge => rI0 fun i j => .bl (decide (j ≤ i))
  | .eq => fun x y H Q => rEq x y H Q ∨ rDat K CEq PyData.eqv x y H Q
  | .ne => fun x y H Q => rNe x y H Q ∨ rDat K CEq (fun d e => !PyData.eqv d e) x y H Q
  | .is_ => fun x y H Q => (y = .non ∧ Q (.bl (decide (x = .non))) H) ∨ (∃ a b, x = .bl a ∧ y = .bl b ∧ Q (.bl (decide (a = b))) H)
  | .isnt => fun x y H Q => (y = .non ∧ Q (.bl (!decide (x = .non))) H) ∨ (∃ a b, x = .bl a ∧ y = .bl b ∧ Q (.bl (!decide (a = b))) H)
  | .in_ => fun x y H Q => rDat K CIn fIn x y H Q ∨ rInD x y H Q
  | .notin => fun x y H Q => rDat K CIn (fun d e => !fIn d e) x y H Q ∨ rNotInD x y H Q
theorem cm_all {X : Cx} (hu : X.A.units + 70 < cLine) (o : Cm) : OpR X (compareOp (cmOf o)) (rCm X.K o) := by
  cases o with
  | lt => exact OpR.or op_lt (op_ltP hu)
  | gt => exact OpR.or op_gt (op_gtP hu)
  | le => exact op_le
  | ge => exact op_ge
  | eq => exact OpR.or op_eq (op_eqP hu)
  | ne => exact OpR.or op_ne (op_neP hu)
  | is_ => exact OpR.or op_isN op_is_bl
  | isnt => exact OpR.or op_notN op_isnot_bl
  | in_ => exact OpR.or (op_inP hu) (op_inD (by omega))
  | notin => exact OpR.or (op_notinP hu) (op_notinD (by omega))
theorem eqD_eq {u w : PyData} {b : Bool} (h : eqD u w = some b) : (∃ i j, u = .int i ∧ w = .int j ∧ b = decide (i = j)) ∨ (∃ i j, u = .str i ∧ w = .str j ∧ b = decide (i = j)) ∨ (∃ i j, u = .bool i ∧ w = .bool j ∧ b = decide (i = j)) ∨ (u = .none ∧ w = .none ∧ b = true) ∨
    (CEq u w ∧ b = PyData.eqv u w) := by
  unfold eqD at h
  split at h
  · cases h; exact .inl ⟨_, _, rfl, rfl, rfl⟩
  · cases h; exact .inr (.inl ⟨_, _, rfl, rfl, rfl⟩)
  · cases h; exact .inr (.inr (.inl ⟨_, _, rfl, rfl, rfl⟩))
  · cases h; exact .inr (.inr (.inr (.inl ⟨rfl, rfl, rfl⟩)))
  · split at h
    · rename_i hc
      cases h
      simp only [Bool.and_eq_true, decide_eq_true_eq] at hc
      exact .inr (.inr (.inr (.inr ⟨⟨hc.1.1, hc.1.2, hc.2⟩, rfl⟩)))
    · cases h
theorem ltD_eq {u w : PyData} {b : Bool} (h : ltD u w = some b) : (∃ i j, u = .int i ∧ w = .int j ∧ b = decide (i < j)) ∨ (CLt u w ∧ b = dataLt u w) := by
  unfold ltD at h
  split at h
  · cases h; exact .inl ⟨_, _, rfl, rfl, rfl⟩
  · cases h
  · rename_i hn _
    split at h
    · rename_i hc
      cases h
      simp only [Bool.and_eq_true, decide_eq_true_eq] at hc
      exact .inr ⟨⟨hc.1.1.1, fun e => hn e, hc.1.1.2, hc.1.2, hc.2⟩, rfl⟩
    · cases h
mutual
theorem alike_sym : ∀ {x y : PyData}, alike x y = true → alike y x = true
  | .none, y, h => by cases y <;> simp_all [alike]
  | .bool _, y, h => by cases y <;> simp_all [alike]
  | .int _, y, h => by cases y <;> simp_all [alike]
  | .str _, y, h => by cases y <;> simp_all [alike]
  | .list xs, y, h => by
    cases y with
    | list ys => rw [alike] at h ⊢; exact alikeAll_sym h
    | _ => simp [alike] at h
  | .tuple xs, y, h => by
    cases y with
    | tuple ys => rw [alike] at h ⊢; exact alikeAll_sym h
    | _ => simp [alike] at h
  | .dict _, y, h => by cases y <;> simp_all [alike]
theorem alikeAll_sym : ∀ {x y : List PyData}, alikeAll x y = true → alikeAll y x = true
  | [], [], _ => rfl
  | [], _ :: _, _ => by rw [alikeAll]
  | _ :: _, [], _ => by rw [alikeAll]
  | x :: xs, y :: ys, h => by
    have h' := alike_all_cons h
    rw [alikeAll, alike_sym h'.1, alikeAll_sym h'.2]; rfl
end
theorem alike_none {y : PyData} (h : alike y .none = true) : y = .none := by cases y <;> simp_all [alike]
theorem cmp_spec {K : PySem.W.Frag} {g : Gs} {st : Sto} {H : Hp} {Q : VK} {x y : V} {u w : PyData} {b : Bool} (o : Cm) (hv : cmpD o u w = some b) (S : Sim K g st H) (h1 : RT K g.Pr H x u) (h2 : RT K g.Pr H y w) (F : Q (.bl b) H) : rCm K o x y H Q := by
  cases o with
  | lt =>
    simp only [cmpD] at hv
    rcases ltD_eq hv with ⟨i, j, rfl, rfl, rfl⟩ | ⟨hc, rfl⟩
    · cases h1.int; cases h2.int
      exact .inl ⟨_, _, rfl, rfl, F⟩
    · exact .inr ⟨u, w, h1.qp hc.2.2.2.1, h2.qp hc.2.2.2.2, hc, F⟩
  | gt =>
    simp only [cmpD] at hv
    rcases ltD_eq hv with ⟨i, j, rfl, rfl, rfl⟩ | ⟨hc, rfl⟩
    · cases h1.int; cases h2.int
      exact .inl ⟨_, _, rfl, rfl, F⟩
    · exact .inr ⟨u, w, h1.qp hc.2.2.2.2, h2.qp hc.2.2.2.1, ⟨alike_sym hc.1, fun e => hc.2.1 (alike_none (by rw [← e]; exact hc.1)), hc.2.2.1, hc.2.2.2.2, hc.2.2.2.1⟩, F⟩
  | le =>
    cases u <;> cases w <;> simp only [cmpD] at hv <;> try (cases hv; done)
    cases hv
    cases h1.int; cases h2.int
    exact ⟨_, _, rfl, rfl, F⟩
  | ge =>
    cases u <;> cases w <;> simp only [cmpD] at hv <;> try (cases hv; done)
    cases hv
    cases h1.int; cases h2.int
    exact ⟨_, _, rfl, rfl, F⟩
  | eq =>
    simp only [cmpD] at hv
    rcases eqD_eq hv with ⟨i, j, rfl, rfl, rfl⟩ | ⟨i, j, rfl, rfl, rfl⟩ | ⟨i, j, rfl, rfl, rfl⟩ | ⟨rfl, rfl, rfl⟩ | ⟨hc, rfl⟩
    · cases h1.int; cases h2.int
      exact .inl ⟨rfl, by simpa using F⟩
    · cases h1.str; cases h2.str
      exact .inl ⟨rfl, by simpa using F⟩
    · cases h1.bl; cases h2.bl
      exact .inl ⟨rfl, by simpa using F⟩
    · cases h1.non; cases h2.non
      exact .inl ⟨rfl, by simpa using F⟩
    · exact .inr ⟨u, w, h1.qp hc.1, h2.qp hc.2.1, hc, F⟩
  | ne =>
    simp only [cmpD, Option.map_eq_some_iff] at hv
    obtain ⟨b', hv, rfl⟩ := hv
    rcases eqD_eq hv with ⟨i, j, rfl, rfl, rfl⟩ | ⟨i, j, rfl, rfl, rfl⟩ | ⟨i, j, rfl, rfl, rfl⟩ | ⟨rfl, rfl, rfl⟩ | ⟨hc, rfl⟩
    · cases h1.int; cases h2.int
      exact .inl ⟨rfl, by simpa using F⟩
    · cases h1.str; cases h2.str
      exact .inl ⟨rfl, by simpa using F⟩
    · cases h1.bl; cases h2.bl
      exact .inl ⟨rfl, by simpa using F⟩
    · cases h1.non; cases h2.non
      exact .inl ⟨rfl, by simpa using F⟩
    · exact .inr ⟨u, w, h1.qp hc.1, h2.qp hc.2.1, hc, F⟩
  | is_ =>
    cases w with
    | none =>
      simp only [cmpD] at hv
      cases hv
      cases h2.non
      exact .inl ⟨rfl, by rw [h1.rel_none]; exact F⟩
    | bool j =>
      cases u <;> simp only [cmpD] at hv <;> try (cases hv; done)
      cases hv
      cases h1.bl; cases h2.bl
      exact .inr ⟨_, _, rfl, rfl, F⟩
    | _ => cases u <;> simp [cmpD] at hv
  | isnt =>
    cases w with
    | none =>
      simp only [cmpD] at hv
      cases hv
      cases h2.non
      exact .inl ⟨rfl, by rw [h1.rel_none]; exact F⟩
    | bool j =>
      cases u <;> simp only [cmpD] at hv <;> try (cases hv; done)
      cases hv
      cases h1.bl; cases h2.bl
      exact .inr ⟨_, _, rfl, rfl, by simpa using F⟩
    | _ => cases u <;> simp [cmpD] at hv
  | in_ =>
    simp only [cmpD] at hv
    cases w <;> simp only [inD] at hv <;> try (cases hv; done)
    · split at hv
      · rename_i hc
        cases hv
        simp only [Bool.and_eq_true, decide_eq_true_eq] at hc
        exact .inl ⟨u, _, h1.qp hc.1.1, h2.qp (by rw [PyData.plain]; exact hc.1.2), ⟨hc.1.1, hc.2, _, .inl rfl, hc.1.2⟩, F⟩
      · cases hv
    · split at hv
      · rename_i hc
        cases hv
        simp only [Bool.and_eq_true, decide_eq_true_eq] at hc
        exact .inl ⟨u, _, h1.qp hc.1.1, h2.qp (by rw [PyData.plain]; exact hc.1.2), ⟨hc.1.1, hc.2, _, .inr rfl, hc.1.2⟩, F⟩
      · cases hv
    · rw [Option.bind_eq_some_iff] at hv
      obtain ⟨k, hk, hv⟩ := hv
      split at hv
      · rename_i ok
        cases hv
        obtain ⟨a, z, rfl, q, r⟩ := h2
        obtain ⟨o, g, an⟩ := dct_get q r (rt_key h1 hk) ok
        exact .inr ⟨a, o, rfl, g, by rw [an.isSome, ← any_get]; exact F⟩
      · cases hv
  | notin =>
    simp only [cmpD, Option.map_eq_some_iff] at hv
    obtain ⟨b', hv, rfl⟩ := hv
    cases w <;> simp only [inD] at hv <;> try (cases hv; done)
    · split at hv
      · rename_i hc
        cases hv
        simp only [Bool.and_eq_true, decide_eq_true_eq] at hc
        exact .inl ⟨u, _, h1.qp hc.1.1, h2.qp (by rw [PyData.plain]; exact hc.1.2), ⟨hc.1.1, hc.2, _, .inl rfl, hc.1.2⟩, F⟩
      · cases hv
    · split at hv
      · rename_i hc
        cases hv
        simp only [Bool.and_eq_true, decide_eq_true_eq] at hc
        exact .inl ⟨u, _, h1.qp hc.1.1, h2.qp (by rw [PyData.plain]; exact hc.1.2), ⟨hc.1.1, hc.2, _, .inr rfl, hc.1.2⟩, F⟩
      · cases hv
    · rw [Option.bind_eq_some_iff] at hv
      obtain ⟨k, hk, hv⟩ := hv
      split at hv
      · rename_i ok
        cases hv
        obtain ⟨a, z, rfl, q, r⟩ := h2
        obtain ⟨o, g, an⟩ := dct_get q r (rt_key h1 hk) ok
        exact .inr ⟨a, o, rfl, g, by rw [an.isSome, ← any_get]; exact F⟩
      · cases hv

/-! ### subscripts, slices -/
theorem atI_mem {α : Type} {xs : List α} {i : Int} {x : α} (h : atI xs i = some x) : ∃ j, ixN xs.length i = some j ∧ xs[j]? = some x := by
  unfold atI at h
  rw [Option.bind_eq_some_iff] at h
  exact h
theorem atI_of {α β : Type} {xs : List α} {ys : List β} {i : Int} {y : β} {j : Nat} (hl : ys.length = xs.length) (h : ixN xs.length i = some j) (hy : ys[j]? = some y) : atI ys i = some y := by
  unfold atI
  rw [hl, h]
  exact hy
theorem ix_spec {K : PySem.W.Frag} {g : Gs} {st : Sto} {H : Hp} {Q : VK} {x y : V} {u w v : PyData} (hv : ixD u w = some v) (S : Sim K g st H) (h1 : RT K g.Pr H x u) (h2 : RT K g.Pr H y w) (F : Fin K g st H (.d v) Q) : (rIxL K x y H Q ∨ rIxT K x y H Q) ∨ rIxDct x y H Q := by
  unfold ixD at hv
  split at hv
  · cases h2.int
    obtain ⟨a, xs, rfl, q, r⟩ := h1
    obtain ⟨j, e1, e2⟩ := atI_mem hv
    obtain ⟨z, hz, rz⟩ := r.get e2
    exact .inl (.inl ⟨a, xs, _, z, rfl, rfl, q, atI_of r.length e1 hz, F.val S rz⟩)
  · cases h2.int
    obtain ⟨a, xs, rfl, q, r⟩ := h1
    obtain ⟨j, e1, e2⟩ := atI_mem hv
    obtain ⟨z, hz, rz⟩ := r.get e2
    exact .inl (.inr ⟨a, xs, _, z, rfl, rfl, .inl (.inl q), atI_of r.length e1 hz, F.val S rz⟩)
  · rw [Option.bind_eq_some_iff] at hv
    obtain ⟨k, hk, hv⟩ := hv
    split at hv
    · rename_i ok
      obtain ⟨a, z, rfl, q, r⟩ := h1
      obtain ⟨o, g, an⟩ := dct_get q r (rt_key h2 hk) ok
      rw [hv] at an
      obtain ⟨z', rfl, rz⟩ := an
      exact .inr ⟨a, z', rfl, g.some, F.val S rz⟩
    · cases hv
  · cases hv
theorem cutL_rds {K : PySem.W.Frag} {pr : Addr → Prop} {H : Hp} {vs : List V} {ds : List PyData} (r : RDs K pr H vs ds) (lo hi : Option Int) : RDs K pr H (cutV vs lo hi) (cutL ds lo hi) := by
  unfold cutV cutL
  rw [r.length]
  exact (r.drop _).take _
theorem cutL_full {α : Type} (xs : List α) {lo hi : Option Int} (h : HT.sIx xs.length 0 lo = 0 ∧ HT.sIx xs.length xs.length hi = xs.length) : cutL xs lo hi = xs := by
  unfold cutL
  rw [h.1, h.2, List.drop_zero, Nat.sub_zero, List.take_length]
theorem sl_spec {K : PySem.W.Frag} {g : Gs} {st : Sto} {H : Hp} {Q : VK} {x : V} {u : PyData} {v : PV} {lo hi : Option Int} (hv : slD u lo hi = some v) (S : Sim K g st H) (h1 : RT K g.Pr H x u) (F : Fin K g st H v Q) : rSlL K x lo hi H Q ∨ rSlA K x lo hi H Q := by
  cases u <;> simp only [slD] at hv <;> try (cases hv; done)
  · cases hv
    obtain ⟨a, xs, rfl, q, r⟩ := h1
    exact .inl ⟨a, xs, rfl, q, F.lst S (cutL_rds r _ _)⟩
  · cases hv
    obtain ⟨a, xs, rfl, q, r⟩ := h1
    refine .inr ⟨a, xs, rfl, .inl (.inl q), fun e => ?_, fun _ => F.tup S (cutL_rds r _ _)⟩
    rw [r.length] at e
    rw [cutL_full _ e] at F
    exact F.val S (.tup q r)

/-! ### builtins -/
def biNm : Bi → Str
  | .len => "len" | .abs => "abs" | .int => "int" | .sum => "sum" | .max => "max" | .min => "min" | .any => "any" | .all => "all" | .sorted => "sorted" | .tuple => "tuple" | .list => "list" | .isinst => "isinstance" | .str => "str"
def biT : Bi → Option String
  | .int => some "int" | .tuple => some "tuple" | .list => some "list" | .str => some "str" | _ => none
def biB : Bi → String
  | .len => "len" | .abs => "abs" | .int => "int" | .sum => "sum" | .max => "max" | .min => "min" | .any => "any" | .all => "all" | .sorted => "sorted" | .tuple => "tuple" | .list => "list" | .isinst => "isinstance" | .str => "str"
def biVal (b : Bi) : Value := match biT b with
  | some t => .type t
  | none => .builtin (biB b)
theorem boot_bi (b : Bi) : bootBuiltins (biNm b) = some (biVal b) := by cases b <;> decide +kernel
theorem bi_nm (b : Bi) : biNm b ≠ "__name__" ∧ (biNm b == ("__debug__" : Str)) = false := by cases b <;> decide +kernel
abbrev RC := List V → Hp → VK → Prop
def rBi (K : PySem.W.Frag) : Bi → RC
  | .len => fun xs H Q => ((∃ p ys, xs = [.ref p] ∧ (SqL K H p ys ∨ SqT K H p ys) ∧ Q (.int ys.length) H) ∨ (∃ z, xs = [.str z] ∧ z.length ≤ sizeLine ∧ Q (.int z.length) H)) ∨ rLenD xs H Q
  | .abs => fun xs H Q => ∃ i, xs = [.int i] ∧ Q (.int (if i < 0 then -i else i)) H
  | .int => fun xs H Q => (∃ i, xs = [.int i] ∧ Q (.int i) H) ∨ ∃ k, xs = [.bl k] ∧ Q (.int (if k then 1 else 0)) H
  | .sum => fun vs H Q => ∃ pr x, ∃ ns : List Int, vs = [x] ∧ RSeq K pr H x (ns.map PyData.int) ∧ Q (.int ns.sum) H
  | .max => fun vs H Q => (∃ i j, vs = [.int i, .int j] ∧ Q (.int (if j > i then j else i)) H) ∨ ∃ pr x y ds, vs = [x] ∧ RSeq K pr H x (y :: ds) ∧ alikeAllB (y :: ds) = true ∧ ∀ v, RD K pr H v (maxD y ds) → Q v H
  | .min => fun vs H Q => (∃ i j, vs = [.int i, .int j] ∧ Q (.int (if j < i then j else i)) H) ∨ ∃ pr x y ds, vs = [x] ∧ RSeq K pr H x (y :: ds) ∧ alikeAllB (y :: ds) = true ∧ ∀ v, RD K pr H v (minD y ds) → Q v H
  | .any => rAny K
  | .all => rAll K
  | .sorted => fun vs H Q => (∃ pr x ds, vs = [x] ∧ RSeq K pr H x ds ∧ alikeAllB ds = true ∧ sortableB ds = true ∧ ∀ p ws, RDs K pr H ws (ds.mergeSort (dataLe false id)) → H p = none → Q (.ref p) (upd H p (.lst ws))) ∨ rSortDct K vs H Q ∨ ∃ pr x ds, vs = [x] ∧ RT K pr H x (.list ds) ∧ alikeAllB ds = true ∧ sort0B ds = true ∧ ∀ p ws, RDs K pr H ws (ds.mergeSort (dataLe false id)) → H p = none → Q (.ref p) (upd H p (.lst ws))
  | .tuple => fun xs H Q => ∃ p ys, xs = [.ref p] ∧ ((SqL K H p ys ∧ ∀ l, H l = none → Q (.ref l) (upd H l (.tup ys))) ∨ (SqT K H p ys ∧ Q (.ref p) H))
  | .list => fun xs H Q => ∃ p ys, xs = [.ref p] ∧ (SqL K H p ys ∨ SqT K H p ys) ∧ ∀ l, H l = none → Q (.ref l) (upd H l (.lst ys))
  | .isinst => fun vs H Q => ∃ x n d b, vs = [x, .ty n] ∧ RD K nopr H x d ∧ flatD d = true ∧ isaD n d = some b ∧ Q (.bl b) H
  | .str => fun _ _ _ => False
theorem bi_all {X : Cx} (hc : X.calm = true) (hu : X.A.units + 70 < cLine) (b : Bi) : CallR X (biVal b) (rBi X.K b) := by
  cases b with
  | len => exact CallR.or (CallR.or call_len_seq call_len_str) call_lenDct
  | abs => exact call_abs
  | int => exact call_int1
  | sum => exact call_sumD hc
  | max => exact CallR.or (call_max2 hc) (call_maxD hc hu)
  | min => exact CallR.or (call_min2 hc) (call_minD hc hu)
  | any => exact cr_any hc
  | all => exact cr_all hc
  | sorted => exact CallR.or (call_sortedD hu) (CallR.or (call_sortedDct hc hu) (call_sorted0 hu))
  | tuple => exact call_tuple_of
  | list => exact call_list_of
  | isinst => exact call_isaD
  | str => exact fun _ _ _ _ _ _ _ _ _ h => h.elim
end Ev

set_option maxRecDepth 100000
/-! Ev8: builtins answered; walks; targets; comprehensions. -/
namespace Ev
open PySem L2 PySem.W PyProof.Rows PySem.SeqAt

theorem RT.seqL {K : PySem.W.Frag} {pr : Addr → Prop} {H : Hp} {x : V} {u : PyData} {ds : List PyData} (h : RT K pr H x u) (e : itemsD u = some ds) : RSeq K pr H x ds := itemsD_seq h e
theorem maxD_int {n : Int} {ns : List Int} : maxD (.int n) (ns.map PyData.int) = .int (ns.foldl max n) := maxD_ints n ns
theorem minD_int {n : Int} {ns : List Int} : minD (.int n) (ns.map PyData.int) = .int (ns.foldl min n) := minD_ints n ns
theorem alike_ints (ns : List Int) : alikeAllB (ns.map PyData.int) = true := by
  unfold alikeAllB
  simp [List.all_map, alike, isNone, PyData.depth]
section
variable {K : PySem.W.Frag} {g : Gs} {st : Sto} {H : Hp} {Q : VK}
theorem bi_spec1 {b : Bi} {x : V} {u : PyData} {v : PV} (hv : biD b [u] = some v) (S : Sim K g st H) (h : RT K g.Pr H x u) (F : Fin K g st H v Q) : rBi K b [x] H Q := by
  cases b with
  | len =>
    cases u <;> simp only [biD] at hv <;> try (cases hv; done)
    · split at hv
      · rename_i hl
        cases hv
        cases h.str
        exact .inl (.inr ⟨_, rfl, hl, F.int S⟩)
      · cases hv
    · cases hv
      obtain ⟨a, xs, rfl, q, r⟩ := h
      exact .inl (.inl ⟨a, xs, rfl, .inl q, by rw [r.length]; exact F.int S⟩)
    · cases hv
      obtain ⟨a, xs, rfl, q, r⟩ := h
      exact .inl (.inl ⟨a, xs, rfl, .inr (.inl (.inl q)), by rw [r.length]; exact F.int S⟩)
    · cases hv
      obtain ⟨a, z, rfl, q, r⟩ := h
      exact .inr ⟨a, _, rfl, dct_len q r, F.int S⟩
  | abs =>
    cases u <;> simp only [biD] at hv <;> try (cases hv; done)
    cases hv
    cases h.int
    exact ⟨_, rfl, F.int S⟩
  | int =>
    cases u <;> simp only [biD] at hv <;> try (cases hv; done)
    · cases hv
      cases h.bl
      exact .inr ⟨_, rfl, F.int S⟩
    · cases hv
      cases h.int
      exact .inl ⟨_, rfl, F.int S⟩
  | sum =>
    simp only [biD, Option.bind_eq_some_iff, Option.map_eq_some_iff] at hv
    obtain ⟨xs, e1, ns, e2, rfl⟩ := hv
    cases allInts_eq e2
    exact ⟨_, x, ns, rfl, h.seqL e1, F.int S⟩
  | any =>
    cases u <;> simp only [biD] at hv <;> try (cases hv; done)
    simp only [Option.map_eq_some_iff] at hv
    obtain ⟨bs, e2, rfl⟩ := hv
    cases allBools_eq e2
    obtain ⟨a, ws, rfl, q, r⟩ := h
    cases r.to_bools
    exact ⟨a, bs, rfl, q, F.bl S⟩
  | all =>
    cases u <;> simp only [biD] at hv <;> try (cases hv; done)
    simp only [Option.map_eq_some_iff] at hv
    obtain ⟨bs, e2, rfl⟩ := hv
    cases allBools_eq e2
    obtain ⟨a, ws, rfl, q, r⟩ := h
    cases r.to_bools
    exact ⟨a, bs, rfl, q, F.bl S⟩
  | max =>
    have hv : ((itemsD u).bind fun xs => match xs with
      | [] => none
      | y :: r => match allInts (y :: r) with
        | some (n :: ns) => some (PV.d (.int (ns.foldl max n)))
        | _ => if alikeAllB (y :: r) then some (PV.d (maxD y r)) else none) = some v := by
      cases u <;> exact hv
    rw [Option.bind_eq_some_iff] at hv
    obtain ⟨xs, e1, hv⟩ := hv
    cases xs with
    | nil => cases hv
    | cons y r =>
      simp only at hv
      split at hv
      · rename_i n ns e2
        cases hv
        have e := allInts_eq e2
        rw [List.map_cons] at e
        injection e with e3 e4
        subst e3 e4
        exact .inr ⟨_, x, _, _, rfl, h.seqL e1, alike_ints (n :: ns), fun w hw => by rw [maxD_int] at hw; exact F.val S hw⟩
      · split at hv
        · rename_i hc
          cases hv
          exact .inr ⟨_, x, _, _, rfl, h.seqL e1, hc, fun w hw => F.val S hw⟩
        · cases hv
  | min =>
    have hv : ((itemsD u).bind fun xs => match xs with
      | [] => none
      | y :: r => match allInts (y :: r) with
        | some (n :: ns) => some (PV.d (.int (ns.foldl min n)))
        | _ => if alikeAllB (y :: r) then some (PV.d (minD y r)) else none) = some v := by
      cases u <;> exact hv
    rw [Option.bind_eq_some_iff] at hv
    obtain ⟨xs, e1, hv⟩ := hv
    cases xs with
    | nil => cases hv
    | cons y r =>
      simp only at hv
      split at hv
      · rename_i n ns e2
        cases hv
        have e := allInts_eq e2
        rw [List.map_cons] at e
        injection e with e3 e4
        subst e3 e4
        exact .inr ⟨_, x, _, _, rfl, h.seqL e1, alike_ints (n :: ns), fun w hw => by rw [minD_int] at hw; exact F.val S hw⟩
      · split at hv
        · rename_i hc
          cases hv
          exact .inr ⟨_, x, _, _, rfl, h.seqL e1, hc, fun w hw => F.val S hw⟩
        · cases hv
  | sorted =>
    simp only [biD, Option.bind_eq_some_iff] at hv
    obtain ⟨xs, e1, hv⟩ := hv
    split at hv
    · rename_i hc
      rw [sortD_eq] at hv
      cases hv
      simp only [Bool.and_eq_true, decide_eq_true_eq] at hc
      obtain ⟨⟨h1, h2⟩, h3⟩ := hc
      rw [Bool.or_eq_true] at h2
      cases u with
      | list ys =>
        cases e1
        rcases h2 with h2 | h2
        · exact .inl ⟨_, x, _, rfl, .inl h, h1, h2, fun p ws r hp => F.lst S r p hp⟩
        · rw [Bool.and_eq_true] at h2
          exact .inr (.inr ⟨_, x, _, rfl, h, h1, h2.2, fun p ws r hp => F.lst S r p hp⟩)
      | tuple ys =>
        cases e1
        rcases h2 with h2 | h2
        · exact .inl ⟨_, x, _, rfl, .inr h, h1, h2, fun p ws r hp => F.lst S r p hp⟩
        · cases h2
      | dict pd =>
        cases e1
        rcases h2 with h2 | h2
        · obtain ⟨a, z, rfl, q, r⟩ := h
          exact .inr (.inl ⟨_, a, z, pd, rfl, q, r, h1, h2, by simpa using h3, fun p ws r hp => F.lst S r p hp⟩)
        · cases h2
      | _ => cases e1
    · cases hv
  | tuple =>
    cases u <;> simp only [biD] at hv <;> try (cases hv; done)
    · cases hv
      obtain ⟨a, xs, rfl, q, r⟩ := h
      exact ⟨a, xs, rfl, .inl ⟨q, F.tup S r⟩⟩
    · cases hv
      obtain ⟨a, xs, rfl, q, r⟩ := h
      exact ⟨a, xs, rfl, .inr ⟨.inl (.inl q), F.val S (.tup q r)⟩⟩
  | list =>
    cases u <;> simp only [biD] at hv <;> try (cases hv; done)
    · cases hv
      obtain ⟨a, xs, rfl, q, r⟩ := h
      exact ⟨a, xs, rfl, .inl q, F.lst S r⟩
    · cases hv
      obtain ⟨a, xs, rfl, q, r⟩ := h
      exact ⟨a, xs, rfl, .inr (.inl (.inl q)), F.lst S r⟩
  | isinst => cases u <;> simp [biD] at hv
  | str => cases u <;> simp [biD] at hv
theorem bi_spec2 {b : Bi} {x y : V} {u w : PyData} {v : PV} (hv : biD b [u, w] = some v) (S : Sim K g st H) (h : RT K g.Pr H x u) (h2 : RT K g.Pr H y w) (F : Fin K g st H v Q) : rBi K b [x, y] H Q := by
  cases b with
  | max =>
    cases u <;> cases w <;> simp only [biD] at hv <;> try (cases hv; done)
    cases hv
    cases h.int; cases h2.int
    exact .inl ⟨_, _, rfl, F.int S⟩
  | min =>
    cases u <;> cases w <;> simp only [biD] at hv <;> try (cases hv; done)
    cases hv
    cases h.int; cases h2.int
    exact .inl ⟨_, _, rfl, F.int S⟩
  | _ => cases u <;> cases w <;> simp [biD] at hv
theorem bi_spec {b : Bi} {ws : List V} {xs : List PV} {v : PV} {Bo : Addr → Prop} (hv : biV b xs st = some v) (S : Sim K g st H) (h : Paired (Rep K g Bo H) ws xs) (hB : ∀ a, Bo a → g.B a) (F : Fin K (g.wB Bo) st H v Q) : rBi K b ws H Q := by
  have S' := S.weak hB
  have kp : ∀ {x : V} {u : PyData}, RT K g.Pr H x u → RT K (g.wB Bo).Pr H x u := fun h => h.keep fun _ q => Gs.wB_pr hB q
  have two : ∀ {x y : PV} {ws : List V}, Paired (Rep K g Bo H) ws [x, y] → ((rd x st).bind fun u => (rd y st).bind fun w => biD b [u, w]) = some v → rBi K b ws H Q := fun {x y ws} h hv => by
    cases h with
    | cons r1 h =>
      cases h with
      | cons r2 h =>
        cases h
        simp only [Option.bind_eq_some_iff] at hv
        obtain ⟨u, e1, w, e2, hv⟩ := hv
        exact bi_spec2 hv S' (kp (r1.rt S e1)) (kp (r2.rt S e2)) F
  unfold biV at hv
  split at hv
  · cases h with
    | cons r1 h =>
      cases h with
      | cons r2 h =>
        cases h
        simp only [Option.bind_eq_some_iff, Option.map_eq_some_iff] at hv
        obtain ⟨u, e1, k, e2, rfl⟩ := hv
        cases (show _ = V.ty _ from r2)
        split at e2
        · rename_i hf
          exact ⟨_, _, u, k, rfl, (r1.rt S e1).q (fun pd q => by rw [q, flatD] at hf; cases hf), hf, e2, F.bl S'⟩
        · cases e2
  · cases h with
    | cons r1 h =>
      cases h
      simp only [Option.bind_eq_some_iff] at hv
      obtain ⟨u, e1, hv⟩ := hv
      exact bi_spec1 hv S' (kp (r1.rt S e1)) F
  · exact two h hv
  · cases hv
end

/-! ### walks -/
/-- what is walked, and how it stays -/
inductive Src (K : PySem.W.Frag) (bo : Bool) (Bo : Addr → Prop) (pr : Addr → Prop) (r : List Addr) (H : Hp) : V → List PyData → Prop
  | tup {a : Addr} {vs : List V} {ds : List PyData} : H a = some (.tup vs) → RDs K pr H vs ds → Src K bo Bo pr r H (.ref a) ds
  | lstK {a : Addr} {vs : List V} {ds : List PyData} : SqLK K a vs → RDs K pr H vs ds → Src K bo Bo pr r H (.ref a) ds
  | lst {a : Addr} {vs : List V} {ds : List PyData} : Rd H a (.lst vs) → (bo = true ∨ ¬ pr a) → a ∉ r → ¬ Bo a → RDs K pr H vs ds → Src K bo Bo pr r H (.ref a) ds
/-- the source, with its kind and its items' values fixed -/
inductive SrcA (K : PySem.W.Frag) (bo : Bool) (Bo : Addr → Prop) (a : Addr) (vs : List V) (ds : List PyData) : Bool → (Addr → Prop) → List Addr → Hp → Prop
  | tup {pr : Addr → Prop} {r : List Addr} {H : Hp} : H a = some (.tup vs) → RDs K pr H vs ds → SrcA K bo Bo a vs ds false pr r H
  | lstK {pr : Addr → Prop} {r : List Addr} {H : Hp} : SqLK K a vs → RDs K pr H vs ds → SrcA K bo Bo a vs ds true pr r H
  | lst {pr : Addr → Prop} {r : List Addr} {H : Hp} : Rd H a (.lst vs) → (bo = true ∨ ¬ pr a) → a ∉ r → ¬ Bo a → RDs K pr H vs ds → SrcA K bo Bo a vs ds true pr r H
abbrev GP := (Addr → Prop) → List Addr → Hp → Prop
structure Stay (K : PySem.W.Frag) (bo : Bool) (G : GP) : Prop where
  nx : ∀ g g' H H' st, Sim K g st H → Nx g g' H H' → G g.Pr g.r H → G g'.Pr g'.r H'
  keep : bo = false → ∀ (g g' : Gs) H H', Keep g.Pr H g'.Pr H' → G g.Pr g.r H → G g'.Pr g'.r H'
  anti : ∀ (pr pr' : Addr → Prop) r H, (∀ a, pr' a → pr a) → G pr r H → G pr' r H
structure Wk (K : PySem.W.Frag) (J : L2.It) (G : GP) (xs : List PyData) : Prop where
  go : ∀ pr r H i, G pr r H → i < xs.length → J.go i H
  stop : ∀ pr r H, G pr r H → J.stop xs.length H
  yld : ∀ pr r H i v H', G pr r H → i < xs.length → J.yld i H v H' → ∃ x, xs[i]? = some x ∧ ((H' = H ∧ RD K pr H v x) ∨ ∃ T vs ds, v = .ref T ∧ H T = none ∧ H' = upd H T (.tup vs) ∧ x = .tuple ds ∧ RDs K pr H vs ds)
section
variable {K : PySem.W.Frag} {bo : Bool} {Bo : Addr → Prop} {pr pr' : Addr → Prop} {r r' : List Addr} {H H' : Hp} {v : V} {ds : List PyData} {g g' : Gs} {st st' : Sto}
theorem Src.nx (S : Sim K g st H) (n : Nx g g' H H') (h : Src K bo Bo g.Pr g.r H v ds) : Src K bo Bo g'.Pr g'.r H' v ds := by
  have k := n.keep S
  cases h with
  | tup q r => exact .tup (k.t _ _ q) (r.keep k)
  | lstK q r => exact .lstK q (r.keep k)
  | @lst a vs _ q hb hr nb r =>
    have q' : Rd H' a (.lst vs) := by
      rcases q with q | ⟨o, q⟩
      · exact .inl (n.fr a _ q hr)
      · exact .inr ⟨o, n.fr a _ q hr⟩
    refine .lst q' (hb.imp id fun hp => (k.rd q hp).2) (fun z => ?_) nb (r.keep k)
    rcases n.rn a z with z | z
    · exact hr z
    · rcases q with q | ⟨o, q⟩
      · rw [q] at z; cases z
      · rw [q] at z; cases z
theorem Src.keep {g g' : Gs} (hb : bo = false) (k : Keep g.Pr H g'.Pr H') (h : Src K bo Bo g.Pr g.r H v ds) : Src K bo Bo g'.Pr g'.r H' v ds := by
  cases h with
  | tup q r => exact .tup (k.t _ _ q) (r.keep k)
  | lstK q r => exact .lstK q (r.keep k)
  | lst q h1 hr nb r =>
    have hp : ¬ g.Pr _ := h1.resolve_left (by rw [hb]; exact Bool.false_ne_true)
    exact .lst (k.rd q hp).1 (.inr (k.rd q hp).2) (fun z => (k.rd q hp).2 (.inr (.inl z))) nb (r.keep k)
theorem Src.anti (hp : ∀ a, pr' a → pr a) (h : Src K bo Bo pr r H v ds) : Src K bo Bo pr' r H v ds := by
  cases h with
  | tup q r => exact .tup q (r.keep (.anti hp))
  | lstK q r => exact .lstK q (r.keep (.anti hp))
  | lst q h1 hr nb r => exact .lst q (h1.imp id fun z y => z (hp _ y)) hr nb (r.keep (.anti hp))
theorem Src.sq (h : Src K bo Bo pr r H v ds) : ∃ k a vs, v = .ref a ∧ SqK K k H a vs ∧ RDs K pr H vs ds := by
  cases h with
  | tup q r => exact ⟨false, _, _, rfl, .inl (.inl q), r⟩
  | lstK q r => exact ⟨true, _, _, rfl, .inr q, r⟩
  | lst q _ _ _ r => exact ⟨true, _, _, rfl, .inl q, r⟩
theorem sqL_not {K : PySem.W.Frag} {H : Hp} {a : Addr} {vs ws : List V} (h : SqLK K a vs) : SqL K H a vs := .inr h
theorem SrcA.sq {a : Addr} {vs : List V} {k : Bool} (h : SrcA K bo Bo a vs ds k pr r H) : SqK K k H a vs ∧ RDs K pr H vs ds := by
  cases h with
  | tup q r => exact ⟨.inl (.inl q), r⟩
  | lstK q r => exact ⟨.inr q, r⟩
  | lst q _ _ _ r => exact ⟨.inl q, r⟩
theorem Src.A (h : Src K bo Bo pr r H v ds) : ∃ k a vs, v = .ref a ∧ SrcA K bo Bo a vs ds k pr r H := by
  cases h with
  | tup q r => exact ⟨_, _, _, rfl, .tup q r⟩
  | lstK q r => exact ⟨_, _, _, rfl, .lstK q r⟩
  | lst q h1 h2 nb r => exact ⟨_, _, _, rfl, .lst q h1 h2 nb r⟩
theorem SrcA.stay {a : Addr} {vs : List V} {k : Bool} : Stay K bo (SrcA K bo Bo a vs ds k) where
  nx := fun g g' H H' st S n h => by
    have kk := n.keep S
    cases h with
    | tup q r => exact .tup (kk.t _ _ q) (r.keep kk)
    | lstK q r => exact .lstK q (r.keep kk)
    | lst q hb hr nb r =>
      have q' : Rd H' a (.lst vs) := by
        rcases q with q | ⟨o, q⟩
        · exact .inl (n.fr a _ q hr)
        · exact .inr ⟨o, n.fr a _ q hr⟩
      refine .lst q' (hb.imp id fun hp => (kk.rd q hp).2) (fun z => ?_) nb (r.keep kk)
      rcases n.rn a z with z | z
      · exact hr z
      · rcases q with q | ⟨o, q⟩
        · rw [q] at z; cases z
        · rw [q] at z; cases z
  keep := fun hb g g' H H' kk h => by
    cases h with
    | tup q r => exact .tup (kk.t _ _ q) (r.keep kk)
    | lstK q r => exact .lstK q (r.keep kk)
    | lst q h1 hr nb r =>
      have hp : ¬ g.Pr a := h1.resolve_left (by rw [hb]; exact Bool.false_ne_true)
      exact .lst (kk.rd q hp).1 (.inr (kk.rd q hp).2) (fun z => (kk.rd q hp).2 (.inr (.inl z))) nb (r.keep kk)
  anti := fun pr pr' r H hp h => by
    cases h with
    | tup q r => exact .tup q (r.keep (.anti hp))
    | lstK q r => exact .lstK q (r.keep (.anti hp))
    | lst q h1 hr nb r => exact .lst q (h1.imp id fun z y => z (hp _ y)) hr nb (r.keep (.anti hp))
/-- what a private object that is written leaves as it was -/
def Apt (B : Addr → Prop) (G : GP) : Prop := ∀ (pr : Addr → Prop) r H D u v, B D → pr D → H D = some u → Mut (some u) → G pr r H → G pr r (upd H D v)
theorem keep_wr {D : Addr} {u v : HO} {pr : Addr → Prop} (hD : pr D) (h : H D = some u) (mu : Mut (some u)) : Keep pr H pr (upd H D v) where
  k := fun a o e n => ⟨by rw [upd_ne (fun q => n (by rw [q]; exact hD))]; exact e, n⟩
  t := fun a xs q => by
    rw [upd_ne (fun e => by rw [e, h] at q; cases q; exact mu)]; exact q
  z := fun a o x q => by
    rw [upd_ne (fun e => by rw [e, h] at q; cases q; exact mu)]; exact q
theorem SrcA.apt {a : Addr} {vs : List V} {k : Bool} : Apt Bo (SrcA K bo Bo a vs ds k) := fun pr r H D u v hB hD h mu g => by
  have kp : Keep pr H pr (upd H D v) := keep_wr hD h mu
  cases g with
  | tup q rr => exact .tup (kp.t _ _ q) (rr.keep kp)
  | lstK q rr => exact .lstK q (rr.keep kp)
  | lst q h1 hr nb rr =>
    have hne : a ≠ D := fun e => nb (by rw [e]; exact hB)
    refine .lst ?_ h1 hr nb (rr.keep kp)
    rcases q with q | ⟨o, q⟩
    · exact .inl (by rw [upd_ne hne]; exact q)
    · exact .inr ⟨o, by rw [upd_ne hne]; exact q⟩
theorem Apt.and {G G' : GP} (a : Apt Bo G) (b : Apt Bo G') : Apt Bo fun pr r H => G pr r H ∧ G' pr r H := fun pr r H D u v h1 h2 h3 h4 g => ⟨a pr r H D u v h1 h2 h3 h4 g.1, b pr r H D u v h1 h2 h3 h4 g.2⟩
theorem Apt.true : Apt Bo fun _ _ _ => True := fun _ _ _ _ _ _ _ _ _ _ _ => trivial
theorem Stay.and {G G' : GP} (a : Stay K bo G) (b : Stay K bo G') : Stay K bo fun pr r H => G pr r H ∧ G' pr r H :=
  ⟨fun g g' H H' st S n h => ⟨a.nx g g' H H' st S n h.1, b.nx g g' H H' st S n h.2⟩, fun e g g' H H' k h => ⟨a.keep e g g' H H' k h.1, b.keep e g g' H H' k h.2⟩, fun pr pr' r H p h => ⟨a.anti pr pr' r H p h.1, b.anti pr pr' r H p h.2⟩⟩
theorem Stay.true : Stay K bo fun _ _ _ => True := ⟨fun _ _ _ _ _ _ _ _ => trivial, fun _ _ _ _ _ _ _ => trivial, fun _ _ _ _ _ _ => trivial⟩
theorem wk_list {a : Addr} {vs : List V} : Wk K (Itl K a) (SrcA K bo Bo a vs ds true) ds where
  go := fun pr r H i h hi => by
    obtain ⟨q, rr⟩ := h.sq
    exact ⟨vs, vs[i]'(by rw [rr.length]; exact hi), q, List.getElem?_eq_getElem _⟩
  stop := fun pr r H h => by
    obtain ⟨q, rr⟩ := h.sq
    exact ⟨vs, q, by rw [rr.length]; exact Nat.le_refl _⟩
  yld := fun pr r H i v H' h hi y => by
    obtain ⟨q, rr⟩ := h.sq
    obtain ⟨e, y⟩ := y
    obtain ⟨x, h1, h2⟩ := rr.get' (y vs q)
    exact ⟨x, h1, .inl ⟨e, h2⟩⟩
theorem wk_tup {a : Addr} {vs : List V} : Wk K (Itt K a) (SrcA K bo Bo a vs ds false) ds where
  go := fun pr r H i h hi => by
    obtain ⟨q, rr⟩ := h.sq
    exact ⟨vs, vs[i]'(by rw [rr.length]; exact hi), q, List.getElem?_eq_getElem _⟩
  stop := fun pr r H h => by
    obtain ⟨q, rr⟩ := h.sq
    exact ⟨vs, q, by rw [rr.length]; exact Nat.le_refl _⟩
  yld := fun pr r H i v H' h hi y => by
    obtain ⟨q, rr⟩ := h.sq
    obtain ⟨e, y⟩ := y
    obtain ⟨x, h1, h2⟩ := rr.get' (y vs q)
    exact ⟨x, h1, .inl ⟨e, h2⟩⟩
theorem rgL_length (a b : Int) : (rgL a b).length = (b - a).toNat := by unfold rgL; rw [List.length_map, List.length_range]
theorem rgC_length (a c : Int) (n : Nat) : (rgC a c n).length = n := by unfold rgC; rw [List.length_map, List.length_range]
theorem wk_rng (a b : Int) : Wk K (Itr a (b - a).toNat) (fun _ _ _ => True) (rgL a b) where
  go := fun pr r H i _ hi => by rw [rgL_length] at hi; exact hi
  stop := fun pr r H _ => by show _ ≤ _; rw [rgL_length]; exact Nat.le_refl _
  yld := fun pr r H i v H' _ hi y => by
    obtain ⟨e, y⟩ := y
    subst y
    rw [rgL_length] at hi
    exact ⟨.int (a + i), by unfold rgL; rw [List.getElem?_map, List.getElem?_range hi]; rfl, .inl ⟨e, .int _⟩⟩
theorem wk_rngC (a c : Int) (n : Nat) : Wk K (Itc a c n) (fun _ _ _ => True) (rgC a c n) where
  go := fun pr r H i _ hi => by rw [rgC_length] at hi; exact hi
  stop := fun pr r H _ => by show _ ≤ _; rw [rgC_length]; exact Nat.le_refl _
  yld := fun pr r H i v H' _ hi y => by
    obtain ⟨e, y⟩ := y
    subst y
    rw [rgC_length] at hi
    exact ⟨.int (a + i * c), by unfold rgC; rw [List.getElem?_map, List.getElem?_range hi]; rfl, .inl ⟨e, .int _⟩⟩
theorem enD_length : ∀ (i : Int) (xs : List PyData), (enD i xs).length = xs.length
  | _, [] => rfl
  | i, x :: xs => by rw [enD, List.length_cons, List.length_cons, enD_length]
theorem enD_get : ∀ (k : Int) (xs : List PyData) (i : Nat) (x : PyData), xs[i]? = some x → (enD k xs)[i]? = some (.tuple [.int (k + i), x])
  | k, [], i, x, h => by simp at h
  | k, y :: xs, 0, x, h => by simp at h; subst h; simp [enD]
  | k, y :: xs, i + 1, x, h => by
    rw [enD, List.getElem?_cons_succ, enD_get (k + 1) xs i x (by simpa using h)]
    have e : k + 1 + (i : Int) = k + ((i + 1 : Nat) : Int) := by omega
    rw [e]
theorem zipD_length : ∀ (xs ys : List PyData), (zipD xs ys).length = min xs.length ys.length
  | [], ys => by cases ys <;> simp [zipD]
  | x :: xs, [] => by simp [zipD]
  | x :: xs, y :: ys => by rw [zipD, List.length_cons, zipD_length, List.length_cons, List.length_cons]; omega
theorem zipD_get : ∀ (xs ys : List PyData) (i : Nat) (x y : PyData), xs[i]? = some x → ys[i]? = some y → (zipD xs ys)[i]? = some (.tuple [x, y])
  | [], _, i, x, y, h, _ => by simp at h
  | _ :: _, [], i, x, y, _, h => by simp at h
  | u :: xs, w :: ys, 0, x, y, h, h2 => by simp at h h2; subst h h2; simp [zipD]
  | u :: xs, w :: ys, i + 1, x, y, h, h2 => by
    rw [zipD, List.getElem?_cons_succ]
    exact zipD_get xs ys i x y (by simpa using h) (by simpa using h2)
theorem wk_en {a : Addr} {vs : List V} {k : Bool} : Wk K (ItE K k a) (SrcA K bo Bo a vs ds k) (enD 0 ds) where
  go := fun pr r H i h hi => by
    obtain ⟨q, rr⟩ := h.sq
    rw [enD_length] at hi
    exact ⟨vs, vs[i]'(by rw [rr.length]; exact hi), q, List.getElem?_eq_getElem _⟩
  stop := fun pr r H h => by
    obtain ⟨q, rr⟩ := h.sq
    exact ⟨vs, q, by rw [rr.length, enD_length]⟩
  yld := fun pr r H i v H' h hi y => by
    obtain ⟨q, rr⟩ := h.sq
    obtain ⟨T, x, rfl, hT, e, y⟩ := y
    obtain ⟨d, h1, h2⟩ := rr.get' (y vs q)
    refine ⟨_, enD_get 0 ds i d h1, .inr ⟨T, _, _, rfl, hT, e, rfl, ?_⟩⟩
    have e0 : (0 : Int) + (i : Int) = (i : Int) := by omega
    rw [e0]
    exact .cons (.int _) (.cons h2 .nil)
theorem wk_zp {a b : Addr} {vs ws : List V} {k j : Bool} {es : List PyData} : Wk K (ItZ K k j a b) (fun pr r H => SrcA K bo Bo a vs ds k pr r H ∧ SrcA K bo Bo b ws es j pr r H) (zipD ds es) where
  go := fun pr r H i h hi => by
    obtain ⟨q, rr⟩ := h.1.sq
    obtain ⟨q2, rr2⟩ := h.2.sq
    rw [zipD_length] at hi
    have h1 : i < vs.length := by rw [rr.length]; omega
    have h2 : i < ws.length := by rw [rr2.length]; omega
    exact ⟨vs, ws, vs[i], ws[i], q, q2, List.getElem?_eq_getElem _, List.getElem?_eq_getElem _⟩
  stop := fun pr r H h => by
    obtain ⟨q, rr⟩ := h.1.sq
    obtain ⟨q2, rr2⟩ := h.2.sq
    refine ⟨vs, ws, q, q2, ?_⟩
    rw [rr.length, rr2.length, zipD_length]
    omega
  yld := fun pr r H i v H' h hi y => by
    obtain ⟨q, rr⟩ := h.1.sq
    obtain ⟨q2, rr2⟩ := h.2.sq
    obtain ⟨T, x, y', rfl, hT, e, y1, y2⟩ := y
    obtain ⟨d, h1, h2⟩ := rr.get' (y1 vs q)
    obtain ⟨d', h3, h4⟩ := rr2.get' (y2 ws q2)
    exact ⟨_, zipD_get ds es i d d' h1 h3, .inr ⟨T, _, _, rfl, hT, e, rfl, .cons h2 (.cons h4 .nil)⟩⟩
/-- a dict that is kept, walked -/
def GK (K : PySem.W.Frag) (d : Addr) (o : Obj) (kvs : List (L2.Key × V)) (pd : Tb) : GP := fun pr _ H => H d = some (.frz o (.dK kvs)) ∧ RDk K pr H kvs pd
def GT (K : PySem.W.Frag) (d : Addr) (o : Obj) (kvs : List (List L2.Key × V)) (pd : Tb) : GP := fun pr _ H => H d = some (.frz o (.dT kvs)) ∧ RDt K pr H kvs pd
theorem GK.stay {d : Addr} {o : Obj} {kvs : List (L2.Key × V)} {pd : Tb} : Stay K bo (GK K d o kvs pd) where
  nx := fun g g' H H' st S n h => ⟨(n.keep S).z _ _ _ h.1, h.2.keep (n.keep S)⟩
  keep := fun _ g g' H H' k h => ⟨k.z _ _ _ h.1, h.2.keep k⟩
  anti := fun pr pr' r H hp h => ⟨h.1, h.2.keep (.anti hp)⟩
theorem GT.stay {d : Addr} {o : Obj} {kvs : List (List L2.Key × V)} {pd : Tb} : Stay K bo (GT K d o kvs pd) where
  nx := fun g g' H H' st S n h => ⟨(n.keep S).z _ _ _ h.1, h.2.keep (n.keep S)⟩
  keep := fun _ g g' H H' k h => ⟨k.z _ _ _ h.1, h.2.keep k⟩
  anti := fun pr pr' r H hp h => ⟨h.1, h.2.keep (.anti hp)⟩
theorem GK.apt {d : Addr} {o : Obj} {kvs : List (L2.Key × V)} {pd : Tb} : Apt Bo (GK K d o kvs pd) := fun pr r H D u v _ hD h mu g => ⟨(keep_wr hD h mu).z _ _ _ g.1, g.2.keep (keep_wr hD h mu)⟩
theorem GT.apt {d : Addr} {o : Obj} {kvs : List (List L2.Key × V)} {pd : Tb} : Apt Bo (GT K d o kvs pd) := fun pr r H D u v _ hD h mu g => ⟨(keep_wr hD h mu).z _ _ _ g.1, g.2.keep (keep_wr hD h mu)⟩
theorem rdk_at {kvs : List (L2.Key × V)} {pd : Tb} (r : RDk K pr H kvs pd) {i : Nat} {k : L2.Key} {v : V} (e : kvs[i]? = some (k, v)) : ∃ d, pd[i]? = some (keyD k, d) ∧ RD K pr H v d := by
  induction kvs generalizing pd i with
  | nil => simp at e
  | cons p kvs ih =>
    cases r with
    | cons e' h t =>
      subst e'
      cases i with
      | zero => simp at e; obtain ⟨rfl, rfl⟩ := e; exact ⟨_, rfl, h⟩
      | succ i => exact ih t (by simpa using e)
theorem rdt_at {kvs : List (List L2.Key × V)} {pd : Tb} (r : RDt K pr H kvs pd) {i : Nat} {k : List L2.Key} {v : V} (e : kvs[i]? = some (k, v)) : ∃ d, pd[i]? = some (keysD k, d) ∧ RD K pr H v d := by
  induction kvs generalizing pd i with
  | nil => simp at e
  | cons p kvs ih =>
    cases r with
    | cons e' h t =>
      subst e'
      cases i with
      | zero => simp at e; obtain ⟨rfl, rfl⟩ := e; exact ⟨_, rfl, h⟩
      | succ i => exact ih t (by simpa using e)
theorem rd_keyD (k : L2.Key) : RD K pr H (kV k) (keyD k) := by
  cases k with
  | inl i => exact .int i
  | inr x => exact .str x
theorem rds_keysD : ∀ ks : List L2.Key, RDs K pr H (ks.map kV) (ks.map keyD)
  | [] => .nil
  | k :: ks => .cons (rd_keyD k) (rds_keysD ks)
theorem wk_dk {d : Addr} {o : Obj} {kvs : List (L2.Key × V)} {pd : Tb} : Wk K (Itk d o kvs) (GK K d o kvs pd) (pd.map (·.1)) where
  go := fun pr r H i h hi => ⟨h.1, by rw [rdk_len h.2]; simpa using hi⟩
  stop := fun pr r H h => ⟨h.1, by rw [rdk_len h.2, List.length_map]; exact Nat.le_refl _⟩
  yld := fun pr r H i v H' h hi y => by
    obtain ⟨e, k, w, hk, rfl⟩ := y
    obtain ⟨d, h1, h2⟩ := rdk_at h.2 hk
    exact ⟨keyD k, by rw [List.getElem?_map, h1]; rfl, .inl ⟨e, rd_keyD k⟩⟩
theorem wk_dt {d : Addr} {o : Obj} {kvs : List (List L2.Key × V)} {pd : Tb} : Wk K (Itkt d o kvs) (GT K d o kvs pd) (pd.map (·.1)) where
  go := fun pr r H i h hi => ⟨h.1, by rw [rdt_len h.2]; simpa using hi⟩
  stop := fun pr r H h => ⟨h.1, by rw [rdt_len h.2, List.length_map]; exact Nat.le_refl _⟩
  yld := fun pr r H i v H' h hi y => by
    obtain ⟨e, k, w, q, hk, rfl, hq⟩ := y
    obtain ⟨d, h1, h2⟩ := rdt_at h.2 hk
    exact ⟨keysD k, by rw [List.getElem?_map, h1]; rfl, .inl ⟨e, .tup hq (rds_keysD k)⟩⟩
theorem wk_dv {d : Addr} {o : Obj} {kvs : List (L2.Key × V)} {pd : Tb} : Wk K (Itd d o kvs) (GK K d o kvs pd) (pd.map (·.2)) where
  go := fun pr r H i h hi => ⟨h.1, by rw [rdk_len h.2]; simpa using hi⟩
  stop := fun pr r H h => ⟨h.1, by rw [rdk_len h.2, List.length_map]; exact Nat.le_refl _⟩
  yld := fun pr r H i v H' h hi y => by
    obtain ⟨e, k, hk⟩ := y
    obtain ⟨d, h1, h2⟩ := rdk_at h.2 hk
    exact ⟨d, by rw [List.getElem?_map, h1]; rfl, .inl ⟨e, h2⟩⟩
theorem wk_di {d : Addr} {o : Obj} {kvs : List (L2.Key × V)} {pd : Tb} : Wk K (Iti d o kvs) (GK K d o kvs pd) (pd.map fun p => .tuple [p.1, p.2]) where
  go := fun pr r H i h hi => ⟨h.1, by rw [rdk_len h.2]; simpa using hi⟩
  stop := fun pr r H h => ⟨h.1, by rw [rdk_len h.2, List.length_map]; exact Nat.le_refl _⟩
  yld := fun pr r H i v H' h hi y => by
    obtain ⟨T, k, w, hk, rfl, hT, e⟩ := y
    obtain ⟨d, h1, h2⟩ := rdk_at h.2 hk
    exact ⟨.tuple [keyD k, d], by rw [List.getElem?_map, h1]; rfl, .inr ⟨T, _, _, rfl, hT, e, rfl, .cons (rd_keyD k) (.cons h2 .nil)⟩⟩
/-- the interpreter's source -/
theorem rd_ne {a : Addr} {u : HO} (h : Rd H a u) : H a ≠ none := by
  rcases h with h | ⟨o, h⟩
  · rw [h]; exact fun z => nomatch z
  · rw [h]; exact fun z => nomatch z
theorem src_spec {Bo : Addr → Prop} {x : PV} (S : Sim K g st H) (hB : ∀ a, Bo a → g.B a) (h : Rep K g Bo H v x) (e : srcL bo x = some ds) : Src K bo (fun b => Bo b ∨ H b = none) (g.wB Bo).Pr g.r H v ds := by
  have n : Nx (g.wB Bo) g H H → True := fun _ => trivial
  unfold srcL at e
  split at e
  · cases e
  unfold srcV at e
  split at e
  · cases e
    have h : RD K g.Pr H v (.list _) := h
    have h' : RD K (g.wB Bo).Pr H v (.list _) := h.keep (.anti fun _ q => Gs.wB_pr hB q)
    cases h' with
    | lst q hp r => exact .lst q (.inr hp) (fun z => hp (.inr (.inl z))) (fun z => z.elim (fun z => hp (.inl z)) (rd_ne q)) r
    | lstK q r => exact .lstK q r
  · cases e
    have h : RD K g.Pr H v (.tuple _) := h
    have h' : RD K (g.wB Bo).Pr H v (.tuple _) := h.keep (.anti fun _ q => Gs.wB_pr hB q)
    cases h' with
    | tup q r => exact .tup q r
  · rename_i hnd
    exact absurd rfl (hnd _)
  · cases e
    obtain ⟨a, rfl, o, hb, hn, h0⟩ := h
    obtain ⟨vs, o1, o2⟩ := o
    refine .lst (.inl o1) (.inr ?_) (fun q => S.rB a q hb) (fun z => z.elim hn fun z => by rw [o1] at z; cases z) (o2.keep (.anti fun _ q => Gs.wB_pr hB q))
    rintro (q | q | ⟨i, x, q1, q2⟩)
    · exact hn q
    · exact S.rB a q hb
    · obtain ⟨b, h1, _, h2, _⟩ := S.own i x q1
      have q2 : g.s[i]? = some (some (.ref a)) := q2
      rw [q2] at h1; cases h1
      exact h2 hb
  · split at e
    · rename_i hbo
      cases e
      obtain ⟨i, a, rfl, h1, h2⟩ := h
      obtain ⟨b, h3, o, h4, h5, _⟩ := S.own i _ h1
      rw [h2] at h3; cases h3
      obtain ⟨vs, o1, o2⟩ := o
      exact .lst (.inl o1) (.inl hbo) h5 (fun z => z.elim (fun z => h4 (hB _ z)) fun z => by rw [o1] at z; cases z) (o2.keep (.anti fun _ q => Gs.wB_pr hB q))
    · cases e
  · cases e
end
end Ev

set_option maxRecDepth 100000
/-! Ev8b: values and items of a dict that is kept, whatever its keys. -/
namespace Ev
open PySem L2 PySem.W PyProof.Rows PySem.SeqAt PySem.Spec
section
variable {X : Cx} {pins : List (Addr × Obj)} {σ : L2.St} {H : Hp} {s : Shared} {d : Addr} {o : Obj}
theorem frzT_all {kvs : List (List L2.Key × V)} (I : L2.Inv X pins σ H s) (h : H d = some (.frz o (.dT kvs))) :
    (d == sysModules) = false ∧ s.heap.get? d = some o ∧ o.ExactDict ∧ ∃ (es : Array DictEntry) (ep : Nat), o.data = .dict es ep ∧ es.size = kvs.length ∧
      ∀ (i : Nat) (k : List L2.Key) (v : V), kvs[i]? = some (k, v) → ∃ (en : DictEntry) (q : Addr), es[i]? = some en ∧ en.key = .ref q ∧ H q = some (.tup (k.map kV)) ∧ RelV v en.val := by
  obtain ⟨hd, z, hs, xs, pr, o', es, ep, ho, hx, hdt, he, _⟩ := I.hok d _ h
  rw [hd] at ho
  cases ho
  refine ⟨hs, hd, hx, es, ep, hdt, ?_, fun i k v e => ?_⟩
  · have l1 : es.size = xs.length := size_of_entries he
    have l2 : kvs.length = xs.length := Paired.length pr
    omega
  · obtain ⟨b, hb, e1, e2, e3⟩ := paired_get pr e
    have q := entry_at he i
    rw [hb] at q
    exact ⟨_, b.2.1, q, rfl, e2, e3⟩
end
def Itdt (d : Addr) (o : Obj) (kvs : List (List L2.Key × V)) : L2.It :=
  ⟨fun i H => H d = some (.frz o (.dT kvs)) ∧ i < kvs.length, fun i H x H' => H' = H ∧ ∃ k, kvs[i]? = some (k, x), fun i H => H d = some (.frz o (.dT kvs)) ∧ kvs.length ≤ i⟩
def Itit (d : Addr) (o : Obj) (kvs : List (List L2.Key × V)) : L2.It :=
  ⟨fun i H => H d = some (.frz o (.dT kvs)) ∧ i < kvs.length, fun i H x H' => ∃ (T : Addr) (k : List L2.Key) (v : V) (q : Addr), kvs[i]? = some (k, v) ∧ H q = some (.tup (k.map kV)) ∧ x = .ref T ∧ H T = none ∧ H' = upd H T (.tup [.ref q, v]), fun i H => H d = some (.frz o (.dT kvs)) ∧ kvs.length ≤ i⟩
section
variable {P : Program} {w : World} {K : PySem.W.Frag} {tg : Expr} {d : Addr} {o : Obj} {es : Array DictEntry} {ep : Nat}
theorem ent_get {en : DictEntry} {i : Nat} (h : es[i]? = some en) (hi : i < es.size) : es[i] = en := by
  rw [Array.getElem?_eq_getElem hi] at h
  exact Option.some.inj h
theorem trn_valsT {kvs : List (List L2.Key × V)} (it : Addr) (hod : o.data = .dict es ep) : Turn P w K tg (Itdt d o kvs) [it] it (fun i h => h.IsValIter it d i kvs.length ep) where
  mem := by simp
  obj := fun i h st b hb => by
    have e : b = it := by simpa using hb
    subst e
    obtain ⟨oi, e, c, dd⟩ := st
    exact ⟨oi, e, fun v z => by rw [dd] at z; cases z⟩
  keep := fun i h h' st k => st.at fun oi e => k it (by simp) oi e
  item := by
    intro X hP hw hK hc i pins s σ H E I hf st hg
    subst hP hw hK
    obtain ⟨hd, hi⟩ := hg
    obtain ⟨f0, f1, f2, f3, f4, f5⟩ := hf it (by simp)
    obtain ⟨hs, hgd, hx, es', ep', hdt, hsz, ent⟩ := frzT_all I hd
    obtain ⟨rfl, rfl⟩ := dict_ep hod hdt
    obtain ⟨⟨k, v⟩, hkv⟩ : ∃ p, kvs[i]? = some p := ⟨kvs[i], List.getElem?_eq_getElem hi⟩
    obtain ⟨en, q, hen, hkey, hq, rv⟩ := ent i k v hkv
    have hlt : i < es'.size := by rw [hsz]; exact hi
    rw [← hsz] at st
    refine wpAny_pyNext_values_item_raw st ⟨o, hgd, hx, hdt⟩ hlt fun h' st' sb => ?_
    rw [ent_get hen hlt]
    have Y1 : L2.Inv X pins σ H { s with heap := h' } := I.turned (t' := s.toks) (fun b ob hb e => (sb.2 b hb).trans e) f0 f1 f3 f4 f5
    obtain ⟨oi, e, c, dd⟩ := id st'
    refine ⟨en.val, rfl, go_of (s := { s with heap := h' }) e c dd (by decide) ⟨v, H, Y1, rv, ⟨rfl, k, hkv⟩, ?_, fun b hb => (hf b hb).1⟩⟩
    show h'.IsValIter it d (i + 1) kvs.length _
    rw [← hsz]
    exact st'
  done := by
    intro X hP hw hK hc i pins s σ H E I hf st hg
    subst hP hw hK
    obtain ⟨hd, hi⟩ := hg
    obtain ⟨f0, f1, f2, f3, f4, f5⟩ := hf it (by simp)
    obtain ⟨hs, hgd, hx, es', ep', hdt, hsz, ent⟩ := frzT_all I hd
    obtain ⟨rfl, rfl⟩ := dict_ep hod hdt
    rw [← hsz] at st hi
    exact wpAny_pyNext_values_end_raw (I.ok.hd hc) st ⟨o, hgd, hx, hdt⟩ hi fun h' eb => ⟨rfl, I.turned (t' := s.toks) (fun b ob hb e => eb b ob hb e) f0 f1 f3 f4 f5⟩
  self := fun A i s Q E st h => wpAny_pyIter_valiter st h
theorem trn_itemsT {kvs : List (List L2.Key × V)} {elts : List Expr} {kk : Nat} {tpos : Pos} (it : Addr) (hod : o.data = .dict es ep) :
    Turn P w K (.Tuple elts kk tpos) (Itit d o kvs) [it] it (fun i h => ∃ ok ov, IsItemIter h it d i kvs.length ep ok ov) where
  mem := by simp
  obj := fun i h st b hb => by
    have e : b = it := by simpa using hb
    subst e
    obtain ⟨ok, ov, e⟩ := st
    exact ⟨_, e, fun v z => nomatch z⟩
  keep := fun i h h' st k => let ⟨ok, ov, e⟩ := st; ⟨ok, ov, k it (by simp) _ e⟩
  item := by
    intro X hP hw hK hc i pins s σ H E I hf st hg
    subst hP hw hK
    obtain ⟨hd, hi⟩ := hg
    obtain ⟨hs, hgd, hx, es', ep', hdt, hsz, ent⟩ := frzT_all I hd
    obtain ⟨rfl, rfl⟩ := dict_ep hod hdt
    obtain ⟨⟨k, v⟩, hkv⟩ : ∃ p, kvs[i]? = some p := ⟨kvs[i], List.getElem?_eq_getElem hi⟩
    obtain ⟨en, q, hen, hkey, hq, rv⟩ := ent i k v hkv
    have hlt' : i < es'.size := by rw [hsz]; exact hi
    obtain ⟨ok, ov, he⟩ := st
    rw [← hsz] at he
    have hlt : it < s.heap.objs.size := Heap.lt_size he
    refine wpAny_pyNext_items_item_raw he ⟨o, hgd, hx, hdt⟩ hlt' fun h' ho hT hz hk => ?_
    rw [ent_get hen hlt'] at ho hT
    refine ⟨_, rfl, wpAny_letOwnedTupleGo_items (s := { s with heap := h' }) ho fun h'' he' sb => ?_⟩
    have hT2 : h''.get? s.heap.objs.size = some { cls := .type "tuple", data := .seq #[en.key, en.val] } := (sb.2 _ (Nat.ne_of_gt hlt)).trans hT
    have new : ObjOk X.prog X.w (upd H s.heap.objs.size (.tup [.ref q, v])) h'' s.heap.objs.size (.tup [.ref q, v]) :=
      ⟨by show 2 ≤ sizeLine; decide, [en.key, en.val], .cons hkey (.cons rv .nil), ⟨_, hT2, rfl, _, rfl⟩⟩
    have Y1 : L2.Inv X pins σ (upd H s.heap.objs.size (.tup [.ref q, v])) { s with heap := h'' } :=
      I.turnedNew (t' := s.toks) (ch := [it]) (fun b ob hb e => (sb.2 b (by simpa using hb)).trans (hk b ob (by simpa using hb) e)) hf (Nat.le_refl _) new
    refine ⟨.ref s.heap.objs.size, _, Y1, rfl, ⟨_, k, v, q, hkv, hq, rfl, I.hok.fresh (Nat.le_refl _), rfl⟩, ⟨en.key, en.val, ?_⟩, fun b hb => ?_⟩
    · rw [← hsz]; exact he'
    · have e : b = it := by simpa using hb
      rw [e, upd_ne (Nat.ne_of_lt hlt)]
      exact (hf it (by simp)).1
  done := by
    intro X hP hw hK hc i pins s σ H E I hf st hg
    subst hP hw hK
    obtain ⟨hd, hi⟩ := hg
    obtain ⟨f0, f1, f2, f3, f4, f5⟩ := hf it (by simp)
    obtain ⟨hs, hgd, hx, es', ep', hdt, hsz, ent⟩ := frzT_all I hd
    obtain ⟨rfl, rfl⟩ := dict_ep hod hdt
    obtain ⟨ok, ov, he⟩ := st
    rw [← hsz] at he hi
    exact wpAny_pyNext_items_end_raw (I.ok.hd hc) he ⟨o, hgd, hx, hdt⟩ hi fun h' eb => ⟨rfl, I.turned (t' := s.toks) (fun b ob hb e => eb b ob hb e) f0 f1 f3 f4 f5⟩
  self := fun A i s Q E st h => let ⟨_, _, e⟩ := st; PySem.W.kcp_self e h
end
section
variable {X : Cx} {tg e : Expr} {td : TE} {apos cpos : Pos}
def iValsA (td : TE) : TI := fun σ H R => td σ H fun x H1 => ∃ d o, x = .ref d ∧ ((∃ kvs, H1 d = some (.frz o (.dK kvs)) ∧ R (Itd d o kvs) H1) ∨ ∃ kvs, H1 d = some (.frz o (.dT kvs)) ∧ R (Itdt d o kvs) H1)
def iItemsA (td : TE) : TI := fun σ H R => td σ H fun x H1 => ∃ d o, x = .ref d ∧ ((∃ kvs, H1 d = some (.frz o (.dK kvs)) ∧ R (Iti d o kvs) H1) ∨ ∃ kvs, H1 d = some (.frz o (.dT kvs)) ∧ R (Itit d o kvs) H1)
theorem pi_valuesA (he : PE X e td) (hbase : attributeBase e "values" X.env (eval e X.env) = eval e X.env) (hline : (apos.endLine == cpos.line) = true) : PI X tg (.Call (.Attribute e "values" apos) [] [] cpos) (iValsA td) := by
  refine ⟨fun pins s σ H R I h => ?_⟩
  refine wpAny_Call_method (T := "dict") (id := "dict.values") hbase rfl hline F.plainAttrs_dict F.slot_dict_values F.type_dict_values (thn (he.run pins s σ H _ I h) fun u s1 ⟨x, J1, Y1, rx, d, o, ex, q⟩ => ?_)
  subst ex
  obtain rfl : u = Value.ref d := rx
  rcases q with ⟨kvs, hd, q⟩ | ⟨kvs, hd, q⟩
  · obtain ⟨hs, hgd, hx, es, ep, vs, hdt, hsz, kv, hm⟩ := Y1.frzK hd
    have hl : kvs.length = vs.length := Paired.length kv
    refine ⟨hm.dictOf.typeIs, hm.dictOf.mapOf.noDict, ?_⟩
    have Y2 : L2.Inv X pins σ J1 { s1 with heap := s1.heap.push { cls := .type "dict_values", data := .fields #[.ref d] } } := Y1.kept (t' := s1.toks) fun b ob q => Heap.get?_push_of_some _ q
    have fin : wpAny (model X.prog X.w) X.A (pyIter (.ref s1.heap.objs.size)) (PIE X pins σ tg R) X.xe { s1 with heap := s1.heap.push { cls := .type "dict_values", data := .fields #[.ref d] } } := by
      refine wpAny_pyIter_values (d := d) (knd := mixKind X.prog X.w) ⟨_, Heap.get?_push_size _ rfl, rfl, rfl⟩ (hm.push _) (pi_one (tk := s1.toks) Y2 _ (turn_vals _ hdt) ⟨_, Heap.get?_push_size _ rfl, rfl, ?_⟩ q)
      rw [hl] <;> rfl
    show wpAny _ _ (callWith cpos (.builtin "dict.values") [.ref d] [] []) _ X.xe s1
    exact method_meetsIn F.slot_dict_values F.entry_dict_values rfl (PySem.evalArgs_none ⟨rfl, hm.dictOf.typeIs, F.args_dict_values_1 _, _, meets_dict_values (mixKind X.prog X.w) d hs, ⟨vs, hm.dictOf⟩, fin⟩)
  · obtain ⟨hs, hgd, hx, es, ep, hdt, hsz, ent⟩ := Y1.frzT hd
    have hr : s1.heap.DictRaw d es ep := ⟨o, hgd, hx, hdt⟩
    refine ⟨hr.typeIs, fun b q => ?_, ?_⟩
    · cases q; exact ⟨o, hgd, hx.2.1⟩
    have Y2 : L2.Inv X pins σ J1 { s1 with heap := s1.heap.push { cls := .type "dict_values", data := .fields #[.ref d] } } := Y1.kept (t' := s1.toks) fun b ob q => Heap.get?_push_of_some _ q
    have fin : wpAny (model X.prog X.w) X.A (pyIter (.ref s1.heap.objs.size)) (PIE X pins σ tg R) X.xe { s1 with heap := s1.heap.push { cls := .type "dict_values", data := .fields #[.ref d] } } := by
      refine wpAny_pyIter_values_raw (d := d) (es := es) (ep := ep) ⟨_, Heap.get?_push_size _ rfl, rfl, rfl⟩ (hr.at fun o e => Heap.get?_push_of_some _ e) (pi_one (tk := s1.toks) Y2 _ (trn_valsT _ hdt) ⟨_, Heap.get?_push_size _ rfl, rfl, ?_⟩ q)
      rw [hsz] <;> rfl
    show wpAny _ _ (callWith cpos (.builtin "dict.values") [.ref d] [] []) _ X.xe s1
    exact method_meetsIn F.slot_dict_values F.entry_dict_values rfl (PySem.evalArgs_none ⟨rfl, hr.typeIs, F.args_dict_values_1 _, _, meets_dict_values_raw d hs, ⟨es, ep, hr⟩, fin⟩)
theorem pi_itemsA {elts : List Expr} {kk : Nat} {tpos : Pos} (he : PE X e td) (hbase : attributeBase e "items" X.env (eval e X.env) = eval e X.env) (hline : (apos.endLine == cpos.line) = true) :
    PI X (.Tuple elts kk tpos) (.Call (.Attribute e "items" apos) [] [] cpos) (iItemsA td) := by
  refine ⟨fun pins s σ H R I h => ?_⟩
  refine wpAny_Call_method (T := "dict") (id := "dict.items") hbase rfl hline F.plainAttrs_dict F.slot_dict_items F.type_dict_items (thn (he.run pins s σ H _ I h) fun u s1 ⟨x, J1, Y1, rx, d, o, ex, q⟩ => ?_)
  subst ex
  obtain rfl : u = Value.ref d := rx
  rcases q with ⟨kvs, hd, q⟩ | ⟨kvs, hd, q⟩
  · obtain ⟨hs, hgd, hx, es, ep, vs, hdt, hsz, kv, hm⟩ := Y1.frzK hd
    have hl : kvs.length = vs.length := Paired.length kv
    refine ⟨hm.dictOf.typeIs, hm.dictOf.mapOf.noDict, ?_⟩
    have Y2 : L2.Inv X pins σ J1 { s1 with heap := s1.heap.push { cls := .type "dict_items", data := .fields #[.ref d] } } := Y1.kept (t' := s1.toks) fun b ob q => Heap.get?_push_of_some _ q
    have fin : wpAny (model X.prog X.w) X.A (pyIter (.ref s1.heap.objs.size)) (PIE X pins σ (.Tuple elts kk tpos) R) X.xe { s1 with heap := s1.heap.push { cls := .type "dict_items", data := .fields #[.ref d] } } := by
      refine wpAny_pyIter_items (d := d) (knd := mixKind X.prog X.w) ⟨_, Heap.get?_push_size _ rfl, rfl, rfl⟩ (hm.push _) (pi_one (tk := s1.toks) Y2 _ (turn_items _ hdt) ⟨.none, .none, ?_⟩ q)
      rw [hl]
      exact Heap.get?_push_size _ rfl
    show wpAny _ _ (callWith cpos (.builtin "dict.items") [.ref d] [] []) _ X.xe s1
    exact method_meetsIn F.slot_dict_items F.entry_dict_items rfl (PySem.evalArgs_none ⟨rfl, hm.dictOf.typeIs, F.args_dict_items_1 _, _, meets_dict_items (mixKind X.prog X.w) d hs, ⟨vs, hm.dictOf⟩, fin⟩)
  · obtain ⟨hs, hgd, hx, es, ep, hdt, hsz, ent⟩ := Y1.frzT hd
    have hr : s1.heap.DictRaw d es ep := ⟨o, hgd, hx, hdt⟩
    refine ⟨hr.typeIs, fun b q => ?_, ?_⟩
    · cases q; exact ⟨o, hgd, hx.2.1⟩
    have Y2 : L2.Inv X pins σ J1 { s1 with heap := s1.heap.push { cls := .type "dict_items", data := .fields #[.ref d] } } := Y1.kept (t' := s1.toks) fun b ob q => Heap.get?_push_of_some _ q
    have fin : wpAny (model X.prog X.w) X.A (pyIter (.ref s1.heap.objs.size)) (PIE X pins σ (.Tuple elts kk tpos) R) X.xe { s1 with heap := s1.heap.push { cls := .type "dict_items", data := .fields #[.ref d] } } := by
      refine wpAny_pyIter_items_raw (d := d) (es := es) (ep := ep) ⟨_, Heap.get?_push_size _ rfl, rfl, rfl⟩ (hr.at fun o e => Heap.get?_push_of_some _ e) (pi_one (tk := s1.toks) Y2 _ (trn_itemsT _ hdt) ⟨.none, .none, ?_⟩ q)
      rw [← hsz]
      exact Heap.get?_push_size _ rfl
    show wpAny _ _ (callWith cpos (.builtin "dict.items") [.ref d] [] []) _ X.xe s1
    exact method_meetsIn F.slot_dict_items F.entry_dict_items rfl (PySem.evalArgs_none ⟨rfl, hr.typeIs, F.args_dict_items_1 _, _, meets_dict_items_raw d hs, ⟨es, ep, hr⟩, fin⟩)
end
section
variable {K : PySem.W.Frag} {pr : Addr → Prop} {H : Hp}
theorem wk_dvt {d : Addr} {o : Obj} {kvs : List (List L2.Key × V)} {pd : Tb} : Wk K (Itdt d o kvs) (GT K d o kvs pd) (pd.map (·.2)) where
  go := fun pr r H i h hi => ⟨h.1, by rw [rdt_len h.2]; simpa using hi⟩
  stop := fun pr r H h => ⟨h.1, by rw [rdt_len h.2, List.length_map]; exact Nat.le_refl _⟩
  yld := fun pr r H i v H' h hi y => by
    obtain ⟨e, k, hk⟩ := y
    obtain ⟨d, h1, h2⟩ := rdt_at h.2 hk
    exact ⟨d, by rw [List.getElem?_map, h1]; rfl, .inl ⟨e, h2⟩⟩
theorem wk_dit {d : Addr} {o : Obj} {kvs : List (List L2.Key × V)} {pd : Tb} : Wk K (Itit d o kvs) (GT K d o kvs pd) (pd.map fun p => .tuple [p.1, p.2]) where
  go := fun pr r H i h hi => ⟨h.1, by rw [rdt_len h.2]; simpa using hi⟩
  stop := fun pr r H h => ⟨h.1, by rw [rdt_len h.2, List.length_map]; exact Nat.le_refl _⟩
  yld := fun pr r H i v H' h hi y => by
    obtain ⟨T, k, w, q, hk, hq, rfl, hT, e⟩ := y
    obtain ⟨d, h1, h2⟩ := rdt_at h.2 hk
    exact ⟨.tuple [keysD k, d], by rw [List.getElem?_map, h1]; rfl, .inr ⟨T, _, _, rfl, hT, e, rfl, .cons (.tup hq (rds_keysD k)) (.cons h2 .nil)⟩⟩
end
end Ev

set_option maxRecDepth 100000
/-! Ev9: targets; comprehensions. -/
namespace Ev
open PySem L2 PySem.W PyProof.Rows PySem.SeqAt

def gNs : List Nat → TGs
  | [] => gNil
  | i :: is => gCons (gName i) (gNs is)
def gT (K : PySem.W.Frag) : G → TG
  | .nm i => gName i
  | .tp is => gTup K is.length (gNs is)
def gIn (own : List Nat) : G → Bool
  | .nm i => decide (i ∈ own)
  | .tp is => is.all fun i => decide (i ∈ own)
def OwnA (e : Envr) (s : L2.St) (a : Addr) : Prop := ∃ (i : Nat) (x : PyData), e[i]? = some (.own x) ∧ s[i]? = some (some (.ref a))
/-- the two states agree outside some slots -/
structure Ag (vs : List Nat) (e e1 : Envr) (s s1 : L2.St) : Prop where
  fe : ∀ (i : Nat), i ∉ vs → e1[i]? = e[i]?
  fs : ∀ (i : Nat), i ∉ vs → s1[i]? = s[i]?
  l : s1.length = s.length
section
variable {K : PySem.W.Frag} {g g' g1 g2 gi : Gs} {st st' st1 st2 : Sto} {H H' H1 H2 H3 : Hp} {Q : VK} {vs : List Nat}
theorem wipe_get (σ : L2.St) : ∀ (vs : List Nat) (i : Nat), (wipe σ vs)[i]? = if i ∈ vs ∧ i < σ.length then some none else σ[i]?
  | [], i => by simp [wipe]
  | v :: vs, i => by
    show ((wipe σ vs).set v none)[i]? = _
    rw [List.getElem?_set, wipe_get σ vs i, wipe_length]
    by_cases hv : v = i
    · subst hv
      by_cases hl : v < σ.length
      · simp [hl]
      · simp [hl, List.getElem?_eq_none (Nat.le_of_not_lt hl)]
    · rw [if_neg hv]
      have : i ∈ v :: vs ↔ i ∈ vs := by simp [Ne.symm hv]
      simp only [this]
theorem wipe_ext {s s1 : L2.St} (h : ∀ i, i ∉ vs → s1[i]? = s[i]?) (l : s1.length = s.length) : wipe s1 vs = wipe s vs := by
  apply List.ext_getElem?
  intro i
  rw [wipe_get, wipe_get, l]
  by_cases hi : i ∈ vs
  · by_cases hl : i < s.length
    · simp [hi, hl]
    · have hl1 : ¬ i < s1.length := by rw [l]; exact hl
      simp [hi, hl, List.getElem?_eq_none (Nat.le_of_not_lt hl), List.getElem?_eq_none (Nat.le_of_not_lt hl1)]
  · simp [hi, h i hi]
theorem wipeC_get : ∀ (e : Envr) (vs : List Nat) (i : Nat), i ∉ vs → (wipeC e vs)[i]? = e[i]?
  | e, [], i, _ => rfl
  | e, v :: vs, i, h => by
    show ((wipeC e vs).set v .no)[i]? = _
    rw [List.getElem?_set_ne (fun q => h (by simp [q]))]
    exact wipeC_get e vs i fun q => h (by simp [q])
theorem Sim.wipe (S : Sim K g st H) : ∀ (vs : List Nat), Sim K { g with e := wipeC g.e vs, s := L2.wipe g.s vs } st H
  | [] => S
  | v :: vs => (Sim.setn (i := v) (Sim.wipe S vs)).1
theorem Ag.wipe (e : Envr) (s : L2.St) (vs : List Nat) : Ag vs e (wipeC e vs) s (L2.wipe s vs) :=
  ⟨fun i h => wipeC_get e vs i h, fun i h => by rw [wipe_get]; simp [h], wipe_length s vs⟩
theorem Ag.trans {e e1 e2 : Envr} {s s1 s2 : L2.St} (a : Ag vs e e1 s s1) (b : Ag vs e1 e2 s1 s2) : Ag vs e e2 s s2 :=
  ⟨fun i h => (b.fe i h).trans (a.fe i h), fun i h => (b.fs i h).trans (a.fs i h), b.l.trans a.l⟩
theorem Ag.set {e : Envr} {s : L2.St} {i : Nat} {c : Cell} {v : Option V} (h : i ∈ vs) : Ag vs e (e.set i c) s (s.set i v) :=
  ⟨fun j hj => List.getElem?_set_ne (fun q => hj (by rw [← q]; exact h)), fun j hj => List.getElem?_set_ne (fun q => hj (by rw [← q]; exact h)), List.length_set⟩
theorem Ag.own {e e1 : Envr} {s s1 : L2.St} (a : Ag vs e e1 s s1) (h : vs.all (notOwn e) = true) (h1 : vs.all (notOwn e1) = true) (b : Addr) : OwnA e s b ↔ OwnA e1 s1 b := by
  have no : ∀ {e : Envr}, vs.all (notOwn e) = true → ∀ i x, e[i]? = some (.own x) → i ∉ vs := fun {e} h i x q hi => by
    have := List.all_eq_true.mp h i hi
    unfold notOwn at this
    rw [q] at this
    cases this
  constructor
  · rintro ⟨i, x, q1, q2⟩
    have hi := no h i x q1
    exact ⟨i, x, (a.fe i hi).trans q1, (a.fs i hi).trans q2⟩
  · rintro ⟨i, x, q1, q2⟩
    have hi := no h1 i x q1
    exact ⟨i, x, (a.fe i hi).symm.trans q1, (a.fs i hi).symm.trans q2⟩
theorem notOwn_set {e : Envr} {i j : Nat} {c : Cell} (h : notOwn e j = true) (hc : ∀ x, c ≠ .own x) : notOwn (e.set i c) j = true := by
  unfold notOwn at h ⊢
  rw [List.getElem?_set]
  by_cases hij : i = j
  · rw [if_pos hij]
    by_cases hl : i < e.length
    · rw [if_pos hl]
      cases c with
      | own x => exact absurd rfl (hc x)
      | _ => rfl
    · rw [if_neg hl]
  · rw [if_neg hij]; exact h
/-- a target takes a datum -/
theorem setAll_spec : ∀ (is : List Nat) {g : Gs} {xs : List PyData} {ws : List V} {e1 : Envr}, Sim K g st H → setAll g.e is xs = some e1 → RDs K g.Pr H ws xs →
    ∃ s1, (Sim K { g with e := e1, s := s1 } st H ∧ ∀ a, Gs.Pr { g with e := e1, s := s1 } a → g.Pr a) ∧ ws.length = is.length ∧ (∀ vs, (∀ i ∈ is, i ∈ vs) → Ag vs g.e e1 g.s s1) ∧ (∀ i : Nat, i ∈ is → ∀ x, e1[i]? ≠ some (.own x)) ∧ ∀ Q : L2.St → Hp → Prop, Q s1 H → gNs is ws g.s H Q
  | [], g, xs, ws, e1, S, h, r => by
    cases xs with
    | nil =>
      cases h
      cases r
      exact ⟨g.s, ⟨S, fun _ h => h⟩, rfl, fun vs _ => ⟨fun _ _ => rfl, fun _ _ => rfl, rfl⟩, fun i hi => by simp at hi, fun Q q => ⟨rfl, q⟩⟩
    | cons _ _ => cases h
  | i :: is, g, xs, ws, e1, S, h, r => by
    cases xs with
    | nil => cases h
    | cons x xs =>
      cases r with
      | @cons w ws' _ _ r1 r2 =>
        obtain ⟨S1, p1⟩ := Sim.setv (i := i) (v := w) (x := .d x) S r1
        obtain ⟨s1, ⟨S2, p2⟩, l, ag, nw, q⟩ := setAll_spec is (g := { g with e := g.e.set i (.v (.d x)), s := g.s.set i (some w) }) S1 h (r2.keep (.anti p1))
        refine ⟨s1, ⟨S2, fun a h => p1 a (p2 a h)⟩, by rw [List.length_cons, List.length_cons, l], fun vs hv => (Ag.set (hv i List.mem_cons_self)).trans (ag vs fun j hj => hv j (List.mem_cons_of_mem _ hj)), fun j hj y => ?_, fun Q hq => ⟨w, ws', rfl, q Q hq⟩⟩
        by_cases hm : j ∈ is
        · exact nw j hm y
        · have hji : j = i := by
            rcases List.mem_cons.mp hj with e | e
            · exact e
            · exact absurd e hm
          subst hji
          have a1 := ag is (fun _ h => h)
          intro hc
          have e2 : e1[j]? = (g.e.set j (.v (.d x)))[j]? := a1.fe j hm
          rw [e2, List.getElem?_set] at hc
          split at hc
          · split at hc
            · cases hc
            · cases hc
          · rename_i h'; exact absurd rfl h'
theorem asg_spec {gt : G} {x : PyData} {v : V} {e1 : Envr} (S : Sim K g st H) (h : asg g.e gt x = some e1) (r : RD K g.Pr H v x) :
    ∃ s1, (Sim K { g with e := e1, s := s1 } st H ∧ ∀ a, Gs.Pr { g with e := e1, s := s1 } a → g.Pr a) ∧ (∀ vs, gIn vs gt = true → Ag vs g.e e1 g.s s1 ∧ (vs.all (notOwn g.e) = true → vs.all (notOwn e1) = true)) ∧ ∀ Q : L2.St → Hp → Prop, Q s1 H → gT K gt v g.s H Q := by
  cases gt with
  | nm i =>
    cases h
    refine ⟨g.s.set i (some v), Sim.setv (x := .d x) S r, fun vs hv => ⟨Ag.set (by simpa [gIn] using hv), fun ha => ?_⟩, fun Q q => q⟩
    rw [List.all_eq_true] at ha ⊢
    intro j hj
    exact notOwn_set (ha j hj) (fun x q => nomatch q)
  | tp is =>
    cases x with
    | tuple xs =>
      obtain ⟨a, ws, rfl, q, r⟩ := r.isT
      obtain ⟨s1, S1, l, ag, nw, k⟩ := setAll_spec is (e1 := e1) S h r
      refine ⟨s1, S1, fun vs hv => ?_, fun Q hq => ⟨a, ws, rfl, .inl (.inl q), l, k Q hq⟩⟩
      have hin : ∀ i ∈ is, i ∈ vs := fun i hi => by
        have := List.all_eq_true.mp hv i hi
        simpa using this
      refine ⟨ag vs hin, fun ha => ?_⟩
      rw [List.all_eq_true] at ha ⊢
      intro j hj
      have := ha j hj
      unfold notOwn at this ⊢
      by_cases hm : j ∈ is
      · split
        · rename_i hh; exact absurd hh (nw j hm _)
        · rfl
      · rw [(ag is fun _ h => h).fe j hm]
        exact this
    | _ => cases h
/-- back from a block -/
theorem Sim.swap {e1 : Envr} {s1 : L2.St} (S : Sim K g st H) (ho : ∀ a, OwnA g.e g.s a ↔ OwnA e1 s1 a) (n : Nx { g with e := e1, s := s1 } g2 H H2) (S2 : Sim K g2 st2 H2) :
    Nx g { g2 with e := g.e, s := g.s } H H2 ∧ Sim K { g2 with e := g.e, s := g.s } st2 H2 ∧ ∀ a, Gs.Pr { g2 with e := g.e, s := g.s } a ↔ g2.Pr a := by
  have nx : Nx g { g2 with e := g.e, s := g.s } H H2 := ⟨rfl, rfl, n.h0, n.r0, n.B, n.bn, n.pre, n.rn, n.fr⟩
  have e2 : g2.e = e1 := n.e
  have s2 : g2.s = s1 := n.s
  have pr : ∀ a, Gs.Pr { g2 with e := g.e, s := g.s } a ↔ g2.Pr a := fun a => by
    constructor
    · rintro (h | h | h)
      · exact .inl h
      · exact .inr (.inl h)
      · have := (ho a).mp h
        rw [← e2, ← s2] at this
        exact .inr (.inr this)
    · rintro (h | h | h)
      · exact .inl h
      · exact .inr (.inl h)
      · rw [e2, s2] at h
        exact .inr (.inr ((ho a).mpr h))
  refine ⟨nx, ?_, pr⟩
  exact {
    len := S.len
    val := fun i x h => let ⟨v, h1, h2⟩ := S.val i x h; ⟨v, h1, h2.keep nx S⟩
    own := fun i x h => by
      obtain ⟨a, h1, h2, h3, h4, h5⟩ := S.own i x h
      refine ⟨a, h1, h2.keep (fun u q => n.fr a u q h4) (nx.keep S), fun q => ?_, fun q => ?_, by rw [nx.h0]; exact h5⟩
      · rcases n.bn a q with q | q
        · exact h3 q
        · exact h2.ne q
      · rcases n.rn a q with q | q
        · exact h4 q
        · exact h2.ne q
    inj := S.inj
    slen := S2.slen
    sto := fun n o h => let ⟨a, h1, h2⟩ := S2.sto n o h; ⟨a, h1, ObAt.pr (ga := g2) (gb := { g2 with e := g.e, s := g.s }) rfl (fun a q => (pr a).mp q) h2⟩
    rB := S2.rB
    nd := S2.nd
    bt := S2.bt
    pre := S2.pre
    new := S2.new
    fr := S2.fr }
/-- a private object is written -/
theorem mut_tup {xs : List V} (h : Mut (some (.tup xs))) : False := h
theorem mut_frz {o : Obj} {u : HO} (h : Mut (some (.frz o u))) : False := h
theorem Keep.wr {D : Addr} {u v : HO} {pr : Addr → Prop} (hD : pr D) (h : H D = some u) (mu : Mut (some u)) : Keep pr H pr (upd H D v) where
  k := fun a o e n => ⟨by rw [upd_ne (fun q => n (by rw [q]; exact hD))]; exact e, n⟩
  t := fun a xs q => by
    rw [upd_ne (fun e => by rw [e, h] at q; cases q; exact mut_tup mu)]; exact q
  z := fun a o x q => by
    rw [upd_ne (fun e => by rw [e, h] at q; cases q; exact mut_frz mu)]; exact q
theorem Sim.wr {D : Addr} {u v : HO} (S : Sim K g st H) (hD : g.B D) (h : H D = some u) (mu : Mut (some u)) (h0 : g.H0 D = none) : Sim K g st (upd H D v) := by
  have kp : Keep g.Pr H g.Pr (upd H D v) := Keep.wr (.inl hD) h mu
  have rk : ∀ {w : V} {y : PV}, RepK K g H w y → RepK K g (upd H D v) w y := fun {w y} h => by
    cases y with
    | d y => exact RD.keep kp h
    | _ => exact h
  exact {
    len := S.len
    val := fun i x h => let ⟨v, h1, h2⟩ := S.val i x h; ⟨v, h1, rk h2⟩
    own := fun i x q => by
      obtain ⟨a, h1, h2, h3, h4⟩ := S.own i x q
      exact ⟨a, h1, h2.keep (fun u q => by rw [upd_ne (fun e => h3 (by rw [e]; exact hD))]; exact q) kp, h3, h4⟩
    inj := S.inj
    slen := S.slen
    sto := fun n o q => by
      obtain ⟨a, h1, h2⟩ := S.sto n o q
      have hne : a ≠ D := fun e => S.rB a (List.mem_of_getElem? h1) (by rw [e]; exact hD)
      refine ⟨a, h1, ?_⟩
      exact h2.go (fun u q => by rw [upd_ne hne]; exact q) kp fun _ _ q => rk q
    rB := S.rB
    nd := S.nd
    bt := fun a q e => by
      unfold upd at e
      split at e
      · cases e
      · exact S.bt a q e
    pre := S.pre
    new := S.new
    fr := fun a o q hr => by
      have hne : a ≠ D := fun e => by rw [e, h0] at q; cases q
      rw [upd_ne hne]
      exact S.fr a o q hr }
theorem notOwn_wipe {e : Envr} : ∀ {vs : List Nat} (ws : List Nat), vs.all (notOwn e) = true → vs.all (notOwn (wipeC e ws)) = true
  | vs, [], h => h
  | vs, w :: ws, h => by
    have ih := notOwn_wipe (vs := vs) ws h
    rw [List.all_eq_true] at ih ⊢
    intro j hj
    exact notOwn_set (ih j hj) (fun x q => nomatch q)
end
end Ev

set_option maxRecDepth 100000
/-! Ev9d: comprehensions: lists and dicts, one `for` and two. -/
namespace Ev
open PySem L2 PySem.W PyProof.Rows PySem.SeqAt
/-- what is made, step by step -/
structure Sink (K : PySem.W.Frag) (β : Type) where
  at_ : (Addr → Prop) → Hp → HO → β → Prop
  mu : ∀ {pr H u b}, at_ pr H u b → Mut (some u)
  keep : ∀ {pr pr' H H' u b}, at_ pr H u b → Keep pr H pr' H' → at_ pr' H' u b
def snkL (K : PySem.W.Frag) : Sink K (List PyData) where
  at_ := fun pr H u b => ∃ vs, u = .lst vs ∧ RDs K pr H vs b
  mu := by rintro pr H u b ⟨vs, rfl, _⟩; trivial
  keep := by rintro pr pr' H H' u b ⟨vs, rfl, r⟩ k; exact ⟨vs, rfl, r.keep k⟩
def snkD (K : PySem.W.Frag) : Sink K Tb where
  at_ := fun pr H u b => ∃ kvs, u = .dK kvs ∧ RDk K pr H kvs b
  mu := by rintro pr H u b ⟨vs, rfl, _⟩; trivial
  keep := by rintro pr pr' H H' u b ⟨vs, rfl, r⟩ k; exact ⟨vs, rfl, r.keep k⟩
/-- .. at D, from a base where D was free -/
structure InB {K : PySem.W.Frag} {β : Type} (sk : Sink K β) (g0 : Gs) (H0 : Hp) (D : Addr) (g : Gs) (st : Sto) (H : Hp) (acc : β) : Prop where
  nx : Nx { g0 with e := g.e, s := g.s } g H0 H
  S : Sim K g st H
  hB : g.B D
  at_ : ∃ u, H D = some u ∧ sk.at_ g.Pr H u acc
abbrev AptD (D : Addr) (G : GP) : Prop := ∀ (pr : Addr → Prop) r H u v, pr D → H D = some u → Mut (some u) → G pr r H → G pr r (upd H D v)
/-- what stays while other things are laid and D is written -/
def Goes (K : PySem.W.Frag) (D : Addr) (g : Gs) (H : Hp) (g' : Gs) (H' : Hp) : Prop := ∀ G : GP, Stay K true G → AptD D G → G g.Pr g.r H → G g'.Pr g'.r H'
section
variable {K : PySem.W.Frag} {β : Type} {sk : Sink K β} {g0 g g' g1 g2 : Gs} {st st0 st' st1 st2 : Sto} {H0 H H' H1 H2 : Hp} {D : Addr} {acc acc' : β} {own : List Nat}
theorem Goes.refl : Goes K D g H g H := fun _ _ _ h => h
theorem Goes.trans (a : Goes K D g H g1 H1) (b : Goes K D g1 H1 g2 H2) : Goes K D g H g2 H2 := fun G s p h => b G s p (a G s p h)
theorem Goes.nx (S : Sim K g st H) (n : Nx g g' H H') : Goes K D g H g' H' := fun G s _ h => s.nx _ _ _ _ _ S n h
theorem Goes.anti (hr : g'.r = g.r) (hp : ∀ a, g'.Pr a → g.Pr a) : Goes K D g H g' H := fun G s _ h => by rw [hr]; exact s.anti _ _ _ _ hp h
theorem Goes.wr {u v : HO} (hD : g.Pr D) (h : H D = some u) (mu : Mut (some u)) : Goes K D g H g (upd H D v) := fun G _ p q => p _ _ _ _ _ hD h mu q
theorem InB.step (A : InB sk g0 H0 D g st H acc) (n : Nx g g' H H') (S' : Sim K g' st' H') : InB sk g0 H0 D g' st' H' acc := by
  obtain ⟨u, e, r⟩ := A.at_
  have nn := A.nx.trans A.S n
  refine ⟨?_, S', n.B D A.hB, u, n.fr D u e (fun q => A.S.rB D q A.hB), sk.keep r (n.keep A.S)⟩
  rw [n.e, n.s]
  exact nn
theorem InB.env {e1 : Envr} {s1 : L2.St} (A : InB sk g0 H0 D g st H acc) (S' : Sim K { g with e := e1, s := s1 } st H) (hp : ∀ a, Gs.Pr { g with e := e1, s := s1 } a → g.Pr a) : InB sk g0 H0 D { g with e := e1, s := s1 } st H acc := by
  obtain ⟨u, e, r⟩ := A.at_
  have n := A.nx
  exact ⟨⟨rfl, rfl, n.h0, n.r0, n.B, n.bn, n.pre, n.rn, n.fr⟩, S', A.hB, u, e, sk.keep r (.anti hp)⟩
theorem InB.weakB (A : InB sk g0 H0 D g st H acc) {B : Addr → Prop} (hb : ∀ a, B a → g.B a) (h0 : ∀ a, g0.B a → B a) (hD : B D) : InB sk g0 H0 D (g.wB B) st H acc := by
  obtain ⟨u, e, r⟩ := A.at_
  have n := A.nx
  exact ⟨⟨rfl, rfl, n.h0, n.r0, h0, fun a q => n.bn a (hb a q), n.pre, n.rn, n.fr⟩, A.S.weak hb, hD, u, e, sk.keep r (.anti fun _ q => Gs.wB_pr hb q)⟩
theorem InB.write {u' : HO} (hD0 : H0 D = none) (A : InB sk g0 H0 D g st H acc) (h0 : g.H0 D = none) (r' : ∀ u, H D = some u → sk.at_ g.Pr H u acc → sk.at_ g.Pr (upd H D u') u' acc') : InB sk g0 H0 D g st (upd H D u') acc' := by
  obtain ⟨u, e, r⟩ := A.at_
  have n := A.nx
  exact ⟨⟨n.e, n.s, n.h0, n.r0, n.B, n.bn, n.pre, n.rn, fun a o q hr => by rw [upd_ne (ne_of_none q hD0)]; exact n.fr a o q hr⟩, A.S.wr A.hB e (sk.mu r) h0, A.hB, u', upd_same, r' u e r⟩
/-- the body of a comprehension, from the state on -/
def BodyOk (K : PySem.W.Frag) {β : Type} (sk : Sink K β) (g0 : Gs) (H0 : Hp) (D : Addr) (vs : List Nat) (fB : Envr → Sto → β → R β) (tB : L2.St → Hp → (Hp → Prop) → Prop) : Prop :=
  ∀ g st H acc (Nxt : Hp → Prop), InB sk g0 H0 D g st H acc → vs.all (notOwn g.e) = true →
    RP (fB g.e st acc) (fun acc' s' => ∀ g' H', InB sk g0 H0 D g' s' H' acc' → Ag vs g.e g'.e g.s g'.s → vs.all (notOwn g'.e) = true → Goes K D g H g' H' → Nxt H') → tB g.s H Nxt
def tGo (J : L2.It) (g : TG) (tt : TT) (tB : L2.St → Hp → (Hp → Prop) → Prop) (vs : List Nat) (σ : L2.St) (H1 : Hp) (Qe : Hp → Prop) : Prop := ∃ W : Nat → Nat → Hp → Prop, (∃ m, W 0 m H1) ∧ ∀ i m H, W i m H →
  (J.stop i H ∧ Qe H) ∨ (J.go i H ∧ ∃ Nx : Hp → Prop, (∀ H', Nx H' → ∃ m', m' < m ∧ W (i + 1) m' H') ∧ ∀ x H', J.yld i H x H' → g x (L2.wipe σ vs) H' fun σ2 H2 => L2.wipe σ2 vs = L2.wipe σ vs ∧ tt σ2 H2 fun b H3 =>
    if b = true then tB σ2 H3 Nx else Nx H3)
/-- what is done with an item -/
def stF (ft : Envr → Sto → R Bool) (fB : Envr → Sto → β → R β) (e : Envr) (own : List Nat) (gt : G) (x : PyData) (s : Sto) (acc : β) : R β := match asg (wipeC e own) gt x with
  | some e1 => (noEx (ft e1 s)).bind fun b s2 => if b then fB e1 s2 acc else .ok acc s2
  | none => .bad
theorem wipeC_ext {e e1 : Envr} {s s1 : L2.St} (a : Ag own e e1 s s1) (l : e1.length = e.length) : wipeC e1 own = wipeC e own := by
  have wl : ∀ (e : Envr) (vs : List Nat), (wipeC e vs).length = e.length := by
    intro e vs
    induction vs with
    | nil => rfl
    | cons v vs ih => show ((wipeC e vs).set v .no).length = _; rw [List.length_set, ih]
  have wi : ∀ (e : Envr) (vs : List Nat) (i : Nat), i ∈ vs → i < e.length → (wipeC e vs)[i]? = some .no := by
    intro e vs
    induction vs with
    | nil => intro i h; cases h
    | cons v vs ih =>
      intro i h hl
      show ((wipeC e vs).set v .no)[i]? = _
      rw [List.getElem?_set]
      by_cases hv : v = i
      · subst hv; rw [if_pos rfl, if_pos (by rw [wl]; exact hl)]
      · rw [if_neg hv]
        exact ih i ((List.mem_cons.mp h).resolve_left (Ne.symm hv)) hl
  apply List.ext_getElem?
  intro i
  by_cases hi : i ∈ own
  · by_cases hl : i < e.length
    · rw [wi e1 own i hi (by rw [l]; exact hl), wi e own i hi hl]
    · rw [List.getElem?_eq_none (by rw [wl, l]; omega), List.getElem?_eq_none (by rw [wl]; omega)]
  · rw [wipeC_get _ _ _ hi, wipeC_get _ _ _ hi, a.fe i hi]
theorem Ag.sub {vs ws : List Nat} {e e1 : Envr} {s s1 : L2.St} (h : ∀ i ∈ vs, i ∈ ws) (a : Ag vs e e1 s s1) : Ag ws e e1 s s1 := ⟨fun i q => a.fe i fun z => q (h i z), fun i q => a.fs i fun z => q (h i z), a.l⟩
theorem Ag.refl {vs : List Nat} {e : Envr} {s : L2.St} : Ag vs e e s s := ⟨fun _ _ => rfl, fun _ _ => rfl, rfl⟩
/-- a walk within a comprehension -/
theorem go_read {fB : Envr → Sto → β → R β} {tB : L2.St → Hp → (Hp → Prop) → Prop} {ft : Envr → Sto → R Bool} {gt : G} {J : L2.It} {G : GP} {xs : List PyData} {Fi : β → Sto → Prop} {Qe : Hp → Prop}
    (bs : BodyOk K sk g0 H0 D own fB tB) (A1 : InB sk g0 H0 D g1 st1 H1 acc) (W : Wk K J G xs) (T : Stay K true G) (P : AptD D G) (hG : G g1.Pr g1.r H1) (hn : own.all (notOwn g1.e) = true) (hgi : gIn own gt = true)
    (h : RP (outL (stF ft fB g1.e own gt) xs st1 acc) Fi)
    (fin : ∀ g' st' H' acc', InB sk g0 H0 D g' st' H' acc' → Ag own g1.e g'.e g1.s g'.s → own.all (notOwn g'.e) = true → Goes K D g1 H1 g' H' → Fi acc' st' → Qe H') :
    tGo J (gT K gt) (tTs K ft) tB own g1.s H1 Qe := by
  let Inv : Nat → Hp → Prop := fun i H => i ≤ xs.length ∧ ∃ g st acc, InB sk g0 H0 D g st H acc ∧ Ag own g1.e g.e g1.s g.s ∧ own.all (notOwn g.e) = true ∧ Goes K D g1 H1 g H ∧ G g.Pr g.r H ∧ RP (outL (stF ft fB g1.e own gt) (xs.drop i) st acc) Fi
  refine ⟨fun i m H => m = xs.length - i ∧ Inv i H, ⟨_, rfl, Nat.zero_le _, g1, st1, acc, A1, .refl, hn, .refl, hG, h⟩, ?_⟩
  rintro i m H ⟨rfl, hi, g, st, acc, A, ag, hn, gs, hG, hr⟩
  by_cases hlt : i < xs.length
  · refine .inr ⟨W.go _ _ _ i hG hlt, Inv (i + 1), fun H' p => ⟨xs.length - (i + 1), by omega, rfl, p⟩, fun v H2 y => ?_⟩
    obtain ⟨x, hx, hy⟩ := W.yld _ _ _ i v H2 hG hlt y
    have ed : xs.drop i = x :: xs.drop (i + 1) := by
      obtain ⟨_, e⟩ := List.getElem?_eq_some_iff.mp hx
      rw [List.drop_eq_getElem_cons hlt, e]
    rw [ed] at hr
    obtain ⟨n2, S2, rv⟩ : Nx g g H H2 ∧ Sim K g st H2 ∧ RD K g.Pr H2 v x := by
      rcases hy with ⟨rfl, r⟩ | ⟨Tt, vs, ds, rfl, hT, rfl, rfl, r⟩
      · exact ⟨.refl, A.S, r⟩
      · exact ⟨Nx.refl.laid A.S hT, A.S.laid hT, .tup upd_same (r.keep (.laid hT))⟩
    have A2 := A.step n2 S2
    have gs2 := gs.trans (.nx A.S n2)
    have hG2 := T.nx _ _ _ _ _ A.S n2 hG
    unfold outL at hr
    have hr := hr.bind
    unfold stF at hr
    have elen : g.e.length = g1.e.length := by rw [A.S.len, ag.l, A1.S.len]
    have ew := wipeC_ext ag elen
    have ws : L2.wipe g.s own = L2.wipe g1.s own := wipe_ext (fun j hj => ag.fs j hj) ag.l
    cases ha : asg (wipeC g1.e own) gt x with
    | none => rw [ha] at hr; exact hr.elim
    | some e1 =>
      rw [ha] at hr
      rw [← ew] at ha
      have hr := hr.bind
      have hr := hr.noEx
      have Sw := S2.wipe own
      have pw : ∀ a, Gs.Pr { g with e := wipeC g.e own, s := L2.wipe g.s own } a → g.Pr a := by
        rintro a (q | q | ⟨j, z, q1, q2⟩)
        · exact .inl q
        · exact .inr (.inl q)
        · have hj : j ∉ own := fun hj => by
            have := List.all_eq_true.mp (notOwn_wipe (e := g.e) own hn) j hj
            unfold notOwn at this
            rw [show (wipeC g.e own)[j]? = some (.own z) from q1] at this
            cases this
          have a1 := Ag.wipe g.e g.s own
          exact .inr (.inr ⟨j, z, (a1.fe j hj).symm.trans q1, (a1.fs j hj).symm.trans q2⟩)
      obtain ⟨s1, ⟨Si, pi⟩, hag, hq⟩ := asg_spec (gt := gt) (e1 := e1) (v := v) Sw ha (rv.keep (.anti pw))
      obtain ⟨ag1, nw⟩ := hag own hgi
      have ag' : Ag own g.e e1 g.s s1 := (Ag.wipe g.e g.s own).trans ag1
      have hn1 : own.all (notOwn e1) = true := nw (notOwn_wipe own hn)
      have pi' : ∀ a, Gs.Pr { g with e := e1, s := s1 } a → g.Pr a := fun a q => pw a (pi a q)
      have A3 := A2.env (e1 := e1) (s1 := s1) Si pi'
      have gs3 : Goes K D g1 H1 { g with e := e1, s := s1 } H2 := gs2.trans (.anti rfl pi')
      have hG3 : G (Gs.Pr { g with e := e1, s := s1 }) g.r H2 := T.anti _ _ _ _ pi' hG2
      rw [← ws]
      refine (show gT K gt v (L2.wipe g.s own) H2 _ from hq _ ?_)
      refine ⟨wipe_ext (fun j hj => ag'.fs j hj) ag'.l, ⟨{ g with e := e1, s := s1 }, st, rfl, Si, hr.imp fun b s2 hb g2 H3 n3 S3 => ?_⟩⟩
      have A4 := A3.step n3 S3
      have gs4 := gs3.trans (.nx Si n3)
      have hG4 := T.nx _ _ _ _ _ Si n3 hG3
      have e2 : g2.e = e1 := n3.e
      have s2e : g2.s = s1 := n3.s
      have ag4 : Ag own g1.e g2.e g1.s g2.s := ag.trans (by rw [e2, s2e]; exact ag')
      cases b with
      | false =>
        try dsimp only
        rw [if_neg Bool.false_ne_true]
        exact ⟨hlt, g2, s2, acc, A4, ag4, by rw [e2]; exact hn1, gs4, hG4, hb⟩
      | true =>
        try dsimp only
        rw [if_pos rfl]
        rw [if_pos rfl] at hb
        have e3 : s1 = g2.s := s2e.symm
        rw [e3]
        refine bs g2 s2 H3 acc _ A4 (by rw [e2]; exact hn1) ?_
        rw [e2]
        refine hb.imp fun acc' s' hb g' H' A5 ag5 hn5 gs5 => ?_
        refine ⟨hlt, g', s', acc', A5, ag4.trans (by rw [e2]; exact ag5), hn5, gs4.trans gs5, ?_, hb⟩
        exact gs5 G T P hG4
  · have e : i = xs.length := by omega
    subst e
    rw [List.drop_length] at hr
    exact .inl ⟨W.stop _ _ _ hG, fin g st H acc A ag hn gs hr⟩
end
def tI (K : PySem.W.Frag) (bo : Bool) (f : Envr → Sto → R (List PyData)) : TI := fun σ H R => ∃ g st, g.s = σ ∧ Sim K g st H ∧ RP (f g.e st) fun xs st' => ∀ g' H' J G, Nx g g' H H' → g'.B = g.B → Sim K g' st' H' → Wk K J G xs → Stay K bo G → Apt (fun b => g.B b ∨ H' b = none) G → G g'.Pr g'.r H' → R J H'
def tBL (K : PySem.W.Frag) (fy : Envr → Sto → R PV) (D : Addr) (σ : L2.St) (H : Hp) (Nx : Hp → Prop) : Prop := tEv K fy σ H fun y H4 => ∃ acc, H4 D = some (.lst acc) ∧ acc.length < sizeLine ∧ Nx (upd H4 D (.lst (acc ++ [y])))
def tBD (K : PySem.W.Frag) (fk fy : Envr → Sto → R PV) (D : Addr) (σ : L2.St) (H : Hp) (Nx : Hp → Prop) : Prop := tEv K fk σ H fun y H4 => tEv K fy σ H4 fun z H5 => ∃ kvs k, y = kV k ∧ H5 D = some (.dK kvs) ∧ kvs.length < sizeLine ∧ Nx (upd H5 D (.dK (putK kvs k z)))
def bodyL (fy : Envr → Sto → R PV) (e : Envr) (st : Sto) (acc : List PyData) : R (List PyData) := (noEx (fy e st)).bind fun v s => match asD v with
  | some d => if acc.length < sizeLine then .ok (acc ++ [d]) s else .bad
  | none => .bad
def bodyD (fk fy : Envr → Sto → R PV) (e : Envr) (st : Sto) (acc : Tb) : R Tb := (noEx (fk e st)).bind fun u s3 => (noEx (fy e s3)).bind fun v s4 => match asD u, asD v with
  | some a, some b => match toKey a with
    | some k => if acc.length < sizeLine then .ok (putD (.k k) a b acc) s4 else .bad
    | none => .bad
  | _, _ => .bad
def body2 {β : Type} (fI : Envr → Sto → R (List PyData)) (ft : Envr → Sto → R Bool) (fB : Envr → Sto → β → R β) (v1 : List Nat) (gt : G) (e : Envr) (st : Sto) (acc : β) : R β := (noEx (fI e st)).bind fun xs s3 => outL (stF ft fB e v1 gt) xs s3 acc
section
variable {K : PySem.W.Frag} {β : Type} {sk : Sink K β} {g0 g g' g1 g2 : Gs} {st st0 st' st1 st2 : Sto} {H0 H H' H1 H2 : Hp} {D : Addr} {acc acc' : β} {own : List Nat} {Q : VK}
theorem body_list {fy : Envr → Sto → R PV} (hD0 : H0 D = none) (h00 : g0.H0 D = none) (hB0 : ¬ g0.B D) : BodyOk K (snkL K) g0 H0 D own (bodyL fy) (tBL K fy D) := by
  intro g st H acc Nxt A hn h
  unfold bodyL at h
  refine ⟨g, st, rfl, A.S, h.bind.noEx.imp fun v s h g' H' w n S' r => ?_⟩
  cases hx : asD v with
  | none => rw [hx] at h; exact h.elim
  | some d =>
    rw [hx] at h
    dsimp only at h
    split at h
    · rename_i hz
      have rd := Rep.asD n S' r hx
      have A1 := A.step n S'
      have A2 := A1.weakB n.B (fun a q => A.nx.B a q) A.hB
      obtain ⟨u, e, vs, rfl, rr⟩ := A2.at_
      have hz' : vs.length < sizeLine := by rw [rr.length]; exact hz
      have g'h0 : (g'.wB g.B).H0 D = none := by
        show g'.H0 D = none
        rw [n.h0]
        have := A.nx.h0
        rw [this]; exact h00
      have pD : (g'.wB g.B).Pr D := .inl A.hB
      have A3 : InB (snkL K) g0 H0 D (g'.wB g.B) s (upd H' D (.lst (vs ++ [w]))) (acc ++ [d]) := A2.write hD0 g'h0 fun u e' _ => by
        have kw : Keep (g'.wB g.B).Pr H' (g'.wB g.B).Pr (upd H' D (.lst (vs ++ [w]))) := keep_wr pD e trivial
        exact ⟨_, rfl, (rr.keep kw).append (.cons (rd.keep kw) .nil)⟩
      refine ⟨vs, e, hz', h _ _ A3 ?_ ?_ ?_⟩
      · show Ag own g.e g'.e g.s g'.s
        rw [n.e, n.s]; exact .refl
      · show own.all (notOwn g'.e) = true
        rw [n.e]; exact hn
      · exact ((Goes.nx A.S n).trans (Goes.anti (g := g') (g' := g'.wB g.B) rfl fun a q => Gs.wB_pr n.B q)).trans (.wr pD e trivial)
    · exact h.elim
theorem body_dict {fk fy : Envr → Sto → R PV} (hD0 : H0 D = none) (h00 : g0.H0 D = none) : BodyOk K (snkD K) g0 H0 D own (bodyD fk fy) (tBD K fk fy D) := by
  intro g st H acc Nxt A hn h
  unfold bodyD at h
  refine ⟨g, st, rfl, A.S, h.bind.noEx.imp fun u s h g1 H1 w n S1 r1 => ?_⟩
  refine ⟨g1, s, n.s, S1, ?_⟩
  rw [n.e]
  refine h.bind.noEx.imp fun v s2 h g2 H2 w2 n2 S2 r2 => ?_
  cases hu : asD u with
  | none => rw [hu] at h; exact h.elim
  | some a =>
    cases hv : asD v with
    | none => rw [hu, hv] at h; exact h.elim
    | some b =>
      rw [hu, hv] at h
      dsimp only at h
      cases hk : toKey a with
      | none => rw [hk] at h; exact h.elim
      | some k =>
        rw [hk] at h
        dsimp only at h
        split at h
        · rename_i hz
          have nn := n.trans S1 n2
          have rk : RD K (g1.wB g.B).Pr H1 w a := Rep.asD n S1 r1 hu
          have rd : RD K (g2.wB g.B).Pr H2 w2 b := (Rep.asD (g := g1) n2 S2 r2 hv).keep (.anti fun x q => by
            rcases q with q | q
            · exact .inl (n.B x q)
            · exact .inr q)
          have A1 := (A.step n S1).step n2 S2
          have A2 := A1.weakB nn.B (fun a q => A.nx.B a q) A.hB
          obtain ⟨u', e, kvs, rfl, rr⟩ := A2.at_
          have g'h0 : (g2.wB g.B).H0 D = none := by
            show g2.H0 D = none
            rw [nn.h0]
            have := A.nx.h0
            rw [this]; exact h00
          have pD : (g2.wB g.B).Pr D := .inl A.hB
          have A3 : InB (snkD K) g0 H0 D (g2.wB g.B) s2 (upd H2 D (.dK (putK kvs k w2))) (putD (.k k) a b acc) := A2.write hD0 g'h0 fun u e' _ => by
            have kw : Keep (g2.wB g.B).Pr H2 (g2.wB g.B).Pr (upd H2 D (.dK (putK kvs k w2))) := keep_wr pD e trivial
            refine ⟨_, rfl, ?_⟩
            rw [toKey_D hk]
            exact rdk_put (rr.keep kw) (rd.keep kw)
          refine ⟨kvs, k, rd_key rk hk, e, by rw [rdk_len rr]; exact hz, h _ _ A3 ?_ ?_ ?_⟩
          · show Ag own g.e g2.e g.s g2.s
            rw [nn.e, nn.s]; exact .refl
          · show own.all (notOwn g2.e) = true
            rw [nn.e]; exact hn
          · exact ((Goes.nx A.S nn).trans (Goes.anti (g := g2) (g' := g2.wB g.B) rfl fun a q => Gs.wB_pr nn.B q)).trans (.wr pD e trivial)
        · exact h.elim
theorem body_two {fI : Envr → Sto → R (List PyData)} {ft : Envr → Sto → R Bool} {fB : Envr → Sto → β → R β} {tB : L2.St → Hp → (Hp → Prop) → Prop} {v1 : List Nat} {gt : G} (bs : BodyOk K sk g0 H0 D v1 fB tB) (hv : ∀ i ∈ v1, i ∈ own) (hgi : gIn v1 gt = true) :
    BodyOk K sk g0 H0 D own (body2 fI ft fB v1 gt) (fun σ H Nx => tI K true fI σ H fun J H4 => tGo J (gT K gt) (tTs K ft) tB v1 σ H4 Nx) := by
  intro g st H acc Nxt A hn h
  unfold body2 at h
  refine ⟨g, st, rfl, A.S, h.bind.noEx.imp fun xs s h g1 H1 J G n hB S1 W T P hG => ?_⟩
  have A1 := A.step n S1
  have hn1 : v1.all (notOwn g1.e) = true := by
    rw [List.all_eq_true] at hn ⊢
    intro i hi
    rw [n.e]
    exact hn i (hv i hi)
  rw [← n.s]
  refine go_read (Fi := fun acc' s' => ∀ g' H', InB sk g0 H0 D g' s' H' acc' → Ag own g.e g'.e g.s g'.s → own.all (notOwn g'.e) = true → Goes K D g H g' H' → Nxt H') bs A1 W T (fun pr r H u v p1 p2 p3 p4 => P pr r H D u v (.inl A.hB) p1 p2 p3 p4) hG hn1 hgi (by rw [n.e]; exact h) fun g' st' H' acc' A' ag hn' gs hf => hf g' H' A' ?_ ?_ ((Goes.nx A.S n).trans gs)
  · have := Ag.sub hv ag
    rw [n.e, n.s] at this
    exact this
  · rw [List.all_eq_true] at hn hn' ⊢
    intro i hi
    by_cases h1 : i ∈ v1
    · exact hn' i h1
    · have h2 := hn i hi
      unfold notOwn at h2 ⊢
      rw [ag.fe i h1, n.e]
      exact h2
/-- a comprehension, from its start -/
theorem comp_read {fB : Envr → Sto → β → R β} {tB : Addr → L2.St → Hp → (Hp → Prop) → Prop} {ft : Envr → Sto → R Bool} {gt : G} {J : L2.It} {G : GP} {xs : List PyData} {B0 : Addr → Prop} {u0 : HO} {b0 : β} {enc : β → PyData} (bs : ∀ D, H D = none → BodyOk K sk g H D own fB (tB D)) (S : Sim K g st H) (W : Wk K J G xs) (T : Stay K true G) (P : Apt (fun b => B0 b ∨ H b = none) G) (hG : G g.Pr g.r H)
    (hn : own.all (notOwn g.e) = true) (hgi : gIn own gt = true) (h00 : ∀ {pr D}, sk.at_ pr (upd H D u0) u0 b0) (he : ∀ {g' : Gs} {H' : Hp} {a : Addr} {u : HO} {b : β}, H' a = some u → sk.at_ g'.Pr H' u b → OwnAt K g' H' a (enc b))
    (h : RP (outL (stF ft fB g.e own gt) xs st b0) fun ys s2 => Fin K g s2 H (.fre (enc ys)) Q) :
    ∀ D, H D = none → tGo J (gT K gt) (tTs K ft) (tB D) own g.s (upd H D u0) (fun H' => Q (.ref D) H') := by
  intro D hD
  have n0 : Nx g (g.aB D) H (upd H D u0) := Nx.refl.fresh S hD
  have S0 : Sim K (g.aB D) st (upd H D u0) := S.fresh hD
  have A : InB sk g H D (g.aB D) st (upd H D u0) b0 := ⟨n0, S0, .inr rfl, u0, upd_same, h00⟩
  have gB : ¬ g.B D := fun q => S.bt D q hD
  refine go_read (g1 := g.aB D) (bs D hD) A W T (fun pr r H' u v p1 p2 p3 p4 => P pr r H' D u v (.inr hD) p1 p2 p3 p4) (T.nx _ _ _ _ _ S n0 hG) hn hgi h fun g' st' H' acc' A' ag hn' _ F => ?_
  have how : ∀ a, OwnA g.e g.s a ↔ OwnA g'.e g'.s a := fun a => ag.own hn hn' a
  have eg : ({ g with e := g'.e, s := g'.s } : Gs) = { g with e := g'.e, s := g'.s } := rfl
  obtain ⟨m1, m2, m3⟩ := Sim.swap (st2 := st') S how A'.nx A'.S
  obtain ⟨u, e, r⟩ := A'.at_
  refine F { g' with e := g.e, s := g.s } H' (.ref D) m1 m2 ⟨D, rfl, he (g' := { g' with e := g.e, s := g.s }) e (sk.keep r (.anti fun a q => (m3 a).mp q)), A'.hB, gB, ?_⟩
  show g'.H0 D = none
  rw [A'.nx.h0]
  exact S.h0 hD
theorem lcL_out {f : PyData → Sto → R (Option PyData)} : ∀ (xs : List PyData) (st : Sto) (acc : List PyData), lcL f xs st acc = outL (fun x s acc => (f x s).bind fun o s1 => match o with
    | some y => if acc.length < sizeLine then .ok (acc ++ [y]) s1 else .bad
    | none => .ok acc s1) xs st acc
  | [], st, acc => rfl
  | x :: xs, st, acc => by
    rw [lcL, outL]
    cases f x st with
    | ok o s1 =>
      cases o with
      | none => exact lcL_out xs s1 acc
      | some y =>
        show (if acc.length < sizeLine then lcL f xs s1 (acc ++ [y]) else .bad) = R.bind (if acc.length < sizeLine then .ok (acc ++ [y]) s1 else .bad) _
        split
        · exact lcL_out xs s1 _
        · rfl
    | ex _ _ _ => rfl
    | bad => rfl
theorem dpL_out {f : PyData → Sto → R (Option (PyData × PyData))} : ∀ (xs : List PyData) (st : Sto) (acc : Tb), dpL f xs st acc = outL (fun x s acc => (f x s).bind fun o s1 => match o with
    | some p => match toKey p.1 with
      | some k => if acc.length < sizeLine then .ok (putD (.k k) p.1 p.2 acc) s1 else .bad
      | none => .bad
    | none => .ok acc s1) xs st acc
  | [], st, acc => rfl
  | x :: xs, st, acc => by
    rw [dpL, outL]
    cases f x st with
    | ok o s1 =>
      cases o with
      | none => exact dpL_out xs s1 acc
      | some p =>
        show (match toKey p.1 with
          | some k => if acc.length < sizeLine then dpL f xs s1 (putD (.k k) p.1 p.2 acc) else .bad
          | none => .bad) = R.bind (match toKey p.1 with
          | some k => if acc.length < sizeLine then .ok (putD (.k k) p.1 p.2 acc) s1 else .bad
          | none => .bad) _
        cases toKey p.1 with
        | none => rfl
        | some k =>
          dsimp only
          split
          · exact dpL_out xs s1 _
          · rfl
    | ex _ _ _ => rfl
    | bad => rfl
end
end Ev

set_option maxRecDepth 100000
/-! Ev9h: a dict comprehension with two `for`s: what HandS has for lists, turned to dicts. -/
namespace Ev
open PySem L2 PySem.Spec PyProof.Rows
theorem dcTurn2_out (kx vx t0 i0 t1 i1 : Expr) (ifs0 ifs1 : List Expr) (scope : Scope) (pos : Pos) (it : Value) (D : Addr) (env : Env) :
    compTurn (.DictComp kx vx [⟨t0, i0, ifs0, 0⟩, ⟨t1, i1, ifs1, 0⟩] scope pos) 0 it (.ref D) env = (do
      standAt i0.pos
      match ← pyNext it with
      | none => pure (.done .next)
      | some v =>
        letOwnedTupleGo t0 it v
        assign t0 env v
        let mut ok := true
        for c in ifs0 do
          if ok then ok ← isTrue c env (eval c env)
        if ok then
          let x ← eval i1 env
          standAt i1.pos
          let x ← foldedSetIterable i1 env x
          let _ ← runOwn (.compStart (.DictComp kx vx [⟨t0, i0, ifs0, 0⟩, ⟨t1, i1, ifs1, 0⟩] scope pos) 1 (← holding [x] (pyIter x)) (.ref D) env) env
        again (.compLoop (.DictComp kx vx [⟨t0, i0, ifs0, 0⟩, ⟨t1, i1, ifs1, 0⟩] scope pos) 0 it (.ref D) env)) := by rfl
theorem dcTurn2_in (kx vx t0 i0 t1 i1 : Expr) (ifs0 ifs1 : List Expr) (scope : Scope) (pos : Pos) (it : Value) (D : Addr) (env : Env) :
    compTurn (.DictComp kx vx [⟨t0, i0, ifs0, 0⟩, ⟨t1, i1, ifs1, 0⟩] scope pos) 1 it (.ref D) env = (do
      standAt i1.pos
      match ← pyNext it with
      | none => pure (.done .next)
      | some v =>
        letOwnedTupleGo t1 it v
        assign t1 env v
        let mut ok := true
        for c in ifs1 do
          if ok then ok ← isTrue c env (eval c env)
        if ok then
          (do
            let kv ← eval kx env
            let vv ← holding [kv] (eval vx env)
            standAt { kx.pos with endLine := vx.pos.endLine, endCol := vx.pos.endCol }
            holding [kv, vv] (dictSet D kv vv))
        again (.compLoop (.DictComp kx vx [⟨t0, i0, ifs0, 0⟩, ⟨t1, i1, ifs1, 0⟩] scope pos) 1 it (.ref D) env)) := by rfl

section
variable {prog : Program} {w : World} {A : Around} {R : Result → Shared → Prop} {s : Shared} {kx vx t0 i0 t1 i1 : Expr} {ifs0 ifs1 : List Expr} {scope : Scope} {pos : Pos} {it : Value} {D : Addr} {env : Env}
/-- the loop of the first clause -/
theorem dcLoop2_out (hs : ∀ x, foldedSetIterable i1 env x = pure x) (I : Nat → Shared → Prop)
    (turn : ∀ n s, I n s → wpAny (model prog w) A (pyNext it) (fun r t₁ => match r with
      | none => R (.ok .next) t₁
      | some v => wpAny (model prog w) A (letOwnedTupleGo t0 it v) (fun _ t₁' => wpAny (model prog w) A (assign t0 env v) (fun _ t₂ =>
          wpAny (model prog w) A (forIn ifs0 true fun c r => if r = true then do let ok ← isTrue c env (eval c env); pure (ForInStep.yield ok) else pure (ForInStep.yield r)) (fun ok t₃ =>
            if ok = true then wpAny (model prog w) A (eval i1 env) (fun x t₄ => wpAny (model prog w) A (pyIter x) (fun it1 t₅ =>
              codeAny (model prog w) A (.compStart (.DictComp kx vx [⟨t0, i0, ifs0, 0⟩, ⟨t1, i1, ifs1, 0⟩] scope pos) 1 it1 (.ref D) env) (fun r s' => match r with
                | .ok _ => ∃ m, m < n ∧ I m s'
                | .error _ => False) t₅) (notedBy (model prog w) A env fun e s' => R (.error e) s') t₄) (notedBy (model prog w) A env fun e s' => R (.error e) s') t₃
            else ∃ m, m < n ∧ I m t₃) (notedBy (model prog w) A env fun e s' => R (.error e) s') t₂) (notedBy (model prog w) A env fun e s' => R (.error e) s') t₁') (notedBy (model prog w) A env fun e s' => R (.error e) s') t₁) (notedBy (model prog w) A env fun e s' => R (.error e) s') s)
    (n : Nat) (h : I n s) :
    codeAny (model prog w) A (.compLoop (.DictComp kx vx [⟨t0, i0, ifs0, 0⟩, ⟨t1, i1, ifs1, 0⟩] scope pos) 0 it (.ref D) env) R s := by
  refine codeAny_loop rfl I (fun n s hI => ?_) n h
  show wpAny _ A ((compTurn (.DictComp kx vx [⟨t0, i0, ifs0, 0⟩, ⟨t1, i1, ifs1, 0⟩] scope pos) 0 it (.ref D) env).onRaise (fun x => do noteFrame x env; theTreesLotGoes x)) _ _ s
  refine wpAny_noted ?_
  rw [dcTurn2_out]
  refine wpAny_bind (wpAny_standAt (wpAny_bind (wpAny_mono (turn n s hI) (fun r t₁ k₁ => ?_) fun _ _ e' => e')))
  cases r with
  | none => exact wpAny_pure k₁
  | some v =>
    refine wpAny_bind (wpAny_mono k₁ (fun _ t₁' k₁' => ?_) fun _ _ e' => e')
    refine wpAny_bind (wpAny_mono k₁' (fun _ t₂ k₂ => wpAny_bind (wpAny_mono k₂ (fun ok t₃ k₃ => ?_) fun _ _ e' => e')) fun _ _ e' => e')
    cases ok with
    | false => exact wpAny_pure ⟨rfl, k₃⟩
    | true =>
      refine wpAny_bind (wpAny_mono k₃ (fun x t₄ k₄ => ?_) fun _ _ e' => e')
      refine wpAny_bind (wpAny_standAt (wpAny_bind (wpAny_of_eq (hs x) (wpAny_bind (wpAny_holding (wpAny_mono k₄ (fun it1 t₅ k₅ => ?_) fun _ _ e' => e'))))))
      refine wpAny_bind (wpAny_runOwn ?_)
      rw [Around.mark_none]
      refine codeAny_mono k₅ fun r s' hr => ?_
      cases r with
      | ok f =>
        first
          | exact wpAny_pure ⟨rfl, hr⟩
          | exact wpAny_bind (wpAny_pure (wpAny_pure ⟨rfl, hr⟩))
      | error e => exact hr.elim
/-- the loop of the second -/
theorem dcLoop2_in (I : Nat → Shared → Prop)
    (turn : ∀ n s, I n s → wpAny (model prog w) A (pyNext it) (fun r t₁ => match r with
      | none => R (.ok .next) t₁
      | some v => wpAny (model prog w) A (letOwnedTupleGo t1 it v) (fun _ t₁' => wpAny (model prog w) A (assign t1 env v) (fun _ t₂ =>
          wpAny (model prog w) A (forIn ifs1 true fun c r => if r = true then do let ok ← isTrue c env (eval c env); pure (ForInStep.yield ok) else pure (ForInStep.yield r)) (fun ok t₃ =>
            if ok = true then wpAny (model prog w) A (eval kx env) (fun kv t₄ => wpAny (model prog w) A (eval vx env) (fun vv t₅ =>
              wpAny (model prog w) A (dictSet D kv vv) (fun _ t₆ => ∃ m, m < n ∧ I m t₆) (notedBy (model prog w) A env fun e s' => R (.error e) s') t₅) (notedBy (model prog w) A env fun e s' => R (.error e) s') t₄) (notedBy (model prog w) A env fun e s' => R (.error e) s') t₃
            else ∃ m, m < n ∧ I m t₃) (notedBy (model prog w) A env fun e s' => R (.error e) s') t₂) (notedBy (model prog w) A env fun e s' => R (.error e) s') t₁') (notedBy (model prog w) A env fun e s' => R (.error e) s') t₁) (notedBy (model prog w) A env fun e s' => R (.error e) s') s)
    (n : Nat) (h : I n s) :
    codeAny (model prog w) A (.compLoop (.DictComp kx vx [⟨t0, i0, ifs0, 0⟩, ⟨t1, i1, ifs1, 0⟩] scope pos) 1 it (.ref D) env) R s := by
  refine codeAny_loop rfl I (fun n s hI => ?_) n h
  show wpAny _ A ((compTurn (.DictComp kx vx [⟨t0, i0, ifs0, 0⟩, ⟨t1, i1, ifs1, 0⟩] scope pos) 1 it (.ref D) env).onRaise (fun x => do noteFrame x env; theTreesLotGoes x)) _ _ s
  refine wpAny_noted ?_
  rw [dcTurn2_in]
  refine wpAny_bind (wpAny_standAt (wpAny_bind (wpAny_mono (turn n s hI) (fun r t₁ k₁ => ?_) fun _ _ e' => e')))
  cases r with
  | none => exact wpAny_pure k₁
  | some v =>
    refine wpAny_bind (wpAny_mono k₁ (fun _ t₁' k₁' => ?_) fun _ _ e' => e')
    refine wpAny_bind (wpAny_mono k₁' (fun _ t₂ k₂ => wpAny_bind (wpAny_mono k₂ (fun ok t₃ k₃ => ?_) fun _ _ e' => e')) fun _ _ e' => e')
    cases ok with
    | false => exact wpAny_pure ⟨rfl, k₃⟩
    | true =>
      exact wpAny_bind (wpAny_bind (wpAny_mono k₃ (fun kv t₄ k₄ => wpAny_bind (wpAny_holding (wpAny_mono k₄ (fun vv t₅ k₅ => wpAny_bind (wpAny_standAt (wpAny_holding (wpAny_mono k₅ (fun _ t₆ k₆ => wpAny_pure ⟨rfl, k₆⟩) fun _ _ e' => e')))) fun _ _ e' => e'))) fun _ _ e' => e'))
/-- the second clause's start -/
theorem dcStart1_ok (h0 : codeAny (model prog w) A (.compLoop (.DictComp kx vx [⟨t0, i0, ifs0, 0⟩, ⟨t1, i1, ifs1, 0⟩] scope pos) 1 it (.ref D) env) R s)
    (h : wpAny (model prog w) A (pyIter it) (fun it' s' => codeAny (model prog w) A (.compLoop (.DictComp kx vx [⟨t0, i0, ifs0, 0⟩, ⟨t1, i1, ifs1, 0⟩] scope pos) 1 it' (.ref D) env) R s')
      (notedBy (model prog w) A env fun x s' => R (.error x) s') s) :
    codeAny (model prog w) A (.compStart (.DictComp kx vx [⟨t0, i0, ifs0, 0⟩, ⟨t1, i1, ifs1, 0⟩] scope pos) 1 it (.ref D) env) R s := by
  refine codeAny_of_tree ?_
  show wpAny _ _ ((compStart (.DictComp kx vx [⟨t0, i0, ifs0, 0⟩, ⟨t1, i1, ifs1, 0⟩] scope pos) 1 it (.ref D) env).onRaise (fun x => do noteFrame x env; standAt theWindowsPlace)) _ _ s
  refine wpAny_notedAt ?_
  unfold compStart
  show wpAny _ _ (ask >>= _) _ _ s
  refine wpAny_bind (wpAny_askSetting (wpAny_ite ?_))
  split
  · first
      | exact wpAny_bind (wpAny_pure (wpAny_pure (And.intro rfl h0)))
      | exact wpAny_pure (And.intro rfl h0)
  · first
      | exact wpAny_bind (wpAny_rule (wpAny_bind (wpAny_standAt (wpAny_bind (wpAny_mono h (fun it' s' h' => wpAny_pure (And.intro rfl h')) fun _ _ e' => e')))))
      | (refine wpAny_bind (wpAny_rule ?_); show wpAny _ _ (standAt i1.pos >>= _) _ _ s; exact wpAny_bind (wpAny_standAt (wpAny_bind (wpAny_mono h (fun it' s' h' => wpAny_pure (And.intro rfl h')) fun _ _ e' => e'))))
end

def tDc2 (wi : TI) (g : TG) (tt : TT) (wi1 : TI) (g1 : TG) (tt1 : TT) (tk te : TE) (vs vs1 : List Nat) : TE := fun σ H Q => wi σ H fun J H1 => ∀ D, H1 D = none → tGo J g tt (fun σ2 H3 Nx => wi1 σ2 H3 fun J1 H4 => tGo J1 g1 tt1 (fun σ H Nx => tk σ H fun y H4 => te σ H4 fun z H5 => ∃ kvs k, y = kV k ∧ H5 D = some (.dK kvs) ∧ kvs.length < sizeLine ∧ Nx (upd H5 D (.dK (putK kvs k z)))) vs1 σ2 H4 Nx) vs σ (upd H1 D (.dK [])) (fun H' => Q (.ref D) H')
section
variable {X : L2.Cx}
theorem dc2_core {pins : List (Addr × Obj)} {s : Shared} {σ : L2.St} {H : Hp} {Q : VK} {kx vx tg iter tg1 iter1 : Expr} {ifs ifs1 : List Expr} {scope : Scope} {own : List (Str × Nat)} {vs1 : List Nat} {pos pos' : Pos} {wi wi1 : TI} {g g1 : TG} {tt tt1 : TT} {tk te : TE} {use : Option (Value → Sem Unit)} {Qf : Value → Shared → Prop}
    (hc : X.calm = true) (hN : X.N.Nodup) (I : L2.Inv X pins σ H s) (hi : PI X tg iter wi) (ok : BlkOk X.N X.env.scope scope own) (hv : ∀ i ∈ vs1, i ∈ own.map (·.2))
    (hg : ∀ (s : Shared) (H : Hp) (C : Addr) (cl : List (Str × Addr)) (fp : List Addr), PG (X.blk s H scope (compEnvC scope cl C X.env) fp) tg g) (ht : ∀ (s : Shared) (H : Hp) (C : Addr) (cl : List (Str × Addr)) (fp : List Addr), PTs (X.blk s H scope (compEnvC scope cl C X.env) fp) ifs tt)
    (hk : ∀ (s : Shared) (H : Hp) (C : Addr) (cl : List (Str × Addr)) (fp : List Addr), PE (X.blk s H scope (compEnvC scope cl C X.env) fp) kx tk)
    (he : ∀ (s : Shared) (H : Hp) (C : Addr) (cl : List (Str × Addr)) (fp : List Addr), PE (X.blk s H scope (compEnvC scope cl C X.env) fp) vx te) (hs : ∀ x, foldedSetIterable iter X.env x = pure x)
    (hi1 : ∀ (s : Shared) (H : Hp) (C : Addr) (cl : List (Str × Addr)) (fp : List Addr), PI (X.blk s H scope (compEnvC scope cl C X.env) fp) tg1 iter1 wi1)
    (hg1 : ∀ (s : Shared) (H : Hp) (C : Addr) (cl : List (Str × Addr)) (fp : List Addr), PG (X.blk s H scope (compEnvC scope cl C X.env) fp) tg1 g1)
    (ht1 : ∀ (s : Shared) (H : Hp) (C : Addr) (cl : List (Str × Addr)) (fp : List Addr), PTs (X.blk s H scope (compEnvC scope cl C X.env) fp) ifs1 tt1)
    (hs1 : ∀ env x, foldedSetIterable iter1 env x = pure x)
    (h : tDc2 wi g tt wi1 g1 tt1 tk te (own.map (·.2)) vs1 σ H Q)
    (hRR : ∀ D C s' m H', L2.Inv X pins σ H' s' → Q (.ref D) H' → s'.heap.Ns C m → FpOk X pins H' C → compPost (model X.prog X.w) X.A X.xe use Qf (.ref D) C (.ok .next) s') :
    wpAny (model X.prog X.w) X.A (comprehension (.DictComp kx vx [⟨tg, iter, ifs, 0⟩, ⟨tg1, iter1, ifs1, 0⟩] scope pos) scope X.env pos' newDict false (eval iter X.env) use) Qf X.xe s := by
  have hfr : ∀ y ∈ scope.names, y.2 = .free → ∃ c, X.env.cells.lookup y.1 = some c := fun y hy e => by
    rcases ok.free y hy e with k | k
    · exact I.ok.has _ (.inl k)
    · exact I.ok.has _ (.inr k)
  refine wpAny_comprehension_free (use := use) rfl hs (closure_ok hfr) ok.kind (fun y hy e => by rw [ok.uniq y hy, e])
    (thn (hi.run pins s σ H _ I h) fun xv z1 hx => thn hx fun itv z2 h2 => ?_)
  obtain ⟨it, fp, tn, J, U2, e, Y2, T, tr2, f2, q⟩ := h2
  subst e
  refine wpAny_newObj_type (newEnv_comp ?_)
  generalize hD : z2.heap.objs.size = D
  have hDn : U2 D = none := Y2.hok.fresh (Nat.le_of_eq hD)
  obtain ⟨W, ⟨m0, w0⟩, turn⟩ := q D hDn
  -- the new list
  generalize hs3 : ({ z2 with heap := z2.heap.push { cls := .type "dict", data := .dict #[] } } : Shared) = z3
  have Y3 : L2.Inv X pins σ (upd U2 D (.dK [])) z3 := by
    rw [← hs3]
    refine Y2.laid (t' := z2.toks) (fun b o e => Heap.get?_push_of_some _ e) (Nat.le_of_eq hD) ?_
    rw [← hD]
    exact dk_empty z2.heap Y2.big
  have h3 : z3.heap = z2.heap.push { cls := .type "dict", data := .dict #[] } := by rw [← hs3]
  have sz : ∀ b ∈ fp, b < z2.heap.objs.size := fun b hb => by
    obtain ⟨o, e, _⟩ := T.obj _ _ tr2 b hb
    exact Heap.lt_size e
  have f3 : ∀ b ∈ fp, FpOk X pins (upd U2 D (.dK [])) b ∧ b < z3.heap.objs.size := fun b hb => by
    have hlt := sz b hb
    refine ⟨⟨?_, (f2 b hb).2⟩, by rw [h3, Heap.size_push]; exact Nat.lt_succ_of_lt hlt⟩
    rw [upd_ne (by rw [← hD]; exact Nat.ne_of_lt hlt)]
    exact (f2 b hb).1
  have tr3 : tn 0 z3.heap := T.keep _ _ _ tr2 fun b _ o e => by rw [h3]; exact Heap.get?_push_of_some _ e
  have Y4 := block_start Y3 ok hN f3
  have pg := hg z3 (upd U2 D (.dK [])) z3.heap.objs.size (cellsFrom (z3.heap.objs.size + 1) scope.names (cloFrom X.env.cells scope.names [])) fp
  have pt := ht z3 (upd U2 D (.dK [])) z3.heap.objs.size (cellsFrom (z3.heap.objs.size + 1) scope.names (cloFrom X.env.cells scope.names [])) fp
  have pk := hk z3 (upd U2 D (.dK [])) z3.heap.objs.size (cellsFrom (z3.heap.objs.size + 1) scope.names (cloFrom X.env.cells scope.names [])) fp
  have pe := he z3 (upd U2 D (.dK [])) z3.heap.objs.size (cellsFrom (z3.heap.objs.size + 1) scope.names (cloFrom X.env.cells scope.names [])) fp
  have pi1 := hi1 z3 (upd U2 D (.dK [])) z3.heap.objs.size (cellsFrom (z3.heap.objs.size + 1) scope.names (cloFrom X.env.cells scope.names [])) fp
  have pg1 := hg1 z3 (upd U2 D (.dK [])) z3.heap.objs.size (cellsFrom (z3.heap.objs.size + 1) scope.names (cloFrom X.env.cells scope.names [])) fp
  have pt1 := ht1 z3 (upd U2 D (.dK [])) z3.heap.objs.size (cellsFrom (z3.heap.objs.size + 1) scope.names (cloFrom X.env.cells scope.names [])) fp
  show codeAny _ _ (.compStart (.DictComp kx vx [⟨tg, iter, ifs, 0⟩, ⟨tg1, iter1, ifs1, 0⟩] scope pos) 0 (.ref it) (.ref D) (compEnvC scope (cellsFrom (z3.heap.objs.size + 1) scope.names (cloFrom X.env.cells scope.names [])) z3.heap.objs.size X.env)) (compPost (model X.prog X.w) X.A X.xe use Qf (.ref D) z3.heap.objs.size) { z3 with heap := pushCells (z3.heap.push { cls := .type "dict", data := .dict #[] }) scope.names }
  have nfp : ∀ b ∈ fp, (upd U2 D (.dK [])) b = none := fun b hb => (f3 b hb).1.1
  generalize hCe : compEnvC scope (cellsFrom (z3.heap.objs.size + 1) scope.names (cloFrom X.env.cells scope.names [])) z3.heap.objs.size X.env = ce at Y4 pg pt pk pe pi1 pg1 pt1 ⊢
  have cL : ce.locals = z3.heap.objs.size := by subst hCe; rfl
  generalize hH3 : upd U2 D (.dK []) = U3 at Y3 Y4 pg pt pk pe pi1 pg1 pt1 w0 nfp f3
  generalize hs4 : ({ z3 with heap := pushCells (z3.heap.push { cls := .type "dict", data := .dict #[] }) scope.names } : Shared) = z4 at Y4 ⊢
  have tr4 : tn 0 z4.heap := T.keep _ _ _ tr3 fun b _ o e => by rw [← hs4]; exact pushCells_keeps _ _ _ _ (Heap.get?_push_of_some _ e)
  have stt : ∀ {σ' : L2.St} {H' : Hp} {s' : Shared}, L2.Inv (X.blk z3 U3 scope ce fp) [] σ' H' s' → (∀ b ∈ fp, H' b = none) → ∀ b ∈ fp, FpOk (X.blk z3 U3 scope ce fp) [] H' b := fun {σ' H' s'} I' hn b hb =>
    ⟨hn b hb, (I'.ok.exf b hb).1, I'.ok.exfs b hb, .inl hb, fun x c e => (I'.ok.exf b hb).2 x c e, fun p hp => absurd (show p ∈ ([] : List (Addr × Obj)) ++ [] from hp) (by simp)⟩
  have loop : codeAny (model X.prog X.w) X.A (.compLoop (.DictComp kx vx [⟨tg, iter, ifs, 0⟩, ⟨tg1, iter1, ifs1, 0⟩] scope pos) 0 (.ref it) (.ref D) ce) (compPost (model X.prog X.w) X.A X.xe use Qf (.ref D) z3.heap.objs.size) z4 := by
    refine dcLoop2_out (hs1 ce) (fun n s' => ∃ i H', L2.Inv (X.blk z3 U3 scope ce fp) [] (wipe σ (own.map (·.2))) H' s' ∧ tn i s'.heap ∧ (∀ b ∈ fp, H' b = none) ∧ W i n H') ?_ m0 ⟨0, U3, Y4, tr4, nfp, w0⟩
    rintro n z5 ⟨i, U5, Y5, tr5, n5, w5⟩
    rcases turn i n U5 w5 with ⟨stop, qq⟩ | ⟨go, Nx, hNx, step⟩
    · have td := T.done (X.blk z3 U3 scope ce fp) rfl rfl rfl hc i [] z5 _ U5 (fun _ _ => False) Y5 (stt Y5 n5) tr5 stop
      refine thnF td fun r z6 ⟨hr, Y6⟩ => ?_
      subst hr
      -- back in the def's context
      have Y7 : L2.Inv X pins σ U5 z6 := Y3.call' (ch := fp) Y6.os Y6.base Y6.hok Y6.bare fun b hb => ⟨(f3 b hb).1.2.2.2.1, (f3 b hb).1.2.1, (f3 b hb).1.2.2.2.2.1, (f3 b hb).1.2.2.2.2.2⟩
      have nC : U5 z3.heap.objs.size = none := by
        have z : U5 ce.locals = none := Y6.free
        rw [cL] at z
        exact z
      obtain ⟨m, hn, _⟩ := Y6.loc
      have hn : z6.heap.Ns ce.locals m := hn
      rw [cL] at hn
      exact hRR D z3.heap.objs.size z6 m U5 Y7 qq hn (Y3.fpOk (Nat.le_refl _) nC)
    · have ti := T.item (X.blk z3 U3 scope ce fp) rfl rfl rfl hc i [] z5 _ U5 (fun _ _ => False) Y5 (stt Y5 n5) tr5 go
      refine thnF ti fun r z6 ⟨u, hr, h6⟩ => ?_
      subst hr
      refine thnF h6 fun _ z7 ⟨x, U7, Y7, r7, y7, tr7, n7⟩ => ?_
      have Y7' := Y7.pinned (stt Y7 n7) (T.obj _ _ tr7)
      refine thnF (pg.run _ z7 _ U7 x u _ Y7' r7 (step x U7 y7)) fun _ z8 ⟨σ8, U8, Y8, hw8, q8⟩ => ?_
      refine thnF (pt.run _ z8 σ8 U8 _ Y8 q8) fun b z9 ⟨U9, Y9, q9⟩ => ?_
      -- the turn's end, from any slots that know what the block knew at its start
      have ende : ∀ {σ9 : L2.St} {s' : Shared} {H' : Hp}, L2.Inv (X.blk z3 U3 scope ce fp) ([] ++ pinsAt fp z7.heap) σ9 H' s' → (wipe σ (own.map (·.2))).length = σ9.length → (∀ (j : Nat) v, (wipe σ (own.map (·.2)))[j]? = some (some v) → σ9[j]? = some (some v)) → Nx H' →
          ∃ m, m < n ∧ ∃ i H', L2.Inv (X.blk z3 U3 scope ce fp) [] (wipe σ (own.map (·.2))) H' s' ∧ tn i s'.heap ∧ (∀ b ∈ fp, H' b = none) ∧ W i m H' := fun {σ9 s' H'} I' hl hk nx => by
        obtain ⟨m', hm, w'⟩ := hNx H' nx
        have pin'' : ∀ b ∈ fp, ∀ o, z7.heap.get? b = some o → s'.heap.get? b = some o ∧ H' b = none := fun b hb o e =>
          let z := I'.pin (b, o) (List.mem_append_right _ (List.mem_append_right _ (mem_pinsAt hb e)))
          ⟨z.1, z.2.1⟩
        refine ⟨m', hm, i + 1, H', (I'.unpinned (pins := [])).weak hl hk, T.keep _ _ _ tr7 fun b hb o e => (pin'' b hb o e).1, fun b hb => ?_, w'⟩
        obtain ⟨o, e, _⟩ := T.obj _ _ tr7 b hb
        exact (pin'' b hb o e).2
      have hl8 : (wipe σ (own.map (·.2))).length = σ8.length := by rw [← hw8, wipe_length]
      have hk8 : ∀ (j : Nat) v, (wipe σ (own.map (·.2)))[j]? = some (some v) → σ8[j]? = some (some v) := fun j v e => by
        rw [← hw8] at e
        exact (wipe_some e).1
      have hk9 : ∀ (j : Nat) v, (wipe σ (own.map (·.2)))[j]? = some (some v) → (wipe σ8 vs1)[j]? = some (some v) := fun j v e => by
        rw [← hw8] at e
        obtain ⟨e1, e2⟩ := wipe_some e
        rw [wipe_out fun z => e2 (hv j z)]
        exact e1
      cases b with
      | false =>
        simp only [Bool.false_eq_true, if_false] at q9 ⊢
        exact ende Y9 hl8 hk8 q9
      | true =>
        simp only [if_true] at q9 ⊢
        refine thnF (pi1.run _ z9 σ8 U9 _ Y9 q9) fun xv z10 hx => thnF hx fun itv z11 h11 => ?_
        obtain ⟨it1, fp1, tn1, J1, U11, e1, Y11, T1, tr11, f11, W1, ⟨m1, w1⟩, turn1⟩ := h11
        subst e1
        -- the inner loop
        have stt1 : ∀ {H' : Hp}, (∀ b ∈ fp1, H' b = none) → ∀ b ∈ fp1, FpOk (X.blk z3 U3 scope ce fp) ([] ++ pinsAt fp z7.heap) H' b := fun hn b hb => ⟨hn b hb, (f11 b hb).2⟩
        have loop1 : codeAny (model X.prog X.w) X.A (.compLoop (.DictComp kx vx [⟨tg, iter, ifs, 0⟩, ⟨tg1, iter1, ifs1, 0⟩] scope pos) 1 (.ref it1) (.ref D) ce)
            (fun r s' => match r with
              | .ok _ => ∃ m, m < n ∧ ∃ i H', L2.Inv (X.blk z3 U3 scope ce fp) [] (wipe σ (own.map (·.2))) H' s' ∧ tn i s'.heap ∧ (∀ b ∈ fp, H' b = none) ∧ W i m H'
              | .error _ => False) z11 := by
          refine dcLoop2_in (fun k s' => ∃ j H', L2.Inv (X.blk z3 U3 scope ce fp) ([] ++ pinsAt fp z7.heap) (wipe σ8 vs1) H' s' ∧ tn1 j s'.heap ∧ (∀ b ∈ fp1, H' b = none) ∧ W1 j k H') ?_ m1 ⟨0, U11, Y11.weak (wipe_length _ _) (fun j v e => (wipe_some e).1), tr11, fun b hb => (f11 b hb).1, w1⟩
          rintro k z12 ⟨j, U12, Y12, tr12, n12, w12⟩
          rcases turn1 j k U12 w12 with ⟨stop1, nx1⟩ | ⟨go1, Nx1, hNx1, step1⟩
          · refine thnF (T1.done (X.blk z3 U3 scope ce fp) rfl rfl rfl hc j _ z12 (wipe σ8 vs1) U12 (fun _ _ => False) Y12 (stt1 n12) tr12 stop1) fun r z13 ⟨hr, Y13⟩ => ?_
            subst hr
            exact ende Y13 (hl8.trans (wipe_length σ8 vs1).symm) hk9 nx1
          · refine thnF (T1.item (X.blk z3 U3 scope ce fp) rfl rfl rfl hc j _ z12 (wipe σ8 vs1) U12 (fun _ _ => False) Y12 (stt1 n12) tr12 go1) fun r z13 ⟨u1, hr, h13⟩ => ?_
            subst hr
            refine thnF h13 fun _ z14 ⟨x1, U14, Y14, r14, y14, tr14, n14⟩ => ?_
            have Y14' := Y14.pinned (stt1 n14) (T1.obj _ _ tr14)
            refine thnF (pg1.run _ z14 (wipe σ8 vs1) U14 x1 u1 _ Y14' r14 (step1 x1 U14 y14)) fun _ z15 ⟨σ15, U15, Y15, hw15, q15⟩ => ?_
            refine thnF (pt1.run _ z15 σ15 U15 _ Y15 q15) fun b1 z16 ⟨U16, Y16, q16⟩ => ?_
            have ende1 : ∀ {s' : Shared} {H' : Hp}, L2.Inv (X.blk z3 U3 scope ce fp) (([] ++ pinsAt fp z7.heap) ++ pinsAt fp1 z14.heap) σ15 H' s' → Nx1 H' → ∃ m, m < k ∧ ∃ j H', L2.Inv (X.blk z3 U3 scope ce fp) ([] ++ pinsAt fp z7.heap) (wipe σ8 vs1) H' s' ∧ tn1 j s'.heap ∧ (∀ b ∈ fp1, H' b = none) ∧ W1 j m H' := fun {s' H'} I' nx => by
              obtain ⟨m', hm, w'⟩ := hNx1 H' nx
              have pin'' : ∀ b ∈ fp1, ∀ o, z14.heap.get? b = some o → s'.heap.get? b = some o ∧ H' b = none := fun b hb o e =>
                let z := I'.pin (b, o) (List.mem_append_right _ (List.mem_append_right _ (mem_pinsAt hb e)))
                ⟨z.1, z.2.1⟩
              refine ⟨m', hm, j + 1, H', I'.unpinned.weak (by rw [← hw15, wipe_length]) (fun j v e => by rw [← hw15] at e; exact (wipe_some e).1), T1.keep _ _ _ tr14 fun b hb o e => (pin'' b hb o e).1, fun b hb => ?_, w'⟩
              obtain ⟨o, e, _⟩ := T1.obj _ _ tr14 b hb
              exact (pin'' b hb o e).2
            cases b1 with
            | false =>
              simp only [Bool.false_eq_true, if_false] at q16 ⊢
              exact ende1 Y16 q16
            | true =>
              simp only [if_true] at q16 ⊢
              refine thnF (pk.run _ z16 σ15 U16 _ Y16 q16) fun zk z17 ⟨yk, U17, Y17, r17, q17⟩ => ?_
              refine thnF (pe.run _ z17 σ15 U17 _ Y17 q17) fun zv z18 ⟨yv, U18, Y18, r18, kvs, kk, ekk, hD18, hz18, nx⟩ => ?_
              subst ekk
              exact d_dictSet (X := X.blk z3 U3 scope ce fp) Y18 hD18 hz18 r17 r18 fun z19 Y19 => ende1 Y19 nx
        exact dcStart1_ok loop1 (T1.self X.A 0 _ _ _ tr11 loop1)
  exact codeAny_compStart_dict loop (T.self X.A 0 _ _ _ tr4 loop)
theorem pe_dc2 {kx vx tg iter tg1 iter1 : Expr} {ifs ifs1 : List Expr} {scope : Scope} {own : List (Str × Nat)} {vs1 : List Nat} {pos : Pos} {wi wi1 : TI} {g g1 : TG} {tt tt1 : TT} {tk te : TE} (hc : X.calm = true) (hN : X.N.Nodup) (hi : PI X tg iter wi) (ok : BlkOk X.N X.env.scope scope own) (hv : ∀ i ∈ vs1, i ∈ own.map (·.2))
    (gg : ∀ (s : Shared) (H : Hp) (C : Addr) (cl : List (Str × Addr)) (fp : List Addr), PG (X.blk s H scope (compEnvC scope cl C X.env) fp) tg g ∧ PTs (X.blk s H scope (compEnvC scope cl C X.env) fp) ifs tt ∧ PI (X.blk s H scope (compEnvC scope cl C X.env) fp) tg1 iter1 wi1 ∧ PG (X.blk s H scope (compEnvC scope cl C X.env) fp) tg1 g1 ∧
      PTs (X.blk s H scope (compEnvC scope cl C X.env) fp) ifs1 tt1 ∧ PE (X.blk s H scope (compEnvC scope cl C X.env) fp) kx tk ∧ PE (X.blk s H scope (compEnvC scope cl C X.env) fp) vx te) (hs : ∀ x, foldedSetIterable iter X.env x = pure x) (hs1 : ∀ env x, foldedSetIterable iter1 env x = pure x) :
    PE X (.DictComp kx vx [⟨tg, iter, ifs, 0⟩, ⟨tg1, iter1, ifs1, 0⟩] scope pos) (tDc2 wi g tt wi1 g1 tt1 tk te (own.map (·.2)) vs1) := by
  refine ⟨fun pins s σ H Q I h => ?_⟩
  rw [arm_eval_DictComp]
  refine dc2_core hc hN I hi ok hv (fun s H C cl fp => (gg s H C cl fp).1) (fun s H C cl fp => (gg s H C cl fp).2.1) (fun s H C cl fp => (gg s H C cl fp).2.2.2.2.2.1) (fun s H C cl fp => (gg s H C cl fp).2.2.2.2.2.2) hs (fun s H C cl fp => (gg s H C cl fp).2.2.1) (fun s H C cl fp => (gg s H C cl fp).2.2.2.1) (fun s H C cl fp => (gg s H C cl fp).2.2.2.2.1) hs1 h
    fun D C s' m H' I' q hn f => ⟨m, hn, fun h'' sb => ?_⟩
  obtain ⟨f0, f1, f2, f3, f4, f5⟩ := f
  exact ⟨.ref D, H', I'.turned (t' := s'.toks) (fun b o hb e => (sb.2 b hb).trans e) f0 f1 f3 f4 f5, rfl, q⟩
end
end Ev

set_option maxRecDepth 100000
/-! Ev9r: a sequence turned round, list or tuple. -/
namespace Ev
open PySem L2 PySem.W PyProof.Rows PySem.SeqAt PySem.Spec HT
section
variable {prog : Program} {w : World} {A : Around} {E : Value → Shared → Prop} {s : Shared}
theorem applied_rev {sl : Addr} {vl vu vs : Value} {n : Nat} {Q : Int × Int × Nat → Shared → Prop} (hs : s.heap.IsSliceOf sl vl vu vs) (pl : IsPart vl none) (pu : IsPart vu none) (ps : IsPart vs (some (-1)))
    (h : Q ((n : Int) - 1, -1, n) s) : wpAny (model prog w) A (Builtin.Slice.sliceApplied (.ref sl) (pure (n : Int))) Q E s := by
  obtain ⟨os, hos, hcs, hds⟩ := id hs
  unfold Builtin.Slice.sliceApplied Builtin.Slice.sliceFields
  refine wpAny_bind (wpAny_bind (wpAny_field hos hds (x := vl) rfl (wpAny_bind (wpAny_field hos hds (x := vu) rfl (wpAny_bind (wpAny_field hos hds (x := vs) rfl (wpAny_pure ?_)))))))
  refine wpAny_bind (slicePart_ ps ?_)
  show wpAny _ _ (if ((-1 : Int) == 0) = true then _ else _) _ _ s
  rw [if_neg (by decide)]
  refine wpAny_bind (slicePart_ pl (wpAny_bind (slicePart_ pu (wpAny_bind (wpAny_pure ?_)))))
  show wpAny _ _ (match Builtin.Slice.sliceAdjust none none (-1) (n : Int) with | (lo, hi) => pure (lo, (-1 : Int), Builtin.Slice.slicePlaces lo hi (-1))) _ _ s
  have e1 : Builtin.Slice.sliceAdjust none none (-1) (n : Int) = ((n : Int) - 1, -1) := by
    unfold Builtin.Slice.sliceAdjust
    simp
  rw [e1]
  have e2 : Builtin.Slice.slicePlaces ((n : Int) - 1) (-1) (-1) = n := by
    unfold Builtin.Slice.slicePlaces
    have h1 : ¬ ((-1 : Int) > 0) := by decide
    simp only [h1, if_false]
    split
    · rw [show (- -1 : Int) = 1 by decide, Int.ediv_one]; omega
    · omega
  show wpAny _ _ (pure ((n : Int) - 1, (-1 : Int), Builtin.Slice.slicePlaces ((n : Int) - 1) (-1) (-1))) _ _ s
  rw [e2]
  exact wpAny_pure h
theorem pick_rev (xs : Array Value) : ((List.range xs.size).filterMap fun (m : Nat) => xs[(((xs.size : Int) - 1) + (m : Int) * -1).toNat]?).toArray = xs.toList.reverse.toArray := by
  congr 1
  apply List.ext_getElem?
  intro i
  have key : (List.range xs.size).filterMap (fun (m : Nat) => xs[(((xs.size : Int) - 1) + (m : Int) * -1).toNat]?) = (List.range xs.size).map fun m => xs.toList.getD (xs.size - 1 - m) .none := by
    have : ∀ l : List Nat, (∀ m ∈ l, m < xs.size) → l.filterMap (fun (m : Nat) => xs[(((xs.size : Int) - 1) + (m : Int) * -1).toNat]?) = l.map fun m => xs.toList.getD (xs.size - 1 - m) .none := by
      intro l hl
      induction l with
      | nil => rfl
      | cons m l ih =>
        have hm := hl m List.mem_cons_self
        have e : (((xs.size : Int) - 1) + (m : Int) * -1).toNat = xs.size - 1 - m := by omega
        have e2 : xs[xs.size - 1 - m]? = some (xs.toList.getD (xs.size - 1 - m) .none) := by
          have h : xs.size - 1 - m < xs.size := by omega
          rw [Array.getElem?_eq_getElem h, List.getD_eq_getElem?_getD, Array.getElem?_toList, Array.getElem?_eq_getElem h]
          rfl
        rw [List.filterMap_cons, List.map_cons, e, e2]
        simp only
        rw [ih fun k hk => hl k (List.mem_cons_of_mem _ hk)]
    exact this _ fun m hm => List.mem_range.mp hm
  rw [key, List.getElem?_map]
  by_cases hi : i < xs.size
  · rw [List.getElem?_range hi, List.getElem?_reverse (by rw [Array.length_toList]; exact hi), Array.length_toList]
    have h : xs.size - 1 - i < xs.toList.length := by rw [Array.length_toList]; omega
    rw [List.getElem?_eq_getElem h, Option.map_some, List.getD_eq_getElem?_getD, List.getElem?_eq_getElem h]
    rfl
  · rw [List.getElem?_eq_none (by rw [List.length_range]; omega), List.getElem?_eq_none (by rw [List.length_reverse, Array.length_toList]; omega)]
    rfl
theorem item_tuple_rev {t sl : Addr} {items : Array Value} {vl vu vs : Value} {Q : Value → Shared → Prop} (ht : IsTup s.heap t items) (hs : s.heap.IsSliceOf sl vl vu vs) (pl : IsPart vl none) (pu : IsPart vu none) (ps : IsPart vs (some (-1)))
    (h : Q (.ref s.heap.objs.size) { s with heap := s.heap.push { cls := .type "tuple", data := .seq items.toList.reverse.toArray } })
    (hsz : items.size ≤ sizeLine) : wpAny (model prog w) A (getItem (.ref t) (.ref sl)) Q E s := by
  have hz : sizeOk (.seq items.toList.reverse.toArray) := by
    show items.toList.reverse.toArray.size ≤ sizeLine
    rw [List.size_toArray, List.length_reverse, Array.length_toList]
    exact hsz
  obtain ⟨os, hos, hcs, hds⟩ := id hs
  have hTs : s.TypeIs (.ref sl) "slice" := ⟨os, hos, hcs⟩
  unfold getItem
  try with_reducible refine wpAny_holding ?_
  first | refine wpAny_bind (wpAny_pure ?_) | skip
  refine wpAny_bind (wpAny_sequenceKey ht.typeIs (by decide) ?_)
  refine wpAny_bind (wpAny_callSpecial?_slot (name := Str.ofString "__getitem__") ht.typeIs PyProof.Rows.slot_tuple_getitem
    (wpAny_call_entry PyProof.Rows.slot_tuple_getitem ht.typeIs entry_tuple_getitem ?_ (args_tuple_getitem _ _)))
  show wpAny _ _ (Builtin.Tuple.tupleItemsOf (.ref t) >>= _) _ _ s
  refine wpAny_bind (tupleItemsOf_ ht ?_)
  refine wpAny_bind (wpAny_typeOf hTs ?_)
  rw [if_pos (by decide)]
  refine wpAny_bind (applied_rev hs pl pu ps ?_)
  have hno : ¬ ((((items.size : Int) - 1) == 0 && (-1 : Int) == 1 && items.size == items.size) = true) := by
    intro q
    rw [Bool.and_eq_true, Bool.and_eq_true] at q
    exact absurd (eq_of_beq q.1.2) (by decide)
  show wpAny _ _ (if (((items.size : Int) - 1) == 0 && (-1 : Int) == 1 && items.size == items.size) = true then _ else _) _ _ s
  rw [if_neg hno, pick_rev]
  first
    | exact wpAny_bind (m := Builtin.Tuple.tupleExact _) (wpAny_newObj_type (wpAny_pure ⟨_, rfl, wpAny_pure h⟩) hz)
    | exact wpAny_bind (m := Builtin.Tuple.tupleExact _) (wpAny_newObj_type (wpAny_bind (wpAny_pure (wpAny_pure ⟨_, rfl, wpAny_pure h⟩))) hz)
    | exact wpAny_bind (wpAny_bind (m := Builtin.Tuple.tupleExact _) (wpAny_newObj_type (wpAny_pure (wpAny_pure ⟨_, rfl, wpAny_pure h⟩)) hz))
    | exact wpAny_bind (wpAny_bind (m := Builtin.Tuple.tupleExact _) (wpAny_newObj_type (wpAny_pure ⟨_, rfl, wpAny_pure h⟩) hz))
end
section
variable {X : Cx}
def tRev (K : PySem.W.Frag) (te : TE) : TE := fun σ H Q => te σ H fun x H1 => ∃ a xs, x = .ref a ∧ ((SqL K H1 a xs ∧ ∀ p, H1 p = none → Q (.ref p) (upd H1 p (.lst xs.reverse))) ∨ (H1 a = some (.tup xs) ∧ ∀ p, H1 p = none → Q (.ref p) (upd H1 p (.tup xs.reverse))))
theorem pe_rev {e : Expr} {te : TE} {k : Nat} {p1 p2 p3 pos : Pos} (he : PE X e te) : PE X (.Subscript e (.Slice none none (some (.UnaryOp .USub (.Constant (.int 1) k p1) p2)) p3) pos) (tRev X.K te) := by
  refine ⟨fun pins s σ H Q I h => ?_⟩
  refine Subscript_ (thn (he.run pins s σ H _ I h) fun v s1 ⟨x, H1, I1, r1, q1⟩ => ?_)
  obtain ⟨a, xs, ex, hx⟩ := q1
  subst ex
  cases r1
  have hst : PO X (some (.UnaryOp .USub (.Constant (.int 1) k p1) p2)) (tPart (tUn (rU fun i => .int (-i)) (tC (.int 1)))) := po_some (pe_un un_neg pe_int)
  refine wpAny_Slice (thn (po_none.run pins s1 σ H1 (fun o H2 => o = none ∧ H2 = H1) I1 ⟨rfl, rfl⟩) fun vl s2 ⟨l, J2, Y2, pl, el, e2⟩ => ?_)
  subst el e2
  refine thn (po_none.run pins s2 σ J2 (fun o H3 => o = none ∧ H3 = J2) Y2 ⟨rfl, rfl⟩) fun vu s3 ⟨u, J3, Y3, pu, eu, e3⟩ => ?_
  subst eu e3
  refine thn (hst.run pins s3 σ J3 (fun o H4 => o = some (-1) ∧ H4 = J3) Y3 ⟨1, rfl, -1, rfl, rfl, rfl⟩) fun vs s4 ⟨o, J4, Y4, ps, eo, e4⟩ => ?_
  subst eo e4
  have Y5 : L2.Inv X pins σ J4 { s4 with heap := s4.heap.push { cls := .type "slice", data := .fields #[vl, vu, vs] } } := Y4.kept (t' := s4.toks) fun b ob q => Heap.get?_push_of_some _ q
  show wpAny (model X.prog X.w) X.A (subscriptTail e (.Slice none none (some (.UnaryOp .USub (.Constant (.int 1) k p1) p2)) p3) (.ref a) (.ref s4.heap.objs.size)) (EP X pins σ Q) X.xe { s4 with heap := s4.heap.push { cls := .type "slice", data := .fields #[vl, vu, vs] } }
  rcases hx with ⟨hx, q⟩ | ⟨hx, q⟩
  · obtain ⟨its, r, ht, hz⟩ := Y5.list hx
    have hlen := r.length
    refine tail_any (ops := [.ref a, .ref s4.heap.objs.size]) ht.isList.typeIs (PySem.slot_list_getitem.lookup) ?_ (by with_unfolding_all rfl)
    refine wpAny_getItem_list_slice ht.isList (Heap.IsSliceOf.new _ vl vu vs) pl pu ps (by decide) ?_ (by rw [List.size_toArray]; omega)
    rw [PySem.W.krv_pick]
    refine ⟨.ref _, _, Y5.laid (t' := s4.toks) (o := .lst xs.reverse) (fun b ob q => Heap.get?_push_of_some _ q) (Nat.le_refl _) ?_, rfl, q _ (Y5.hok.fresh (Nat.le_refl _))⟩
    exact ⟨by rw [List.length_reverse]; exact hz, its.reverse, 0, Vals.reverse r, Heap.get?_push_size _ rfl⟩
  · obtain ⟨its, r, ht, hz⟩ := Y5.tuple (.inl (.inl hx))
    have hlen := r.length
    refine tail_any (ops := [.ref a, .ref s4.heap.objs.size]) ht.typeIs (PyProof.Rows.slot_tuple_getitem.lookup) ?_ (by with_unfolding_all rfl)
    refine item_tuple_rev ht (Heap.IsSliceOf.new _ vl vu vs) pl pu ps ?_ (by rw [List.size_toArray]; omega)
    refine ⟨.ref _, _, Y5.laid (t' := s4.toks) (o := .tup xs.reverse) (fun b ob q => Heap.get?_push_of_some _ q) (Nat.le_refl _) ?_, rfl, q _ (Y5.hok.fresh (Nat.le_refl _))⟩
    exact ⟨by rw [List.length_reverse]; exact hz, _, Vals.reverse r, IsTup.new _ _⟩
end
end Ev

set_option maxRecDepth 100000
/-! Ev9s: how many things unlike a tuple holds. -/
namespace Ev
open PySem L2 PySem.W PyProof.Rows PySem.SeqAt PySem.Spec
abbrev newS (w : World) : Obj := { cls := .type "set", dict := none, data := .set #[] 0 (.fresh 0 0 (!w.params.followText "set-order")) }
section
variable {P : Program} {w : World} {A : Around} {E : Value → Shared → Prop} {s : Shared}
set_option maxHeartbeats 4000000 in
theorem call_set_ofTups {l : Addr} {items : Array Value} (ks : List (Addr × List Int)) {Q : Value → Shared → Prop} (kh : A.handled = none) (kl : s.heap.IsTuple l items) (kit : items.toList = ks.map fun p => Value.ref p.1)
    (kk : ∀ p ∈ ks, IsT P w s.heap p.2 p.1) (kfew : ks.length < 64) (ku : A.units + 3 < cLine)
    (k : ∀ (k' : Heap) (tk : Nat) L ee eq tt, SetTR P w k' s.heap.objs.size L ee eq tt → Got ks ks.length L → (∀ b o, s.heap.get? b = some o → k'.get? b = some o) → Q (.ref s.heap.objs.size) { s with heap := k', toks := tk }) :
    wpAny (model P w) A (call (.type "set") [.ref l]) Q E s := by
  have kisz : items.size = ks.length := by
    have q := congrArg List.length kit
    rw [Array.length_toList, List.length_map] at q
    exact q
  obtain ⟨c, tl, kmro⟩ := F.called_set.mro
  have kmade := F.called_set.made
  have ksub := F.called_set.sub
  refine wpAny_call (codeAny_of_tree ?_)
  show wpAny _ _ (callAny (.type "set") _) _ _ _
  refine wpAny_pure ⟨Code.quiet_builtin _ (by decide +kernel), codeAny_builtin F.entry_type_call ?_⟩
  rw [Around.under_plain (weight_type_call_type "set" [.ref l] []) rfl]
  have k1 := F.called_set.notType
  have k2 := F.called_set.canCreate
  have kct := F.typeCall_set_1 (.ref l)
  repeat (any_goals (first | assumption | (wp_step)))

  refine codeAny_mono (code_set_led1 (.ref l) (E := E) (Q₁ := fun obj s₁ => obj = .ref s.heap.objs.size ∧ s₁ = { s with heap := s.heap.push (newS w) }) ⟨rfl, rfl⟩) fun r s₁ kr => ?_
  cases r with
  | error e => exact kr
  | ok fl =>
    cases fl with
    | ret obj =>
      obtain ⟨rfl, rfl⟩ := kr
      have kS : (s.heap.push (newS w)).get? s.heap.objs.size = some (newS w) := Heap.get?_push_size _ rfl
      have kT : Shared.TypeIs { s with heap := s.heap.push (newS w) } (.ref s.heap.objs.size) "set" := ⟨_, kS, rfl⟩
      have kli := F.called_set.init.lookup
      have kbi := F.called_set.init.bind (.ref s.heap.objs.size)
      repeat (any_goals (first | assumption | (wp_step)))

      refine codeAny_mono (codeAny_call_builtin (R := wants (fun r s₂ => r = .none ∧ ∃ k' tk L ee eq tt, s₂ = { s with heap := k', toks := tk } ∧ SetTR P w k' s.heap.objs.size L ee eq tt ∧ Got ks ks.length L ∧
          (∀ b o, s.heap.get? b = some o → k'.get? b = some o)) E) F.called_set.init.plain F.entry_set_init (check_set_init_1 kT ?_)) fun r₂ s₂ kr₂ => ?_
      · obtain ⟨ol, kol, kcl, nl, kdl⟩ := kl
        obtain ⟨c1, c2, c3, c4⟩ := ol
        simp only at kcl kdl
        subst kcl; subst kdl
        have kol' : (s.heap.push (newS w)).get? l = some { cls := .type "tuple", dict := c2, data := .seq items nl, slots := c4 } := Heap.get?_push_of_some _ kol
        have ksls := F.sub_tuple_set
        have kslf := F.sub_tuple_frozenset
        have kne : (Value.type "tuple" == Value.type "dict") = false := by decide
        have kl1 : (s.heap.push (newS w)).IsTuple l items := ⟨_, kol', rfl, nl, rfl⟩
        unfold Builtin.«set.__init__» noKeywords Builtin.Frozenset.updateFrom
        generalize kPI : pyIter = PI
        wp_walk
        subst kPI

        refine wpAny_pyIter_tuple kl1 ?_
        refine wpAny_bind (wpAny_runValue ?_)
        have klS : l < s.heap.objs.size := Heap.lt_size kol
        have kh3 : A.in1.in1.in1.handled = none := by simp [kh]
        have kz1 : (s.heap.push (newS w)).objs.size = s.heap.objs.size + 1 := Heap.size_push ..
        have kneI : l ≠ (s.heap.push (newS w)).objs.size := by
          rw [Heap.size_push]; exact Nat.ne_of_lt (Nat.lt_succ_of_lt klS)
        have kSf : s.heap.objs.size ∉ [(s.heap.push (newS w)).objs.size, l] := by
          rw [Heap.size_push]; simp only [List.mem_cons, List.mem_singleton, List.not_mem_nil, or_false, not_or]
          exact ⟨Nat.ne_of_lt (Nat.lt_succ_self _), Nat.ne_of_gt klS⟩
        have kval : ∀ (i : Nat) (v : Value), items[i]? = some v → ∃ p, ks[i]? = some p ∧ v = .ref p.1 := fun i v kv => by
          have q : items.toList[i]? = some v := by rw [Array.getElem?_toList]; exact kv
          rw [kit, List.getElem?_map] at q
          cases kq : ks[i]? with
          | none => rw [kq] at q; cases q
          | some p =>
            rw [kq] at q
            exact ⟨p, rfl, (Option.some.inj q).symm⟩
        have noneAt : ∀ b, s.heap.objs.size ≤ b → s.heap.get? b = none := fun b kb => by
          cases q : s.heap.get? b with
          | none => rfl
          | some o => exact absurd (Nat.lt_of_lt_of_le (Heap.lt_size q) kb) (Nat.lt_irrefl _)
        refine set_update_tups ((Walks.tuple kh3 _ l kneI items).toS) s.heap.objs.size
          kSf ks kisz kfew kval s.heap kk (noneAt _ (Nat.le_refl _)) (fun b kb => noneAt b (by
            rw [List.mem_singleton.mp kb, Heap.size_push]
            exact Nat.le_succ _)) ku (items.size - 0) 0 _ (by omega) (Nat.zero_le _)
          ⟨⟨_, Heap.get?_push_size _ rfl, rfl, rfl⟩, (kl1.push _)⟩ (fun b o e => Heap.get?_push_of_some _ (Heap.get?_push_of_some _ e)) ?kS0 ?kR
        case kS0 =>
          have kget : ((s.heap.push (newS w)).push { cls := .type "tuple_iterator", data := .fields #[.ref l, .int 0 0] }).get? s.heap.objs.size
              = some (newS w) := Heap.get?_push_of_some _ kS
          exact ⟨[], #[], 0, _, setTR_fresh kget, Got.zero ks⟩
        case kR =>
          intro s' L ee eq tt km kS' g' kkp
          obtain ⟨k', g2, d', tk', os'⟩ := s'
          have eg : g2 = s.gens := km.gens
          have ed : d' = s.drawn := km.drawn
          have eo : os' = s.os := km.os
          subst eg; subst ed; subst eo
          show wpAny _ _ _ _ _ _
          refine wpAny_pure ?_
          show wpAny _ _ (ret Value.none) _ _ _
          rw [kisz] at g'
          exact wpAny_pure ⟨rfl, k', tk', L, ee, eq, tt, rfl, kS', g', kkp⟩

      · cases r₂ with
        | error e => exact kr₂
        | ok fl₂ =>
          cases fl₂ with
          | ret r =>
            obtain ⟨rfl, k', tk, L, ee, eq, tt, rfl, kS', g', kk'⟩ := kr₂
            repeat (any_goals (first | assumption | (wp_step)))
            exact k _ _ _ _ _ _ kS' g' kk'
          | _ => exact kr₂.elim
    | _ => exact kr.elim

end
section
variable {X : Cx}
/-- len(set(a)): a list of ints, or a tuple of tuples of ints, no two alike -/
def tLenSet (K : PySem.W.Frag) (ta : TE) : TE := fun σ H Q => ta σ H fun x H1 => (∃ (l : Addr) (ns : List Int), x = .ref l ∧ SqL K H1 l (ns.map V.int) ∧ ns.Nodup ∧ ns.length ≤ 4000 ∧ Q (.int (ns.length : Nat)) H1) ∨
  ∃ (l : Addr) (ks : List (Addr × List Int)), x = .ref l ∧ SqT K H1 l (ks.map fun p => V.ref p.1) ∧ (∀ p ∈ ks, SqT K H1 p.1 (p.2.map V.int)) ∧ (ks.map (·.2)).Nodup ∧ ks.length < 64 ∧ Q (.int (ks.length : Nat)) H1
theorem nodup_le {α : Type} [DecidableEq α] : ∀ {l D : List α}, l.Nodup → (∀ x ∈ l, x ∈ D) → l.length ≤ D.length
  | [], _, _, _ => Nat.zero_le _
  | x :: l, D, h, sub => by
    rw [List.nodup_cons] at h
    have hx : x ∈ D := sub x List.mem_cons_self
    have := nodup_le (l := l) (D := D.erase x) h.2 fun y hy => (List.mem_erase_of_ne (fun e => h.1 (by rw [← e]; exact hy))).mpr (sub y (List.mem_cons_of_mem _ hy))
    rw [List.length_erase_of_mem hx] at this
    have := List.length_pos_of_mem hx
    rw [List.length_cons]
    omega
theorem got_len {ks L : List (Addr × List Int)} (g : Got ks ks.length L) (hn : (ks.map (·.2)).Nodup) (nd : (L.map (·.2)).Nodup) : L.length = ks.length := by
  refine Nat.le_antisymm g.len ?_
  have h : (ks.map (·.2)).length ≤ (L.map (·.2)).length := by
    have sub : ∀ z ∈ ks.map (·.2), z ∈ L.map (·.2) := fun z hz => by
      obtain ⟨p, hp, rfl⟩ := List.mem_map.mp hz
      exact g.all p (by rw [List.take_length]; exact hp)
    exact nodup_le hn sub
  rwa [List.length_map, List.length_map] at h
theorem pe_lenSet {a : Expr} {ta : TE} {p p2 q pos : Pos} (hc : X.calm = true) (hu : X.A.units + 70 < cLine) (hg : Gl X "len") (hm : X.mg "len" = none) (hg2 : Gl X "set") (hm2 : X.mg "set" = none) (ha : PE X a ta)
    (na : starEach [a] X.env = (false, eval a X.env) :: starEach [] X.env) : PE X (.Call (.Name "len" p) [.Call (.Name "set" p2) [a] [] q] [] pos) (tLenSet X.K ta) := by
  refine ⟨fun pins s σ H Q Y h => ?_⟩
  refine Call_ (ld_blt Y hg hm PySem.boot_len ?_)
  refine PyProof.Rows.callWith_builtin1 (PyProof.Rows.args_cons ?_ rfl) rfl rfl
  refine Call_ (ld_blt Y hg2 hm2 PyProof.Rows.boot_set ?_)
  refine PyProof.Rows.callWith_type1 (PyProof.Rows.args_cons (thn (ha.run pins s σ H _ Y h) fun v z1 ⟨x, J1, Y1, r1, q1⟩ => PyProof.Rows.args_nil ?_) na) na rfl
  rcases q1 with ⟨l, ns, rfl, hq, hnd, hl, q1⟩ | ⟨l, ks, rfl, hq, hk, hnd, hf, q1⟩
  · cases r1
    obtain ⟨its, r, pl, hz⟩ := Y1.list hq
    have el : its.toArray.size = ns.length := by rw [List.size_toArray, ← r.length, List.length_map]
    refine call_set_list (Y1.ok.hd hc) pl.isList (by simpa using RZ.intsAre_vals r) (by rw [el]; unfold scanBound; omega) fun h' tk hS hk => ?_
    refine PyProof.Rows.args_nil ?_
    rw [el, RZ.firstMet_nodup hnd ns.length (Nat.le_refl _), List.take_length] at hS
    obtain ⟨o, es, ep, t, ho, hex, hd, _, _, _, hf, hn⟩ := hS
    have Y2 : L2.Inv X pins σ J1 { z1 with heap := h', toks := tk } := Y1.kept fun b o e => hk b o (Heap.lt_size e) e
    exact call_len_set ho hex hd hf (by rw [hn] <;> omega) ⟨.int ns.length, J1, Y2.tok _, ⟨_, by rw [hn]⟩, q1⟩
  · cases r1
    obtain ⟨its, rv, pl, hz⟩ := Y1.tuple hq
    refine call_set_ofTups (P := X.prog) (w := X.w) ks (Y1.ok.hd hc) pl (by simpa using refs_of_vals rv) (fun p hp => Y1.isT (hk p hp)) hf (by omega) fun h' tk L es ep t Rr g k => ?_
    refine PyProof.Rows.args_nil ?_
    have hl : L.length = ks.length := got_len g hnd Rr.nd
    obtain ⟨o, ho, hex, hd⟩ := Rr.ob
    have Y2 : L2.Inv X pins σ J1 { z1 with heap := h', toks := tk } := Y1.kept k
    have sz := Rr.size (s := { z1 with heap := h', toks := tk })
    exact call_len_set ho hex hd (Rr.fits (s := { z1 with heap := h', toks := tk })) (by rw [sz] <;> omega) ⟨.int (ks.length : Nat), J1, Y2.tok _, ⟨_, by rw [sz, hl]⟩, q1⟩
theorem ints_tups {K : PySem.W.Frag} {pr : Addr → Prop} {H : Hp} : ∀ {vs : List V} {xs : List PyData} {kss : List (List Int)}, RDs K pr H vs xs → allIntTs xs = some kss → ∃ ks : List (Addr × List Int), vs = ks.map (fun p => V.ref p.1) ∧ (∀ p ∈ ks, SqT K H p.1 (p.2.map V.int)) ∧ ks.map (·.2) = kss
  | _, [], kss, .nil, h => by cases h; exact ⟨[], rfl, fun _ h => (nomatch h), rfl⟩
  | _, x :: xs, kss, .cons r t, h => by
    cases x with
    | tuple ys =>
      simp only [allIntTs, Option.bind_eq_some_iff, Option.map_eq_some_iff] at h
      obtain ⟨ns, h1, ms, h2, rfl⟩ := h
      obtain ⟨ks, e1, e2, e3⟩ := ints_tups t h2
      obtain ⟨b, ws, rfl, hb, rr⟩ := r.isT
      rw [allInts_eq h1] at rr
      have := rr.to_ints
      subst this
      exact ⟨(b, ns) :: ks, by rw [List.map_cons, e1], fun p hp => by
        rcases List.mem_cons.mp hp with e | e
        · subst e; exact .inl (.inl hb)
        · exact e2 p e, by rw [List.map_cons, e3]⟩
    | _ => cases h
end
end Ev

set_option maxRecDepth 100000
/-! Ev10: that my syntax stands for the given syntax, checked by a Bool; expressions are sound. -/
namespace Ev
open PySem L2 PySem.W PyProof.Rows PySem.SeqAt

mutual
def sameD : PyData → PyData → Bool
  | .none, .none => true
  | .bool a, .bool b => a == b
  | .int a, .int b => decide (a = b)
  | .str a, .str b => decide (a = b)
  | .list a, .list b => sameDs a b
  | .tuple a, .tuple b => sameDs a b
  | _, _ => false
def sameDs : List PyData → List PyData → Bool
  | [], [] => true
  | a :: as, b :: bs => sameD a b && sameDs as bs
  | _, _ => false
end
mutual
theorem sameD_eq : ∀ {a b : PyData}, sameD a b = true → a = b
  | .none, b, h => by cases b <;> simp_all [sameD]
  | .bool _, b, h => by cases b <;> simp_all [sameD]
  | .int _, b, h => by cases b <;> simp_all [sameD]
  | .str _, b, h => by cases b <;> simp_all [sameD]
  | .list xs, b, h => by
    cases b with
    | list ys => rw [sameD] at h; rw [sameDs_eq h]
    | _ => simp [sameD] at h
  | .tuple xs, b, h => by
    cases b with
    | tuple ys => rw [sameD] at h; rw [sameDs_eq h]
    | _ => simp [sameD] at h
  | .dict _, b, h => by cases b <;> simp [sameD] at h
theorem sameDs_eq : ∀ {a b : List PyData}, sameDs a b = true → a = b
  | [], [], _ => rfl
  | [], _ :: _, h => by simp [sameDs] at h
  | _ :: _, [], h => by simp [sameDs] at h
  | a :: as, b :: bs, h => by
    rw [sameDs, Bool.and_eq_true] at h
    rw [sameD_eq h.1, sameDs_eq h.2]
end

structure Tab where
  blt : List Str
  con : List (Str × PyData)
  fns : List (Str × Nat)
  /-- the defs with lambdas: their code objects, their tables -/
  tabs : List (Str × Addr × Addr) := []
  /-- the def that is looked at: its code object, its table, its lambdas' name -/
  cur : Option (Addr × Addr × Str) := none
def gl (sc : Scope) (x : Str) : Bool := decide (sc.names.lookup x = some .globalImplicit) && (x == ("__debug__" : Str)) == false && decide (x ≠ "__name__")
def vis (sc : Scope) (x : Str) : Bool := (decide (sc.names.lookup x = some .local) || decide (sc.names.lookup x = some .cell) || decide (sc.names.lookup x = some .free)) && (x == ("__debug__" : Str)) == false && (x == ("__classdict__" : Str)) == false
def notStar : Expr → Bool
  | .Starred _ _ => false
  | _ => true
def notSlice : Expr → Bool
  | .Slice _ _ _ _ => false
  | _ => true
def notSet : Expr → Bool
  | .Set _ _ _ => false
  | _ => true
def cmIs : Cm → CmpOp → Bool
  | .lt, .Lt => true | .le, .LtE => true | .gt, .Gt => true | .ge, .GtE => true | .eq, .Eq => true | .ne, .NotEq => true | .is_, .Is => true | .isnt, .IsNot => true | .in_, .In => true | .notin, .NotIn => true
  | _, _ => false
theorem cmIs_eq {a : Cm} {b : CmpOp} (h : cmIs a b = true) : b = cmOf a := by cases a <;> cases b <;> first | rfl | cases h
def opIs : Op2 → Operator → Bool
  | .add, .Add => true | .sub, .Sub => true | .mul, .Mult => true | .fdiv, .FloorDiv => true | .mod, .Mod => true | .pow, .Pow => true
  | _, _ => false
theorem opIs_eq {a : Op2} {b : Operator} (h : opIs a b = true) : b = opOf a := by cases a <;> cases b <;> first | rfl | cases h
def tyOk (x : Str) (n : String) : Bool := (decide (x = "int") && n == "int") || (decide (x = "bool") && n == "bool") || (decide (x = "str") && n == "str") || (decide (x = "tuple") && n == "tuple") || (decide (x = "list") && n == "list") || (decide (x = "dict") && n == "dict")
theorem tyOk_boot {x : Str} {n : String} (h : tyOk x n = true) : bootBuiltins x = some (.type n) := by
  unfold tyOk at h
  simp only [Bool.or_eq_true, Bool.and_eq_true, decide_eq_true_eq, beq_iff_eq] at h
  rcases h with ((((⟨rfl, rfl⟩ | ⟨rfl, rfl⟩) | ⟨rfl, rfl⟩) | ⟨rfl, rfl⟩) | ⟨rfl, rfl⟩) | ⟨rfl, rfl⟩ <;> decide +kernel

def tst : E → Bool
  | .andd a b => tst a && tst b
  | .orr a b => tst a && tst b
  | .nott a => tst a
  | .cmp _ _ _ | .chn _ _ _ _ _ | .var _ | .lit _ | .con _ _ | .call _ _ | .bi _ _ | .ix _ _ => true
  | _ => false
def ckG (N : List Str) (sc : Scope) (fn : Str → Bool) : G → Expr → Bool
  | .nm i, .Name x _ => decide (N[i]? = some x) && (decide (sc.names.lookup x = some .local) || (decide (sc.names.lookup x = some .cell) && fn x))
  | .tp is, .Tuple es _ _ => ckNs is es
  | _, _ => false
where ckNs : List Nat → List Expr → Bool
  | [], [] => true
  | i :: is, .Name x _ :: es => decide (N[i]? = some x) && (decide (sc.names.lookup x = some .local) || (decide (sc.names.lookup x = some .cell) && fn x)) && ckNs is es
  | _, _ => false
def isTup : G → Bool
  | .tp _ => true
  | _ => false
def isSub (e : Expr) : Bool := match e with
  | .Subscript _ _ _ => true
  | .Name _ _ => true
  | _ => false
def isCell (scope : Scope) (x : Str) : Bool := scope.names.lookup x == some .cell

/- the lambda's body stands for k; x: its parameter -/
mutual
def ckK (sc : Scope) (x : Str) : LK → Expr → Bool
  | .p, e => match e with
    | .Name y _ => decide (y = x) && (y == ("__debug__" : Str)) == false
    | _ => false
  | .ix k i, e => match e with
    | .Subscript ea (.Constant (.int j) _ _) _ => decide (j = (i : Int)) && ckK sc x k ea
    | _ => false
  | .len k, e => match e with
    | .Call (.Name y _) [ea] [] _ => decide (y = "len") && gl sc y && notStar ea && ckK sc x k ea
    | _ => false
  | .neg k, e => match e with
    | .UnaryOp .USub ea _ => ckK sc x k ea
    | _ => false
  | .tup ks, e => match e with
    | .Tuple xs _ _ => ckKs sc x ks xs
    | _ => false
def ckKs (sc : Scope) (x : Str) : LKs → List Expr → Bool
  | .nil, xs => xs.isEmpty
  | .cons k ks, xs => match xs with
    | e :: es => notStar e && ckK sc x k e && ckKs sc x ks es
    | [] => false
end
def bkNm : Bk → Str
  | .sorted => "sorted" | .max => "max" | .min => "min"
/-- one parameter, the rest globals -/
def lamSyB (k : LK) (params : Arguments) (body : Expr) (scope : Scope) : Bool := match params with
  | ⟨[], [⟨x, none, _⟩], none, [], [], none, []⟩ => decide (scope.kind = .function) && !scope.isCoroutine && !scope.isGenerator && (scope.names.all fun y => !decide (y.2 = .cell) && !decide (y.2 = .free)) && decide (scope.names.lookup x = some .local) && ckK scope x k body
  | _ => false
section
variable (T : Tab) (N : List Str)
mutual
def ckE (sc : Scope) : E → Expr → Bool
  | .var i, e => match e with
    | .Name x _ => decide (N[i]? = some x) && vis sc x
    | _ => false
  | .lit d, e => match d, e with
    | .int i, .Constant (.int j) _ _ => decide (i = j)
    | .bool i, .Constant (.bool j) _ _ => i == j
    | .none, .Constant .none _ _ => true
    | .str i, .Constant (.str j) _ _ => decide (i = j)
    | _, _ => false
  | .con x d, e => match e with
    | .Name y _ => decide (x = y) && gl sc x && T.con.any fun p => decide (p.1 = x) && sameD p.2 d
    | _ => false
  | .ty x n, e => match e with
    | .Name y _ => decide (x = y) && gl sc x && decide (x ∈ T.blt) && tyOk x n
    | _ => false
  | .op o a b, e => match e with
    | .BinOp ea o' eb _ => opIs o o' && ckE sc a ea && ckE sc b eb
    | _ => false
  | .neg a, e => match e with
    | .UnaryOp .USub ea _ => ckE sc a ea
    | _ => false
  | .cmp c a b, e => match e with
    | .Compare ea [o] [eb] _ => cmIs c o && !(behindInMarks o eb) && ckE sc a ea && ckE sc b eb
    | _ => false
  | .chn c1 c2 a b b2, e => match e with
    | .Compare ea [o, o2] [eb, eb2] _ => cmIs c1 o && cmIs c2 o2 && !(lastMarks [o, o2] [eb, eb2]) && ckE sc a ea && ckE sc b eb && ckE sc b2 eb2
    | _ => false
  | .andd a b, e => match e with
    | .BoolOp .And (ea :: eb :: rest) pos => match rest with
      | [] => ckE sc a ea && ckE sc b eb
      | _ => ckE sc a ea && ckE sc b (.BoolOp .And (eb :: rest) pos)
    | _ => false
  | .orr a b, e => match e with
    | .BoolOp .Or (ea :: eb :: rest) pos => match rest with
      | [] => ckE sc a ea && ckE sc b eb
      | _ => ckE sc a ea && ckE sc b (.BoolOp .Or (eb :: rest) pos)
    | _ => false
  | .nott a, e => match e with
    | .UnaryOp .Not ea _ => ckE sc a ea
    | _ => false
  | .ife t a b, e => match e with
    | .IfExp et ea eb _ => tst t && ckE sc t et && ckE sc a ea && ckE sc b eb
    | _ => false
  | .tup es, e => match e with
    | .Tuple xs _ _ => ckEs sc es xs
    | _ => false
  | .lst es, e => match e with
    | .List xs _ => ckEs sc es xs
    | _ => false
  | .lstR es, e => match e with
    | .List xs _ => ckEs sc es xs
    | _ => false
  | .box a, e => ckE sc a e
  | .ix a i, e => match e with
    | .Subscript ea ei _ => notSlice ei && ckE sc a ea && ckE sc i ei
    | _ => false
  | .sl a lo hi, e => match e with
    | .Subscript ea (.Slice l h none _) _ => ckE sc a ea && ckP sc lo l && ckP sc hi h
    | _ => false
  | .rev a, e => match e with
    | .Subscript ea (.Slice none none (some (.UnaryOp .USub (.Constant (.int i) _ _) _)) _) _ => decide (i = 1) && ckE sc a ea
    | _ => false
  | .call f es, e => match e with
    | .Call (.Name x _) xs [] _ => gl sc x && (match T.fns[f]? with | some p => decide (p.1 = x) | none => false) && ckEs sc es xs
    | _ => false
  | .bi b es, e => match e with
    | .Call (.Name x _) xs [] _ => decide (x = biNm b) && gl sc x && decide (x ∈ T.blt) && ckEs sc es xs && !xs.isEmpty
    | _ => false
  | .lrng tp a b, e => match e with
    | .Call (.Name x _) [.Call (.Name y _) xs [] _] [] _ => decide (x = cond tp "tuple" "list") && decide (y = "range") && gl sc x && gl sc y && decide (x ∈ T.blt) && decide (y ∈ T.blt) && (match xs with
      | [eb] => (match a with | .lit (.int 0) => true | _ => false) && notStar eb && ckE sc b eb
      | [ea, eb] => notStar ea && notStar eb && ckE sc a ea && ckE sc b eb
      | _ => false)
    | _ => false
  | .lc own g it ts y, e => match e with
    | .ListComp elt [⟨tg, iter, ifs, 0⟩] scope _ => blkC N sc scope (own.map fun i => (N.getD i Str.empty, i)) && gIn own g && ckG N (relS scope sc) (isCell scope) g tg && notSet iter && ckI sc it (isTup g) iter && ckTs (relS scope sc) ts ifs && ckE (relS scope sc) y elt
    | _ => false
  | .sset a, e => match e with
    | .Call (.Name x _) [.Call (.Name y _) [ea] [] _] [] _ => decide (x = "sorted") && decide (y = "set") && gl sc x && gl sc y && decide (x ∈ T.blt) && decide (y ∈ T.blt) && notStar ea && ckE sc a ea
    | _ => false
  | .lset a, e => match e with
    | .Call (.Name x _) [.Call (.Name y _) [ea] [] _] [] _ => decide (x = "len") && decide (y = "set") && gl sc x && gl sc y && decide (x ∈ T.blt) && decide (y ∈ T.blt) && notStar ea && ckE sc a ea
    | _ => false
  | .srtk b n P q k a, e => match e with
    | .Call (.Name y _) [ea] [⟨some kn, .Lambda params body scope _, _⟩] _ => decide (y = bkNm b) && decide (kn = "key") && gl sc y && decide (y ∈ T.blt) && decide ((Str.ofString "len") ∈ T.blt) && notStar ea && ckE sc a ea && lamSyB k params body scope && (match T.cur with
      | some p => decide (p.2.1 = P) && decide (p.2.2 = q)
      | none => false)
    | _ => false
  | .dzip es, e => match e with
    | .Call (.Name x _) [.Call (.Name y _) [ea, eb] [] _] [] _ => decide (x = "dict") && decide (y = "zip") && gl sc x && gl sc y && decide (x ∈ T.blt) && decide (y ∈ T.blt) && ckEs sc es [ea, eb]
    | _ => false
  | .dnew, e => match e with
    | .Dict [] [] _ => true
    | _ => false
  | .dsp tp k v, e => match e with
    | .Dict [some ek] [ev] _ => tp && ckE sc k ek && ckE sc v ev
    | _ => false
  | .keep a, e => ckE sc a e
  | .get1 d k, e => match e with
    | .Call (.Attribute ed m apos) [ek] [] cpos => isSub ed && decide (m = "get") && (apos.endLine == cpos.line) && notStar ek && ckE sc d ed && ckE sc k ek
    | _ => false
  | .get2 d k y, e => match e with
    | .Call (.Attribute ed m apos) [ek, ey] [] cpos => isSub ed && decide (m = "get") && (apos.endLine == cpos.line) && notStar ek && notStar ey && ckE sc d ed && ckE sc k ek && ckE sc y ey
    | _ => false
  | .dcp own g it ts k y, e => match e with
    | .DictComp kx elt [⟨tg, iter, ifs, 0⟩] scope _ => blkC N sc scope (own.map fun i => (N.getD i Str.empty, i)) && gIn own g && ckG N (relS scope sc) (isCell scope) g tg && notSet iter && ckI sc it (isTup g) iter && ckTs (relS scope sc) ts ifs && ckE (relS scope sc) k kx && ckE (relS scope sc) y elt
    | _ => false
  | .dcp2 own g it ts v1 g1 it1 ts1 k y, e => match e with
    | .DictComp kx elt [⟨tg, iter, ifs, 0⟩, ⟨tg1, iter1, ifs1, 0⟩] scope _ => blkC N sc scope (own.map fun i => (N.getD i Str.empty, i)) && gIn own g && ckG N (relS scope sc) (isCell scope) g tg && notSet iter && ckI sc it (isTup g) iter && ckTs (relS scope sc) ts ifs && gIn v1 g1 && ckG N (relS scope sc) (isCell scope) g1 tg1 && notSet iter1 && ckI (relS scope sc) it1 (isTup g1) iter1 && ckTs (relS scope sc) ts1 ifs1 && ckE (relS scope sc) k kx && ckE (relS scope sc) y elt
    | _ => false
  | .lc2 own g it ts v1 g1 it1 ts1 y, e => match e with
    | .ListComp elt [⟨tg, iter, ifs, 0⟩, ⟨tg1, iter1, ifs1, 0⟩] scope _ => blkC N sc scope (own.map fun i => (N.getD i Str.empty, i)) && gIn own g && ckG N (relS scope sc) (isCell scope) g tg && notSet iter && ckI sc it (isTup g) iter && ckTs (relS scope sc) ts ifs && gIn v1 g1 && ckG N (relS scope sc) (isCell scope) g1 tg1 && notSet iter1 && ckI (relS scope sc) it1 (isTup g1) iter1 && ckTs (relS scope sc) ts1 ifs1 && ckE (relS scope sc) y elt
    | _ => false
def ckEs (sc : Scope) : Es → List Expr → Bool
  | .nil, xs => xs.isEmpty
  | .cons a es, xs => match xs with
    | x :: xs => notStar x && ckE sc a x && ckEs sc es xs
    | [] => false
def ckTs (sc : Scope) : Es → List Expr → Bool
  | .nil, xs => xs.isEmpty
  | .cons t ts, xs => match ts, xs with
    | .nil, [x] => tst t && ckE sc t x
    | _, _ => false
def ckP (sc : Scope) : P → Option Expr → Bool
  | .no, x => x.isNone
  | .ex a, x => match x with
    | some e => ckE sc a e
    | none => false
def ckI (sc : Scope) : It → Bool → Expr → Bool
  | .sq a, _, e => ckE sc a e
  | .r1 a, _, e => match e with
    | .Call (.Name x _) xs [] _ => decide (x = "range") && gl sc x && decide (x ∈ T.blt) && (match xs with | [ea] => notStar ea && ckE sc a ea | _ => false)
    | _ => false
  | .r2 a b, _, e => match e with
    | .Call (.Name x _) xs [] _ => decide (x = "range") && gl sc x && decide (x ∈ T.blt) && (match xs with | [ea, eb] => notStar ea && notStar eb && ckE sc a ea && ckE sc b eb | _ => false)
    | _ => false
  | .r3 a b c, _, e => match e with
    | .Call (.Name x _) xs [] _ => decide (x = "range") && gl sc x && decide (x ∈ T.blt) && (match xs with | [ea, eb, ec] => notStar ea && notStar eb && notStar ec && ckE sc a ea && ckE sc b eb && ckE sc c ec | _ => false)
    | _ => false
  | .zp a b, tp, e => match e with
    | .Call (.Name x _) xs [] _ => tp && decide (x = "zip") && gl sc x && decide (x ∈ T.blt) && (match xs with | [ea, eb] => notStar ea && notStar eb && ckE sc a ea && ckE sc b eb | _ => false)
    | _ => false
  | .en a, tp, e => match e with
    | .Call (.Name x _) xs [] _ => tp && decide (x = "enumerate") && gl sc x && decide (x ∈ T.blt) && (match xs with | [ea] => notStar ea && ckE sc a ea | _ => false)
    | _ => false
  | .its a, tp, e => match e with
    | .Call (.Attribute ed m apos) [] [] cpos => tp && isSub ed && decide (m = "items") && (apos.endLine == cpos.line) && ckE sc a ed
    | _ => false
  | .vls a, _, e => match e with
    | .Call (.Attribute ed m apos) [] [] cpos => isSub ed && decide (m = "values") && (apos.endLine == cpos.line) && ckE sc a ed
    | _ => false
end
end
end Ev

set_option maxRecDepth 100000
/-! Ev11: expressions are sound. -/
namespace Ev
open PySem L2 PySem.W PyProof.Rows PySem.SeqAt

structure Ok (T : Tab) (c : Nat → List PV → Sto → R PV) (X : Cx) : Prop where
  calm : X.calm = true
  cur : ∀ c P q, T.cur = some (c, P, q) → X.env.code = .ref c ∧ LamX.TabB X.base X.mg c P ∧ q = X.env.qual ++ "<lambda>"
  dep : X.A.depth + 5 < recursionLimit
  nd : X.N.Nodup
  hu : X.A.units + 100 < cLine
  blt : ∀ x ∈ T.blt, X.mg x = none
  con : ∀ x d, (x, d) ∈ T.con → ∃ u v, X.mg x = some u ∧ RelV v u ∧ ∀ pr H, RD X.K pr H v d
  ar : ∀ n x m, T.fns[n]? = some (x, m) → ∀ xs st, xs.length ≠ m → c n xs st = .bad
  fns : ∀ n x m, T.fns[n]? = some (x, m) → ∃ k f fd ps, X.mg x = some (.ref f) ∧ PySem.W.keepIn X.K (.ref f) = true ∧ Binds X.K fd ps [] ∧ FnOk X.prog X.w X.K X.mg X.base (L2.CX X.prog X.w) k f fd ps (spF X.K c n m) ∧ Room k X.A
theorem gl_spec {X : Cx} {x : Str} (h : gl X.env.scope x = true) : Gl X x ∧ (x == ("__debug__" : Str)) = false ∧ x ≠ "__name__" := by
  unfold gl at h
  simp only [Bool.and_eq_true, decide_eq_true_eq, beq_iff_eq] at h
  exact ⟨h.1.1, h.1.2, h.2⟩
theorem vis_spec {X : Cx} {x : Str} (h : vis X.env.scope x = true) : Vis X.env.scope x ∧ (x == ("__debug__" : Str)) = false ∧ (x == ("__classdict__" : Str)) = false := by
  unfold vis at h
  simp only [Bool.and_eq_true, Bool.or_eq_true, decide_eq_true_eq, beq_iff_eq] at h
  refine ⟨?_, h.1.2, h.2⟩
  rcases h.1.1 with (h | h) | h
  · exact .inl h
  · exact .inr (.inl h)
  · exact .inr (.inr h)
theorem star1 {e : Expr} {es : List Expr} {env : Env} (h : notStar e = true) : starEach (e :: es) env = (false, eval e env) :: starEach es env := by
  cases e <;> first | rfl | cases h
theorem starAny {env : Env} {pos : Pos} : ∀ {es : List Expr}, (∀ e ∈ es, notStar e = true) → (backTo pos (starEach es env)).any (·.1) = false
  | [], _ => rfl
  | e :: es, h => by
    rw [star1 (h e List.mem_cons_self)]
    have ih := starAny (env := env) (pos := pos) fun e he => h e (List.mem_cons_of_mem _ he)
    simpa [backTo] using ih
theorem plainIx {b : Expr} (h : notSlice b = true) : PlainIx b := by
  intro o i
  cases b <;> first | rfl | cases h
theorem noSet {e : Expr} {env : Env} (h : notSet e = true) (x : Value) : foldedSetIterable e env x = pure x := by
  cases e <;> first | rfl | cases h
section
variable {T : Tab} {c : Nat → List PV → Sto → R PV} {X : Cx}
theorem Ok.blk (ok : Ok T c X) (s : Shared) (H : Hp) (scope : Scope) (env : Env) (fp : List Addr) (he : env.code = X.env.code := by rfl) (hq : env.qual = X.env.qual := by rfl) : Ok T c (X.blk s H scope env fp) :=
  ⟨ok.calm, fun c P q h => by obtain ⟨a, b, d⟩ := ok.cur c P q h; exact ⟨he.trans a, b, by rw [d, ← hq]⟩, ok.dep, ok.nd, ok.hu, ok.blt, ok.con, ok.ar, ok.fns⟩
theorem ckEs_star {T : Tab} {N : List Str} {sc : Scope} : ∀ {es : Es} {xs : List Expr}, ckEs T N sc es xs = true → ∀ e ∈ xs, notStar e = true
  | .nil, xs, h, e, he => by
    rw [ckEs, List.isEmpty_iff] at h
    subst h
    cases he
  | .cons a es, [], h, e, he => by cases he
  | .cons a es, x :: xs, h, e, he => by
    rw [ckEs, Bool.and_eq_true, Bool.and_eq_true] at h
    rcases List.mem_cons.mp he with q | q
    · rw [q]; exact h.1.1
    · exact ckEs_star h.2 e q
/-- a store's list is read at a place -/
theorem ixR_spec {K : PySem.W.Frag} {g : Gs} {st : Sto} {H : Hp} {Q : VK} {x : V} {n : Nat} {j : Int} {xs : List PV} {p : PV} {Bo : Addr → Prop} (S : Sim K g st H) (h1 : Rep K g Bo H x (.ref n)) (hs : st[n]? = some (.lst xs)) (hp : atI xs j = some p) (F : Fin K g st H p Q) : rIxL K x (.int j) H Q := by
  obtain ⟨a, rfl, hn⟩ := h1
  obtain ⟨b, hb, vs, q1, q2⟩ := S.sto n _ hs
  rw [hn] at hb; cases hb
  obtain ⟨i, e1, e2⟩ := atI_mem hp
  have hl : vs.length = xs.length := Paired.length q2
  have hi : i < vs.length := by rw [hl]; exact (List.getElem?_eq_some_iff.mp e2).1
  refine ⟨a, vs, j, vs[i], rfl, rfl, .inl (.inl q1), atI_of hl e1 (List.getElem?_eq_getElem hi), ?_⟩
  have rp : RepK K g H vs[i] p := by
    have : ∀ {vs : List V} {xs : List PV} {i : Nat} (_ : Paired (RepK K g H) vs xs) (hi : i < vs.length), xs[i]? = some p → RepK K g H vs[i] p := by
      intro vs xs i h
      induction h generalizing i with
      | nil => intro hi; exact absurd hi (Nat.not_lt_zero _)
      | cons r t ih =>
        intro hi e
        cases i with
        | zero => simp at e; subst e; exact r
        | succ i => exact ih _ (by simpa using e)
    exact this q2 hi e2
  refine F g H _ Nx.refl S ?_
  cases p with
  | d x => exact rp
  | ref m => exact rp
  | ty m => exact rp
  | fre _ => exact rp.elim
  | bor _ => exact rp.elim
  | fn _ => exact rp.elim
theorem Paired.snoc {α β : Type} {F : α → β → Prop} {xs : List α} {ys : List β} {a : α} {b : β} (h : Paired F xs ys) (r : F a b) : Paired F (xs ++ [a]) (ys ++ [b]) := by
  induction h with
  | nil => exact .cons r .nil
  | cons r' _ ih => exact .cons r' ih
/-- a list is put into the store -/
theorem Sim.put {K : PySem.W.Frag} {g : Gs} {st : Sto} {H : Hp} {a : Addr} {o : Ob} (S : Sim K g st H) (hB : ¬ g.B a) (hr : a ∉ g.r) (ho : ¬ OwnA g.e g.s a) (h0 : g.H0 a = none) (ht : H a ≠ none) (ob : ObAt K g H a o)
    (av : Sim K (g.aB a) st H) (oav : ObAt K (g.aB a) H a o) :
    Sim K { g with r := g.r ++ [a] } (st ++ [o]) H := by
  have sub : ∀ b, Gs.Pr { g with r := g.r ++ [a] } b → (g.aB a).Pr b := by
    rintro b (h | h | h)
    · exact .inl (.inl h)
    · rcases List.mem_append.mp h with h | h
      · exact .inr (.inl h)
      · exact .inl (.inr (List.mem_singleton.mp h))
    · exact .inr (.inr h)
  have rk : ∀ {w : V} {y : PV}, RepK K (g.aB a) H w y → RepK K { g with r := g.r ++ [a] } H w y := fun {w y} h => by
    cases y with
    | d y => exact RD.keep (.anti sub) h
    | ref n =>
      obtain ⟨b, e, q⟩ := h
      have q : g.r[n]? = some b := q
      exact ⟨b, e, by show (g.r ++ [a])[n]? = some b; rw [List.getElem?_append_left (List.getElem?_eq_some_iff.mp q).1]; exact q⟩
    | ty n => exact h
    | fre _ => exact h
    | bor _ => exact h
    | fn _ => exact h
  have obk : ∀ {b : Addr} {y : Ob}, ObAt K (g.aB a) H b y → ObAt K { g with r := g.r ++ [a] } H b y := fun {b y} h => h.go (fun _ q => q) (.anti sub) fun _ _ q => rk q
  exact {
    len := S.len
    val := fun i x h => let ⟨v, h1, h2⟩ := av.val i x h; ⟨v, h1, rk h2⟩
    own := fun i x h => by
      obtain ⟨b, h1, h2, h3, h4, h5⟩ := av.own i x h
      refine ⟨b, h1, h2.keep (fun _ q => q) (.anti sub), fun q => h3 (.inl q), fun q => ?_, h5⟩
      rcases List.mem_append.mp q with q | q
      · exact h4 q
      · exact h3 (.inr (List.mem_singleton.mp q))
    inj := S.inj
    slen := by show (st ++ [o]).length = (g.r ++ [a]).length; rw [List.length_append, List.length_append, S.slen]; rfl
    sto := fun n y h => by
      by_cases hn : n < st.length
      · rw [List.getElem?_append_left hn] at h
        obtain ⟨b, h1, h2⟩ := av.sto n y h
        have h1 : g.r[n]? = some b := h1
        exact ⟨b, by show (g.r ++ [a])[n]? = some b; rw [List.getElem?_append_left (by rw [← S.slen]; exact hn)]; exact h1, obk h2⟩
      · have hn' : n = st.length := by
          have := (List.getElem?_eq_some_iff.mp h).1
          rw [List.length_append] at this
          simp at this
          omega
        subst hn'
        rw [List.getElem?_append_right (Nat.le_refl _)] at h
        simp at h
        subst h
        exact ⟨a, by show (g.r ++ [a])[st.length]? = some a; rw [S.slen, List.getElem?_append_right (Nat.le_refl _)]; simp, obk oav⟩
    rB := fun b h q => by
      rcases List.mem_append.mp h with h | h
      · exact S.rB b h q
      · rw [List.mem_singleton.mp h] at q; exact hB q
    nd := by
      show (g.r ++ [a]).Nodup
      rw [List.nodup_append]
      exact ⟨S.nd, by simp, fun x hx y hy => by rw [List.mem_singleton.mp hy]; rintro rfl; exact hr hx⟩
    bt := S.bt
    pre := S.pre.trans (List.prefix_append _ _)
    new := fun b h => by
      rcases List.mem_append.mp h with h | h
      · exact S.new b h
      · rw [List.mem_singleton.mp h]; exact .inr h0
    fr := S.fr }
end
/-- a walk over a list, a tuple, or the keys of a dict that is kept -/
theorem pi_any {X : Cx} {tg l : Expr} {tl : TE} (hl : PE X l tl) : PI X tg l (fun σ H R => tl σ H fun x H1 => (∃ k a xs, x = .ref a ∧ SqK X.K k H1 a xs ∧ R (cond k (Itl X.K a) (Itt X.K a)) H1) ∨
    ∃ d o, x = .ref d ∧ ((∃ kvs, H1 d = some (.frz o (.dK kvs)) ∧ R (Itk d o kvs) H1) ∨ ∃ kvs, H1 d = some (.frz o (.dT kvs)) ∧ R (Itkt d o kvs) H1)) := by
  refine ⟨fun pins s σ H R I h => ?_⟩
  refine thn (hl.run pins s σ H _ I h) fun v s1 ⟨x, H1, I1, r1, q1⟩ => ?_
  rcases q1 with ⟨k, a, xs, e, hq, q⟩ | ⟨d, o, e, q⟩
  · subst e
    cases r1
    cases k with
    | true =>
      obtain ⟨its, rv, p, hz⟩ := I1.list hq
      refine wpAny_pyIter_list p.isList ?_
      refine ⟨s1.heap.objs.size, [s1.heap.objs.size], _, _, H1, rfl, I1.kept (t' := s1.toks) fun b o e => Heap.get?_push_of_some _ e, turn_list a _, ⟨_, Heap.get?_push_size _ rfl, rfl, rfl⟩, fun b hb => ?_, q⟩
      have e : b = s1.heap.objs.size := by simpa using hb
      subst e
      exact I1.fpOk (Nat.le_refl _) (I1.hok.fresh (Nat.le_refl _))
    | false =>
      obtain ⟨its, rv, p, hz⟩ := I1.tuple hq
      refine wpAny_pyIter_tuple (show s1.heap.IsTuple a its.toArray from p) ?_
      refine ⟨s1.heap.objs.size, [s1.heap.objs.size], _, _, H1, rfl, I1.kept (t' := s1.toks) fun b o e => Heap.get?_push_of_some _ e, turn_tuple a _, ⟨_, Heap.get?_push_size _ rfl, rfl, rfl⟩, fun b hb => ?_, q⟩
      have e : b = s1.heap.objs.size := by simpa using hb
      subst e
      exact I1.fpOk (Nat.le_refl _) (I1.hok.fresh (Nat.le_refl _))
  · subst e
    obtain rfl : v = Value.ref d := r1
    rcases q with ⟨kvs, hd, q⟩ | ⟨kvs, hd, q⟩
    · obtain ⟨hs, hgd, hx, es, ep, vs, hdt, hsz, kv, hm⟩ := I1.frzK hd
      refine iter_keys hs hgd hx hdt (pi_one (tk := s1.toks) I1 _ (turn_keys _ hdt) ⟨_, Heap.get?_push_size _ rfl, rfl, ?_⟩ q)
      rw [hsz] <;> rfl
    · obtain ⟨hs, hgd, hx, es, ep, hdt, hsz, ent⟩ := I1.frzT hd
      refine iter_keys hs hgd hx hdt (pi_one (tk := s1.toks) I1 _ (turn_keysT _ hdt) ⟨_, Heap.get?_push_size _ rfl, rfl, ?_⟩ q)
      rw [hsz] <;> rfl
end Ev

set_option maxRecDepth 100000
/-! Ev11b: what the new expressions do to the state. -/
namespace Ev
open PySem L2 PySem.W PyProof.Rows PySem.SeqAt
section
variable {K : PySem.W.Frag} {g g' g1 g2 : Gs} {st st' st1 st2 s1 s2 : Sto} {H H' H1 H2 : Hp} {Q : VK} {c : Nat → List PV → Sto → R PV} {own v1 : List Nat} {gt gt1 : G}
theorem RP.inv {α : Type} {r : R α} {p : α → Sto → Prop} (h : RP r p) : ∃ a s, r = .ok a s ∧ p a s := by
  cases r with
  | ok a s => exact ⟨a, s, rfl, h⟩
  | _ => exact h.elim
/-- a new dict -/
theorem Fin.dct {pd : Tb} {u : HO} (F : Fin K g st H (.fre (.dict pd)) Q) (S : Sim K g st H) (r : DctAt K g.Pr H u pd) : ∀ p, H p = none → Q (.ref p) (upd H p u) := fun p hp =>
  F _ _ _ (Nx.refl.fresh S hp) (S.fresh hp) ⟨p, rfl, ⟨u, upd_same, r.keep (.fresh hp)⟩, .inr rfl, fun q => S.bt p q hp, S.h0 hp⟩
/-- what is held for its own is locked -/
theorem Fin.lock {pd : Tb} {V1 : V} (F : Fin K g st H (.d (.dict pd)) Q) (n : Nx g g1 H H1) (S1 : Sim K g1 st H1) (r : Rep K g1 g.B H1 V1 (.fre (.dict pd))) : ∃ d u, V1 = .ref d ∧ H1 d = some u ∧ Mut (some u) ∧ ∀ od, Q V1 (upd H1 d (.frz od u)) := by
  obtain ⟨d, rfl, ⟨u, hu, hd⟩, hb, hn, h0⟩ := r
  refine ⟨d, u, rfl, hu, hd.mut, fun od => ?_⟩
  have S2 : Sim K g1 st (upd H1 d (.frz od u)) := S1.wr hb hu hd.mut h0
  have kp : Keep g1.Pr H1 g1.Pr (upd H1 d (.frz od u)) := Keep.wr (.inl hb) hu hd.mut
  have hH : H d = none := (n.bn d hb).resolve_left hn
  have n2 : Nx g (g1.wB g.B) H (upd H1 d (.frz od u)) := ⟨n.e, n.s, n.h0, n.r0, fun _ q => q, fun _ q => .inl q, n.pre, n.rn, fun a o q hr => by
    rw [upd_ne (fun e => by rw [e, hH] at q; cases q)]
    exact n.fr a o q hr⟩
  refine F _ _ _ n2 (S2.weak n.B) ?_
  have hd := (hd.keep kp).keep (pr' := (g1.wB g.B).Pr) (.anti fun _ q => Gs.wB_pr n.B q)
  cases u with
  | dK kvs => exact RD.dct upd_same hd
  | dT kvs => exact RD.dctT upd_same hd
  | _ => exact hd.elim
/-- {k: v} -/
theorem dsp_core {fk fv : Envr → Sto → R PV} {tp : Bool} (S : Sim K g st H) (ht : tp = true) (h : RP (fk g.e st) fun x s1 => RP (fv g.e s1) fun y s2 => ∃ a b j, asD x = some a ∧ asD y = some b ∧ dKey a = some j ∧ j.tup = tp ∧ Fin K g s2 H (.fre (.dict [(a, b)])) Q) : tDsp1T (tEv K fk) (tEv K fv) g.s H Q := by
  intro p hp
  have S0 : Sim K (g.aB p) st (upd H p (.dT [])) := S.fresh hp
  have n0 : Nx g (g.aB p) H (upd H p (.dT [])) := Nx.refl.fresh S hp
  refine ⟨g.aB p, st, rfl, S0, h.imp fun x s1 h g1 H1 V1 n1 S1 r1 => ?_⟩
  obtain ⟨_, _, _, _, _, _, _, hx, _⟩ := h.inv
  refine ⟨g1.wB (g.aB p).B, s1, n1.s, S1.weak n1.B, ?_⟩
  show RP (fv g1.e s1) _
  rw [n1.e]
  refine h.imp fun y s2 h g2 H2 V2 n2 S2 r2 => ?_
  obtain ⟨a, b, j, hx', hy, hk, hj, F⟩ := h
  have ra := (r1.asD n1 S1 hx').keep (n2.keep (S1.weak n1.B))
  have rb := r2.asD n2 S2 hy
  have ra2 : RD K (g2.wB (g.aB p).B).Pr H2 V1 a := ra.keep (.anti fun _ q => Gs.wB_pr n2.B q)
  have rb2 : RD K (g2.wB (g.aB p).B).Pr H2 V2 b := rb
  have nn := n1.weak.trans (S1.weak n1.B) n2
  have hr : p ∉ g.r := fun q => S.prt (.inr (.inl q)) hp
  have ep : H2 p = some (.dT []) := nn.fr p _ upd_same hr
  have kv := rt_key ra2.rt hk
  cases j with
  | k z => rw [ht] at hj; cases hj
  | t ks =>
    obtain ⟨q, rfl, hq⟩ := kv
    refine ⟨ep, q, ks, rfl, hq, ?_⟩
    have S3 : Sim K (g2.wB (g.aB p).B) s2 H2 := S2.weak n2.B
    have hB : (g2.wB (g.aB p).B).B p := .inr rfl
    have h0 : (g2.wB (g.aB p).B).H0 p = none := by show g2.H0 p = none; rw [nn.h0]; exact S.h0 hp
    have S4 := S3.wr (v := .dT [(ks, V2)]) hB ep trivial h0
    have kp : Keep (g2.wB (g.aB p).B).Pr H2 (g2.wB (g.aB p).B).Pr (upd H2 p (.dT [(ks, V2)])) := Keep.wr (.inl hB) ep trivial
    have nx : Nx g (g2.wB (g.aB p).B) H (upd H2 p (.dT [(ks, V2)])) := ⟨nn.e, nn.s, nn.h0, nn.r0, fun _ q => .inl q, fun a q => q.elim .inl fun q => .inr (by rw [q]; exact hp), nn.pre, fun a q => (nn.rn a q).imp id fun z => by
      by_cases e : a = p
      · rw [e]; exact hp
      · rw [upd_ne e] at z; exact z, fun a o q hr => by
      have hne : a ≠ p := fun e => by rw [e, hp] at q; cases q
      rw [upd_ne hne]
      exact nn.fr a o (by rw [upd_ne hne]; exact q) hr⟩
    refine F _ _ _ nx S4 ⟨p, rfl, ⟨_, upd_same, ?_⟩, hB, fun q => S.bt p q hp, h0⟩
    refine .cons ?_ (rb2.keep kp) .nil
    exact dKey_enc hk
theorem isD_of {pr : Addr → Prop} {a : Addr} {u : HO} {pd : Tb} (hu : Rd H a u) (hd : DctAt K pr H u pd) : IsD H a := by
  cases u with
  | dK kvs => exact .inl ⟨_, hu⟩
  | dT kvs => exact .inr ⟨_, hu⟩
  | _ => exact hd.elim
theorem isTab_eq {o : Option PyData} (h : isTab o = true) : ∃ pd, o = some (.dict pd) := by
  unfold isTab at h
  split at h
  · exact ⟨_, rfl⟩
  · cases h
theorem getDD_dict {u w y v : PyData} (h : getDD u w y = some v) : ∃ pd k, u = .dict pd ∧ dKey w = some k ∧ kOk k pd = true ∧ v = (getD? k pd).getD y := by
  unfold getDD at h
  split at h
  · rw [Option.bind_eq_some_iff] at h
    obtain ⟨k, h1, h2⟩ := h
    split at h2
    · rename_i ok; cases h2; exact ⟨_, _, rfl, h1, ok, rfl⟩
    · cases h2
  · cases h
theorem get1_core {fd fk : Envr → Sto → R PV} (S : Sim K g st H) (h : RP (fd g.e st) fun x s1 => isTab (rd x s1) = true ∧ RP (fk g.e s1) fun y s2 => ∃ u w v, rd x s2 = some u ∧ rd y s2 = some w ∧ getDD u w .none = some v ∧ Fin K g s2 H (.d v) Q) : tGet1 (tEv K fd) (tEv K fk) g.s H Q := by
  refine ⟨g, st, rfl, S, h.imp fun x s1 h g1 H1 V1 n1 S1 r1 => ?_⟩
  obtain ⟨ht, h⟩ := h
  obtain ⟨pd, hx0⟩ := isTab_eq ht
  obtain ⟨a, z, rfl, q, r⟩ := r1.rt S1 hx0
  refine ⟨a, rfl, isD_of q r, g1, s1, n1.s, S1, ?_⟩
  rw [n1.e]
  refine h.imp fun y s2 h g2 H2 V2 n2 S2 r2 => ?_
  obtain ⟨u, w, v, hx, hy, hv, F⟩ := h
  obtain ⟨pd, k, rfl, hk, ok, rfl⟩ := getDD_dict hv
  have nn := n1.trans S1 n2
  have rx := RT.keep (pr' := (g2.wB g.B).Pr) (fun _ q => Gs.wB_pr nn.B q) ((r1.keep n2 S1).rt S2 hx)
  have ry := RT.keep (pr' := (g2.wB g.B).Pr) (fun _ q => Gs.wB_pr nn.B q) ((r2.mono n1.B).rt S2 hy)
  obtain ⟨a', z', e', q', r'⟩ := rx
  cases e'
  obtain ⟨o, dg, an⟩ := dct_get q' r' (rt_key ry hk) ok
  refine ⟨o, dg, ?_⟩
  unfold Ans at an
  split at an
  · rename_i d hd
    obtain ⟨v, rfl, rv⟩ := an
    rw [hd] at F
    exact (F.at nn S2).val (S2.weak nn.B) rv
  · rename_i hd
    subst an
    rw [hd] at F
    exact (F.at nn S2).val (S2.weak nn.B) .non
theorem get2_core {fd fk fz : Envr → Sto → R PV} (S : Sim K g st H) (h : RP (fd g.e st) fun x s1 => isTab (rd x s1) = true ∧ RP (fk g.e s1) fun y s2 => RP (fz g.e s2) fun z s3 => ∃ u w b v, asD z = some b ∧ rd x s3 = some u ∧ rd y s3 = some w ∧ getDD u w b = some v ∧ Fin K g s3 H (.d v) Q) : tGet2 (tEv K fd) (tEv K fk) (tEv K fz) g.s H Q := by
  refine ⟨g, st, rfl, S, h.imp fun x s1 h g1 H1 V1 n1 S1 r1 => ?_⟩
  obtain ⟨ht, h⟩ := h
  obtain ⟨pd, hx0⟩ := isTab_eq ht
  obtain ⟨a, z, rfl, q, r⟩ := r1.rt S1 hx0
  refine ⟨a, rfl, isD_of q r, g1, s1, n1.s, S1, ?_⟩
  rw [n1.e]
  refine h.imp fun y s2 h g2 H2 V2 n2 S2 r2 => ?_
  refine ⟨g2, s2, n2.s.trans n1.s, S2, ?_⟩
  rw [n2.e, n1.e]
  refine h.imp fun zz s3 h g3 H3 V3 n3 S3 r3 => ?_
  obtain ⟨u, w, b, v, hz, hx, hy, hv, F⟩ := h
  obtain ⟨pd, k, rfl, hk, ok, rfl⟩ := getDD_dict hv
  have nn := (n1.trans S1 n2).trans S2 n3
  have rx := RT.keep (pr' := (g3.wB g.B).Pr) (fun _ q => Gs.wB_pr nn.B q) (((r1.keep n2 S1).keep n3 S2).rt S3 hx)
  have ry := RT.keep (pr' := (g3.wB g.B).Pr) (fun _ q => Gs.wB_pr nn.B q) (((r2.mono n1.B).keep n3 S2).rt S3 hy)
  have rz : RD K (g3.wB g.B).Pr H3 V3 b := by
    have := Rep.asD n3 S3 r3 hz
    exact this.keep (.anti fun _ q => Gs.wB_pr (g := g3.wB g2.B) (fun a q => n2.B a (n1.B a q)) q)
  obtain ⟨a', z', e', q', r'⟩ := rx
  cases e'
  obtain ⟨o, dg, an⟩ := dct_get q' r' (rt_key ry hk) ok
  refine ⟨o, dg, ?_⟩
  unfold Ans at an
  split at an
  · rename_i d hd
    obtain ⟨v, rfl, rv⟩ := an
    rw [hd] at F
    exact (F.at nn S3).val (S3.weak nn.B) rv
  · rename_i hd
    subst an
    rw [hd] at F
    exact (F.at nn S3).val (S3.weak nn.B) rz
/-! ### comprehensions -/
theorem lcL_stF {ft : Envr → Sto → R Bool} {fy : Envr → Sto → R PV} {e : Envr} (xs : List PyData) (st : Sto) (acc : List PyData) :
    lcL (fun x s => match asg (wipeC e own) gt x with
      | some e1 => (noEx (ft e1 s)).bind fun b s2 => if b then (noEx (fy e1 s2)).bind fun v s3 => R.opt ((asD v).map some) s3 else .ok none s2
      | none => .bad) xs st acc = outL (stF ft (bodyL fy) e own gt) xs st acc := by
  rw [lcL_out]
  have hh : (fun (x : PyData) (s : Sto) (acc : List PyData) => ((match asg (wipeC e own) gt x with
      | some e1 => (noEx (ft e1 s)).bind fun b s2 => if b then (noEx (fy e1 s2)).bind fun v s3 => R.opt ((asD v).map some) s3 else .ok none s2
      | none => .bad) : R (Option PyData)).bind fun o s1 => match o with
        | some y => if acc.length < sizeLine then R.ok (acc ++ [y]) s1 else .bad
        | none => .ok acc s1) = stF ft (bodyL fy) e own gt := by
    funext x s acc
    unfold stF
    cases asg (wipeC e own) gt x with
    | none => rfl
    | some e1 =>
      dsimp only
      cases noEx (ft e1 s) with
      | ok b s2 =>
        dsimp only [R.bind]
        cases b with
        | false => rfl
        | true =>
          simp only [if_true]
          unfold bodyL
          cases noEx (fy e1 s2) with
          | ok v s3 =>
            dsimp only [R.bind]
            cases asD v <;> rfl
          | _ => rfl
      | _ => rfl
  exact congrArg (fun f => outL f xs st acc) hh
theorem dpL_stF {ft : Envr → Sto → R Bool} {fk fy : Envr → Sto → R PV} {e : Envr} (xs : List PyData) (st : Sto) (acc : Tb) :
    dpL (fun x s => match asg (wipeC e own) gt x with
      | some e1 => (noEx (ft e1 s)).bind fun b s2 => if b then (noEx (fk e1 s2)).bind fun u s3 => (noEx (fy e1 s3)).bind fun v s4 => match asD u, asD v with
        | some a, some b => .ok (some (a, b)) s4
        | _, _ => .bad
        else .ok none s2
      | none => .bad) xs st acc = outL (stF ft (bodyD fk fy) e own gt) xs st acc := by
  rw [dpL_out]
  have hh : (fun (x : PyData) (s : Sto) (acc : Tb) => ((match asg (wipeC e own) gt x with
      | some e1 => (noEx (ft e1 s)).bind fun b s2 => if b then (noEx (fk e1 s2)).bind fun u s3 => (noEx (fy e1 s3)).bind fun v s4 => match asD u, asD v with
        | some a, some b => .ok (some (a, b)) s4
        | _, _ => .bad
        else .ok none s2
      | none => .bad) : R (Option (PyData × PyData))).bind fun o s1 => match o with
        | some p => match toKey p.1 with
          | some k => if acc.length < sizeLine then R.ok (putD (.k k) p.1 p.2 acc) s1 else .bad
          | none => .bad
        | none => .ok acc s1) = stF ft (bodyD fk fy) e own gt := by
    funext x s acc
    unfold stF
    cases asg (wipeC e own) gt x with
    | none => rfl
    | some e1 =>
      dsimp only
      cases noEx (ft e1 s) with
      | ok b s2 =>
        dsimp only [R.bind]
        cases b with
        | false => rfl
        | true =>
          simp only [if_true]
          unfold bodyD
          cases noEx (fk e1 s2) with
          | ok u s3 =>
            dsimp only [R.bind]
            cases noEx (fy e1 s3) with
            | ok v s4 =>
              dsimp only [R.bind]
              cases asD u <;> cases asD v <;> rfl
            | _ => rfl
          | _ => rfl
      | _ => rfl
  exact congrArg (fun f => outL f xs st acc) hh
theorem two_stF {β : Type} {fI : Envr → Sto → R (List PyData)} {ft ft1 : Envr → Sto → R Bool} {fB : Envr → Sto → β → R β} {fL : Envr → List PyData → Sto → β → R β} {e : Envr} (hL : ∀ e1 xs s acc, fL e1 xs s acc = outL (stF ft1 fB e1 v1 gt1) xs s acc) (xs : List PyData) (st : Sto) (acc : β) :
    outL (fun x s acc => match asg (wipeC e own) gt x with
      | some e1 => (noEx (ft e1 s)).bind fun b s2 => if b then (noEx (fI e1 s2)).bind fun xs1 s3 => fL e1 xs1 s3 acc else .ok acc s2
      | none => .bad) xs st acc = outL (stF ft (body2 fI ft1 fB v1 gt1) e own gt) xs st acc := by
  have hh : (fun (x : PyData) (s : Sto) (acc : β) => match asg (wipeC e own) gt x with
      | some e1 => (noEx (ft e1 s)).bind fun b s2 => if b then (noEx (fI e1 s2)).bind fun xs1 s3 => fL e1 xs1 s3 acc else .ok acc s2
      | none => .bad) = stF ft (body2 fI ft1 fB v1 gt1) e own gt := by
    funext x s acc
    unfold stF
    cases asg (wipeC e own) gt x with
    | none => rfl
    | some e1 =>
      dsimp only
      have : (fun (xs1 : List PyData) (s3 : Sto) => fL e1 xs1 s3 acc) = fun xs s3 => outL (stF ft1 fB e1 v1 gt1) xs s3 acc := by
        funext xs1 s3; exact hL _ _ _ _
      rw [this]
      rfl
  exact congrArg (fun f => outL f xs st acc) hh
theorem Fin.same' {v : PV} (F : Fin K g st H v Q) (n : Nx g g2 H H2) (S : Sim K g2 st2 H2) (hB : g2.B = g.B) : Fin K g2 st H2 v Q := fun g' H' w n' S' r =>
  F g' H' w (n.trans S n') S' (by rw [← hB]; exact r)
theorem lc_core {it : It} {ts : Es} {y : E} (S : Sim K g st H) (hn : own.all (notOwn g.e) = true) (hin : gIn own gt = true) (h : RP ((evI c it true g.e st).bind fun xs s1 =>
      (lcL (fun x s => match asg (wipeC g.e own) gt x with
        | some e1 => (noEx (evTs c ts e1 s)).bind fun b s2 => if b then (noEx (evE c y e1 s2)).bind fun v s3 => R.opt ((asD v).map some) s3 else .ok none s2
        | none => .bad) xs s1 []).bind fun ys s2 => .ok (.fre (.list ys)) s2) fun v st' => Fin K g st' H v Q) :
    tLc (tI K true (evI c it true)) (gT K gt) (tTs K (evTs c ts)) (tEv K (evE c y)) own g.s H Q := by
  refine ⟨g, st, rfl, S, h.bind.imp fun xs s1 h g1 H1 J G n1 hB S1 W St P G0 => ?_⟩
  have h := h.bind
  rw [lcL_stF] at h
  have := comp_read (sk := snkL K) (Q := Q) (u0 := .lst []) (b0 := []) (enc := PyData.list) (fun D hD => body_list (own := own) (fy := evE c y) hD (S1.h0 hD) (fun q => S1.bt D q hD)) S1 W St P G0 (by rw [n1.e]; exact hn) hin (ft := evTs c ts) (gt := gt)
    (fun {pr D} => ⟨[], rfl, .nil⟩) (fun {g' H' a u b} e q => by obtain ⟨vs, rfl, r⟩ := q; exact ⟨vs, e, r⟩) (by
      rw [n1.e]
      exact h.imp fun ys s2 F => Fin.same' (v := .fre (.list ys)) F n1 (st2 := s1) S1 hB)
  rw [n1.s] at this
  exact this
theorem dcp_core {it : It} {ts : Es} {k y : E} (S : Sim K g st H) (hn : own.all (notOwn g.e) = true) (hin : gIn own gt = true) (h : RP ((evI c it true g.e st).bind fun xs s1 =>
      (dpL (fun x s => match asg (wipeC g.e own) gt x with
        | some e1 => (noEx (evTs c ts e1 s)).bind fun b s2 => if b then (noEx (evE c k e1 s2)).bind fun u s3 => (noEx (evE c y e1 s3)).bind fun v s4 => match asD u, asD v with
          | some a, some b => .ok (some (a, b)) s4
          | _, _ => .bad
          else .ok none s2
        | none => .bad) xs s1 []).bind fun ys s2 => .ok (.fre (.dict ys)) s2) fun v st' => Fin K g st' H v Q) :
    tDc (tI K true (evI c it true)) (gT K gt) (tTs K (evTs c ts)) (tEv K (evE c k)) (tEv K (evE c y)) own g.s H Q := by
  refine ⟨g, st, rfl, S, h.bind.imp fun xs s1 h g1 H1 J G n1 hB S1 W St P G0 => ?_⟩
  have h := h.bind
  rw [dpL_stF] at h
  have := comp_read (sk := snkD K) (Q := Q) (u0 := .dK []) (b0 := []) (enc := PyData.dict) (fun D hD => body_dict (own := own) (fk := evE c k) (fy := evE c y) hD (S1.h0 hD)) S1 W St P G0 (by rw [n1.e]; exact hn) hin (ft := evTs c ts) (gt := gt)
    (fun {pr D} => ⟨[], rfl, .nil⟩) (fun {g' H' a u b} e q => by obtain ⟨vs, rfl, r⟩ := q; exact ⟨_, e, r⟩) (by
      rw [n1.e]
      exact h.imp fun ys s2 F => Fin.same' (v := .fre (.dict ys)) F n1 (st2 := s1) S1 hB)
  rw [n1.s] at this
  exact this
theorem dcp2_core {it it1 : It} {ts ts1 : Es} {k y : E} (S : Sim K g st H) (hn : own.all (notOwn g.e) = true) (hin : gIn own gt = true) (hv : ∀ i ∈ v1, i ∈ own) (hin1 : gIn v1 gt1 = true) (h : RP ((evI c it true g.e st).bind fun xs s1 =>
      (outL (fun x s acc => match asg (wipeC g.e own) gt x with
        | some e1 => (noEx (evTs c ts e1 s)).bind fun b s2 => if b then (noEx (evI c it1 true e1 s2)).bind fun xs1 s3 =>
            dpL (fun x s => match asg (wipeC e1 v1) gt1 x with
              | some e2 => (noEx (evTs c ts1 e2 s)).bind fun b s2 => if b then (noEx (evE c k e2 s2)).bind fun u s3 => (noEx (evE c y e2 s3)).bind fun v s4 => match asD u, asD v with
                | some a, some b => .ok (some (a, b)) s4
                | _, _ => .bad
                else .ok none s2
              | none => .bad) xs1 s3 acc
          else .ok acc s2
        | none => .bad) xs s1 []).bind fun ys s2 => .ok (.fre (.dict ys)) s2) fun v st' => Fin K g st' H v Q) :
    tDc2 (tI K true (evI c it true)) (gT K gt) (tTs K (evTs c ts)) (tI K true (evI c it1 true)) (gT K gt1) (tTs K (evTs c ts1)) (tEv K (evE c k)) (tEv K (evE c y)) own v1 g.s H Q := by
  refine ⟨g, st, rfl, S, h.bind.imp fun xs s1 h g1 H1 J G n1 hB S1 W St P G0 => ?_⟩
  have h := h.bind
  rw [two_stF (fI := evI c it1 true) (ft := evTs c ts) (ft1 := evTs c ts1) (fB := bodyD (evE c k) (evE c y)) fun e1 xs s acc => dpL_stF xs s acc] at h
  have := comp_read (sk := snkD K) (Q := Q) (u0 := .dK []) (b0 := []) (enc := PyData.dict) (fun D hD => body_two (fI := evI c it1 true) (ft := evTs c ts1) (body_dict (own := v1) (fk := evE c k) (fy := evE c y) hD (S1.h0 hD)) hv hin1) S1 W St P G0 (by rw [n1.e]; exact hn) hin (ft := evTs c ts) (gt := gt)
    (fun {pr D} => ⟨[], rfl, .nil⟩) (fun {g' H' a u b} e q => by obtain ⟨vs, rfl, r⟩ := q; exact ⟨_, e, r⟩) (by
      rw [n1.e]
      exact h.imp fun ys s2 F => Fin.same' (v := .fre (.dict ys)) F n1 (st2 := s1) S1 hB)
  rw [n1.s] at this
  exact this
theorem lc2_core {it it1 : It} {ts ts1 : Es} {y : E} (S : Sim K g st H) (hn : own.all (notOwn g.e) = true) (hin : gIn own gt = true) (hv : ∀ i ∈ v1, i ∈ own) (hin1 : gIn v1 gt1 = true) (h : RP ((evI c it true g.e st).bind fun xs s1 =>
      (outL (fun x s acc => match asg (wipeC g.e own) gt x with
        | some e1 => (noEx (evTs c ts e1 s)).bind fun b s2 => if b then (noEx (evI c it1 true e1 s2)).bind fun xs1 s3 =>
            lcL (fun x s => match asg (wipeC e1 v1) gt1 x with
              | some e2 => (noEx (evTs c ts1 e2 s)).bind fun b s2 => if b then (noEx (evE c y e2 s2)).bind fun v s3 => R.opt ((asD v).map some) s3 else .ok none s2
              | none => .bad) xs1 s3 acc
          else .ok acc s2
        | none => .bad) xs s1 []).bind fun ys s2 => .ok (.fre (.list ys)) s2) fun v st' => Fin K g st' H v Q) :
    tLc2 (tI K true (evI c it true)) (gT K gt) (tTs K (evTs c ts)) (tI K true (evI c it1 true)) (gT K gt1) (tTs K (evTs c ts1)) (tEv K (evE c y)) own v1 g.s H Q := by
  refine ⟨g, st, rfl, S, h.bind.imp fun xs s1 h g1 H1 J G n1 hB S1 W St P G0 => ?_⟩
  have h := h.bind
  rw [two_stF (fI := evI c it1 true) (ft := evTs c ts) (ft1 := evTs c ts1) (fB := bodyL (evE c y)) fun e1 xs s acc => lcL_stF xs s acc] at h
  have := comp_read (sk := snkL K) (Q := Q) (u0 := .lst []) (b0 := []) (enc := PyData.list) (fun D hD => body_two (fI := evI c it1 true) (ft := evTs c ts1) (body_list (own := v1) (fy := evE c y) hD (S1.h0 hD) (fun q => S1.bt D q hD)) hv hin1) S1 W St P G0 (by rw [n1.e]; exact hn) hin (ft := evTs c ts) (gt := gt)
    (fun {pr D} => ⟨[], rfl, .nil⟩) (fun {g' H' a u b} e q => by obtain ⟨vs, rfl, r⟩ := q; exact ⟨vs, e, r⟩) (by
      rw [n1.e]
      exact h.imp fun ys s2 F => Fin.same' (v := .fre (.list ys)) F n1 (st2 := s1) S1 hB)
  rw [n1.s] at this
  exact this
end
end Ev

set_option maxRecDepth 100000
/-! Ez4: dict(zip(x, y)), as data. -/
namespace Ev
open PySem L2 PySem.W
theorem dz_keys {K : PySem.W.Frag} {pr : Addr → Prop} {H : Hp} : ∀ {us vs : List V} {xs ys : List PyData} {acc pd : Tb} {kvs : List (Key × V)}, RDs K pr H us xs → RDs K pr H vs ys → RDk K pr H kvs acc → dzD xs ys acc = some pd → ∃ ks : List Key, us = ks.map kV ∧ RDk K pr H (mergeK kvs (ks.zip vs)) pd
  | [], vs, _, ys, acc, pd, kvs, .nil, _, r, h => by
    rw [dzD] at h
    cases h
    exact ⟨[], rfl, r⟩
  | u :: us, [], _, _, acc, pd, kvs, .cons (d := x) (ds := xs) hu ru, .nil, r, h => by
    rw [dzD] at h
    obtain ⟨k, hk, h⟩ := Option.bind_eq_some_iff.mp h
    obtain ⟨ks, e, q⟩ := dz_keys ru (.nil) r h
    refine ⟨k :: ks, by rw [List.map_cons, ← e, rd_key hu hk], ?_⟩
    rw [List.zip_nil_right] at q ⊢
    exact q
  | u :: us, v :: vs, _, _, acc, pd, kvs, .cons (d := x) (ds := xs) hu ru, .cons (d := y) (ds := ys) hv rv, r, h => by
    rw [dzD] at h
    obtain ⟨k, hk, h⟩ := Option.bind_eq_some_iff.mp h
    have hx : x = keyD k := by
      cases x <;> simp [toKey] at hk <;> subst hk <;> rfl
    subst hx
    obtain ⟨ks, e, q⟩ := dz_keys ru rv (rdk_put r hv) h
    refine ⟨k :: ks, by rw [List.map_cons, ← e, rd_key hu hk], ?_⟩
    rw [List.zip_cons_cons]
    exact q
end Ev

set_option maxRecDepth 100000
/-! Ek1: what a key lambda answers, over the heap alone. -/
namespace Ev
open PySem L2 PySem.W PyProof.Rows PySem.SeqAt

/-- the names of a lambda's frame -/
structure LEnv (mg : Str → Option Value) (env : Env) (x : Str) (v : Value) (h : Heap) : Prop where
  kind : env.scope.kind = .function
  loc : env.kindOf x = some .local
  ns : ∃ m, h.Ns env.locals m ∧ m x = some v
  glob : h.Ns env.globals mg
  blt : ∃ mb, h.Ns env.builtins mb ∧ ∀ x : Str, x ≠ "__name__" → mb x = bootBuiltins x
theorem LEnv.keeps {mg : Str → Option Value} {env : Env} {x : Str} {v : Value} {h h' : Heap} (L : LEnv mg env x v h) (k : ∀ b o, h.get? b = some o → h'.get? b = some o) : LEnv mg env x v h' :=
  ⟨L.kind, L.loc, let ⟨m, a, b⟩ := L.ns; ⟨m, a.keeps k, b⟩, L.glob.keeps k, let ⟨mb, a, b⟩ := L.blt; ⟨mb, a.keeps k, b⟩⟩
theorem hideAll_in {h : Heap} {Z : List Addr} {b : Addr} {o : Obj} (e : (hideAll h Z).get? b = some o) : b ∉ Z := fun hb => by rw [hideAll_none Z hb] at e; cases e
theorem hideAll_keeps {h h' : Heap} {Z : List Addr} (k : ∀ b o, b ∉ Z → h.get? b = some o → h'.get? b = some o) : ∀ b o, (hideAll h Z).get? b = some o → (hideAll h' Z).get? b = some o := fun b o e => hideAll_get Z (k b o (hideAll_in e) (of_hideAll Z e)) (hideAll_in e)
section
variable {prog : Program} {w : World} {A : Around} {E : Value → Shared → Prop} {mg : Str → Option Value} {env : Env} {x : Str} {v : Value} {Z : List Addr}
mutual
theorem lk_eval (hmg : mg "len" = none) {d : PyData} : ∀ (k : LK) (e : Expr) {s : Shared} {Q : Value → Shared → Prop} {r : PyData} {as : List Addr}, ckK env.scope x k e = true → lkD k d = some r → (∀ z ∈ Z, ∃ o, s.heap.get? z = some o) → Reads (hideAll s.heap Z) v d as → LEnv mg env x v s.heap →
    (∀ (h' : Heap) (tk : Nat) (u : Value) (bs : List Addr), (∀ b o, s.heap.get? b = some o → h'.get? b = some o) → s.toks ≤ tk → Reads (hideAll h' Z) u r bs → Q u { s with heap := h', toks := tk }) → wpAny (model prog w) A (eval e env) Q E s
  | .p, e, s, Q, r, as, hc, hl, hz, hr, L, h => by
    rw [ckK.eq_def] at hc
    dsimp only at hc
    split at hc
    · simp only [Bool.and_eq_true, decide_eq_true_eq, beq_iff_eq] at hc
      obtain ⟨rfl, hd⟩ := hc
      rw [lkD] at hl
      cases hl
      obtain ⟨m, hn, hm⟩ := L.ns
      exact wpAny_Name (wpAny_loadName_local L.kind L.loc hn hm (h s.heap s.toks v as (fun _ _ q => q) (Nat.le_refl _) hr)) hd
    · cases hc
  | .ix k i, e, s, Q, r, as, hc, hl, hz, hr, L, h => by
    rw [ckK.eq_def] at hc
    dsimp only at hc
    split at hc
    · rename_i ea j _ _ _
      simp only [Bool.and_eq_true, decide_eq_true_eq] at hc
      obtain ⟨rfl, hc⟩ := hc
      rw [lkD] at hl
      split at hl
      · rename_i xs hk
        split at hl
        · rename_i hi
          refine Subscript_ (lk_eval hmg k ea hc hk hz hr L fun h' tk u bs hx ht0 ru => ?_)
          refine wpAny_Constant_int ?_
          cases ru with
          | tuple e1 e2 e3 ra =>
            rename_i a o vs n
            have hlen := PyProof.Rows.readsAll_len xs ra
            have hlt : i < xs.length := (List.getElem?_eq_some_iff.mp hl).1
            have ht : IsTup h' a vs := ⟨o, of_hideAll Z e1, e2, n, e3⟩
            obtain ⟨y, hy⟩ : ∃ y, vs[i]? = some y := ⟨_, Array.getElem?_eq_getElem (by rw [Array.length_toList] at hlen; omega)⟩
            have fin : ∀ tk', tk ≤ tk' → Q y { s with heap := h', toks := tk' } := fun tk' ht' => by
              obtain ⟨cs, hcs⟩ : ∃ cs, Reads (hideAll h' Z) y r cs := by
                have gen : ∀ {vs : List Value} {xs : List PyData} {as : List Addr} {i : Nat}, ReadsAll (hideAll h' Z) vs xs as → vs[i]? = some y → xs[i]? = some r → ∃ cs, Reads (hideAll h' Z) y r cs := by
                  intro vs
                  induction vs with
                  | nil => intro xs as i _ e; simp at e
                  | cons z zs ih =>
                    intro xs as i ra e1 e2
                    cases ra with
                    | cons ra rs =>
                      cases i with
                      | zero => simp at e1 e2; subst e1 e2; exact ⟨_, ra⟩
                      | succ i => exact ih rs (by simpa using e1) (by simpa using e2)
                exact gen ra (by rw [Array.getElem?_toList]; exact hy) hl
              exact h h' _ y cs hx (Nat.le_trans ht0 ht') hcs
            refine subscriptTail_builtinR (x := y) ht.typeIs slot_tuple_getitem.lookup
              (PyProof.Rows.getItem_tuple (j := i) (Q := fun r' s' => r' = y ∧ Q r' s') ht (by omega) (by omega) ?_ hy ⟨rfl, fin _ (by first | exact Nat.le_succ _ | exact Nat.le_refl _)⟩) (by with_unfolding_all rfl)
            rw [Array.length_toList] at hlen
            rw [seqIndex_of (by omega) (by omega)]
            rfl
        · cases hl
      · cases hl
    · cases hc
  | .len k, e, s, Q, r, as, hc, hl, hz, hr, L, h => by
    rw [ckK.eq_def] at hc
    dsimp only at hc
    split at hc
    · rename_i y _ ea _
      simp only [Bool.and_eq_true, decide_eq_true_eq] at hc
      obtain ⟨⟨⟨rfl, hg⟩, hs⟩, hc⟩ := hc
      unfold gl at hg
      simp only [Bool.and_eq_true, decide_eq_true_eq, beq_iff_eq] at hg
      rw [lkD] at hl
      split at hl
      · rename_i xs hk
        split at hl
        · rename_i hz
          cases hl
          obtain ⟨mb, hb, hbb⟩ := L.blt
          refine wpAny_Call_Name_kw (Calls.Name_function_global L.kind hg.1.1 (Calls.loadGlobal_builtin L.glob hmg hb ((hbb _ (by decide)).trans boot_len) ?_))
          refine callWith_builtin1 (args_cons (lk_eval hmg k ea hc hk (by assumption) hr L fun h' tk u bs hx ht0 ru => args_nil ?_) (star1 hs)) (star1 hs) rfl
          cases ru with
          | tuple e1 e2 e3 ra =>
            rename_i a o vs n
            have hlen := PyProof.Rows.readsAll_len xs ra
            have ht : IsTup h' a vs := ⟨o, of_hideAll Z e1, e2, n, e3⟩
            have hs : sizeLine = 16777216 := sizeLine_eq
            rw [Array.length_toList] at hlen
            refine PyProof.Rows.len_tuple ht (by omega) ?_
            rw [hlen]
            exact h h' (tk + 1 + 1) _ [] hx (by omega) (.int _ _)
        · cases hl
      · cases hl
    · cases hc
  | .neg k, e, s, Q, r, as, hc, hl, hz, hr, L, h => by
    rw [ckK.eq_def] at hc
    dsimp only at hc
    split at hc
    · rename_i ea _
      rw [lkD] at hl
      split at hl
      · rename_i i hk
        cases hl
        refine UnaryOp_ (lk_eval hmg k ea hc hk hz hr L fun h' tk u bs hx ht0 ru => ?_)
        cases ru with
        | int _ t => exact neg_int (h h' _ _ [] hx (by first | exact Nat.le_succ_of_le ht0 | exact ht0) (.int _ _))
      · cases hl
    · cases hc
  | .tup ks, e, s, Q, r, as, hc, hl, hz, hr, L, h => by
    rw [ckK.eq_def] at hc
    dsimp only at hc
    split at hc
    · rename_i es _ pos
      rw [lkD] at hl
      split at hl
      · rename_i xs hk
        split at hl
        · rename_i hz'
          cases hl
          refine wpAny_Tuple_spliced (lk_evals hmg ks es hc hk hz hr L fun h' tk us bs hx ht0 ru => ?_)
          have hlen := PyProof.Rows.readsAll_len xs ru
          have hs : sizeLine = 16777216 := sizeLine_eq
          refine ⟨by omega, ?_⟩
          have hx2 : ∀ b o, h'.get? b = some o → (h'.push { cls := .type "tuple", data := .seq us.toArray }).get? b = some o := fun b o q => Heap.get?_push_of_some _ q
          have hnew : h'.objs.size ∉ Z := fun hm => by
            obtain ⟨o, ho⟩ := hz _ hm
            exact Nat.lt_irrefl _ (Heap.lt_size (hx _ _ ho))
          refine h _ _ _ bs (fun b o q => hx2 b o (hx b o q)) ht0 (.tuple (hideAll_get Z (Heap.get?_push_size _ rfl) hnew) rfl rfl ?_)
          rw [List.toList_toArray]
          exact ReadsAll.keeps (hideAll_keeps fun b o _ q => hx2 b o q) ru
        · cases hl
      · cases hl
    · cases hc
theorem lk_evals (hmg : mg "len" = none) {d : PyData} {pos : Pos} : ∀ (ks : LKs) (es : List Expr) {s : Shared} {Q : List Value → Shared → Prop} {rs : List PyData} {as : List Addr}, ckKs env.scope x ks es = true → lkDs ks d = some rs → (∀ z ∈ Z, ∃ o, s.heap.get? z = some o) → Reads (hideAll s.heap Z) v d as → LEnv mg env x v s.heap →
    (∀ (h' : Heap) (tk : Nat) (us : List Value) (bs : List Addr), (∀ b o, s.heap.get? b = some o → h'.get? b = some o) → s.toks ≤ tk → ReadsAll (hideAll h' Z) us rs bs → Q us { s with heap := h', toks := tk }) → wpAny (model prog w) A (spliced (backTo pos (starEach es env))) Q E s
  | .nil, es, s, Q, rs, as, hc, hl, hz, hr, L, h => by
    rw [ckKs, List.isEmpty_iff] at hc
    subst hc
    rw [lkDs] at hl
    cases hl
    exact args_nil (h s.heap s.toks [] [] (fun _ _ q => q) (Nat.le_refl _) .nil)
  | .cons k ks, [], s, Q, rs, as, hc, hl, hz, hr, L, h => by cases hc
  | .cons k ks, e :: es, s, Q, rs, as, hc, hl, hz, hr, L, h => by
    rw [ckKs] at hc
    simp only [Bool.and_eq_true] at hc
    rw [lkDs] at hl
    split at hl
    · rename_i y ys hk hks
      cases hl
      refine args_cons (lk_eval hmg k e hc.1.2 hk hz hr L fun h' tk u bs hx ht0 ru => ?_) (star1 hc.1.1)
      refine lk_evals hmg ks es hc.2 hks (fun z hm => let ⟨o, q⟩ := hz z hm; ⟨o, hx _ _ q⟩) (Reads.keeps (hideAll_keeps fun b o _ q => hx b o q) hr) (L.keeps hx) fun h'' tk' us cs hx' ht1 rus => ?_
      exact h h'' tk' (u :: us) (bs ++ cs) (fun b o q => hx' b o (hx b o q)) (Nat.le_trans ht0 ht1) (.cons (Reads.keeps (hideAll_keeps fun b o _ q => hx' b o q) ru) rus)
    · cases hl
end
end
end Ev


set_option maxRecDepth 100000
/-! Ek2: a key lambda called; sorted, max, min with a key, over the heap. -/
namespace Ev
open PySem L2 PySem.W PyProof.Rows PySem.SeqAt

mutual
theorem reads_noL {h : Heap} : ∀ (d : PyData) {v : Value} {as : List Addr}, noLD d = true → Reads h v d as → as = []
  | .none, _, _, _, r => by cases r; rfl
  | .bool _, _, _, _, r => by cases r; rfl
  | .int _, _, _, _, r => by cases r; rfl
  | .str _, _, _, _, r => by cases r; rfl
  | .tuple xs, _, _, n, r => by
    cases r with
    | tuple _ _ _ ra => rw [noLD] at n; exact readsAll_noL xs n ra
  | .list _, _, _, n, _ => by simp [noLD] at n
  | .dict _, _, _, n, _ => by simp [noLD] at n
theorem readsAll_noL {h : Heap} : ∀ (ds : List PyData) {vs : List Value} {as : List Addr}, noLDs ds = true → ReadsAll h vs ds as → as = []
  | [], _, _, _, r => by cases r; rfl
  | d :: ds, _, _, n, r => by
    rw [noLDs, Bool.and_eq_true] at n
    cases r with
    | cons r rs => rw [reads_noL d n.1 r, readsAll_noL ds n.2 rs]; rfl
end
/-- a key lambda in the heap -/
structure LamOk (mg : Str → Option Value) (h : Heap) (f c' : Addr) (qual : Str) (params : Arguments) (body : Expr) (scope : Scope) (cl : List (Str × Addr)) (pm ctv : Value) : Prop where
  fo : h.get? f = some (kla_obj "<lambda>" qual params body scope cl pm c' ctv)
  co : ∃ oc vs t, h.get? c' = some oc ∧ oc.data = .fields vs ∧ vs[1]? = some (.str qual t)
  nolimit : h.NoLimit
  glob : h.Ns mainGlobals mg
  blt : ∃ mb, h.Ns builtinsNs mb ∧ ∀ x : Str, x ≠ "__name__" → mb x = bootBuiltins x
theorem LamOk.keeps {mg : Str → Option Value} {h h' : Heap} {f c' : Addr} {qual : Str} {params : Arguments} {body : Expr} {scope : Scope} {cl : List (Str × Addr)} {pm ctv : Value} (L : LamOk mg h f c' qual params body scope cl pm ctv) (k : ∀ b o, h.get? b = some o → h'.get? b = some o) : LamOk mg h' f c' qual params body scope cl pm ctv :=
  ⟨k _ _ L.fo, let ⟨oc, vs, t, a, b⟩ := L.co; ⟨oc, vs, t, k _ _ a, b⟩, L.nolimit.keeps k, L.glob.keeps k, let ⟨mb, a, b⟩ := L.blt; ⟨mb, a.keeps k, b⟩⟩
/-- the lambda's syntax: one parameter, the rest globals -/
structure LamSy (params : Arguments) (body : Expr) (scope : Scope) (x : Str) (k : LK) : Prop where
  kind : scope.kind = .function
  co : scope.isCoroutine = false
  gen : scope.isGenerator = false
  cell : ∀ y ∈ scope.names, y.2 ≠ .cell
  free : ∀ y ∈ scope.names, y.2 ≠ .free
  loc : scope.names.lookup x = some .local
  bind : ∀ (q : Str) (cl : List (Str × Addr)) (pm cv ctv v : Value), bindArgs (kla_fn "<lambda>" q params body scope cl pm cv ctv) ⟨[v], []⟩ = pure [(x, v)]
  dflt : ∀ env, defaultsOf params env = ([], [])
  body : ckK scope x k body = true
/-- .. keeps all, gives the key, read without Z -/
def KeyZ (Z : List Addr) (k : PyData) (s₁ : Shared) (v : Value) (s₂ : Shared) : Prop := ∃ h' tk, s₂ = { s₁ with heap := h', toks := tk } ∧ (∀ b o, s₁.heap.get? b = some o → h'.get? b = some o) ∧ s₁.toks ≤ tk ∧ Reads (hideAll h' Z) v k []
section
variable {prog : Program} {w : World} {A : Around} {mg : Str → Option Value} {s : Shared} {f c' : Addr} {qual : Str} {params : Arguments} {body : Expr} {scope : Scope} {cl : List (Str × Addr)} {pm ctv : Value} {x : Str} {k : LK} {Z : List Addr}
theorem lam1 (hmg : mg "len" = none) (S : LamSy params body scope x k) (L : LamOk mg s.heap f c' qual params body scope cl pm ctv) (hd : A.depth < recursionLimit) (hz : ∀ z ∈ Z, ∃ o, s.heap.get? z = some o) {v : Value} {d r : PyData} {as : List Addr} (hr : Reads (hideAll s.heap Z) v d as) (hk : lkD k d = some r) (hn : noLD r = true) :
    wpAny (model prog w) A (call (.ref f) [v]) (KeyZ Z r s) (fun _ _ => False) s := by
  obtain ⟨oc, vs, t, e1, e2, e3⟩ := L.co
  have rc : codeAny (model prog w) A (.call (.ref f) ⟨[v], []⟩) (fun r' s' => match r' with | .ok (.ret u) => KeyZ Z r s u s' | _ => False) s := by
    refine kla_callFunE hd L.fo rfl S.co S.gen rfl ⟨c', oc, vs, t, rfl, e1, e2, e3⟩ ?_
    rw [S.bind]
    refine wpAny_pure (wpAny_newFunctionEnv S.cell (fun y hy => ?_) (fun h₁ hns hsb => ⟨L.nolimit.fresh _ hsb, ?_⟩) S.kind)
    · rw [List.mem_singleton.mp hy]; exact S.loc
    have kp : ∀ b o, s.heap.get? b = some o → h₁.get? b = some o := fun b o e => hsb.extBut b o (Nat.ne_of_lt (Heap.lt_size e)) (Heap.get?_push_of_some _ e)
    obtain ⟨mb, b1, b2⟩ := L.blt
    refine kla_codeExpr (lk_eval (mg := mg) (x := x) (v := v) (Z := Z) hmg k body S.body hk (fun z hm => let ⟨o, q⟩ := hz z hm; ⟨o, kp _ _ q⟩) (Reads.keeps (hideAll_keeps fun b o _ q => kp b o q) hr) ⟨S.kind, S.loc, ⟨_, hns, ?_⟩, L.glob.keeps kp, mb, b1.keeps kp, b2⟩ fun h' tk u bs hx ht ru => ?_)
    · simp
    · exact ⟨h', tk, rfl, fun b o q => hx b o (kp b o q), Nat.le_trans (Nat.le_add_right _ _) ht, by rw [reads_noL r hn ru] at ru; exact ru⟩
  refine wpAny_call (codeAny_mono rc fun r' s' hq => ?_)
  cases r' with
  | error e => exact hq.elim
  | ok fl =>
    cases fl with
    | ret u => exact hq
    | next => exact hq.elim
    | brk => exact hq.elim
    | cont => exact hq.elim
end
/-! ### sorted with a key -/
theorem keyOk_spec {k : LK} {ds : List PyData} (h : keyOk k ds = true) : (∀ d ∈ ds, lkD k d = some (keyF k d)) ∧ (∀ d ∈ ds, noLD (keyF k d) = true) ∧ AllAlike (ds.map (keyF k)) ∧ AlikeAll (ds.map (keyF k)) ∧ ∀ d ∈ ds, (keyF k d).depth ≤ 60 := by
  unfold keyOk at h
  simp only [Bool.and_eq_true, List.all_eq_true] at h
  obtain ⟨⟨h1, h2⟩, h3⟩ := h
  obtain ⟨a1, a2, a3, a4⟩ := alikeAllB_spec h3
  refine ⟨fun d hd => ?_, fun d hd => h2 _ (List.mem_map_of_mem hd), a2, a1, fun d hd => a4 _ (List.mem_map_of_mem hd)⟩
  have := h1 d hd
  unfold keyF
  cases q : lkD k d with
  | none => rw [q] at this; cases this
  | some y => rfl
section
variable {prog : Program} {w : World} {A : Around} {E : Value → Shared → Prop} {mg : Str → Option Value} {s : Shared} {f c' : Addr} {qual : Str} {params : Arguments} {body : Expr} {scope : Scope} {cl : List (Str × Addr)} {pm ctv : Value} {x : Str} {k : LK}
theorem in1_depth : A.in1.depth = A.depth := rfl
theorem sorted_lam {l : Addr} {its : List Value} {ds : List PyData} {R : Value → PyData → Prop} {Q : Value → Shared → Prop} (hl : s.heap.IsList l its.toArray ∨ s.heap.IsTuple l its.toArray) (e : EachIs R its ds) (hR : ∀ v d, R v d → d ∈ ds → ∃ as, Reads s.heap v d as) (hk : keyOk k ds = true) (hs : sortableB (ds.map (keyF k)) = true) (hL : ds.length ≤ sizeLine)
    (hu : A.units + 70 < cLine) (hmg : mg "len" = none) (S : LamSy params body scope x k) (L : LamOk mg s.heap f c' qual params body scope cl pm ctv) (hd : A.depth < recursionLimit)
    (h : ∀ out c h' tk, (∀ b o, s.heap.get? b = some o → h'.get? b = some o) → h'.get? (s.heap.objs.size + 1) = some (seqObj "list" (List.toArray out) c) → out.length = ds.length → EachIs R out (ds.mergeSort (dataLe false (keyF k))) → Q (.ref (s.heap.objs.size + 1)) { s with heap := h', toks := tk }) :
    wpAny (model prog w) A (call (.builtin "sorted") [.ref l] [(Str.ofString "key", .ref f)]) Q E s := by
  obtain ⟨k1, k2, k3, k4, k5⟩ := keyOk_spec hk
  have turn : ∀ (v : Value) (d : PyData), R v d → d ∈ ds → ∀ (h : Heap) (tk : Nat), (∀ b o, s.heap.get? b = some o → h.get? b = some o) →
      wpAny (model prog w) A.in1.in1 (call (.ref f) [v]) (KeyPure (keyF k d) { s with heap := h, toks := tk }) (fun _ _ => False) { s with heap := h, toks := tk } := fun v d r hm h tk kp => by
    obtain ⟨as, hr⟩ := hR v d r hm
    refine wpAny_mono (lam1 (A := A.in1.in1) (Z := []) (s := { s with heap := h, toks := tk }) hmg S (L.keeps kp) (show A.depth < _ from hd) (fun z hz => by cases hz) (Reads.keeps kp hr) (k1 d hm) (k2 d hm)) (fun u s' q => ?_) fun _ _ q => q
    obtain ⟨h', tk', e1, e2, _, e3⟩ := q
    exact ⟨h', tk', e1, e2, e3⟩
  rcases hl with hl | hl
  · exact sorted_key_data (b := false) (keyF k) hl e k3 (sortableB_spec hs) hL (fun d hd => by have := k5 d hd; omega) (ksk_s1 _ _) (fun _ => ksk_l1 _ _) (fun _ => ksk_t1 _ _) turn fun out c h' tk kp _ hD ho eo => h out c h' tk kp hD ho eo
  · have up : ∀ {g : Heap}, KeepsBut (s.heap.objs.size + 1) (copyHeap s.heap its) g → ∀ b o, s.heap.get? b = some o → g.get? b = some o := fun {g} kp b o q =>
      kp b o (Nat.ne_of_lt (Nat.lt_succ_of_lt (Heap.lt_size q))) (copyHeap_old q)
    refine sorted_of_sortT hl (by rw [e.length]; exact hL) (ksk_s1 _ _) (fun _ => ksk_l1 _ _) fun E' => ?_
    rw [ksk_t1]
    refine keyH_tree (kz := ds.map (keyF k)) (s := { s with heap := copyHeap s.heap its }) (copyHeap_at s.heap its) (by rw [List.length_map]; exact e.length.symm) (by rw [e.length]; exact hL) k3 (sortableB_spec hs) (bound_map (A := A.in1.in1) fun d hd => by have := k5 d hd; show A.units + 1 + 1 + _ < _; omega)
      (keyH_turns (s := { s with heap := copyHeap s.heap its }) e fun v d hR hm h tk kp => turn v d hR hm h tk (up kp)) fun h' tk out c kp hD ko => ⟨rfl, ?_⟩
    exact h out c h' tk (up kp) hD ((ko.length (by rw [List.length_map]; exact e.length.symm)).trans e.length) (keyedOut_each (keyF k) ko e)
end
end Ev

set_option maxRecDepth 100000
/-! Ek3: max and min with a key lambda, over the heap. -/
namespace Ev
open PySem L2 PySem.W PyProof.Rows PySem.SeqAt

section
variable {prog : Program} {w : World} {A : Around} {E : Value → Shared → Prop} {mg : Str → Option Value} {s : Shared} {f c' : Addr} {qual : Str} {params : Arguments} {body : Expr} {scope : Scope} {cl : List (Str × Addr)} {pm ctv : Value} {x : Str} {k : LK}
/-- what key= asks -/
theorem key_run {vs : Array Value} {ds : List PyData} {as : List Addr} {I S : Addr} {St : Nat → Shared → Prop} {op : CmpOp} {bt : Nat → Nat → Bool} (hr : ReadsAll s.heap vs.toList ds as) (hk : keyOk k ds = true)
    (hmg : mg "len" = none) (Sy : LamSy params body scope x k) (L : LamOk mg s.heap f c' qual params body scope cl pm ctv) (hd : A.depth < recursionLimit) (hS : s.heap.get? S = none) (hI : s.heap.get? I = none)
    (hst : ∀ i s', St i s' → (∃ o, s'.heap.get? I = some o) ∧ ∀ h' tk, s'.toks ≤ tk → (∀ b o, s'.heap.get? b = some o → h'.get? b = some o) → St i { s' with heap := h', toks := tk })
    (hc : ∀ (i j : Nat) (di dj : PyData) (ki kj : Value) (s' : Shared) (bs cs : List Addr) (Q : Value → Shared → Prop) (E : Value → Shared → Prop), ds[i]? = some di → ds[j]? = some dj → Reads s'.heap ki (keyF k di) bs → Reads s'.heap kj (keyF k dj) cs → Q (.bool (bt i j)) s' → wpAny (model prog w) A (richCompare op ki kj) Q E s') :
    KeyRun prog w A (.ref f) op S [I] (fun a b => b = a) vs.size (fun i v => vs[i]? = some v) St (fun s' => ∃ h tk, s' = { s with heap := h, toks := tk } ∧ ∀ b o, s.heap.get? b = some o → h.get? b = some o)
      (fun i v s' => ∃ d, ds[i]? = some d ∧ Reads (hideAll s'.heap [S, I]) v (keyF k d) []) bt := by
  obtain ⟨k1, k2, k3, k4, k5⟩ := keyOk_spec hk
  have nin : ∀ b o, s.heap.get? b = some o → b ∉ [S, I] := fun b o e hb => by
    rcases List.mem_cons.mp hb with q | q
    · rw [q, hS] at e; cases e
    · rw [List.mem_singleton.mp q, hI] at e; cases e
  refine ⟨?_, ?_, ?_, ?_⟩
  · rintro s1 s2 ⟨h, tk, rfl, kp⟩ m
    refine ⟨s2.heap, s2.toks, ?_, fun b o e => m.heap b o (nin b o e) (kp b o e)⟩
    obtain ⟨hp, g, dr, tk2, os⟩ := s2
    have h1 : g = s.gens := m.gens
    have h2 : dr = s.drawn := m.drawn
    have h3 : os = s.os := m.os
    subst h1 h2 h3
    rfl
  · rintro i v s1 s2 ⟨d, e, r⟩ m
    exact ⟨d, e, Reads.keeps (hideAll_keeps fun b o hb q => m.heap b o hb q) r⟩
  · rintro i v s1 o Q E hi hP ⟨h, tk, rfl, kp⟩ hSt hSo hQ
    obtain ⟨⟨oI, hIo⟩, fr⟩ := hst _ _ hSt
    have hlen := PyProof.Rows.readsAll_len ds hr
    rw [Array.length_toList] at hlen
    obtain ⟨d, hdi⟩ : ∃ d, ds[i]? = some d := ⟨_, List.getElem?_eq_getElem (by omega)⟩
    have hdm := List.mem_of_getElem? hdi
    obtain ⟨cs, hcs⟩ : ∃ cs, Reads s.heap v d cs := by
      have gen : ∀ {vs : List Value} {xs : List PyData} {as : List Addr} {i : Nat}, ReadsAll s.heap vs xs as → vs[i]? = some v → xs[i]? = some d → ∃ cs, Reads s.heap v d cs := by
        intro vs
        induction vs with
        | nil => intro xs as i _ e; simp at e
        | cons z zs ih =>
          intro xs as i ra e1 e2
          cases ra with
          | cons ra rs =>
            cases i with
            | zero => simp at e1 e2; subst e1 e2; exact ⟨_, ra⟩
            | succ i => exact ih rs (by simpa using e1) (by simpa using e2)
      exact gen hr (by rw [Array.getElem?_toList]; exact hP) hdi
    refine wpAny_mono (lam1 (Z := [S, I]) (s := { s with heap := h, toks := tk }) hmg Sy (L.keeps kp) hd (fun z hz => ?_) (Reads.keeps (fun b o q => hideAll_get _ (kp b o q) (nin b o q)) hcs) (k1 d hdm) (k2 d hdm)) (fun u s' q => ?_) fun _ _ q => q.elim
    · rcases List.mem_cons.mp hz with q | q
      · rw [q]; exact ⟨_, hSo⟩
      · rw [List.mem_singleton.mp q]; exact ⟨_, hIo⟩
    · obtain ⟨h', tk', rfl, kp', ht, hr'⟩ := q
      exact hQ u _ ⟨h', tk', rfl, fun b o q => kp' b o (kp b o q)⟩ (fr h' tk' ht kp') (kp' _ _ hSo) ⟨d, hdi, hr'⟩ fun j k' ⟨d', e', r'⟩ => ⟨d', e', Reads.keeps (hideAll_keeps fun b o _ q => kp' b o q) r'⟩
  · rintro i j ki kj s1 Q E _ ⟨di, e1, r1⟩ ⟨dj, e2, r2⟩ hq
    exact hc i j di dj ki kj s1 _ _ Q E e1 e2 (Reads.keeps (fun b o q => of_hideAll _ q) r1) (Reads.keeps (fun b o q => of_hideAll _ q) r2) hq
theorem max_lam {l : Addr} {its : List Value} {d : PyData} {ds : List PyData} {as : List Addr} {Q : Value → Shared → Prop} (hh : A.handled = none) (hl : s.heap.IsList l its.toArray ∨ s.heap.IsTuple l its.toArray) (hr : ReadsAll s.heap its (d :: ds) as) (hk : keyOk k (d :: ds) = true)
    (hu : A.units + 70 < cLine) (hmg : mg "len" = none) (S : LamSy params body scope x k) (L : LamOk mg s.heap f c' qual params body scope cl pm ctv) (hd : A.depth < recursionLimit)
    (h : ∀ (i : Nat) v h' tk, its[i]? = some v → (d :: ds)[i]? = some (maxK (keyF k) d ds) → (∀ b o, s.heap.get? b = some o → h'.get? b = some o) → Q v { s with heap := h', toks := tk }) :
    wpAny (model prog w) A (call (.builtin "max") [.ref l] [(Str.ofString "key", .ref f)]) Q E s := by
  obtain ⟨k1, k2, k3, k4, k5⟩ := keyOk_spec hk
  have hlen := PyProof.Rows.readsAll_len (d :: ds) hr
  have hr' : ReadsAll s.heap its.toArray.toList (d :: ds) as := by rw [List.toList_toArray]; exact hr
  have cmp : ∀ (i j : Nat) (di dj : PyData) (ki kj : Value) (s' : Shared) (bs cs : List Addr) (Q : Value → Shared → Prop) (E : Value → Shared → Prop), (d :: ds)[i]? = some di → (d :: ds)[j]? = some dj → Reads s'.heap ki (keyF k di) bs → Reads s'.heap kj (keyF k dj) cs →
      Q (.bool (dataLt (keyF k ((d :: ds).getD j .none)) (keyF k ((d :: ds).getD i .none)))) s' → wpAny (model prog w) A.in1 (richCompare .Gt ki kj) Q E s' := fun i j di dj ki kj s' bs cs Q E e1 e2 r1 r2 hq => by
    have m1 := List.mem_of_getElem? e1
    have m2 := List.mem_of_getElem? e2
    rw [List.getD_eq_getElem?_getD, List.getD_eq_getElem?_getD, e1, e2] at hq
    refine rcGt_alike _ _ _ s' ki kj bs cs r1 r2 (k4.1 _ (List.mem_map_of_mem m1) _ (List.mem_map_of_mem m2)) (k4.2 _ (List.mem_map_of_mem m1)) ?_ prog w E Q hq
    have := Nat.min_le_left (keyF k di).depth (keyF k dj).depth
    have := k5 di m1
    show A.units + 1 + _ < _
    omega
  have fin : ∀ v (h' : Heap) (tk : Nat), its.toArray[argBest (fun i j => dataLt (keyF k ((d :: ds).getD j .none)) (keyF k ((d :: ds).getD i .none))) (its.toArray.size - 1)]? = some v → (∀ b o, s.heap.get? b = some o → h'.get? b = some o) → Q v { s with heap := h', toks := tk } := fun v h' tk hP kp => by
    have e2 := argBest_fold (fun a b => dataLt (keyF k b) (keyF k a)) PyData.none d ds ds.length (Nat.le_refl _)
    rw [List.take_length] at e2
    have es : its.toArray.size - 1 = ds.length := by rw [List.size_toArray, hlen]; simp
    rw [es] at hP
    obtain ⟨e4, e3⟩ : argBest (fun i j => dataLt (keyF k ((d :: ds).getD j .none)) (keyF k ((d :: ds).getD i .none))) ds.length ≤ ds.length ∧ maxK (keyF k) d ds = (d :: ds).getD (argBest (fun i j => dataLt (keyF k ((d :: ds).getD j .none)) (keyF k ((d :: ds).getD i .none))) ds.length) .none := ⟨e2.1, e2.2.symm⟩
    clear e2
    generalize argBest (fun i j => dataLt (keyF k ((d :: ds).getD j .none)) (keyF k ((d :: ds).getD i .none))) ds.length = n at e3 e4 hP
    refine h n v h' tk (by simpa using hP) ?_ kp
    rw [e3, List.getD_eq_getElem?_getD, List.getElem?_eq_getElem (by simp only [List.length_cons]; omega)]
    rfl
  have nS : ∀ h', s.heap.objs.size ≤ h' → s.heap.get? h' = none := fun h' q => Heap.get?_none_of_le q
  rcases hl with hl | hl
  · refine call_max_walkK (iter_listW (A := A.in1) hh hl fun s₂ e W st hfp hw hk2 => ?_)
    refine ⟨_, _, _, _, _, _, _, _, _, _, rfl, W, st, hfp, by rw [List.size_toArray, hlen]; simp, key_run (s := s) (A := A.in1) hr' hk hmg S L hd (nS _ ?_) (nS _ (Nat.le_refl _)) ?_ cmp, ⟨_, s.toks, e, fun b o q => ?_⟩, fun v s' hP hJ => ?_⟩
    · rw [e]; show _ ≤ (s.heap.push _).objs.size; rw [Heap.size_push]; exact Nat.le_succ _
    · intro i s' q
      refine ⟨?_, fun h' tk ht kp => W.frame _ _ _ _ q ht fun b _ o q => kp b o q⟩
      obtain ⟨⟨o, q1, _⟩, _⟩ := q; exact ⟨_, q1⟩
    · exact Heap.get?_push_of_some _ q
    · obtain ⟨h', tk, rfl, kp⟩ := hJ; exact fin v h' tk hP kp
  · refine call_max_walkK (iter_tupleW (A := A.in1) hh hl fun s₂ e W st hfp hw hk2 => ?_)
    refine ⟨_, _, _, _, _, _, _, _, _, _, rfl, W, st, hfp, by rw [List.size_toArray, hlen]; simp, key_run (s := s) (A := A.in1) hr' hk hmg S L hd (nS _ ?_) (nS _ (Nat.le_refl _)) ?_ cmp, ⟨_, s.toks, e, fun b o q => ?_⟩, fun v s' hP hJ => ?_⟩
    · rw [e]; show _ ≤ (s.heap.push _).objs.size; rw [Heap.size_push]; exact Nat.le_succ _
    · intro i s' q
      refine ⟨?_, fun h' tk ht kp => W.frame _ _ _ _ q ht fun b _ o q => kp b o q⟩
      obtain ⟨⟨o, q1, _⟩, _⟩ := q; exact ⟨_, q1⟩
    · exact Heap.get?_push_of_some _ q
    · obtain ⟨h', tk, rfl, kp⟩ := hJ; exact fin v h' tk hP kp
theorem min_lam {l : Addr} {its : List Value} {d : PyData} {ds : List PyData} {as : List Addr} {Q : Value → Shared → Prop} (hh : A.handled = none) (hl : s.heap.IsList l its.toArray ∨ s.heap.IsTuple l its.toArray) (hr : ReadsAll s.heap its (d :: ds) as) (hk : keyOk k (d :: ds) = true)
    (hu : A.units + 70 < cLine) (hmg : mg "len" = none) (S : LamSy params body scope x k) (L : LamOk mg s.heap f c' qual params body scope cl pm ctv) (hd : A.depth < recursionLimit)
    (h : ∀ (i : Nat) v h' tk, its[i]? = some v → (d :: ds)[i]? = some (minK (keyF k) d ds) → (∀ b o, s.heap.get? b = some o → h'.get? b = some o) → Q v { s with heap := h', toks := tk }) :
    wpAny (model prog w) A (call (.builtin "min") [.ref l] [(Str.ofString "key", .ref f)]) Q E s := by
  obtain ⟨k1, k2, k3, k4, k5⟩ := keyOk_spec hk
  have hlen := PyProof.Rows.readsAll_len (d :: ds) hr
  have hr' : ReadsAll s.heap its.toArray.toList (d :: ds) as := by rw [List.toList_toArray]; exact hr
  have cmp : ∀ (i j : Nat) (di dj : PyData) (ki kj : Value) (s' : Shared) (bs cs : List Addr) (Q : Value → Shared → Prop) (E : Value → Shared → Prop), (d :: ds)[i]? = some di → (d :: ds)[j]? = some dj → Reads s'.heap ki (keyF k di) bs → Reads s'.heap kj (keyF k dj) cs →
      Q (.bool (dataLt (keyF k ((d :: ds).getD i .none)) (keyF k ((d :: ds).getD j .none)))) s' → wpAny (model prog w) A.in1 (richCompare .Lt ki kj) Q E s' := fun i j di dj ki kj s' bs cs Q E e1 e2 r1 r2 hq => by
    have m1 := List.mem_of_getElem? e1
    have m2 := List.mem_of_getElem? e2
    rw [List.getD_eq_getElem?_getD, List.getD_eq_getElem?_getD, e1, e2] at hq
    refine rcLt_alike _ _ _ s' ki kj bs cs r1 r2 (k4.1 _ (List.mem_map_of_mem m1) _ (List.mem_map_of_mem m2)) (k4.2 _ (List.mem_map_of_mem m1)) ?_ prog w E Q hq
    have := Nat.min_le_left (keyF k di).depth (keyF k dj).depth
    have := k5 di m1
    show A.units + 1 + _ < _
    omega
  have fin : ∀ v (h' : Heap) (tk : Nat), its.toArray[argBest (fun i j => dataLt (keyF k ((d :: ds).getD i .none)) (keyF k ((d :: ds).getD j .none))) (its.toArray.size - 1)]? = some v → (∀ b o, s.heap.get? b = some o → h'.get? b = some o) → Q v { s with heap := h', toks := tk } := fun v h' tk hP kp => by
    have e2 := argBest_fold (fun a b => dataLt (keyF k a) (keyF k b)) PyData.none d ds ds.length (Nat.le_refl _)
    rw [List.take_length] at e2
    have es : its.toArray.size - 1 = ds.length := by rw [List.size_toArray, hlen]; simp
    rw [es] at hP
    obtain ⟨e4, e3⟩ : argBest (fun i j => dataLt (keyF k ((d :: ds).getD i .none)) (keyF k ((d :: ds).getD j .none))) ds.length ≤ ds.length ∧ minK (keyF k) d ds = (d :: ds).getD (argBest (fun i j => dataLt (keyF k ((d :: ds).getD i .none)) (keyF k ((d :: ds).getD j .none))) ds.length) .none := ⟨e2.1, e2.2.symm⟩
    clear e2
    generalize argBest (fun i j => dataLt (keyF k ((d :: ds).getD i .none)) (keyF k ((d :: ds).getD j .none))) ds.length = n at e3 e4 hP
    refine h n v h' tk (by simpa using hP) ?_ kp
    rw [e3, List.getD_eq_getElem?_getD, List.getElem?_eq_getElem (by simp only [List.length_cons]; omega)]
    rfl
  have nS : ∀ h', s.heap.objs.size ≤ h' → s.heap.get? h' = none := fun h' q => Heap.get?_none_of_le q
  rcases hl with hl | hl
  · refine call_min_walkK (iter_listW (A := A.in1) hh hl fun s₂ e W st hfp hw hk2 => ?_)
    refine ⟨_, _, _, _, _, _, _, _, _, _, rfl, W, st, hfp, by rw [List.size_toArray, hlen]; simp, key_run (s := s) (A := A.in1) hr' hk hmg S L hd (nS _ ?_) (nS _ (Nat.le_refl _)) ?_ cmp, ⟨_, s.toks, e, fun b o q => ?_⟩, fun v s' hP hJ => ?_⟩
    · rw [e]; show _ ≤ (s.heap.push _).objs.size; rw [Heap.size_push]; exact Nat.le_succ _
    · intro i s' q
      refine ⟨?_, fun h' tk ht kp => W.frame _ _ _ _ q ht fun b _ o q => kp b o q⟩
      obtain ⟨⟨o, q1, _⟩, _⟩ := q; exact ⟨_, q1⟩
    · exact Heap.get?_push_of_some _ q
    · obtain ⟨h', tk, rfl, kp⟩ := hJ; exact fin v h' tk hP kp
  · refine call_min_walkK (iter_tupleW (A := A.in1) hh hl fun s₂ e W st hfp hw hk2 => ?_)
    refine ⟨_, _, _, _, _, _, _, _, _, _, rfl, W, st, hfp, by rw [List.size_toArray, hlen]; simp, key_run (s := s) (A := A.in1) hr' hk hmg S L hd (nS _ ?_) (nS _ (Nat.le_refl _)) ?_ cmp, ⟨_, s.toks, e, fun b o q => ?_⟩, fun v s' hP hJ => ?_⟩
    · rw [e]; show _ ≤ (s.heap.push _).objs.size; rw [Heap.size_push]; exact Nat.le_succ _
    · intro i s' q
      refine ⟨?_, fun h' tk ht kp => W.frame _ _ _ _ q ht fun b _ o q => kp b o q⟩
      obtain ⟨⟨o, q1, _⟩, _⟩ := q; exact ⟨_, q1⟩
    · exact Heap.get?_push_of_some _ q
    · obtain ⟨h', tk, rfl, kp⟩ := hJ; exact fin v h' tk hP kp
end
end Ev

set_option maxRecDepth 100000
/-! Ek4: sorted, max, min with a key lambda, as an expression. -/
namespace Ev
open PySem L2 PySem.W PyProof.Rows PySem.SeqAt LamX

section
variable {X : Cx} {pins : List (Addr × Obj)} {σ : L2.St} {H : Hp} {s : Shared}
/-- a lambda is made: its code object is new, or found in the table -/
theorem lam_mk {c P : Addr} {q : Str} {pr : Addr → Prop} {params : Arguments} {body : Expr} {scope : Scope} {pos : Pos} {E : Value → Shared → Prop} {Q : Value → Shared → Prop} (I : L2.Inv X pins σ H s) (TB : TabB X.base X.mg c P) (hcode : X.env.code = .ref c) (hT : TabP pr H P q) (hq : q = X.env.qual ++ "<lambda>")
    (hdef : defaultsOf params X.env = ([], [])) (hfree : ∀ y ∈ scope.names, y.2 ≠ .free) (hpr : ∀ a, pr a → H a ≠ none)
    (h : ∀ (f c' : Addr) (pm ctv : Value) (H1 : Hp) (s' : Shared), L2.Inv X pins σ H1 s' → (∀ b o, b ≠ P → H b = some o → H1 b = some o) → TabP pr H1 P q →
      s'.heap.get? f = some (kla_obj "<lambda>" q params body scope (cloFrom X.env.cells scope.names []) pm c' ctv) → H1 c' = some (CodeO c' q) → Q (.ref f) s') :
    wpAny (model X.prog X.w) X.A (eval (.Lambda params body scope pos) X.env) Q E s := by
  subst hq
  obtain ⟨ps, hP, ht, ha⟩ := hT
  refine kla_eval hdef ?_
  have hfree' : ∀ y ∈ scope.names, y.2 = .free → ∃ c, X.env.cells.lookup y.1 = some c := fun y hy e => absurd e (hfree y hy)
  have bP : s.heap.BuiltinsAt X.mg P := TB.bm.keeps I.bk
  have hP' : s.heap.get? P = some { cls := .none, data := .fields ps } := I.hok P _ hP
  cases hc : codeAmong pos ps.toList with
  | none =>
    refine kla_makeFunction (mg := X.mg) (c := c) (P := P) (ps := ps) (closure_ok hfree') I.ok.glob (I.mod.glob.keeps I.bk) hcode (TB.code.keeps I.bk) hP' ht hc TB.gP bP fun c' ctv h' tk hx hge hlt hrec htb => ?_
    obtain ⟨c2, oc, vs, t, e2, hoc, hd, hv⟩ := hrec
    cases e2
    have nC : H c' = none := I.hok.fresh hge
    have I1 := inv_table (t' := tk) (more := #[rawInt pos.line, rawInt pos.col, .ref c']) (h' := h'.push (kla_obj "<lambda>" (X.env.qual ++ "<lambda>") params body scope (cloFrom X.env.cells scope.names []) ((X.mg "__name__").getD .none) c' ctv)) I hP
      (fun b o hb e => Heap.get?_push_of_some _ (hx b o hb e)) (Heap.get?_push_of_some _ htb) hge ⟨oc, vs, t, Heap.get?_push_of_some _ hoc, hd, hv⟩
    have hE : ∀ b o, b ≠ P → H b = some o → (upd (upd H P (.tbl (ps ++ #[rawInt pos.line, rawInt pos.col, .ref c']))) c' (CodeO c' (X.env.qual ++ "<lambda>"))) b = some o := fun b o n e => by
      rw [upd_ne (ne_of_none e nC), upd_ne n]
      exact e
    have eL : (ps ++ #[rawInt pos.line, rawInt pos.col, .ref c']).toList = ps.toList ++ [rawInt pos.line, rawInt pos.col, .ref c'] := by simp
    refine h h'.objs.size c' ((X.mg "__name__").getD .none) ctv _ _ I1 hE ⟨_, by rw [upd_ne (ne_of_none hP nC), upd_same], by rw [eL]; exact PySem.TriplesOk_snoc _ _ _ _ ht, fun p' cv hcv => ?_⟩ (Heap.get?_push_size _ rfl) upd_same
    rw [eL] at hcv
    rcases among_app _ ht hcv with z | z
    · obtain ⟨c0, e1, e2, e3⟩ := ha p' cv z
      refine ⟨c0, e1, hE _ _ (fun q => ?_) e2, e3⟩
      rw [q, hP] at e2
      exact codeO_ne ps (Option.some.inj e2).symm
    · exact ⟨c', z, upd_same, fun q => hpr _ q nC⟩
  | some cv =>
    obtain ⟨c', e, hco, _⟩ := ha pos cv hc
    subst e
    refine kla_makeFunctionHit (mg := X.mg) (c := c) (P := P) (ps := ps) (closure_ok hfree') I.ok.glob (I.mod.glob.keeps I.bk) hcode (TB.code.keeps I.bk) hP' ht hc bP fun ctv h' tk hx hsz => ?_
    have I1 : L2.Inv X pins σ H { s with heap := h'.push (kla_obj "<lambda>" (X.env.qual ++ "<lambda>") params body scope (cloFrom X.env.cells scope.names []) ((X.mg "__name__").getD .none) c' ctv), toks := tk } := I.kept fun b o e => Heap.get?_push_of_some _ (hx b o e)
    exact h h'.objs.size c' ((X.mg "__name__").getD .none) ctv H _ I1 (fun _ _ _ q => q) ⟨ps, hP, ht, ha⟩ (Heap.get?_push_size _ rfl) hco
/-- what the call asks -/
def tSrtk (K : PySem.W.Frag) (b : Bk) (P : Addr) (q : Str) (k : LK) (ta : TE) : TE := fun σ H Q => ta σ H fun x H1 => ∃ (pr : Addr → Prop) (ds : List PyData), RSeq K pr H1 x ds ∧ keyOk k ds = true ∧ flatDs ds = true ∧ ds.length ≤ sizeLine ∧ TabP pr H1 P q ∧ (∀ a, pr a → H1 a ≠ none) ∧
  pr P ∧ ∀ H2, Keep pr H1 pr H2 → (∀ b o, b ≠ P → H1 b = some o → H2 b = some o) → TabP pr H2 P q → match b, ds with
    | .sorted, _ => sortableB (ds.map (keyF k)) = true ∧ ∀ p ws, RDs K pr H2 ws (ds.mergeSort (dataLe false (keyF k))) → H2 p = none → Q (.ref p) (upd H2 p (.lst ws))
    | .max, d :: r => ∀ w, RD K pr H2 w (maxK (keyF k) d r) → Q w H2
    | .min, d :: r => ∀ w, RD K pr H2 w (minK (keyF k) d r) → Q w H2
    | _, _ => False
theorem keep_tab {pr : Addr → Prop} {H H2 : Hp} {P : Addr} {q : Str} (t : TabP pr H P q) (hp : pr P) (e : ∀ b o, b ≠ P → H b = some o → H2 b = some o) : Keep pr H pr H2 := by
  obtain ⟨ps, hP, _⟩ := t
  exact ⟨fun a o ha n => ⟨e a o (fun q => n (by rw [q]; exact hp)) ha, n⟩, fun a xs ha => e a _ (fun q => by rw [q, hP] at ha; cases ha) ha, fun a o u ha => e a _ (fun q => by rw [q, hP] at ha; cases ha) ha⟩
theorem bind1 (q : Str) (cl : List (Str × Addr)) (pm cv ctv v : Value) (x : Str) (pos : Pos) (body : Expr) (scope : Scope) : bindArgs (kla_fn "<lambda>" q ⟨[], [⟨x, none, pos⟩], none, [], [], none, []⟩ body scope cl pm cv ctv) ⟨[v], []⟩ = pure [(x, v)] := by
  unfold bindArgs
  simp [seqItems?, List.lookup]
  rfl
theorem flatDs_mem : ∀ {ds : List PyData} {d : PyData}, flatDs ds = true → d ∈ ds → flatD d = true
  | x :: r, d, h, m => by
    rw [flatDs, Bool.and_eq_true] at h
    rcases List.mem_cons.mp m with q | q
    · rw [q]; exact h.1
    · exact flatDs_mem h.2 q
theorem SqL.go {K : PySem.W.Frag} {H H2 : Hp} {P a : Addr} {ps : Array Value} {xs : List V} (hP : H P = some (.tbl ps)) (e : ∀ b o, b ≠ P → H b = some o → H2 b = some o) (h : SqL K H a xs) : SqL K H2 a xs := by
  rcases h with (h | ⟨o, h⟩) | h
  · exact .inl (.inl (e _ _ (fun q => by rw [q, hP] at h; cases h) h))
  · exact .inl (.inr ⟨o, e _ _ (fun q => by rw [q, hP] at h; cases h) h⟩)
  · exact .inr h
theorem lamSyB_spec {k : LK} {params : Arguments} {body : Expr} {scope : Scope} (h : lamSyB k params body scope = true) : ∃ x, LamSy params body scope x k := by
  unfold lamSyB at h
  split at h
  · rename_i x pos
    simp only [Bool.and_eq_true, Bool.not_eq_true', decide_eq_true_eq, List.all_eq_true, decide_eq_false_iff_not] at h
    obtain ⟨⟨⟨⟨⟨h1, h2⟩, h3⟩, h4⟩, h5⟩, h6⟩ := h
    exact ⟨x, h1, h2, h3, fun y hy => (h4 y hy).1, fun y hy => (h4 y hy).2, h5, fun _ _ _ _ _ _ => bind1 _ _ _ _ _ _ _ _ _ _, fun _ => rfl, h6⟩
  · cases h
theorem boot_bk (b : Bk) : ∃ id : String, bootBuiltins (bkNm b) = some (.builtin id) ∧ id = (match b with | .sorted => "sorted" | .max => "max" | .min => "min") := by
  cases b <;> exact ⟨_, by decide +kernel, rfl⟩
theorem pe_srtk {b : Bk} {c P : Addr} {q : Str} {k : LK} {ta : TE} {ea : Expr} {params : Arguments} {body : Expr} {scope : Scope} {p lpos kpos pos : Pos} (hc : X.calm = true) (hu : X.A.units + 72 < cLine) (hdep : X.A.depth + 5 < recursionLimit) (hg : Gl X (bkNm b)) (hm : X.mg (bkNm b) = none) (hml : X.mg "len" = none)
    (TB : TabB X.base X.mg c P) (hcode : X.env.code = .ref c) (hq : q = X.env.qual ++ "<lambda>") (S : lamSyB k params body scope = true) (ha : PE X ea ta) (na : starEach [ea] X.env = (false, eval ea X.env) :: starEach [] X.env) :
    PE X (.Call (.Name (bkNm b) p) [ea] [⟨some "key", .Lambda params body scope lpos, kpos⟩] pos) (tSrtk X.K b P q k ta) := by
  refine ⟨fun pins s σ H Q I h => ?_⟩
  obtain ⟨x, Sy⟩ := lamSyB_spec S
  obtain ⟨id, hid, eid⟩ := boot_bk b
  refine wpAny_Call_Name_kw (ld_blt I hg hm hid ?_ (by cases b <;> decide) (by cases b <;> decide))
  refine PyProof.Rows.callWith_kw (args_cons (thn (ha.run pins s σ H _ I h) fun u s1 ⟨v, H1, I1, r1, q1⟩ => args_nil (kws_cons ?_)) na) (by rw [na]; rfl) (by rw [na]; rfl) rfl rfl
  obtain ⟨pr, ds, hs, hk, fl, hz, hT, hpr, hP, q1⟩ := q1
  refine lam_mk I1 TB hcode hT hq (Sy.dflt _) Sy.free hpr fun f c' pm ctv H2 s2 I2 e2 hT2 hf hco => kws_nil ?_
  have kp := keep_tab hT hP e2
  have q1 := q1 H2 kp e2 hT2
  have hs2 : RSeq X.K pr H2 v ds := by
    obtain ⟨ps, hP1, _⟩ := hT
    rcases hs with ⟨a, xs, rfl, h, r⟩ | ⟨a, xs, rfl, h, r⟩
    · exact .inl ⟨a, xs, rfl, SqL.go hP1 e2 h, r.keep kp⟩
    · exact .inr ⟨a, xs, rfl, kp.t _ _ h, r.keep kp⟩
  obtain ⟨a, xs, its, as, rfl, rr, rv, ra, z, hl⟩ := seq_reads I2 hs2 r1 fl
  have L : LamOk X.mg s2.heap f c' q params body scope (cloFrom X.env.cells scope.names []) pm ctv := ⟨hf, let ⟨⟨oc, vs, t, a, b⟩, _, _⟩ := I2.hok c' _ hco; ⟨oc, vs, t, a, b⟩, I2.nolimit, I2.mod.glob.keeps I2.bk, let ⟨mb, a, b⟩ := I2.mod.blt; ⟨mb, a.keeps I2.bk, b⟩⟩
  have hz2 : ds.length ≤ sizeLine := hz
  have rlen : its.length = ds.length := by rw [← rv.length, rr.length]
  have pick : ∀ (i : Nat) (v : Value) (m : PyData), its[i]? = some v → ds[i]? = some m → ∃ y, RelV y v ∧ RD X.K pr H2 y m := fun i v m hv hm => by
    obtain ⟨y, hy, ry⟩ := vals_get' rv hv
    obtain ⟨d, hd, rd⟩ := rr.get' hy
    rw [hm] at hd
    cases hd
    exact ⟨y, ry, rd⟩
  have fin : ∀ (i : Nat) (v : Value) (m : PyData) (h' : Heap) (tk : Nat), its[i]? = some v → ds[i]? = some m → (∀ b o, s2.heap.get? b = some o → h'.get? b = some o) → (∀ w, RD X.K pr H2 w m → Q w H2) → EP X pins σ Q v { s2 with heap := h', toks := tk } := fun i v m h' tk hv hm hk q => by
    obtain ⟨y, ry, rd⟩ := pick i v m hv hm
    exact ⟨y, H2, I2.kept hk, ry, q y rd⟩
  subst eid
  cases b with
  | sorted =>
    obtain ⟨hso, q2⟩ := q1
    refine sorted_lam (mg := X.mg) (x := x) hl (rds_each (X := X) rv rr) (fun v d hR hm => ?_) hk hso hz2 (by omega) hml Sy L (by omega) fun out c2 h' tk kp2 hD ho eo => ?_
    · obtain ⟨y, ry, rd⟩ := hR
      obtain ⟨as', r'⟩ := Dp.reads I2 d y v (rd.dp (flatDs_mem fl hm)) ry
      exact ⟨as', r'⟩
    · obtain ⟨ws, rw', hws⟩ := each_rds eo
      have hlen : ws.length ≤ sizeLine := by rw [rw'.length, ho]; exact hz2
      exact ⟨.ref _, upd H2 (s2.heap.objs.size + 1) (.lst ws), I2.laid (t' := tk) kp2 (Nat.le_succ _) ⟨hlen, out, c2, rw', hD⟩, rfl, q2 _ _ hws (I2.hok.fresh (Nat.le_succ _))⟩
  | max =>
    cases ds with
    | nil => exact q1.elim
    | cons d r => exact max_lam (mg := X.mg) (x := x) (I2.ok.hd hc) hl ra hk (by omega) hml Sy L (by omega) fun i v h' tk hv hm hk' => fin i v _ h' tk hv hm hk' q1
  | min =>
    cases ds with
    | nil => exact q1.elim
    | cons d r => exact min_lam (mg := X.mg) (x := x) (I2.ok.hd hc) hl ra hk (by omega) hml Sy L (by omega) fun i v h' tk hv hm hk' => fin i v _ h' tk hv hm hk' q1
end
end Ev

set_option maxRecDepth 100000
/-! Ek5: sorted(set(..)) of a tuple of ascending ints. -/
namespace Ev
open PySem L2 PySem.W PyProof.Rows PySem.SeqAt

theorem asc_eq : ∀ {l m : List Int}, l.Pairwise (· < ·) → m.Pairwise (· < ·) → (∀ k, k ∈ l ↔ k ∈ m) → l = m
  | [], [], _, _, _ => rfl
  | [], y :: m, _, _, h => by have := (h y).mpr List.mem_cons_self; cases this
  | x :: l, [], _, _, h => by have := (h x).mp List.mem_cons_self; cases this
  | x :: l, y :: m, h1, h2, h => by
    obtain ⟨a1, a2⟩ := List.pairwise_cons.mp h1
    obtain ⟨b1, b2⟩ := List.pairwise_cons.mp h2
    have e : x = y := by
      rcases List.mem_cons.mp ((h x).mp List.mem_cons_self) with q | q
      · exact q
      · rcases List.mem_cons.mp ((h y).mpr List.mem_cons_self) with q2 | q2
        · exact q2.symm
        · have := b1 x q; have := a1 y q2; omega
    subst e
    rw [asc_eq a2 b2 fun k => ⟨fun hk => by
      rcases List.mem_cons.mp ((h k).mp (List.mem_cons_of_mem _ hk)) with q | q
      · have := a1 k hk; omega
      · exact q, fun hk => by
      rcases List.mem_cons.mp ((h k).mpr (List.mem_cons_of_mem _ hk)) with q | q
      · have := b1 k hk; omega
      · exact q⟩]
section
variable {X : Cx}
def tSset (K : PySem.W.Frag) (ta : TE) : TE := fun σ H Q => ta σ H fun x H1 => ∃ (l : Addr) (ns : List Int), x = .ref l ∧ SqT K H1 l (ns.map V.int) ∧ ns.Pairwise (· < ·) ∧ ns.length < 63 ∧ ∀ p, H1 p = none → Q (.ref p) (upd H1 p (.lst (ns.map V.int)))
theorem pe_sset {a : Expr} {ta : TE} {p p2 q pos : Pos} (hc : X.calm = true) (hu : X.A.units + 70 < cLine) (hg : Gl X "sorted") (hm : X.mg "sorted" = none) (hg2 : Gl X "set") (hm2 : X.mg "set" = none) (ha : PE X a ta)
    (na : starEach [a] X.env = (false, eval a X.env) :: starEach [] X.env) : PE X (.Call (.Name "sorted" p) [.Call (.Name "set" p2) [a] [] q] [] pos) (tSset X.K ta) := by
  refine ⟨fun pins s σ H Q Y h => ?_⟩
  refine Call_ (ld_blt Y hg hm PyProof.Rows.boot_sorted ?_)
  refine PyProof.Rows.callWith_builtin1 (PyProof.Rows.args_cons ?_ rfl) rfl rfl
  refine Call_ (ld_blt Y hg2 hm2 PyProof.Rows.boot_set ?_)
  refine PyProof.Rows.callWith_type1 (PyProof.Rows.args_cons (thn (ha.run pins s σ H _ Y h) fun v z1 ⟨x, J1, Y1, r1, q1⟩ => PyProof.Rows.args_nil ?_) na) na rfl
  obtain ⟨l, ns, rfl, hq, hnd, hl, q1⟩ := q1
  cases r1
  obtain ⟨its, r, pl, hz⟩ := Y1.tuple hq
  have hs := sizeLine_eq
  refine call_set_tupI ns (Y1.ok.hd hc) pl (by simpa using RZ.intsAre_vals r) (by unfold scanBound; omega) fun h' tk c hR hc2 hk => PyProof.Rows.args_nil ?_
  have Y2 : L2.Inv X pins σ J1 { z1 with heap := h', toks := tk } := Y1.kept hk
  refine sorted_set (s := { z1 with heap := h', toks := tk }) hR (Y2.ok.hd hc) (by omega) fun s' p out c3 ns' k g o hp hg hi hs3 hm hl3 => ?_
  have e : ns' = ns := asc_eq hs3 hnd fun k => by rw [hm k]; exact decide_eq_true_iff
  subst e
  have hlen : (ns'.map V.int).length ≤ sizeLine := by rw [List.length_map]; omega
  have hn : J1 p = none := Y2.hok.fresh hp
  have J : L2.Inv X pins σ (upd J1 p (.lst (ns'.map V.int))) s' :=
    Y2.call' (ch := []) o (Un.laid k hp hn) (Y2.hok.laid k hp ⟨hlen, out.toList, c3, vals_of_ints hi, hg⟩) (by rw [g]; exact Y2.bare) (fun _ z => nomatch z)
  exact ⟨.ref p, _, J, rfl, q1 p hn⟩
end
end Ev

set_option maxRecDepth 100000
/-! Ev12: the soundness of expressions, by induction. -/
namespace Ev
open PySem L2 PySem.W PyProof.Rows PySem.SeqAt

theorem pe_never {X : Cx} {e : Expr} {t : TE} (h : ∀ σ H Q, t σ H Q → False) : PE X e t := ⟨fun pins s σ H Q I q => (h _ _ _ q).elim⟩
structure SE (c : Nat → List PV → Sto → R PV) (m : E) (X : Cx) (e : Expr) : Prop where
  pe : PE X e (tEv X.K (evE c m))
  pt : tst m = true → PT X e (tTe X.K (evE c m))
  pw : ∀ op es pos, e = .BoolOp op es pos → tst m = true → PW X e (tTe X.K (evE c m))
section
variable {T : Tab} {c : Nat → List PV → Sto → R PV} {X : Cx} {K : PySem.W.Frag}
/-- an expression whose value is looked at as a bool -/
theorem leafT {f : Envr → Sto → R PV} {e : Expr} (h : PE X e (tEv X.K f)) (he : ∀ whole, isTrue e X.env whole = (do let v ← whole; standAt e.pos; holding [v] (truthy v))) : PT X e (fun σ H Q => ∃ g st, g.s = σ ∧ Sim X.K g st H ∧ RP (f g.e st) fun v st' => ∃ b, v = .d (.bool b) ∧ ∀ g' H', Nx g g' H H' → Sim X.K g' st' H' → Q b H') :=
  (pt_val h he).imp fun σ H Q ⟨g, st, e, S, h⟩ => ⟨g, st, e, S, h.imp fun v s1 ⟨b, e, h⟩ g' H' w n S' r => by
    subst e
    have r : RD X.K g'.Pr H' w (.bool b) := r
    cases r
    exact ⟨b, rfl, h g' H' n S'⟩⟩
/-- two expressions, one after the other -/
theorem two {fa fb : Envr → Sto → R PV} {g : Gs} {st : Sto} {H : Hp} {R : V → V → Hp → Prop} {p : PV → PV → Sto → Prop} (S : Sim K g st H) (h : RP (fa g.e st) fun x s1 => RP (fb g.e s1) fun y s2 => p x y s2)
    (k : ∀ x y s2 g2 H2 V1 V2, p x y s2 → Nx g g2 H H2 → Sim K g2 s2 H2 → Rep K g2 g.B H2 V1 x → Rep K g2 g.B H2 V2 y → R V1 V2 H2) :
    tEv K fa g.s H fun x H1 => tEv K fb g.s H1 fun y H2 => R x y H2 :=
  ⟨g, st, rfl, S, h.imp fun x s1 h g1 H1 V1 n1 S1 r1 => ⟨g1, s1, n1.s, S1, by
    rw [n1.e]
    exact h.imp fun y s2 h g2 H2 V2 n2 S2 r2 => k x y s2 g2 H2 V1 V2 h (n1.trans S1 n2) S2 (r1.keep n2 S1) (r2.mono n1.B)⟩⟩
/-- one expression -/
theorem one {fa : Envr → Sto → R PV} {g : Gs} {st : Sto} {H : Hp} {R : V → Hp → Prop} {p : PV → Sto → Prop} (S : Sim K g st H) (h : RP (fa g.e st) p)
    (k : ∀ x s1 g1 H1 V1, p x s1 → Nx g g1 H H1 → Sim K g1 s1 H1 → Rep K g1 g.B H1 V1 x → R V1 H1) : tEv K fa g.s H R :=
  ⟨g, st, rfl, S, h.imp fun x s1 h g1 H1 V1 n1 S1 r1 => k x s1 g1 H1 V1 h n1 S1 r1⟩
theorem asB_eq {y : PV} {k : Bool} (h : asB y = some k) : y = .d (.bool k) := by
  unfold asB at h
  split at h
  · cases h; rfl
  · cases h
theorem Rep.bl_ {g : Gs} {Bo : Addr → Prop} {H : Hp} {v : V} {k : Bool} (h : Rep K g Bo H v (.d (.bool k))) : v = .bl k := by
  have h : RD K g.Pr H v (.bool k) := h
  cases h; rfl
theorem Rep.int_ {g : Gs} {Bo : Addr → Prop} {H : Hp} {v : V} {k : Int} (h : Rep K g Bo H v (.d (.int k))) : v = .int k := by
  have h : RD K g.Pr H v (.int k) := h
  cases h; rfl
theorem Rep.bl {g : Gs} {Bo : Addr → Prop} {H : Hp} {k : Bool} : Rep K g Bo H (.bl k) (.d (.bool k)) := show RD _ _ _ _ _ from .bl k
def tAndR (fa fb : Envr → Sto → R PV) (e : Envr) (st : Sto) : R PV := (fa e st).bind fun x s1 => match x with
  | .d (.bool true) => (fb e s1).bind fun y s2 => R.opt ((asB y).map fun k => .d (.bool k)) s2
  | .d (.bool false) => .ok (.d (.bool false)) s1
  | _ => .bad
def tOrR (fa fb : Envr → Sto → R PV) (e : Envr) (st : Sto) : R PV := (fa e st).bind fun x s1 => match x with
  | .d (.bool false) => (fb e s1).bind fun y s2 => R.opt ((asB y).map fun k => .d (.bool k)) s2
  | .d (.bool true) => .ok (.d (.bool true)) s1
  | _ => .bad
theorem and_v {fa fb : Envr → Sto → R PV} {σ : L2.St} {H : Hp} {Q : VK} (h : tEv K (tAndR fa fb) σ H Q) : tAndV (tEv K fa) (tEv K fb) σ H Q := by
  obtain ⟨g, st, e, S, h⟩ := h
  subst e
  refine one S h.bind fun x s1 g1 H1 V1 h n1 S1 r1 => ?_
  split at h
  · cases r1.bl_
    refine ⟨true, rfl, ?_⟩
    rw [if_pos rfl, ← n1.s]
    refine one S1 (by rw [n1.e]; exact h.bind) fun y s2 g2 H2 V2 h n2 S2 r2 => ?_
    obtain ⟨v, hv, F⟩ := h.opt
    simp only [Option.map_eq_some_iff] at hv
    obtain ⟨k, hk, rfl⟩ := hv
    cases asB_eq hk
    cases r2.bl_
    exact F g2 H2 _ (n1.trans S1 n2) S2 .bl
  · cases r1.bl_
    refine ⟨false, rfl, ?_⟩
    rw [if_neg Bool.false_ne_true]
    exact h g1 H1 _ n1 S1 .bl
  · exact h.elim
theorem or_v {fa fb : Envr → Sto → R PV} {σ : L2.St} {H : Hp} {Q : VK} (h : tEv K (tOrR fa fb) σ H Q) : tOrV (tEv K fa) (tEv K fb) σ H Q := by
  obtain ⟨g, st, e, S, h⟩ := h
  subst e
  refine one S h.bind fun x s1 g1 H1 V1 h n1 S1 r1 => ?_
  split at h
  · cases r1.bl_
    refine ⟨false, rfl, ?_⟩
    rw [if_neg Bool.false_ne_true, ← n1.s]
    refine one S1 (by rw [n1.e]; exact h.bind) fun y s2 g2 H2 V2 h n2 S2 r2 => ?_
    obtain ⟨v, hv, F⟩ := h.opt
    simp only [Option.map_eq_some_iff] at hv
    obtain ⟨k, hk, rfl⟩ := hv
    cases asB_eq hk
    cases r2.bl_
    exact F g2 H2 _ (n1.trans S1 n2) S2 .bl
  · cases r1.bl_
    refine ⟨true, rfl, ?_⟩
    rw [if_pos rfl]
    exact h g1 H1 _ n1 S1 .bl
  · exact h.elim
theorem and_t {fa fb : Envr → Sto → R PV} {σ : L2.St} {H : Hp} {Q : Bool → Hp → Prop} (h : tTe K (tAndR fa fb) σ H Q) : tAnd (tTe K fa) (tTe K fb) σ H Q := by
  obtain ⟨g, st, e, S, h⟩ := h
  subst e
  refine ⟨g, st, rfl, S, h.bind.imp fun x s1 h => ?_⟩
  split at h
  · refine ⟨true, rfl, fun g1 H1 n1 S1 => ?_⟩
    try dsimp only
    rw [if_pos rfl]
    refine ⟨g1, s1, n1.s, S1, ?_⟩
    rw [n1.e]
    refine h.bind.imp fun y s2 h => ?_
    obtain ⟨v, hv, k', ek, F⟩ := h.opt
    simp only [Option.map_eq_some_iff] at hv
    obtain ⟨k, hk, rfl⟩ := hv
    cases asB_eq hk
    cases ek
    exact ⟨_, rfl, fun g2 H2 n2 S2 => F g2 H2 (n1.trans S1 n2) S2⟩
  · obtain ⟨k', ek, F⟩ := h
    cases ek
    refine ⟨false, rfl, fun g1 H1 n1 S1 => ?_⟩
    try dsimp only
    rw [if_neg Bool.false_ne_true]
    exact F g1 H1 n1 S1
  · exact h.elim
theorem or_t {fa fb : Envr → Sto → R PV} {σ : L2.St} {H : Hp} {Q : Bool → Hp → Prop} (h : tTe K (tOrR fa fb) σ H Q) : tOr (tTe K fa) (tTe K fb) σ H Q := by
  obtain ⟨g, st, e, S, h⟩ := h
  subst e
  refine ⟨g, st, rfl, S, h.bind.imp fun x s1 h => ?_⟩
  split at h
  · refine ⟨false, rfl, fun g1 H1 n1 S1 => ?_⟩
    try dsimp only
    rw [if_neg Bool.false_ne_true]
    refine ⟨g1, s1, n1.s, S1, ?_⟩
    rw [n1.e]
    refine h.bind.imp fun y s2 h => ?_
    obtain ⟨v, hv, k', ek, F⟩ := h.opt
    simp only [Option.map_eq_some_iff] at hv
    obtain ⟨k, hk, rfl⟩ := hv
    cases asB_eq hk
    cases ek
    exact ⟨_, rfl, fun g2 H2 n2 S2 => F g2 H2 (n1.trans S1 n2) S2⟩
  · obtain ⟨k', ek, F⟩ := h
    cases ek
    refine ⟨true, rfl, fun g1 H1 n1 S1 => ?_⟩
    try dsimp only
    rw [if_pos rfl]
    exact F g1 H1 n1 S1
  · exact h.elim
theorem RT.weak {g : Gs} {B : Addr → Prop} {H : Hp} {v : V} {d : PyData} (hb : ∀ a, B a → g.B a) (h : RT K g.Pr H v d) : RT K (g.wB B).Pr H v d := h.keep fun _ q => Gs.wB_pr hb q
theorem Fin.of {g g2 : Gs} {st st2 : Sto} {H H2 : Hp} {v : PV} {Q : VK} (F : Fin K g st H v Q) (n : Nx g g2 H H2) (S : Sim K g2 st2 H2) : Fin K (g2.wB g.B) st H2 v Q := F.at n S
/-- a call of one of the defs -/
theorem snd_call {g : Gs} {st : Sto} {H : Hp} {n m : Nat} {ws : List V} {xs : List PV} {Q : VK} (S : Sim K g st H) (hp : Paired (RepK K g H) ws xs) (hl : ws.length = m) (h : RP (c n xs st) fun v st' => Fin K g st' H v Q) (E : XK) : spF K c n m ws H Q E := by
  refine ⟨hl, g.cal H, st, xs, rfl, rfl, S.cal, Paired.imp (fun _ _ q => RepK.pr (ga := g) (gb := g.cal H) rfl (fun _ q => Gs.cal_pr.mp q) q) hp, h.imp fun v st' F g' H' w n S' hB r => ?_⟩
  obtain ⟨k1, k2, k3⟩ := S.after n S' hB
  refine F _ H' w k1 k2 ?_
  have r := RepK.pr (ga := g') (gb := { g with r := g'.r }) rfl (fun a q => (k3 a).mp q) r
  cases v with
  | d x => exact r
  | ref k => exact r
  | ty k => exact r
  | fre _ => exact r.elim
  | bor _ => exact r.elim
  | fn _ => exact r.elim
theorem Fin.same {g g2 : Gs} {st st2 : Sto} {H H2 : Hp} {v : PV} {Q : VK} (F : Fin K g st H v Q) (n : Nx g g2 H H2) (S : Sim K g2 st2 H2) (hB : g2.B = g.B) : Fin K g2 st H2 v Q := fun g' H' w n' S' r =>
  F g' H' w (n.trans S n') S' (by rw [← hB]; exact r)
theorem Nx.put {g g' : Gs} {st' : Sto} {H H' : Hp} {p : Addr} {o : HO} (n : Nx g g' H H') (S' : Sim K g' st' H') (hp : H' p = none) : Nx g { g' with r := g'.r ++ [p] } H (upd H' p o) :=
  ⟨n.e, n.s, n.h0, n.r0, n.B, n.bn, n.pre.trans (List.prefix_append _ _), fun a h => by
    rcases List.mem_append.mp h with h | h
    · exact n.rn a h
    · rw [List.mem_singleton.mp h]; exact .inr (n.trk S' hp), (n.laid S' hp).fr⟩
/-- a new object, in the store -/
theorem Fin.putO {g g1 : Gs} {st s1 : Sto} {H H1 : Hp} {u : HO} {o : Ob} {Q : VK} (F : Fin K g (s1 ++ [o]) H (.ref s1.length) Q) (n : Nx g g1 H H1) (S1 : Sim K g1 s1 H1) (r : ∀ p, H1 p = none → ObAt K (g1.aB p) (upd H1 p u) p o) :
    ∀ p, H1 p = none → Q (.ref p) (upd H1 p u) := fun p hp => by
  have oav := r p hp
  have ob : ObAt K g1 (upd H1 p u) p o := ObAt.pr (ga := g1.aB p) (gb := g1) rfl (fun a q => by
    rcases q with q | q | q
    · exact .inl (.inl q)
    · exact .inr (.inl q)
    · exact .inr (.inr q)) oav
  have hr : p ∉ g1.r := fun q => S1.prt (.inr (.inl q)) hp
  refine F _ _ _ (n.put S1 hp) (Sim.put (S1.laid hp) (fun q => S1.bt p q hp) hr (fun ⟨i, x, q1, q2⟩ => S1.prt (.inr (.inr ⟨i, x, q1, q2⟩)) hp) (S1.h0 hp) (by rw [upd_same]; exact fun q => nomatch q) ob (S1.fresh hp) oav) ⟨p, rfl, ?_⟩
  show (g1.r ++ [p])[s1.length]? = some p
  rw [S1.slen, List.getElem?_append_right (Nat.le_refl _)]
  simp
/-- a new list of values -/
theorem Fin.put {g g1 : Gs} {st s1 : Sto} {H H1 : Hp} {ws : List V} {xs : List PV} {Q : VK} (F : Fin K g (s1 ++ [.lst xs]) H (.ref s1.length) Q) (n : Nx g g1 H H1) (S1 : Sim K g1 s1 H1) (r : Paired (RepK K g1 H1) ws xs) :
    ∀ p, H1 p = none → Q (.ref p) (upd H1 p (.lst ws)) := Fin.putO (st := st) F n S1 fun p hp => ⟨ws, upd_same, Paired.imp (fun _ _ q => RepK.fresh hp q) r⟩
theorem Sim.tabAt {g : Gs} {st : Sto} {H : Hp} {n P : Nat} {q : Str} (S : Sim K g st H) (hn : st[n]? = some (.tab P q)) : ∃ _ : g.r[n]? = some P, P ∈ g.r ∧ TabP g.Pr H P q := by
  obtain ⟨a, h1, h2, h3⟩ := S.sto n _ hn
  subst h2
  exact ⟨h1, List.mem_of_getElem? h1, h3⟩
/-- a lambda is made -/
theorem Sim.lam {g : Gs} {st : Sto} {H H2 : Hp} {n P : Nat} {q : Str} (S : Sim K g st H) (hn : st[n]? = some (.tab P q)) (e : ∀ b o, b ≠ P → H b = some o → H2 b = some o) (t : TabP g.Pr H2 P q) : Sim K g st H2 ∧ Nx g g H H2 := by
  obtain ⟨hr, hm, t0⟩ := S.tabAt hn
  have kp : Keep g.Pr H g.Pr H2 := keep_tab t0 (.inr (.inl hm)) e
  have rk : ∀ {w : V} {y : PV}, RepK K g H w y → RepK K g H2 w y := fun {w y} h => by
    cases y with
    | d y => exact RD.keep kp h
    | _ => exact h
  refine ⟨?_, ?_⟩
  · exact {
      len := S.len
      val := fun i x h => let ⟨v, h1, h2⟩ := S.val i x h; ⟨v, h1, rk h2⟩
      own := fun i x q => by
        obtain ⟨b, h1, h2, h3, h4, h5⟩ := S.own i x q
        exact ⟨b, h1, h2.keep (fun u q => e _ _ (fun z => h4 (by rw [z]; exact hm)) q) kp, h3, h4, h5⟩
      inj := S.inj
      slen := S.slen
      sto := fun k o q => by
        by_cases hk : n = k
        · subst hk
          rw [hn] at q
          cases q
          exact ⟨P, hr, rfl, t⟩
        · obtain ⟨b, h1, h2⟩ := S.sto k o q
          have hne : b ≠ P := fun z => hk (by
            rw [z] at h1
            have e1 := List.getElem?_eq_some_iff.mp hr
            have e2 := List.getElem?_eq_some_iff.mp h1
            exact (List.getElem_inj S.nd).mp (e1.2.trans e2.2.symm))
          exact ⟨b, h1, h2.go (fun u q => e _ _ hne q) kp fun _ _ q => rk q⟩
      rB := S.rB
      nd := S.nd
      bt := fun b q z => by
        cases hb : H b with
        | none => exact S.bt b q hb
        | some o => rw [e b o (fun y => S.rB P hm (by rw [← y]; exact q)) hb] at z; cases z
      pre := S.pre
      new := S.new
      fr := fun b o q hr0 => by
        refine e b o (fun z => ?_) (S.fr b o q hr0)
        rcases S.new P hm with y | y
        · exact hr0 (by rw [z]; exact y)
        · rw [z, y] at q; cases q }
  · exact ⟨rfl, rfl, rfl, rfl, fun _ h => h, fun _ h => .inl h, List.prefix_refl _, fun _ h => .inl h, fun b o q hr0 => e b o (fun z => hr0 (by rw [z]; exact hm)) q⟩
theorem rds_paired {g : Gs} {H : Hp} : ∀ {vs : List V} {ds : List PyData}, RDs K g.Pr H vs ds → Paired (RepK K g H) vs (ds.map .d)
  | _, _, .nil => .nil
  | _, _, .cons h r => .cons h (rds_paired r)
/-- what is one's own, into the store -/
theorem Fin.boxO {g g1 : Gs} {st s1 : Sto} {H H1 : Hp} {V1 : V} {x : PyData} {o : Ob} {Q : VK} (F : Fin K g (s1 ++ [o]) H (.ref s1.length) Q) (n : Nx g g1 H H1) (S1 : Sim K g1 s1 H1) (r : Rep K g1 g.B H1 V1 (.fre x))
    (hO : ∀ (g' : Gs) a, OwnAt K g' H1 a x → ObAt K g' H1 a o) : Q V1 H1 := by
  obtain ⟨a, rfl, ow, hb, hn, h0⟩ := r
  have S2 := S1.weak n.B
  have av : Sim K ((g1.wB g.B).aB a) s1 H1 := S1.weak (B := fun b => g.B b ∨ b = a) fun b q => q.elim (n.B b) (by rintro rfl; exact hb)
  have oav : ObAt K ((g1.wB g.B).aB a) H1 a o := hO _ _ (ow.keep (fun _ q => q) (.anti fun b q => by
    rcases q with (q | q) | q | q
    · exact .inl (n.B b q)
    · rw [q]; exact .inl hb
    · exact .inr (.inl q)
    · exact .inr (.inr q)))
  have ob : ObAt K (g1.wB g.B) H1 a o := ObAt.pr (ga := (g1.wB g.B).aB a) (gb := g1.wB g.B) rfl (fun b q => by
    rcases q with q | q | q
    · exact .inl (.inl q)
    · exact .inr (.inl q)
    · exact .inr (.inr q)) oav
  have hr : a ∉ g1.r := fun q => S1.rB a q hb
  have ha : H a = none := (n.bn a hb).elim (fun q => absurd q hn) id
  refine F { g1.wB g.B with r := g1.r ++ [a] } _ _ ⟨n.e, n.s, n.h0, n.r0, fun _ q => q, fun _ q => .inl q, n.pre.trans (List.prefix_append _ _), fun b q => by
      rcases List.mem_append.mp q with q | q
      · exact n.rn b q
      · rw [List.mem_singleton.mp q]; exact .inr ha, n.fr⟩ (Sim.put S2 hn hr (fun ⟨i, x, q1, q2⟩ => by
        obtain ⟨b, h1, _, h3, _⟩ := S1.own i x q1
        have q2 : g1.s[i]? = some (some (.ref a)) := q2
        rw [h1] at q2; cases q2
        exact h3 hb) h0 ow.ne ob av oav) ⟨a, rfl, ?_⟩
  show (g1.r ++ [a])[s1.length]? = some a
  rw [S1.slen, List.getElem?_append_right (Nat.le_refl _)]
  simp
theorem Fin.box {g g1 : Gs} {st s1 : Sto} {H H1 : Hp} {V1 : V} {xs : List PyData} {Q : VK} (F : Fin K g (s1 ++ [.lst (xs.map .d)]) H (.ref s1.length) Q) (n : Nx g g1 H H1) (S1 : Sim K g1 s1 H1) (r : Rep K g1 g.B H1 V1 (.fre (.list xs))) :
    Q V1 H1 := Fin.boxO (st := st) F n S1 r fun g' a ⟨vs, o1, o2⟩ => ⟨vs, o1, rds_paired (g := g') o2⟩
theorem Fin.boxD {g g1 : Gs} {st s1 : Sto} {H H1 : Hp} {V1 : V} {pd : Tb} {Q : VK} (F : Fin K g (s1 ++ [.dct pd]) H (.ref s1.length) Q) (n : Nx g g1 H H1) (S1 : Sim K g1 s1 H1) (r : Rep K g1 g.B H1 V1 (.fre (.dict pd))) :
    Q V1 H1 := Fin.boxO (st := st) F n S1 r fun g' a ⟨u, o1, o2⟩ => ⟨u, o1, o2⟩
theorem smallI_eq {i : Int} (h : smallI i = true) : -(2 ^ 62) ≤ i ∧ i < 2 ^ 62 := by
  have h := of_decide_eq_true h
  omega
theorem rgV_rds {pr : Addr → Prop} {H : Hp} (a b : Int) : RDs K pr H (rgV a b) (rgL a b) := by
  unfold rgV rgL
  generalize (b - a).toNat = n
  have : ∀ l : List Nat, RDs K pr H (l.map fun i => V.int (a + (i : Nat))) (l.map fun i => PyData.int (a + (i : Nat))) := by
    intro l
    induction l with
    | nil => exact .nil
    | cons x l ih => exact .cons (.int _) ih
  exact this _
end
section
variable {T : Tab} {c : Nat → List PV → Sto → R PV} {X : Cx} {K : PySem.W.Frag}
theorem nm_ok (ok : Ok T c X) {i : Nat} {x : Str} {pos : Pos} (h1 : X.N[i]? = some x) (h2 : X.env.scope.names.lookup x = some .local ∨ (X.env.scope.names.lookup x = some .cell ∧ X.fn x = true)) : PG X (.Name x pos) (gName i) :=
  pg_name ok.nd h1 (h2.imp id And.left) (h2.elim .inr fun q => .inl q.2)
theorem ckNs_pgs (ok : Ok T c X) : ∀ {is : List Nat} {es : List Expr}, ckG.ckNs X.N X.env.scope X.fn is es = true → PGs X es (gNs is) ∧ (assignEach es X.env).length = is.length ∧ (assignEach es X.env).findIdx? (·.1) = none
  | [], [], _ => ⟨pgs_nil, rfl, rfl⟩
  | [], _ :: _, h => by cases h
  | _ :: _, [], h => by cases h
  | i :: is, e :: es, h => by
    cases e with
    | Name x p =>
      unfold ckG.ckNs at h
      simp only [Bool.and_eq_true, Bool.or_eq_true, decide_eq_true_eq] at h
      obtain ⟨⟨h1, h2⟩, h3⟩ := h
      obtain ⟨q1, q2, q3⟩ := ckNs_pgs ok h3
      refine ⟨pgs_cons (nm_ok ok h1 h2) q1, ?_, ?_⟩
      · show (assignEach es X.env).length + 1 = _
        rw [q2]; rfl
      · show List.findIdx? (·.1) ((false, assign (.Name x p) X.env) :: assignEach es X.env) = none
        rw [List.findIdx?_cons, q3]; rfl
    | _ => cases h
theorem ckG_pg (ok : Ok T c X) {gt : G} {tg : Expr} (h : ckG X.N X.env.scope X.fn gt tg = true) : PG X tg (gT X.K gt) := by
  unfold ckG at h
  split at h
  · simp only [Bool.and_eq_true, Bool.or_eq_true, decide_eq_true_eq] at h
    exact nm_ok ok h.1 h.2
  · obtain ⟨q1, q2, q3⟩ := ckNs_pgs ok h
    exact pg_tup ok.calm q1 q2 q3
  · cases h
theorem ckG_tup {N : List Str} {sc : Scope} {fn : Str → Bool} {gt : G} {tg : Expr} (h : ckG N sc fn gt tg = true) (ht : isTup gt = true) : ∃ es k pos, tg = .Tuple es k pos := by
  cases gt with
  | nm i => cases ht
  | tp is =>
    cases tg with
    | Tuple es k pos => exact ⟨_, _, _, rfl⟩
    | _ => cases h
end
theorem SE.leaf {T : Tab} {c : Nat → List PV → Sto → R PV} {m : E} {X : Cx} {e : Expr} (pe : PE X e (tEv X.K (evE c m))) (he : ∀ whole, isTrue e X.env whole = (do let v ← whole; standAt e.pos; holding [v] (truthy v))) (hb : ∀ op es pos, e ≠ .BoolOp op es pos) : SE c m X e :=
  ⟨pe, fun _ => leafT pe he, fun op es pos q => absurd q (hb op es pos)⟩
theorem SE.plain {c : Nat → List PV → Sto → R PV} {m : E} {X : Cx} {e : Expr} (pe : PE X e (tEv X.K (evE c m))) (ht : tst m = false) : SE c m X e :=
  ⟨pe, fun q => (by rw [ht] at q; cases q), fun op es pos _ q => (by rw [ht] at q; cases q)⟩
set_option maxHeartbeats 2000000
mutual
theorem sndE {T : Tab} {c : Nat → List PV → Sto → R PV} : ∀ (m : E) {X : Cx} {e : Expr}, Ok T c X → ckE T X.N X.env.scope m e = true → SE c m X e
  | .var i, X, e, ok, h => by
    rw [ckE.eq_def] at h
    dsimp only at h
    split at h
    · rename_i x _
      rw [Bool.and_eq_true, decide_eq_true_eq] at h
      obtain ⟨v1, v2, v3⟩ := vis_spec h.2
      refine SE.leaf (T := T) ((pe_var h.1 v1 v2 v3).imp fun σ H Q ⟨g, st, e, S, h⟩ => ?_) (fun _ => rfl) (fun _ _ _ q => nomatch q)
      · subst e
        rw [evE] at h
        split at h
        · rename_i y hy
          obtain ⟨v, q1, q2⟩ := S.val i y hy
          refine ⟨v, q1, h g H v Nx.refl S ?_⟩
          cases y with
          | d y => exact q2
          | ref n => exact q2
          | ty n => exact q2
          | fre _ => exact q2.elim
          | bor _ => exact q2.elim
          | fn _ => exact q2.elim
        · rename_i y hy
          obtain ⟨a, q1, _⟩ := S.own i y hy
          exact ⟨.ref a, q1, h g H _ Nx.refl S ⟨i, a, rfl, hy, q1⟩⟩
        · exact h.elim
    · cases h
  | .lit d, X, e, ok, h => by
    have fin : ∀ {v : V} {x : PyData}, (∀ pr H, RD X.K pr H v x) → ∀ σ H Q, tEv X.K (fun _ st => .ok (.d x) st) σ H Q → tC v σ H Q := fun {v x} hx σ H Q ⟨g, st, e, S, h⟩ => h g H v Nx.refl S (hx _ _)
    rw [ckE.eq_def] at h
    dsimp only at h
    split at h
    · rw [decide_eq_true_eq] at h
      subst h
      exact SE.leaf (T := T) (pe_int.imp (fin fun _ _ => .int _)) (fun _ => rfl) (fun _ _ _ q => nomatch q)
    · rw [beq_iff_eq] at h
      subst h
      exact SE.leaf (T := T) (pe_bl.imp (fin fun _ _ => .bl _)) (fun _ => rfl) (fun _ _ _ q => nomatch q)
    · exact SE.leaf (T := T) (pe_non.imp (fin fun _ _ => .non)) (fun _ => rfl) (fun _ _ _ q => nomatch q)
    · rw [decide_eq_true_eq] at h
      subst h
      exact SE.leaf (T := T) (pe_str.imp (fin fun _ _ => .str _)) (fun _ => rfl) (fun _ _ _ q => nomatch q)
    · cases h
  | .con x d, X, e, ok, h => by
    rw [ckE.eq_def] at h
    dsimp only at h
    split at h
    · rename_i y _
      simp only [Bool.and_eq_true, decide_eq_true_eq, List.any_eq_true] at h
      obtain ⟨⟨rfl, hg⟩, ⟨p1, p2⟩, hm, rfl, hd⟩ := h
      obtain ⟨g1, g2, g3⟩ := gl_spec hg
      have ed := sameD_eq hd
      subst ed
      obtain ⟨u, v, m1, m2, m3⟩ := ok.con _ _ hm
      exact SE.leaf (T := T) ((pe_glob g1 m1 m2 g2).imp fun σ H Q ⟨g, st, e, S, h⟩ => h g H v Nx.refl S (m3 _ _)) (fun _ => rfl) (fun _ _ _ q => nomatch q)
    · cases h
  | .ty x n, X, e, ok, h => by
    rw [ckE.eq_def] at h
    dsimp only at h
    split at h
    · rename_i y _
      simp only [Bool.and_eq_true, decide_eq_true_eq] at h
      obtain ⟨⟨⟨rfl, hg⟩, hb⟩, ht⟩ := h
      obtain ⟨g1, g2, g3⟩ := gl_spec hg
      exact SE.plain ((pe_bltn g1 (ok.blt _ hb) (tyOk_boot ht) (v := .ty n) rfl g3 g2).imp fun σ H Q ⟨g, st, e, S, h⟩ => h g H (.ty n) Nx.refl S rfl) rfl
    · cases h
  | .op o a b, X, e, ok, h => by
    rw [ckE.eq_def] at h
    dsimp only at h
    split at h
    · simp only [Bool.and_eq_true] at h
      obtain ⟨⟨ho, ha⟩, hb⟩ := h
      cases opIs_eq ho
      refine SE.plain ((pe_op (op_all o) (sndE a ok ha).pe (sndE b ok hb).pe).imp fun σ H Q ⟨g, st, e, S, h⟩ => ?_) rfl
      subst e
      rw [evE] at h
      refine two S (h.bind.imp fun x s1 h => h.bind) fun x y s2 g2 H2 V1 V2 h n S2 r1 r2 => ?_
      obtain ⟨v, hv, F⟩ := h.opt
      simp only [Option.bind_eq_some_iff] at hv
      obtain ⟨u, e1, w, e2, hv⟩ := hv
      exact op_spec o hv (S2.weak n.B) ((r1.rt S2 e1).weak n.B) ((r2.rt S2 e2).weak n.B) (F.of n S2)
    · cases h
  | .neg a, X, e, ok, h => by
    rw [ckE.eq_def] at h
    dsimp only at h
    split at h
    · refine SE.plain ((pe_un un_neg (sndE a ok h).pe).imp fun σ H Q ⟨g, st, e, S, h⟩ => ?_) rfl
      rw [evE] at h
      refine ⟨g, st, e, S, h.bind.imp fun x s1 h g' H' w n S' r => ?_⟩
      split at h
      · have r : RD X.K g'.Pr H' w (.int _) := r
        cases r
        exact ⟨_, rfl, h g' H' _ n S' (.int _)⟩
      · exact h.elim
    · cases h
  | .cmp o a b, X, e, ok, h => by
    rw [ckE.eq_def] at h
    dsimp only at h
    split at h
    · simp only [Bool.and_eq_true, Bool.not_eq_true'] at h
      obtain ⟨⟨⟨ho, hm⟩, ha⟩, hb⟩ := h
      cases cmIs_eq ho
      have hu : X.A.units + 70 < cLine := by have := ok.hu; omega
      refine ⟨(pe_cmpR (cm_all hu o) (sndE a ok ha).pe (sndE b ok hb).pe hm).imp fun σ H Q ⟨g, st, e, S, h⟩ => ?_, fun _ => (pt_cmpR (cm_all hu o) (sndE a ok ha).pe (sndE b ok hb).pe hm).imp fun σ H Q ⟨g, st, e, S, h⟩ => ?_, fun _ _ _ q => nomatch q⟩
      · subst e
        rw [evE] at h
        refine two S (h.bind.imp fun x s1 h => h.bind) fun x y s2 g2 H2 V1 V2 h n S2 r1 r2 => ?_
        obtain ⟨v, hv, F⟩ := h.opt
        simp only [Option.bind_eq_some_iff, Option.map_eq_some_iff] at hv
        obtain ⟨u, e1, w, e2, k, hv, rfl⟩ := hv
        exact cmp_spec (st := s2) o hv (S2.weak n.B) ((r1.rt S2 e1).weak n.B) ((r2.rt S2 e2).weak n.B) ((F.of n S2).bl (S2.weak n.B))
      · subst e
        rw [evE] at h
        refine two S (h.bind.imp fun x s1 h => h.bind) fun x y s2 g2 H2 V1 V2 h n S2 r1 r2 => ?_
        obtain ⟨v, hv, F⟩ := h.opt
        simp only [Option.bind_eq_some_iff, Option.map_eq_some_iff] at hv
        obtain ⟨u, e1, w, e2, k, hv, rfl⟩ := hv
        obtain ⟨k', ek, F⟩ := F
        cases ek
        exact cmp_spec (st := s2) o hv (S2.weak n.B) ((r1.rt S2 e1).weak n.B) ((r2.rt S2 e2).weak n.B) ⟨_, rfl, F g2 H2 n S2⟩
    · cases h
  | .chn o o2 a b b2, X, e, ok, h => by
    rw [ckE.eq_def] at h
    dsimp only at h
    split at h
    · simp only [Bool.and_eq_true, Bool.not_eq_true'] at h
      obtain ⟨⟨⟨⟨⟨ho, ho2⟩, hm⟩, ha⟩, hb⟩, hb2⟩ := h
      cases cmIs_eq ho
      cases cmIs_eq ho2
      have hu : X.A.units + 70 < cLine := by have := ok.hu; omega
      have core : ∀ {g : Gs} {st : Sto} {H : Hp} {Q : Bool → Hp → Prop}, Sim X.K g st H → RP (evE c (.chn o o2 a b b2) g.e st) (fun v st' => ∃ k, v = .d (.bool k) ∧ ∀ g' H', Nx g g' H H' → Sim X.K g' st' H' → Q k H') →
          tChain (rCm X.K o) (rCm X.K o2) (tEv X.K (evE c a)) (tEv X.K (evE c b)) (tEv X.K (evE c b2)) g.s H (fun x H' => ∃ k, x = .bl k ∧ Q k H') := fun {g st H Q} S h => by
        rw [evE] at h
        refine two S (h.bind.imp fun x s1 h => h.bind) fun x y s2 g2 H2 V1 V2 h n S2 r1 r2 => ?_
        split at h
        · rename_i hv
          simp only [Option.bind_eq_some_iff] at hv
          obtain ⟨u, e1, w, e2, hv⟩ := hv
          refine cmp_spec (st := s2) o hv (S2.weak n.B) ((r1.rt S2 e1).weak n.B) ((r2.rt S2 e2).weak n.B) ⟨true, rfl, ?_⟩
          try dsimp only
          rw [if_pos rfl]
          refine ⟨g2, s2, n.s, S2, ?_⟩
          rw [n.e]
          refine h.bind.imp fun z s3 h g3 H3 V3 n3 S3 r3 => ?_
          obtain ⟨v, hv, k', ek, F⟩ := h.opt
          simp only [Option.bind_eq_some_iff, Option.map_eq_some_iff] at hv
          obtain ⟨u', e1', w', e2', k, hv, rfl⟩ := hv
          cases ek
          have nn := n.trans S2 n3
          exact cmp_spec (st := s3) o2 hv (S3.weak nn.B) (((r2.keep n3 S2).rt S3 e1').weak nn.B) ((r3.rt S3 e2').weak nn.B) ⟨_, rfl, F g3 H3 nn S3⟩
        · rename_i hv
          simp only [Option.bind_eq_some_iff] at hv
          obtain ⟨u, e1, w, e2, hv⟩ := hv
          obtain ⟨k', ek, F⟩ := h
          cases ek
          refine cmp_spec (st := s2) o hv (S2.weak n.B) ((r1.rt S2 e1).weak n.B) ((r2.rt S2 e2).weak n.B) ⟨false, rfl, ?_⟩
          try dsimp only
          rw [if_neg Bool.false_ne_true]
          exact ⟨_, rfl, F g2 H2 n S2⟩
        · exact h.elim
      refine ⟨(pe_chain (cm_all hu o) (cm_all hu o2) (sndE a ok ha).pe (sndE b ok hb).pe (sndE b2 ok hb2).pe hm).imp fun σ H Q ⟨g, st, e, S, h⟩ => ?_, fun _ => (pt_chain (cm_all hu o) (cm_all hu o2) (sndE a ok ha).pe (sndE b ok hb).pe (sndE b2 ok hb2).pe hm).imp fun σ H Q ⟨g, st, e, S, h⟩ => ?_, fun _ _ _ q => nomatch q⟩
      · subst e
        rw [evE] at h
        refine two S (h.bind.imp fun x s1 h => h.bind) fun x y s2 g2 H2 V1 V2 h n S2 r1 r2 => ?_
        split at h
        · rename_i hv
          simp only [Option.bind_eq_some_iff] at hv
          obtain ⟨u, e1, w, e2, hv⟩ := hv
          refine cmp_spec (st := s2) o hv (S2.weak n.B) ((r1.rt S2 e1).weak n.B) ((r2.rt S2 e2).weak n.B) ⟨true, rfl, ?_⟩
          try dsimp only
          rw [if_pos rfl]
          refine ⟨g2, s2, n.s, S2, ?_⟩
          rw [n.e]
          refine h.bind.imp fun z s3 h g3 H3 V3 n3 S3 r3 => ?_
          obtain ⟨v, hv, F⟩ := h.opt
          simp only [Option.bind_eq_some_iff, Option.map_eq_some_iff] at hv
          obtain ⟨u', e1', w', e2', k, hv, rfl⟩ := hv
          have nn := n.trans S2 n3
          exact cmp_spec (st := s3) o2 hv (S3.weak nn.B) (((r2.keep n3 S2).rt S3 e1').weak nn.B) ((r3.rt S3 e2').weak nn.B) ((F.of nn S3).bl (S3.weak nn.B))
        · rename_i hv
          simp only [Option.bind_eq_some_iff] at hv
          obtain ⟨u, e1, w, e2, hv⟩ := hv
          refine cmp_spec (st := s2) o hv (S2.weak n.B) ((r1.rt S2 e1).weak n.B) ((r2.rt S2 e2).weak n.B) ⟨false, rfl, ?_⟩
          try dsimp only
          rw [if_neg Bool.false_ne_true]
          exact (Fin.of h n S2).bl (S2.weak n.B)
        · exact h.elim
      · subst e
        exact core S h
    · cases h
  | .andd a b, X, e, ok, h => by
    have ee : evE c (.andd a b) = tAndR (evE c a) (evE c b) := rfl
    rw [ckE.eq_def] at h
    dsimp only at h
    split at h
    · rename_i ea eb rest pos
      have key : ∃ (ha : ckE T X.N X.env.scope a ea = true), PE X (.BoolOp .And (eb :: rest) pos) (tEv X.K (evE c b)) ∧ (tst b = true → PW X (.BoolOp .And (eb :: rest) pos) (tTe X.K (evE c b))) := by
        split at h
        · rw [Bool.and_eq_true] at h
          exact ⟨h.1, pe_one (sndE b ok h.2).pe, fun q => pw_and1 ((sndE b ok h.2).pt q)⟩
        · rw [Bool.and_eq_true] at h
          exact ⟨h.1, (sndE b ok h.2).pe, fun q => (sndE b ok h.2).pw _ _ _ rfl q⟩
      obtain ⟨ha, k1, k2⟩ := key
      have pw : tst (.andd a b) = true → PW X (.BoolOp .And (ea :: eb :: rest) pos) (tTe X.K (evE c (.andd a b))) := fun q => by
        rw [tst, Bool.and_eq_true] at q
        rw [ee]
        exact (pw_and ((sndE a ok ha).pt q.1) (k2 q.2)).imp fun _ _ _ h => and_t h
      refine ⟨?_, fun q => (pw q).pt, fun _ _ _ e' q => by cases e'; exact pw q⟩
      rw [ee]
      exact (pe_and (sndE a ok ha).pe k1).imp fun _ _ _ h => and_v h
    · cases h
  | .orr a b, X, e, ok, h => by
    have ee : evE c (.orr a b) = tOrR (evE c a) (evE c b) := rfl
    rw [ckE.eq_def] at h
    dsimp only at h
    split at h
    · rename_i ea eb rest pos
      have key : ∃ (ha : ckE T X.N X.env.scope a ea = true), PE X (.BoolOp .Or (eb :: rest) pos) (tEv X.K (evE c b)) ∧ (tst b = true → PW X (.BoolOp .Or (eb :: rest) pos) (tTe X.K (evE c b))) := by
        split at h
        · rw [Bool.and_eq_true] at h
          exact ⟨h.1, pe_one (sndE b ok h.2).pe, fun q => pw_or1 ((sndE b ok h.2).pt q)⟩
        · rw [Bool.and_eq_true] at h
          exact ⟨h.1, (sndE b ok h.2).pe, fun q => (sndE b ok h.2).pw _ _ _ rfl q⟩
      obtain ⟨ha, k1, k2⟩ := key
      have pw : tst (.orr a b) = true → PW X (.BoolOp .Or (ea :: eb :: rest) pos) (tTe X.K (evE c (.orr a b))) := fun q => by
        rw [tst, Bool.and_eq_true] at q
        rw [ee]
        exact (pw_or ((sndE a ok ha).pt q.1) (k2 q.2)).imp fun _ _ _ h => or_t h
      refine ⟨?_, fun q => (pw q).pt, fun _ _ _ e' q => by cases e'; exact pw q⟩
      rw [ee]
      exact (pe_or (sndE a ok ha).pe k1).imp fun _ _ _ h => or_v h
    · cases h
  | .nott a, X, e, ok, h => by
    rw [ckE.eq_def] at h
    dsimp only at h
    split at h
    · refine ⟨(pe_not (sndE a ok h).pe).imp fun σ H Q ⟨g, st, e, S, h⟩ => ?_, fun q => (pt_not ((sndE a ok h).pt q)).imp fun σ H Q ⟨g, st, e, S, h⟩ => ?_, fun _ _ _ q => nomatch q⟩
      · subst e
        rw [evE] at h
        refine one S h.bind fun x s1 g1 H1 V1 h n1 S1 r1 => ?_
        split at h
        · cases r1.bl_
          exact ⟨_, rfl, h g1 H1 _ n1 S1 .bl⟩
        · exact h.elim
      · rw [evE] at h
        refine ⟨g, st, e, S, h.bind.imp fun x s1 h => ?_⟩
        split at h
        · obtain ⟨k', ek, F⟩ := h
          cases ek
          exact ⟨_, rfl, F⟩
        · exact h.elim
    · cases h
  | .ife t a b, X, e, ok, h => by
    rw [ckE.eq_def] at h
    dsimp only at h
    split at h
    · simp only [Bool.and_eq_true] at h
      obtain ⟨⟨⟨ht, h1⟩, h2⟩, h3⟩ := h
      refine SE.plain ((pe_ifExp ((sndE t ok h1).pt ht) (sndE a ok h2).pe (sndE b ok h3).pe).imp fun σ H Q ⟨g, st, e, S, h⟩ => ?_) rfl
      subst e
      rw [evE] at h
      refine ⟨g, st, rfl, S, h.bind.imp fun x s1 h => ?_⟩
      split at h
      · refine ⟨true, rfl, fun g1 H1 n1 S1 => ?_⟩
        try dsimp only
        rw [if_pos rfl]
        refine ⟨g1, s1, n1.s, S1, ?_⟩
        rw [n1.e]
        exact h.imp fun v s2 F g2 H2 w n2 S2 r => F g2 H2 w (n1.trans S1 n2) S2 (r.mono n1.B)
      · refine ⟨false, rfl, fun g1 H1 n1 S1 => ?_⟩
        try dsimp only
        rw [if_neg Bool.false_ne_true]
        refine ⟨g1, s1, n1.s, S1, ?_⟩
        rw [n1.e]
        exact h.imp fun v s2 F g2 H2 w n2 S2 r => F g2 H2 w (n1.trans S1 n2) S2 (r.mono n1.B)
      · exact h.elim
    · cases h
  | .tup es, X, e, ok, h => by
    rw [ckE.eq_def] at h
    dsimp only at h
    split at h
    · refine SE.plain ((pe_tup (sndDs es ok h)).imp fun σ H Q ⟨g, st, e, S, h⟩ => ?_) rfl
      rw [evE] at h
      refine ⟨g, st, e, S, h.bind.imp fun xs s1 h g1 H1 ws n1 S1 hB r => ?_⟩
      split at h
      · rename_i hl
        exact ⟨by rw [r.length]; exact hl, (Fin.same h n1 S1 hB).tup S1 r⟩
      · exact h.elim
    · cases h
  | .lst es, X, e, ok, h => by
    rw [ckE.eq_def] at h
    dsimp only at h
    split at h
    · refine SE.plain ((pe_lst (sndDs es ok h)).imp fun σ H Q ⟨g, st, e, S, h⟩ => ?_) rfl
      rw [evE] at h
      refine ⟨g, st, e, S, h.bind.imp fun xs s1 h g1 H1 ws n1 S1 hB r => ?_⟩
      split at h
      · rename_i hl
        exact ⟨by rw [r.length]; exact hl, (Fin.same h n1 S1 hB).lst S1 r⟩
      · exact h.elim
    · cases h
  | .lstR es, X, e, ok, h => by
    rw [ckE.eq_def] at h
    dsimp only at h
    split at h
    · refine SE.plain ((pe_lst (sndRs es ok h)).imp fun σ H Q ⟨g, st, e, S, h⟩ => ?_) rfl
      rw [evE] at h
      refine ⟨g, st, e, S, h.bind.imp fun xs s1 h g1 H1 ws n1 S1 hB r => ?_⟩
      split at h
      · rename_i hl
        exact ⟨by rw [Paired.length r]; exact hl, Fin.put (st := st) h n1 S1 r⟩
      · exact h.elim
    · cases h
  | .box a, X, e, ok, h => by
    rw [ckE.eq_def] at h
    dsimp only at h
    refine SE.plain ((sndE a ok h).pe.imp fun σ H Q ⟨g, st, e, S, h⟩ => ?_) rfl
    subst e
    rw [evE] at h
    refine one S h.bind fun x s1 g1 H1 V1 h n1 S1 r1 => ?_
    split at h
    · exact Fin.box (st := st) h n1 S1 r1
    · exact Fin.boxD (st := st) h n1 S1 r1
    · exact h.elim
  | .ix a i, X, e, ok, h => by
    rw [ckE.eq_def] at h
    dsimp only at h
    split at h
    · simp only [Bool.and_eq_true] at h
      obtain ⟨⟨hs, ha⟩, hb⟩ := h
      have hu : X.A.units + 1 < cLine := by have := ok.hu; omega
      refine SE.leaf (T := T) ((pe_ix (IxR.or (IxR.or ix_list ix_tup) (ix_dict hu)) (sndE a ok ha).pe (sndE i ok hb).pe (plainIx hs)).imp fun σ H Q ⟨g, st, e, S, h⟩ => ?_) (fun _ => rfl) (fun _ _ _ q => nomatch q)
      subst e
      rw [evE] at h
      refine two S (h.bind.imp fun x s1 h => h.bind) fun x y s2 g2 H2 V1 V2 h n S2 r1 r2 => ?_
      split at h
      · cases r2.int_
        split at h
        · rename_i hs
          obtain ⟨p, hp, F⟩ := h.opt
          exact .inl (.inl (ixR_spec (g := g2.wB g.B) (Bo := g.B) (S2.weak n.B) r1 hs hp (F.of n S2)))
        · obtain ⟨v, hv, F⟩ := h.opt
          simp only [Option.bind_eq_some_iff, Option.map_eq_some_iff] at hv
          obtain ⟨u, e1, w, e2, z, hv, rfl⟩ := hv
          cases e2
          exact ix_spec hv (S2.weak n.B) ((r1.rt S2 e1).weak n.B) (show RT X.K _ H2 (.int _) (.int _) from RD.int _) (F.of n S2)
      · obtain ⟨v, hv, F⟩ := h.opt
        simp only [Option.bind_eq_some_iff, Option.map_eq_some_iff] at hv
        obtain ⟨u, e1, w, e2, z, hv, rfl⟩ := hv
        exact ix_spec hv (S2.weak n.B) ((r1.rt S2 e1).weak n.B) ((r2.rt S2 e2).weak n.B) (F.of n S2)
    · cases h
  | .sl a lo hi, X, e, ok, h => by
    rw [ckE.eq_def] at h
    dsimp only at h
    split at h
    · simp only [Bool.and_eq_true] at h
      obtain ⟨⟨ha, hl⟩, hh⟩ := h
      refine SE.plain ((pe_slice (SlR.or sl_list sl_tupA) (sndE a ok ha).pe (sndP lo ok hl) (sndP hi ok hh)).imp fun σ H Q ⟨g, st, e, S, h⟩ => ?_) rfl
      subst e
      rw [evE] at h
      refine one S h.bind fun x s1 g1 H1 V1 h n1 S1 r1 => ?_
      refine ⟨g1, s1, n1.s, S1, ?_⟩
      rw [n1.e]
      refine h.bind.imp fun i s2 h g2 H2 n2 S2 => ?_
      refine ⟨g2, s2, n2.s.trans n1.s, S2, ?_⟩
      rw [n2.e, n1.e]
      refine h.bind.imp fun j s3 h g3 H3 n3 S3 => ?_
      obtain ⟨v, hv, F⟩ := h.opt
      simp only [Option.bind_eq_some_iff] at hv
      obtain ⟨u, e1, hv⟩ := hv
      have nn := (n1.trans S1 n2).trans S2 n3
      exact sl_spec hv (S3.weak nn.B) ((((r1.keep n2 S1).keep n3 S2).rt S3 e1).weak nn.B) (F.of nn S3)
    · cases h
  | .rev a, X, e, ok, h => by
    rw [ckE.eq_def] at h
    dsimp only at h
    split at h
    · simp only [Bool.and_eq_true, decide_eq_true_eq] at h
      obtain ⟨rfl, ha⟩ := h
      refine SE.plain ((pe_rev (sndE a ok ha).pe).imp fun σ H Q ⟨g, st, e, S, h⟩ => ?_) rfl
      subst e
      rw [evE] at h
      refine one S h.bind fun x s1 g1 H1 V1 h n1 S1 r1 => ?_
      split at h
      · rename_i hx
        obtain ⟨a, ws, rfl, q, r⟩ := RT.weak n1.B (r1.rt S1 hx)
        exact ⟨a, ws, rfl, .inl ⟨q, (Fin.of h n1 S1).lst (S1.weak n1.B) r.reverse⟩⟩
      · rename_i hx
        obtain ⟨a, ws, rfl, q, r⟩ := RT.weak n1.B (r1.rt S1 hx)
        exact ⟨a, ws, rfl, .inr ⟨q, (Fin.of h n1 S1).tup (S1.weak n1.B) r.reverse⟩⟩
      · exact h.elim
    · cases h
  | .call f es, X, e, ok, h => by
    rw [ckE.eq_def] at h
    dsimp only at h
    split at h
    · rename_i x p xs pos
      simp only [Bool.and_eq_true] at h
      obtain ⟨⟨hg, hf⟩, ha⟩ := h
      split at hf
      · rename_i y hy
        rw [decide_eq_true_eq] at hf
        obtain ⟨x', m⟩ := y
        have hf : x' = x := hf
        subst hf
        obtain ⟨g1, g2, g3⟩ := gl_spec hg
        obtain ⟨k, ff, fd, ps, m1, m2, m3, m4, m5⟩ := ok.fns _ _ _ hy
        have PAx := sndRs es ok ha
        have fin : ∀ σ H Q, tEv X.K (evE c (.call f es)) σ H Q → tCall (spF X.K c f m) [] E0 (tRs X.K (evRs c es)) σ H Q := fun σ H Q ⟨g, st, e, S, h⟩ => by
          rw [evE] at h
          refine ⟨g, st, e, S, h.bind.imp fun ds s1 h g1 H1 ws n1 S1 hB r => ?_⟩
          show spF X.K c f m (ws ++ []) H1 Q E0
          rw [List.append_nil]
          by_cases hl : ds.length = m
          · exact snd_call S1 r (by rw [Paired.length r]; exact hl) (h.imp fun v s2 F => Fin.same F n1 S1 hB) E0
          · rw [ok.ar _ _ _ hy ds s1 hl] at h
            exact h.elim
        refine SE.leaf (T := T) ?_ (fun _ => rfl) (fun _ _ _ q => nomatch q)
        cases xs with
        | nil =>
          have hes : es = .nil := by
            cases es with
            | nil => rfl
            | cons _ _ => rw [ckEs] at ha; cases ha
          subst hes
          refine (pe_call0 (E := E0) (dvs := []) m4 m5 g1 m1 m2 m3 .nil passL g2).imp fun σ H Q q => ?_
          obtain ⟨g, st, e, S, q⟩ := fin _ _ _ q
          exact q g H [] Nx.refl S rfl .nil
        | cons z zs => exact (pe_call (E := E0) (dvs := []) m4 m5 g1 m1 m2 m3 .nil passL PAx g2 (star1 (ckEs_star ha z List.mem_cons_self)) (starAny fun e he => ckEs_star ha e (List.mem_cons_of_mem _ he))).imp fin
      · cases hf
    · cases h
  | .bi b es, X, e, ok, h => by
    rw [ckE.eq_def] at h
    dsimp only at h
    split at h
    · rename_i x p xs pos
      simp only [Bool.and_eq_true, decide_eq_true_eq] at h
      obtain ⟨⟨⟨⟨rfl, hg⟩, hb⟩, ha⟩, hne⟩ := h
      obtain ⟨g1, g2, g3⟩ := gl_spec hg
      have hu : X.A.units + 70 < cLine := by have := ok.hu; omega
      have all := bi_all (X := X) ok.calm hu b
      have fin : ∀ σ H Q, tEv X.K (evE c (.bi b es)) σ H Q → tCB (rBi X.K b) (tAs X.K (evAs c es)) σ H Q := fun σ H Q ⟨g, st, e, S, h⟩ => by
        rw [evE] at h
        refine ⟨g, st, e, S, h.bind.imp fun ds s1 h g1 H1 ws n1 S1 r => ?_⟩
        obtain ⟨v, hv, F⟩ := h.opt
        exact bi_spec hv S1 r n1.B (F.of n1 S1)
      refine SE.leaf (T := T) ?_ (fun _ => rfl) (fun _ _ _ q => nomatch q)
      cases xs with
      | nil => cases hne
      | cons z zs =>
        have s1 := star1 (env := X.env) (es := zs) (ckEs_star ha z List.mem_cons_self)
        have s2 := starAny (env := X.env) (pos := pos) fun e he => ckEs_star ha e (List.mem_cons_of_mem _ he)
        have bo := boot_bi b
        unfold biVal at bo all
        cases hT : biT b with
        | some t =>
          rw [hT] at bo all
          exact (pe_callTy all g1 (ok.blt _ hb) bo (sndAs es ok ha) g3 g2 s1 s2).imp fin
        | none =>
          rw [hT] at bo all
          exact (pe_callB all g1 (ok.blt _ hb) bo (sndAs es ok ha) g3 g2 s1 s2).imp fin
    · cases h
  | .lrng tp a b, X, e, ok, h => by
    rw [ckE.eq_def] at h
    dsimp only at h
    split at h
    · rename_i x p y p2 xs pos2 pos
      simp only [Bool.and_eq_true, decide_eq_true_eq] at h
      obtain ⟨⟨⟨⟨⟨⟨hx, rfl⟩, hgx⟩, hgy⟩, hbx⟩, hby⟩, hxs⟩ := h
      obtain ⟨g1, g2, g3⟩ := gl_spec hgx
      obtain ⟨k1, k2, k3⟩ := gl_spec hgy
      have fin : ∀ {σ H Q}, tEv X.K (evE c (.lrng tp a b)) σ H Q → tRg2 (tEv X.K (evE c a)) (tEv X.K (evE c b)) σ H fun i j H1 => RgOk i j ∧ ∀ q, H1 q = none → Q (.ref q) (upd H1 q (cond tp (.tup (rgV i j)) (.lst (rgV i j)))) := fun {σ H Q} ⟨g, st, e, S, h⟩ => by
        subst e
        rw [evE] at h
        refine two S (h.bind.imp fun x s1 h => h.bind) fun x y s2 g2 H2 V1 V2 h n S2 r1 r2 => ?_
        split at h
        · cases r1.int_
          cases r2.int_
          split at h
          · rename_i i j hs
            simp only [Bool.and_eq_true, decide_eq_true_eq] at hs
            obtain ⟨⟨h1, h2⟩, h3⟩ := hs
            obtain ⟨q1, q2⟩ := smallI_eq h1
            obtain ⟨q3, q4⟩ := smallI_eq h2
            refine ⟨i, j, rfl, rfl, ⟨q1, q2, q3, q4, h3⟩, ?_⟩
            cases tp with
            | true => exact (Fin.of h n S2).tup (S2.weak n.B) (rgV_rds i j)
            | false => exact (Fin.of h n S2).lst (S2.weak n.B) (rgV_rds i j)
          · exact h.elim
        · exact h.elim
      have rg : ∃ te, PRg X (.Call (.Name "range" p2) xs [] pos2) te ∧ ∀ {σ H R}, tRg2 (tEv X.K (evE c a)) (tEv X.K (evE c b)) σ H R → te σ H R := by
        split at hxs
        · rename_i eb
          simp only [Bool.and_eq_true] at hxs
          obtain ⟨⟨ha, hs⟩, hb⟩ := hxs
          refine ⟨_, prg_1 k1 (ok.blt _ hby) (sndE b ok hb).pe (star1 hs), fun {σ H R} q => ?_⟩
          split at ha
          · obtain ⟨g, st, e, S, h⟩ := q
            have h : Fin X.K g st H (.d (.int 0)) _ := h
            have q := h g H (.int 0) Nx.refl S (show RD _ _ _ _ _ from .int 0)
            obtain ⟨g, st, e, S, h⟩ := q
            refine ⟨g, st, e, S, h.imp fun v s1 F g' H' w n S' r => ?_⟩
            obtain ⟨i, j, e1, e2, q⟩ := F g' H' w n S' r
            cases e1
            exact ⟨j, e2, q⟩
          · cases ha
        · rename_i ea eb
          simp only [Bool.and_eq_true] at hxs
          obtain ⟨⟨⟨hs1, hs2⟩, ha⟩, hb⟩ := hxs
          exact ⟨_, prg_2 k1 (ok.blt _ hby) (sndE a ok ha).pe (sndE b ok hb).pe (star1 hs1) (star1 hs2) (starAny (es := [eb]) fun e he => by rw [List.mem_singleton.mp he]; exact hs2), fun q => q⟩
        · cases hxs
      obtain ⟨te, p1, p2⟩ := rg
      cases tp with
      | true =>
        have hx : x = "tuple" := hx
        subst hx
        exact SE.plain ((pe_tupRg ok.calm g1 (ok.blt _ hbx) p1).imp fun σ H Q q => p2 (fin q)) rfl
      | false =>
        have hx : x = "list" := hx
        subst hx
        exact SE.plain ((pe_listRg ok.calm g1 (ok.blt _ hbx) p1).imp fun σ H Q q => p2 (fin q)) rfl
    · cases h
  | .lc own gt it ts y, X, e, ok, h => by
    rw [ckE.eq_def] at h
    dsimp only at h
    split at h
    · rename_i elt tg iter ifs scope pos
      simp only [Bool.and_eq_true] at h
      obtain ⟨⟨⟨⟨⟨⟨hbk, hin⟩, hg⟩, hns⟩, hi⟩, ht⟩, hy⟩ := h
      have hown : (own.map fun i => (X.N.getD i Str.empty, i)).map (·.2) = own := by rw [List.map_map]; exact List.map_id' own
      refine SE.plain ?_ rfl
      have R := pe_lc (pos := pos) ok.calm ok.nd (sndI it ok (fun q => ckG_tup hg q) (bo := true) hi) (blkOk_by hbk) (g := gT X.K gt) (tt := tTs X.K (evTs c ts)) (te := tEv X.K (evE c y))
        (fun s H C cl fp => ckG_pg (ok.blk s H scope _ fp) hg) (fun s H C cl fp => sndTs ts (ok.blk s H scope (compEnvC scope cl C X.env) fp) ht) (fun s H C cl fp => (sndE y (ok.blk s H scope (compEnvC scope cl C X.env) fp) hy).pe) (noSet hns)
      rw [hown] at R
      refine R.imp fun σ H Q ⟨g, st, e, S, h⟩ => ?_
      subst e
      rw [evE] at h
      split at h
      · rename_i hn
        exact lc_core S hn hin h
      · exact h.elim
    · cases h
  | .srtk b n P q k a, X, e, ok, h => by
    rw [ckE.eq_def] at h
    dsimp only at h
    split at h
    · rename_i y p ea kn params body scope lpos kpos pos
      simp only [Bool.and_eq_true, decide_eq_true_eq] at h
      obtain ⟨⟨⟨⟨⟨⟨⟨⟨rfl, rfl⟩, hg⟩, hb⟩, hl⟩, hst⟩, ha⟩, hS⟩, hcur⟩ := h
      split at hcur
      · rename_i pp hp
        obtain ⟨c0, P0, q0⟩ := pp
        rw [Bool.and_eq_true, decide_eq_true_eq, decide_eq_true_eq] at hcur
        obtain ⟨e1, e2⟩ := hcur
        have e1 : P0 = P := e1
        have e2 : q0 = q := e2
        subst e1 e2
        obtain ⟨c1, c2, c3⟩ := ok.cur _ _ _ hp
        refine SE.plain ((pe_srtk ok.calm (by have := ok.hu; omega) ok.dep (gl_spec hg).1 (ok.blt _ hb) (ok.blt _ hl) c2 c1 c3 hS (sndE a ok ha).pe (star1 hst)).imp fun σ H Q ⟨g, st, e, S, h⟩ => ?_) rfl
        subst e
        rw [evE] at h
        refine one S h.bind fun x s1 g1 H1 V1 h n1 S1 r1 => ?_
        split at h
        · rename_i htb
          obtain ⟨v, hv, F⟩ := h.opt
          rw [Option.bind_eq_some_iff] at hv
          obtain ⟨u, hx, hv⟩ := hv
          have S2 := S1.weak n1.B
          have rr := RT.weak n1.B (r1.rt S1 hx)
          unfold srtkD at hv
          rw [Option.bind_eq_some_iff] at hv
          obtain ⟨ds, hds, hv⟩ := hv
          have htb' : s1[n]? = some (.tab P0 q0) := by
            unfold isTb at htb
            split at htb
            · rename_i P' q' hq
              rw [Bool.and_eq_true, decide_eq_true_eq, decide_eq_true_eq] at htb
              rw [hq, htb.1, htb.2]
            · cases htb
          split at hv
          · rename_i hcond
            simp only [Bool.and_eq_true, decide_eq_true_eq] at hcond
            obtain ⟨⟨hk, hf⟩, hz⟩ := hcond
            obtain ⟨P1, hr, hT⟩ := S2.tabAt htb'
            refine ⟨(g1.wB g.B).Pr, ds, rr.seqL hds, hk, hf, hz, hT, fun a h => S2.prt h, .inr (.inl hr), fun H2 kp he hT2 => ?_⟩
            obtain ⟨S3, n3⟩ := S2.lam htb' he hT2
            have F2 := (F.of n1 S1).same n3 S3 rfl
            cases b with
            | sorted =>
              dsimp only at hv ⊢
              split at hv
              · rename_i hso
                cases hv
                refine ⟨hso, fun p ws hw hp => F2.lst S3 (by rw [sortK_eq]; exact hw) p hp⟩
              · cases hv
            | max =>
              cases ds with
              | nil => cases hv
              | cons d r => cases hv; exact fun w hw => F2.val S3 hw
            | min =>
              cases ds with
              | nil => cases hv
              | cons d r => cases hv; exact fun w hw => F2.val S3 hw
          · cases hv
        · exact h.elim
      · cases hcur
    · cases h
  | .sset a, X, e, ok, h => by
    rw [ckE.eq_def] at h
    dsimp only at h
    split at h
    · rename_i x p y p2 ea q pos
      simp only [Bool.and_eq_true, decide_eq_true_eq] at h
      obtain ⟨⟨⟨⟨⟨⟨⟨rfl, rfl⟩, hg⟩, hg2⟩, hb⟩, hb2⟩, hst⟩, ha⟩ := h
      refine SE.plain ((pe_sset ok.calm (by have := ok.hu; omega) (gl_spec hg).1 (ok.blt _ hb) (gl_spec hg2).1 (ok.blt _ hb2) (sndE a ok ha).pe (star1 hst)).imp fun σ H Q ⟨g, st, e, S, h⟩ => ?_) rfl
      subst e
      rw [evE] at h
      refine one S h.bind fun x s1 g1 H1 V1 h n1 S1 r1 => ?_
      obtain ⟨v, hv, F⟩ := h.opt
      rw [Option.bind_eq_some_iff] at hv
      obtain ⟨u, hx, hv⟩ := hv
      have S2 := S1.weak n1.B
      have rr := RT.weak n1.B (r1.rt S1 hx)
      unfold ssetD at hv
      split at hv
      · rw [Option.bind_eq_some_iff] at hv
        obtain ⟨ns, hns, hv⟩ := hv
        split at hv
        · rename_i hc
          cases hv
          rw [Bool.and_eq_true, decide_eq_true_eq, decide_eq_true_eq] at hc
          obtain ⟨b, ws, rfl, hq, r⟩ := rr
          rw [allInts_eq hns] at r F
          cases r.to_ints
          exact ⟨b, ns, rfl, .inl (.inl hq), hc.1, hc.2, (F.of n1 S1).lst S2 (RDs.ints ns)⟩
        · cases hv
      · cases hv
    · cases h
  | .lset a, X, e, ok, h => by
    rw [ckE.eq_def] at h
    dsimp only at h
    split at h
    · rename_i x p y p2 ea q pos
      simp only [Bool.and_eq_true, decide_eq_true_eq] at h
      obtain ⟨⟨⟨⟨⟨⟨⟨rfl, rfl⟩, hg⟩, hg2⟩, hb⟩, hb2⟩, hst⟩, ha⟩ := h
      refine SE.plain ((pe_lenSet ok.calm (by have := ok.hu; omega) (gl_spec hg).1 (ok.blt _ hb) (gl_spec hg2).1 (ok.blt _ hb2) (sndE a ok ha).pe (star1 hst)).imp fun σ H Q ⟨g, st, e, S, h⟩ => ?_) rfl
      subst e
      rw [evE] at h
      refine one S h.bind fun x s1 g1 H1 V1 h n1 S1 r1 => ?_
      obtain ⟨v, hv, F⟩ := h.opt
      rw [Option.bind_eq_some_iff] at hv
      obtain ⟨u, hx, hv⟩ := hv
      have S2 := S1.weak n1.B
      have rr := RT.weak n1.B (r1.rt S1 hx)
      unfold lsetD at hv
      split at hv
      · rw [Option.bind_eq_some_iff] at hv
        obtain ⟨ns, hns, hv⟩ := hv
        split at hv
        · rename_i hc
          cases hv
          rw [Bool.and_eq_true, decide_eq_true_eq, decide_eq_true_eq] at hc
          obtain ⟨b, ws, rfl, hq, r⟩ := rr
          rw [allInts_eq hns] at r
          cases r.to_ints
          exact .inl ⟨b, ns, rfl, hq, hc.1, hc.2, (F.of n1 S1).int S2⟩
        · cases hv
      · rw [Option.bind_eq_some_iff] at hv
        obtain ⟨kss, hks, hv⟩ := hv
        split at hv
        · rename_i hc
          cases hv
          rw [Bool.and_eq_true, decide_eq_true_eq, decide_eq_true_eq] at hc
          obtain ⟨b, ws, rfl, hq, r⟩ := rr
          obtain ⟨ks, rfl, e2, rfl⟩ := ints_tups r hks
          have hl : (ks.map (·.2)).length = ks.length := List.length_map _
          rw [hl] at hc F
          exact .inr ⟨b, ks, rfl, .inl (.inl hq), e2, hc.1, hc.2, (F.of n1 S1).int S2⟩
        · cases hv
      · cases hv
    · cases h
  | .dzip es, X, e, ok, h => by
    rw [ckE.eq_def] at h
    dsimp only at h
    split at h
    · rename_i x p y p2 ea eb q pos
      simp only [Bool.and_eq_true, decide_eq_true_eq] at h
      obtain ⟨⟨⟨⟨⟨⟨rfl, rfl⟩, hg⟩, hg2⟩, hb⟩, hb2⟩, ha⟩ := h
      have st1 := star1 (env := X.env) (es := [eb]) (ckEs_star ha ea List.mem_cons_self)
      have st2 := starAny (env := X.env) (pos := q) fun e he => ckEs_star ha e (List.mem_cons_of_mem _ he)
      refine SE.plain ((pe_dz ok.calm (gl_spec hg).1 (ok.blt _ hb) (gl_spec hg2).1 (ok.blt _ hb2) (sndDs es ok ha) st1 st2).imp fun σ H Q ⟨g, st, e, S, h⟩ => ?_) rfl
      rw [evE] at h
      refine ⟨g, st, e, S, h.bind.imp fun xs s1 h g1 H1 ws n1 S1 hB r => ?_⟩
      obtain ⟨v, hv, F⟩ := h.opt
      unfold dzV at hv
      split at hv
      · rename_i as bs
        obtain ⟨pd, hd, rfl⟩ := Option.map_eq_some_iff.mp hv
        cases r with
        | cons ra rr =>
          cases rr with
          | cons rb rr =>
            cases rr
            obtain ⟨a, us, rfl, ha1, rus⟩ := ra.isT
            obtain ⟨b, vs, rfl, hb1, rvs⟩ := rb.isT
            obtain ⟨ks, rfl, rk⟩ := dz_keys rus rvs .nil hd
            exact ⟨a, b, ks, vs, rfl, .inl (.inl ha1), .inl (.inl hb1), (Fin.same F n1 S1 hB).dct S1 rk⟩
      · cases hv
    · cases h
  | .dnew, X, e, ok, h => by
    rw [ckE.eq_def] at h
    dsimp only at h
    split at h
    · exact SE.plain (pe_dnewK.imp fun σ H Q ⟨g, st, e, S, h⟩ => Fin.dct (pd := []) h S .nil) rfl
    · cases h
  | .dsp tp k v, X, e, ok, h => by
    rw [ckE.eq_def] at h
    dsimp only at h
    split at h
    · simp only [Bool.and_eq_true] at h
      have hu : X.A.units + 1 < cLine := by have := ok.hu; omega
      refine SE.plain ((pe_dsp1T hu (sndE k ok h.1.2).pe (sndE v ok h.2).pe).imp fun σ H Q ⟨g, st, e, S, h'⟩ => ?_) rfl
      subst e
      rw [evE] at h'
      refine dsp_core S h.1.1 (h'.bind.imp fun x s1 h => h.bind.imp fun y s2 h => ?_)
      split at h
      · rename_i a b ha hb
        split at h
        · rename_i j hj
          split at h
          · rename_i ht
            exact ⟨a, b, j, ha, hb, hj, ht, h⟩
          · exact h.elim
        · exact h.elim
      · exact h.elim
    · cases h
  | .keep a, X, e, ok, h => by
    rw [ckE.eq_def] at h
    dsimp only at h
    refine SE.plain ((pe_keep (sndE a ok h).pe).imp fun σ H Q ⟨g, st, e, S, h⟩ => ?_) rfl
    subst e
    rw [evE] at h
    refine one S h.bind fun x s1 g1 H1 V1 h n1 S1 r1 => ?_
    split at h
    · exact Fin.lock h n1 S1 r1
    · exact h.elim
  | .get1 d k, X, e, ok, h => by
    rw [ckE.eq_def] at h
    dsimp only at h
    split at h
    · rename_i ed m apos ek cpos
      simp only [Bool.and_eq_true, decide_eq_true_eq] at h
      obtain ⟨⟨⟨⟨⟨hs, rfl⟩, hl⟩, hst⟩, hd⟩, hk⟩ := h
      have hu : X.A.units + 1 < cLine := by have := ok.hu; omega
      have hb : attributeBase ed "get" X.env (eval ed X.env) = eval ed X.env := by
        cases ed <;> first | rfl | (cases hs; done)
      refine SE.plain ((pe_getE1 hu (sndE d ok hd).pe (sndE k ok hk).pe ⟨hb, by rw [star1 hst]; rfl, hl, by rw [star1 hst]; rfl⟩).imp fun σ H Q ⟨g, st, e, S, h⟩ => ?_) rfl
      subst e
      rw [evE] at h
      refine get1_core S (h.bind.imp fun x s1 h => ?_)
      split at h
      case isFalse => exact h.elim
      rename_i ht
      refine ⟨ht, h.bind.imp fun y s2 h => ?_⟩
      obtain ⟨v, hv, F⟩ := h.opt
      simp only [Option.bind_eq_some_iff, Option.map_eq_some_iff] at hv
      obtain ⟨u, e1, w, e2, z, hv, rfl⟩ := hv
      exact ⟨u, w, z, e1, e2, hv, F⟩
    · cases h
  | .get2 d k z, X, e, ok, h => by
    rw [ckE.eq_def] at h
    dsimp only at h
    split at h
    · rename_i ed m apos ek ez cpos
      simp only [Bool.and_eq_true, decide_eq_true_eq] at h
      obtain ⟨⟨⟨⟨⟨⟨⟨hs, rfl⟩, hl⟩, hst⟩, hst2⟩, hd⟩, hk⟩, hz⟩ := h
      have hu : X.A.units + 1 < cLine := by have := ok.hu; omega
      have hb : attributeBase ed "get" X.env (eval ed X.env) = eval ed X.env := by
        cases ed <;> first | rfl | (cases hs; done)
      refine SE.plain ((pe_getE2 hu (sndE d ok hd).pe (sndE k ok hk).pe (sndE z ok hz).pe ⟨hb, by rw [star1 hst, star1 hst2]; rfl, hl, by rw [star1 hst, star1 hst2]; rfl⟩).imp fun σ H Q ⟨g, st, e, S, h⟩ => ?_) rfl
      subst e
      rw [evE] at h
      refine get2_core S (h.bind.imp fun x s1 h => ?_)
      split at h
      case isFalse => exact h.elim
      rename_i ht
      refine ⟨ht, h.bind.imp fun y s2 h => h.bind.imp fun v s3 h => ?_⟩
      split at h
      · rename_i b hb
        obtain ⟨v, hv, F⟩ := h.opt
        simp only [Option.bind_eq_some_iff, Option.map_eq_some_iff] at hv
        obtain ⟨u, e1, w, e2, z, hv, rfl⟩ := hv
        exact ⟨u, w, b, z, hb, e1, e2, hv, F⟩
      · exact h.elim
    · cases h
  | .dcp own gt it ts k y, X, e, ok, h => by
    rw [ckE.eq_def] at h
    dsimp only at h
    split at h
    · rename_i kx elt tg iter ifs scope pos
      simp only [Bool.and_eq_true] at h
      obtain ⟨⟨⟨⟨⟨⟨⟨hbk, hin⟩, hg⟩, hns⟩, hi⟩, ht⟩, hk⟩, hy⟩ := h
      have hown : (own.map fun i => (X.N.getD i Str.empty, i)).map (·.2) = own := by rw [List.map_map]; exact List.map_id' own
      have R := pe_dc (pos := pos) ok.calm ok.nd (sndI it ok (fun q => ckG_tup hg q) (bo := true) hi) (blkOk_by hbk) (g := gT X.K gt) (tt := tTs X.K (evTs c ts)) (tk := tEv X.K (evE c k)) (tv := tEv X.K (evE c y))
        (fun s H C cl fp => ckG_pg (ok.blk s H scope _ fp) hg) (fun s H C cl fp => sndTs ts (ok.blk s H scope (compEnvC scope cl C X.env) fp) ht) (fun s H C cl fp => (sndE k (ok.blk s H scope (compEnvC scope cl C X.env) fp) hk).pe) (fun s H C cl fp => (sndE y (ok.blk s H scope (compEnvC scope cl C X.env) fp) hy).pe) (noSet hns)
      rw [hown] at R
      refine SE.plain (R.imp fun σ H Q ⟨g, st, e, S, h⟩ => ?_) rfl
      subst e
      rw [evE] at h
      split at h
      · rename_i hn
        exact dcp_core S hn hin h
      · exact h.elim
    · cases h
  | .dcp2 own gt it ts v1 gt1 it1 ts1 k y, X, e, ok, h => by
    rw [ckE.eq_def] at h
    dsimp only at h
    split at h
    · rename_i kx elt tg iter ifs tg1 iter1 ifs1 scope pos
      simp only [Bool.and_eq_true] at h
      obtain ⟨⟨⟨⟨⟨⟨⟨⟨⟨⟨⟨⟨hbk, hin⟩, hg⟩, hns⟩, hi⟩, ht⟩, hin1⟩, hg1⟩, hns1⟩, hi1⟩, ht1⟩, hk⟩, hy⟩ := h
      have hown : (own.map fun i => (X.N.getD i Str.empty, i)).map (·.2) = own := by rw [List.map_map]; exact List.map_id' own
      by_cases hv : ∀ i ∈ v1, i ∈ own
      case neg =>
        refine SE.plain (pe_never fun σ H Q ⟨g, st, e, S, h⟩ => ?_) rfl
        rw [evE] at h
        split at h
        · rename_i hn
          rw [Bool.and_eq_true, List.all_eq_true (l := v1)] at hn
          exact hv fun i hi => of_decide_eq_true (hn.2 i hi)
        · exact h
      have R := pe_dc2 (pos := pos) (kx := kx) (vx := elt) ok.calm ok.nd (sndI it ok (fun q => ckG_tup hg q) (bo := true) hi) (blkOk_by hbk) (vs1 := v1) (by rw [hown]; exact hv) (g := gT X.K gt) (tt := tTs X.K (evTs c ts)) (wi1 := tI X.K true (evI c it1 true)) (g1 := gT X.K gt1) (tt1 := tTs X.K (evTs c ts1)) (tk := tEv X.K (evE c k)) (te := tEv X.K (evE c y))
        (fun s H C cl fp => ⟨ckG_pg (ok.blk s H scope _ fp) hg, sndTs ts (ok.blk s H scope (compEnvC scope cl C X.env) fp) ht, sndI it1 (ok.blk s H scope (compEnvC scope cl C X.env) fp) (fun q => ckG_tup hg1 q) (bo := true) hi1, ckG_pg (ok.blk s H scope _ fp) hg1, sndTs ts1 (ok.blk s H scope (compEnvC scope cl C X.env) fp) ht1, (sndE k (ok.blk s H scope (compEnvC scope cl C X.env) fp) hk).pe, (sndE y (ok.blk s H scope (compEnvC scope cl C X.env) fp) hy).pe⟩) (noSet hns) (fun env => noSet hns1)
      rw [hown] at R
      refine SE.plain (R.imp fun σ H Q ⟨g, st, e, S, h⟩ => ?_) rfl
      subst e
      rw [evE] at h
      split at h
      · rename_i hn
        rw [Bool.and_eq_true] at hn
        exact dcp2_core S hn.1 hin hv hin1 h
      · exact h.elim
    · cases h
  | .lc2 own gt it ts v1 gt1 it1 ts1 y, X, e, ok, h => by
    rw [ckE.eq_def] at h
    dsimp only at h
    split at h
    · rename_i elt tg iter ifs tg1 iter1 ifs1 scope pos
      simp only [Bool.and_eq_true] at h
      obtain ⟨⟨⟨⟨⟨⟨⟨⟨⟨⟨⟨hbk, hin⟩, hg⟩, hns⟩, hi⟩, ht⟩, hin1⟩, hg1⟩, hns1⟩, hi1⟩, ht1⟩, hy⟩ := h
      have hown : (own.map fun i => (X.N.getD i Str.empty, i)).map (·.2) = own := by rw [List.map_map]; exact List.map_id' own
      by_cases hv : ∀ i ∈ v1, i ∈ own
      case neg =>
        refine SE.plain (pe_never fun σ H Q ⟨g, st, e, S, h⟩ => ?_) rfl
        rw [evE] at h
        split at h
        · rename_i hn
          rw [Bool.and_eq_true, List.all_eq_true (l := v1)] at hn
          exact hv fun i hi => of_decide_eq_true (hn.2 i hi)
        · exact h
      have R := pe_lc2 (pos := pos) (elt := elt) ok.calm ok.nd (sndI it ok (fun q => ckG_tup hg q) (bo := true) hi) (blkOk_by hbk) (vs1 := v1) (by rw [hown]; exact hv) (g := gT X.K gt) (tt := tTs X.K (evTs c ts)) (wi1 := tI X.K true (evI c it1 true)) (g1 := gT X.K gt1) (tt1 := tTs X.K (evTs c ts1)) (te := tEv X.K (evE c y))
        (fun s H C cl fp => ckG_pg (ok.blk s H scope _ fp) hg) (fun s H C cl fp => sndTs ts (ok.blk s H scope (compEnvC scope cl C X.env) fp) ht) (fun s H C cl fp => sndI it1 (ok.blk s H scope (compEnvC scope cl C X.env) fp) (fun q => ckG_tup hg1 q) (bo := true) hi1) (fun s H C cl fp => ckG_pg (ok.blk s H scope _ fp) hg1) (fun s H C cl fp => sndTs ts1 (ok.blk s H scope (compEnvC scope cl C X.env) fp) ht1) (fun s H C cl fp => (sndE y (ok.blk s H scope (compEnvC scope cl C X.env) fp) hy).pe) (noSet hns) (fun env => noSet hns1)
      rw [hown] at R
      refine SE.plain (R.imp fun σ H Q ⟨g, st, e, S, h⟩ => ?_) rfl
      subst e
      rw [evE] at h
      split at h
      · rename_i hn
        rw [Bool.and_eq_true] at hn
        exact lc2_core S hn.1 hin hv hin1 h
      · exact h.elim
    · cases h
theorem sndDs {T : Tab} {c : Nat → List PV → Sto → R PV} : ∀ (es : Es) {X : Cx} {xs : List Expr}, Ok T c X → ckEs T X.N X.env.scope es xs = true → PA X xs (tDs X.K (evDs c es))
  | .nil, X, xs, ok, h => by
    rw [ckEs, List.isEmpty_iff] at h
    subst h
    exact pa_nil.imp fun σ H Q ⟨g, st, e, S, h⟩ => h g H [] Nx.refl S rfl .nil
  | .cons a es, X, xs, ok, h => by
    rw [ckEs.eq_def] at h
    dsimp only at h
    split at h
    · simp only [Bool.and_eq_true] at h
      obtain ⟨⟨h1, h2⟩, h3⟩ := h
      refine (pa_cons (sndE a ok h2).pe (sndDs es ok h3) (star1 h1)).imp fun σ H Q ⟨g, st, e, S, h⟩ => ?_
      subst e
      rw [evDs] at h
      refine one S h.bind fun x s1 g1 H1 V1 h n1 S1 r1 => ?_
      split at h
      · rename_i hx
        refine ⟨g1.wB g.B, s1, n1.s, S1.weak n1.B, ?_⟩
        show RP (evDs c es g1.e s1) _
        rw [n1.e]
        refine h.bind.imp fun us s2 h g2 H2 ws n2 S2 hB r2 => ?_
        exact h g2 H2 (V1 :: ws) (n1.weak.trans (S1.weak n1.B) n2) S2 hB (.cons ((r1.asD n1 S1 hx).keep (n2.keep (S1.weak n1.B))) r2)
      · exact h.elim
    · cases h
theorem sndRs {T : Tab} {c : Nat → List PV → Sto → R PV} : ∀ (es : Es) {X : Cx} {xs : List Expr}, Ok T c X → ckEs T X.N X.env.scope es xs = true → PA X xs (tRs X.K (evRs c es))
  | .nil, X, xs, ok, h => by
    rw [ckEs, List.isEmpty_iff] at h
    subst h
    exact pa_nil.imp fun σ H Q ⟨g, st, e, S, h⟩ => h g H [] Nx.refl S rfl .nil
  | .cons a es, X, xs, ok, h => by
    rw [ckEs.eq_def] at h
    dsimp only at h
    split at h
    · simp only [Bool.and_eq_true] at h
      obtain ⟨⟨h1, h2⟩, h3⟩ := h
      refine (pa_cons (sndE a ok h2).pe (sndRs es ok h3) (star1 h1)).imp fun σ H Q ⟨g, st, e, S, h⟩ => ?_
      subst e
      rw [evRs] at h
      refine one S h.bind fun x s1 g1 H1 V1 h n1 S1 r1 => ?_
      split at h
      · rename_i hx
        refine ⟨g1.wB g.B, s1, n1.s, S1.weak n1.B, ?_⟩
        show RP (evRs c es g1.e s1) _
        rw [n1.e]
        refine h.bind.imp fun us s2 h g2 H2 ws n2 S2 hB r2 => ?_
        exact h g2 H2 (V1 :: ws) (n1.weak.trans (S1.weak n1.B) n2) S2 hB (.cons ((r1.asR n1 S1 hx).keep n2 (S1.weak n1.B)) r2)
      · exact h.elim
    · cases h
theorem sndAs {T : Tab} {c : Nat → List PV → Sto → R PV} : ∀ (es : Es) {X : Cx} {xs : List Expr}, Ok T c X → ckEs T X.N X.env.scope es xs = true → PA X xs (tAs X.K (evAs c es))
  | .nil, X, xs, ok, h => by
    rw [ckEs, List.isEmpty_iff] at h
    subst h
    exact pa_nil.imp fun σ H Q ⟨g, st, e, S, h⟩ => h g H [] Nx.refl S .nil
  | .cons a es, X, xs, ok, h => by
    rw [ckEs.eq_def] at h
    dsimp only at h
    split at h
    · simp only [Bool.and_eq_true] at h
      obtain ⟨⟨h1, h2⟩, h3⟩ := h
      refine (pa_cons (sndE a ok h2).pe (sndAs es ok h3) (star1 h1)).imp fun σ H Q ⟨g, st, e, S, h⟩ => ?_
      subst e
      rw [evAs] at h
      refine one S h.bind fun x s1 g1 H1 V1 h n1 S1 r1 => ?_
      refine ⟨g1, s1, n1.s, S1, ?_⟩
      rw [n1.e]
      refine h.bind.imp fun us s2 h g2 H2 ws n2 S2 r2 => ?_
      exact h g2 H2 (V1 :: ws) (n1.trans S1 n2) S2 (.cons (r1.keep n2 S1) (Paired.imp (fun _ _ q => q.mono n1.B) r2))
    · cases h
theorem sndTs {T : Tab} {c : Nat → List PV → Sto → R PV} : ∀ (es : Es) {X : Cx} {xs : List Expr}, Ok T c X → ckTs T X.N X.env.scope es xs = true → PTs X xs (tTs X.K (evTs c es))
  | .nil, X, xs, ok, h => by
    rw [ckTs, List.isEmpty_iff] at h
    subst h
    exact pts_nil.imp fun σ H Q ⟨g, st, e, S, h⟩ => h g H Nx.refl S
  | .cons t ts, X, xs, ok, h => by
    rw [ckTs.eq_def] at h
    dsimp only at h
    split at h
    · simp only [Bool.and_eq_true] at h
      refine (pts_one ((sndE t ok h.2).pt h.1)).imp fun σ H Q ⟨g, st, e, S, h⟩ => ?_
      subst e
      rw [evTs] at h
      refine ⟨g, st, rfl, S, h.bind.imp fun x s1 h => ?_⟩
      split at h
      · rename_i hx
        exact ⟨_, asB_eq hx, fun g1 H1 n1 S1 => h g1 H1 n1 S1⟩
      · rename_i hx
        exact ⟨_, asB_eq hx, fun g1 H1 n1 S1 => h g1 H1 n1 S1⟩
      · exact h.elim
    · cases h
theorem sndI {T : Tab} {c : Nat → List PV → Sto → R PV} : ∀ (it : It) {X : Cx} {tg e : Expr}, Ok T c X → ∀ {tp : Bool}, (tp = true → ∃ es k pos, tg = .Tuple es k pos) → ∀ {bo : Bool}, ckI T X.N X.env.scope it tp e = true → PI X tg e (tI X.K bo (evI c it bo))
  | .sq a, X, tg, e, ok, tp, hg, bo, h => by
    rw [ckI.eq_def] at h
    dsimp only at h
    refine (pi_any (sndE a ok h).pe).imp fun σ H Q ⟨g, st, e, S, h⟩ => ?_
    subst e
    rw [evI] at h
    refine one S h.bind fun x s1 g1 H1 V1 h n1 S1 r1 => ?_
    obtain ⟨xs, hx, F⟩ := h.opt
    by_cases hd : ∃ pd, x = .d (.dict pd)
    · obtain ⟨pd, rfl⟩ := hd
      cases hx
      have r1 : RD X.K g1.Pr H1 V1 (.dict pd) := r1
      have r2 : RD X.K (g1.wB g.B).Pr H1 V1 (.dict pd) := r1.keep (.anti fun _ q => Gs.wB_pr n1.B q)
      cases r2 with
      | dct q r => exact .inr ⟨_, _, rfl, .inl ⟨_, q, F (g1.wB g.B) H1 _ _ n1.weak rfl (S1.weak n1.B) wk_dk GK.stay GK.apt ⟨q, r⟩⟩⟩
      | dctT q r => exact .inr ⟨_, _, rfl, .inr ⟨_, q, F (g1.wB g.B) H1 _ _ n1.weak rfl (S1.weak n1.B) wk_dt GT.stay GT.apt ⟨q, r⟩⟩⟩
    · have hx' : srcL bo x = some xs := by
        unfold srcL
        split
        · exact absurd ⟨_, rfl⟩ hd
        · exact hx
      obtain ⟨k, a, vs, rfl, sa⟩ := (src_spec S1 n1.B r1 hx').A
      obtain ⟨q1, q2⟩ := sa.sq
      refine .inl ⟨k, a, vs, rfl, q1, ?_⟩
      cases k with
      | true => exact F (g1.wB g.B) H1 _ _ n1.weak rfl (S1.weak n1.B) wk_list SrcA.stay SrcA.apt sa
      | false => exact F (g1.wB g.B) H1 _ _ n1.weak rfl (S1.weak n1.B) wk_tup SrcA.stay SrcA.apt sa
  | .r1 a, X, tg, e, ok, tp, hg, bo, h => by
    rw [ckI.eq_def] at h
    dsimp only at h
    split at h
    · simp only [Bool.and_eq_true, decide_eq_true_eq] at h
      obtain ⟨⟨⟨rfl, hgl⟩, hb⟩, h⟩ := h
      obtain ⟨g1, g2, g3⟩ := gl_spec hgl
      split at h
      · simp only [Bool.and_eq_true] at h
        refine (pi_range1 g1 (ok.blt _ hb) (pa_cons (sndE a ok h.2).pe pa_nil (star1 h.1)) (star1 h.1)).imp fun σ H Q ⟨g, st, e, S, h⟩ => ?_
        subst e
        rw [evI] at h
        refine one S h.bind fun x s1 g1 H1 V1 h n1 S1 r1 => ?_
        split at h
        · cases r1.int_
          split at h
          · rename_i hs
            obtain ⟨q1, q2⟩ := smallI_eq hs
            refine ⟨_, rfl, q1, q2, ?_⟩
            have := h (g1.wB g.B) H1 _ _ n1.weak rfl (S1.weak n1.B) (wk_rng 0 _) Stay.true Apt.true trivial
            rw [Int.sub_zero] at this
            exact this
          · exact h.elim
        · exact h.elim
      · cases h
    · cases h
  | .r2 a b, X, tg, e, ok, tp, hg, bo, h => by
    rw [ckI.eq_def] at h
    dsimp only at h
    split at h
    · simp only [Bool.and_eq_true, decide_eq_true_eq] at h
      obtain ⟨⟨⟨rfl, hgl⟩, hb⟩, h⟩ := h
      obtain ⟨g1, g2, g3⟩ := gl_spec hgl
      split at h
      · simp only [Bool.and_eq_true] at h
        obtain ⟨⟨⟨hs1, hs2⟩, ha⟩, hb'⟩ := h
        refine (pi_range2 g1 (ok.blt _ hb) (pa_cons (sndE a ok ha).pe (pa_cons (sndE b ok hb').pe pa_nil (star1 hs2)) (star1 hs1)) (by rw [star1 hs1, star1 hs2]; rfl) (star1 hs2)).imp fun σ H Q ⟨g, st, e, S, h⟩ => ?_
        subst e
        rw [evI] at h
        refine two S (h.bind.imp fun x s1 h => h.bind) fun x y s2 g2 H2 V1 V2 h n S2 r1 r2 => ?_
        split at h
        · cases r1.int_
          cases r2.int_
          split at h
          · rename_i i j hs
            simp only [Bool.and_eq_true] at hs
            obtain ⟨q1, q2⟩ := smallI_eq hs.1
            obtain ⟨q3, q4⟩ := smallI_eq hs.2
            exact ⟨i, j, rfl, ⟨q1, q2, q3, q4⟩, h (g2.wB g.B) H2 _ _ n.weak rfl (S2.weak n.B) (wk_rng i j) Stay.true Apt.true trivial⟩
          · exact h.elim
        · exact h.elim
      · cases h
    · cases h
  | .r3 a b c3, X, tg, e, ok, tp, hg, bo, h => by
    rw [ckI.eq_def] at h
    dsimp only at h
    split at h
    · simp only [Bool.and_eq_true, decide_eq_true_eq] at h
      obtain ⟨⟨⟨rfl, hgl⟩, hb⟩, h⟩ := h
      obtain ⟨g1, g2, g3⟩ := gl_spec hgl
      split at h
      · rename_i ea eb ec
        simp only [Bool.and_eq_true] at h
        obtain ⟨⟨⟨⟨⟨hs1, hs2⟩, hs3⟩, ha⟩, hb'⟩, hc'⟩ := h
        refine (pi_range3 g1 (ok.blt _ hb) (pa_cons (sndE a ok ha).pe (pa_cons (sndE b ok hb').pe (pa_cons (sndE c3 ok hc').pe pa_nil (star1 hs3)) (star1 hs2)) (star1 hs1)) (star1 hs1)
          (starAny (es := [eb, ec]) fun e he => by
            rcases List.mem_cons.mp he with q | q
            · rw [q]; exact hs2
            · rw [List.mem_singleton.mp q]; exact hs3)).imp fun σ H Q ⟨g, st, e, S, h⟩ => ?_
        subst e
        rw [evI] at h
        refine two S (h.bind.imp fun x s1 h => h.bind) fun x y s2 g2 H2 V1 V2 h n S2 r1 r2 => ?_
        rw [← n.s]
        refine one S2 (by rw [n.e]; exact h.bind) fun z s3 g3 H3 V3 h n3 S3 r3 => ?_
        split at h
        · cases r1.int_
          cases r2.int_
          cases r3.int_
          split at h
          · rename_i i j k hs
            obtain ⟨rfl, hs1, hs2⟩ := hs
            obtain ⟨q1, q2⟩ := smallI_eq hs1
            obtain ⟨q3, q4⟩ := smallI_eq hs2
            have nn := n.trans S2 n3
            exact ⟨_, _, -1, _, rfl, RgC.neg q1 q2 q3 q4, h (g3.wB g.B) H3 _ _ nn.weak rfl (S3.weak nn.B) (wk_rngC _ (-1) _) Stay.true Apt.true trivial⟩
          · exact h.elim
        · exact h.elim
      · cases h
    · cases h
  | .zp a b, X, tg, e, ok, tp, hg, bo, h => by
    rw [ckI.eq_def] at h
    dsimp only at h
    split at h
    · simp only [Bool.and_eq_true, decide_eq_true_eq] at h
      obtain ⟨⟨⟨⟨htp, rfl⟩, hgl⟩, hb⟩, h⟩ := h
      obtain ⟨g1, g2, g3⟩ := gl_spec hgl
      obtain ⟨elts, kk, tpos, rfl⟩ := hg htp
      split at h
      · rename_i ea eb
        simp only [Bool.and_eq_true] at h
        obtain ⟨⟨⟨hs1, hs2⟩, ha⟩, hb'⟩ := h
        refine (pi_zipK g1 (ok.blt _ hb) (pa_cons (sndE a ok ha).pe (pa_cons (sndE b ok hb').pe pa_nil (star1 hs2)) (star1 hs1)) (star1 hs1) (starAny (es := [eb]) fun e he => by rw [List.mem_singleton.mp he]; exact hs2)).imp fun σ H Q ⟨g, st, e, S, h⟩ => ?_
        subst e
        rw [evI] at h
        refine two S (h.bind.imp fun x s1 h => h.bind) fun x y s2 g2 H2 V1 V2 h n S2 r1 r2 => ?_
        obtain ⟨zs, hz, F⟩ := h.opt
        simp only [Option.bind_eq_some_iff, Option.map_eq_some_iff] at hz
        obtain ⟨us, h1, ws, h2, rfl⟩ := hz
        obtain ⟨k, a, vs, rfl, sa⟩ := (src_spec S2 n.B r1 h1).A
        obtain ⟨k2, a2, vs2, rfl, sa2⟩ := (src_spec S2 n.B r2 h2).A
        exact ⟨k, k2, a, a2, vs, vs2, rfl, sa.sq.1, sa2.sq.1, F (g2.wB g.B) H2 _ _ n.weak rfl (S2.weak n.B) wk_zp (SrcA.stay.and SrcA.stay) (SrcA.apt.and SrcA.apt) ⟨sa, sa2⟩⟩
      · cases h
    · cases h
  | .en a, X, tg, e, ok, tp, hg, bo, h => by
    rw [ckI.eq_def] at h
    dsimp only at h
    split at h
    · simp only [Bool.and_eq_true, decide_eq_true_eq] at h
      obtain ⟨⟨⟨⟨htp, rfl⟩, hgl⟩, hb⟩, h⟩ := h
      obtain ⟨g1, g2, g3⟩ := gl_spec hgl
      obtain ⟨elts, kk, tpos, rfl⟩ := hg htp
      split at h
      · simp only [Bool.and_eq_true] at h
        refine (pi_enumK g1 (ok.blt _ hb) (pa_cons (sndE a ok h.2).pe pa_nil (star1 h.1)) (star1 h.1)).imp fun σ H Q ⟨g, st, e, S, h⟩ => ?_
        subst e
        rw [evI] at h
        refine one S h.bind fun x s1 g1 H1 V1 h n1 S1 r1 => ?_
        obtain ⟨zs, hz, F⟩ := h.opt
        simp only [Option.map_eq_some_iff] at hz
        obtain ⟨us, h1, rfl⟩ := hz
        obtain ⟨k, a, vs, rfl, sa⟩ := (src_spec S1 n1.B r1 h1).A
        exact ⟨k, a, vs, rfl, sa.sq.1, F (g1.wB g.B) H1 _ _ n1.weak rfl (S1.weak n1.B) wk_en SrcA.stay SrcA.apt sa⟩
      · cases h
    · cases h
  | .its a, X, tg, e, ok, tp, hg, bo, h => by
    rw [ckI.eq_def] at h
    dsimp only at h
    split at h
    · rename_i ed m apos cpos
      simp only [Bool.and_eq_true, decide_eq_true_eq] at h
      obtain ⟨⟨⟨⟨htp, hs⟩, rfl⟩, hl⟩, hd⟩ := h
      obtain ⟨elts, kk, tpos, rfl⟩ := hg htp
      have hb : attributeBase ed "items" X.env (eval ed X.env) = eval ed X.env := by
        cases ed <;> first | rfl | (cases hs; done)
      refine (pi_itemsA (sndE a ok hd).pe hb hl).imp fun σ H Q ⟨g, st, e, S, h⟩ => ?_
      subst e
      rw [evI] at h
      refine one S h.bind fun x s1 g1 H1 V1 h n1 S1 r1 => ?_
      obtain ⟨xs, hx, F⟩ := h.opt
      unfold itsV at hx
      split at hx
      · cases hx
        have r1 : RD X.K g1.Pr H1 V1 (.dict _) := r1
        have r2 : RD X.K (g1.wB g.B).Pr H1 V1 (.dict _) := r1.keep (.anti fun _ q => Gs.wB_pr n1.B q)
        cases r2 with
        | dct q r => exact ⟨_, _, rfl, .inl ⟨_, q, F (g1.wB g.B) H1 _ _ n1.weak rfl (S1.weak n1.B) wk_di GK.stay GK.apt ⟨q, r⟩⟩⟩
        | dctT q r => exact ⟨_, _, rfl, .inr ⟨_, q, F (g1.wB g.B) H1 _ _ n1.weak rfl (S1.weak n1.B) wk_dit GT.stay GT.apt ⟨q, r⟩⟩⟩
      · cases hx
    · cases h
  | .vls a, X, tg, e, ok, tp, hg, bo, h => by
    rw [ckI.eq_def] at h
    dsimp only at h
    split at h
    · rename_i ed m apos cpos
      simp only [Bool.and_eq_true, decide_eq_true_eq] at h
      obtain ⟨⟨⟨hs, rfl⟩, hl⟩, hd⟩ := h
      have hb : attributeBase ed "values" X.env (eval ed X.env) = eval ed X.env := by
        cases ed <;> first | rfl | (cases hs; done)
      refine (pi_valuesA (sndE a ok hd).pe hb hl).imp fun σ H Q ⟨g, st, e, S, h⟩ => ?_
      subst e
      rw [evI] at h
      refine one S h.bind fun x s1 g1 H1 V1 h n1 S1 r1 => ?_
      obtain ⟨xs, hx, F⟩ := h.opt
      unfold vlsV at hx
      split at hx
      · cases hx
        have r1 : RD X.K g1.Pr H1 V1 (.dict _) := r1
        have r2 : RD X.K (g1.wB g.B).Pr H1 V1 (.dict _) := r1.keep (.anti fun _ q => Gs.wB_pr n1.B q)
        cases r2 with
        | dct q r => exact ⟨_, _, rfl, .inl ⟨_, q, F (g1.wB g.B) H1 _ _ n1.weak rfl (S1.weak n1.B) wk_dv GK.stay GK.apt ⟨q, r⟩⟩⟩
        | dctT q r => exact ⟨_, _, rfl, .inr ⟨_, q, F (g1.wB g.B) H1 _ _ n1.weak rfl (S1.weak n1.B) wk_dvt GT.stay GT.apt ⟨q, r⟩⟩⟩
      · cases hx
    · cases h
theorem sndP {T : Tab} {c : Nat → List PV → Sto → R PV} : ∀ (p : P) {X : Cx} {x : Option Expr}, Ok T c X → ckP T X.N X.env.scope p x = true → PO X x (tPo X.K (evP c p))
  | .no, X, x, ok, h => by
    rw [ckP, Option.isNone_iff_eq_none] at h
    subst h
    exact po_none.imp fun σ H Q ⟨g, st, e, S, h⟩ => h g H Nx.refl S
  | .ex a, X, x, ok, h => by
    rw [ckP.eq_def] at h
    dsimp only at h
    split at h
    · refine (po_some (sndE a ok h).pe).imp fun σ H Q ⟨g, st, e, S, h⟩ => ?_
      subst e
      rw [evP] at h
      refine one S h.bind fun x s1 g1 H1 V1 h n1 S1 r1 => ?_
      split at h
      · cases r1.int_
        exact ⟨_, rfl, h g1 H1 n1 S1⟩
      · exact h.elim
    · cases h
end
end Ev

set_option maxRecDepth 100000
/-! Ev13: statements: syntax, interpreter, checker. -/
namespace Ev
open PySem L2 PySem.W PyProof.Rows PySem.SeqAt

/-- an expression, or one that takes an item off a list of one's own -/
inductive A where
  | e (a : E) | pop (j : Nat) | popAt (j : Nat) (a : E)
mutual
inductive S where
  | set (own : Bool) (i : Nat) (a : A)
  | par2 (o1 : Bool) (i1 : Nat) (o2 : Bool) (i2 : Nat) (a b : E)
  | par3 (o1 : Bool) (i1 : Nat) (o2 : Bool) (i2 : Nat) (o3 : Bool) (i3 : Nat) (a b c : E)
  | asg (g : G) (e : E)
  | app (i : Nat) (a : A) | rem (i : Nat) (e : E) | ex (a : A)
  | setR (o i e : E) | popR (o i : E)
  | setO (i : Nat) (k e : E) | augO (i : Nat) (k : E) (o : Op2) (e : E) | aug (i : Nat) (o : Op2) (e : E) | ext (i : Nat) (e : E) | swp (i : Nat) (k1 k2 a b : E)
  | frz (i : Nat)
  | ret (e : E) | retN
  | ife (t : E) (a b : Ss) | for_ (g : G) (it : It) (b : Ss) | whl (n : Nat) (t : E) (b : Ss)
  | brk | cont | dead
inductive Ss where
  | nil | cons (s : S) (ss : Ss)
end

def fits (i : Int) : Bool := decide (i.natAbs < 2 ^ 63)
theorem fits_eq {i : Int} (h : fits i = true) : -(2 ^ 63) ≤ i ∧ i < 2 ^ 63 := by
  have h := of_decide_eq_true h
  omega
def RS.ofR {α : Type} (e : Envr) (r : R α) (f : α → Sto → RS) : RS := match r with
  | .ok a s => f a s
  | .ex c fs s => .ex c fs e s
  | .bad => .bad
def RS.then (r : RS) (f : Envr → Sto → RS) : RS := match r with
  | .nx e s => f e s
  | r => r
/-- a slot takes a value -/
def putC (own : Bool) (i : Nat) (x : PV) (e : Envr) : Option Envr := match own with
  | true => match x with
    | .fre y => some (e.set i (.own y))
    | _ => none
  | false => (asR x).map fun y => e.set i (.v y)
def findI (k : Int) : List PyData → Option (List PyData)
  | [] => none
  | .int j :: r => if j = k then some r else (findI k r).map (.int j :: ·)
  | _ :: _ => none
/-- an item is set -/
def setD : PyData → PyData → PyData → Option PyData
  | .list xs, .int j, d => (ixN xs.length j).map fun n => .list (xs.set n d)
  | .dict pd, y, d => (dKey y).bind fun k => if kOk k pd && decide (pd.length < sizeLine) then some (.dict (putD k y d pd)) else none
  | _, _, _ => none
/-- .. in place -/
def augD : Op2 → PyData → PyData → Option PyData
  | .add, .int i, .int j => some (.int (i + j))
  | .sub, .int i, .int j => some (.int (i - j))
  | .mul, .int i, .int j => if mulOk i j then some (.int (i * j)) else none
  | _, _, _ => none
def forL (b : Envr → Sto → RS) (gt : G) : List PyData → Envr → Sto → RS
  | [], e, st => .nx e st
  | x :: xs, e, st => match asg e gt x with
    | some e1 => match b e1 st with
      | .nx e2 s2 => forL b gt xs e2 s2
      | .ct e2 s2 => forL b gt xs e2 s2
      | .br e2 s2 => .nx e2 s2
      | r => r
    | none => .bad
def whlL (t : Envr → Sto → R PV) (b : Envr → Sto → RS) : Nat → Envr → Sto → RS
  | 0, _, _ => .bad
  | n + 1, e, st => RS.ofR e (t e st) fun x s1 => match asB x with
    | some true => match b e s1 with
      | .nx e2 s2 => whlL t b n e2 s2
      | .ct e2 s2 => whlL t b n e2 s2
      | .br e2 s2 => .nx e2 s2
      | r => r
    | some false => .nx e s1
    | none => .bad
section
variable (c : Nat → List PV → Sto → R PV)
def evA : A → Envr → Sto → R (PV × Envr)
  | .e a, e, st => (evE c a e st).bind fun x s1 => .ok (x, e) s1
  | .pop j, e, st => match e[j]? with
    | some (.own (.list ds)) => match ds[ds.length - 1]? with
      | some x => .ok (.d x, e.set j (.own (.list ds.dropLast))) st
      | none => .bad
    | _ => .bad
  | .popAt j a, e, st => (evE c a e st).bind fun x s1 => match x with
    | .d (.int i) => match e[j]? with
      | some (.own (.list ds)) => match seqIndex? i ds.length with
        | some k => match ds[k]? with
          | some y => if fits i then .ok (.d y, e.set j (.own (.list (ds.eraseIdx k)))) s1 else .bad
          | none => .bad
        | none => .bad
      | _ => .bad
    | _ => .bad
mutual
def exS : S → Envr → Sto → RS
  | .set own i a, e, st => RS.ofR e (evA c a e st) fun p s1 => match putC own i p.1 p.2 with
    | some e1 => .nx e1 s1
    | none => .bad
  | .par2 o1 i1 o2 i2 a b, e, st => RS.ofR e (evE c a e st) fun x s1 => RS.ofR e (evE c b e s1) fun y s2 =>
      match (putC o1 i1 x e).bind fun e1 => putC o2 i2 y e1 with
      | some e2 => .nx e2 s2
      | none => .bad
  | .par3 o1 i1 o2 i2 o3 i3 a b d, e, st => RS.ofR e (evE c a e st) fun x s1 => RS.ofR e (evE c b e s1) fun y s2 => RS.ofR e (evE c d e s2) fun z s3 =>
      match ((putC o1 i1 x e).bind fun e1 => putC o2 i2 y e1).bind fun e2 => putC o3 i3 z e2 with
      | some e2 => .nx e2 s3
      | none => .bad
  | .asg g a, e, st => RS.ofR e (evE c a e st) fun x s1 => match (asD x).bind fun d => Ev.asg e g d with
    | some e1 => .nx e1 s1
    | none => .bad
  | .app i a, e, st => RS.ofR e (evA c a e st) fun p s1 => match asD p.1, p.2[i]? with
    | some d, some (.own (.list ds)) => if ds.length < sizeLine then .nx (p.2.set i (.own (.list (ds ++ [d])))) s1 else .bad
    | _, _ => .bad
  | .rem i a, e, st => RS.ofR e (evE c a e st) fun x s1 => match x, e[i]? with
    | .d (.int k), some (.own (.list ds)) => match allInts ds with
      | some _ => match findI k ds with
        | some ds' => .nx (e.set i (.own (.list ds'))) s1
        | none => .bad
      | none => .bad
    | _, _ => .bad
  | .ex a, e, st => RS.ofR e (evA c a e st) fun p s1 => .nx p.2 s1
  | .setR o i a, e, st => RS.ofR e (evE c a e st) fun v s1 => RS.ofR e (evE c o e s1) fun x s2 => RS.ofR e (evE c i e s2) fun y s3 => match x with
    | .ref n => match s3[n]? with
      | some (.lst xs) => match asR v, y with
        | some u, .d (.int k) => match ixN xs.length k with
          | some j => .nx e (s3.set n (.lst (xs.set j u)))
          | none => .bad
        | _, _ => .bad
      | some (.dct pd) => match asD v, rd y s3 with
        | some d, some w => match setD (.dict pd) w d with
          | some (.dict pd') => .nx e (s3.set n (.dct pd'))
          | _ => .bad
        | _, _ => .bad
      | _ => .bad
    | _ => .bad
  | .setO i k a, e, st => RS.ofR e (evE c a e st) fun v s1 => RS.ofR e (evE c k e s1) fun y s2 => match e[i]?, asD v, rd y s2 with
    | some (.own x), some d, some w => match setD x w d with
      | some x' => .nx (e.set i (.own x')) s2
      | none => .bad
    | _, _, _ => .bad
  | .augO i k o a, e, st => RS.ofR e (evE c k e st) fun y s1 => match e[i]?, y with
    | some (.own x), .d w => match ixD x w with
      | some z => RS.ofR e (evE c a e s1) fun v s2 => match (rd v s2).bind fun u => augD o z u with
        | some r => match setD x w r with
          | some x' => .nx (e.set i (.own x')) s2
          | none => .bad
        | none => .bad
      | none => .bad
    | _, _ => .bad
  | .aug i o a, e, st => match e[i]? with
    | some (.v (.d z)) => RS.ofR e (evE c a e st) fun v s1 => match (rd v s1).bind fun u => augD o z u with
      | some r => .nx (e.set i (.v (.d r))) s1
      | none => .bad
    | _ => .bad
  | .ext i a, e, st => RS.ofR e (evE c a e st) fun v s1 => match e[i]?, v with
    | some (.own (.list xs)), .fre (.list ys) => if xs.length + ys.length ≤ sizeLine then .nx (e.set i (.own (.list (xs ++ ys)))) s1 else .bad
    | _, _ => .bad
  | .swp i k1 k2 a b, e, st => RS.ofR e (evE c a e st) fun x s1 => RS.ofR e (evE c b e s1) fun y s2 => match asD x, asD y with
    | some p, some q => RS.ofR e (evE c k1 e s2) fun u s3 => match e[i]?, rd u s3 with
      | some (.own z), some w => match setD z w p with
        | some z1 => RS.ofR (e.set i (.own z1)) (evE c k2 (e.set i (.own z1)) s3) fun u2 s4 => match rd u2 s4 with
          | some w2 => match setD z1 w2 q with
            | some z2 => .nx ((e.set i (.own z1)).set i (.own z2)) s4
            | none => .bad
          | none => .bad
        | none => .bad
      | _, _ => .bad
    | _, _ => .bad
  | .popR o i, e, st => RS.ofR e (evE c o e st) fun x s1 => match x with
    | .ref n => match s1[n]? with
      | some (.lst _) => RS.ofR e (evE c i e s1) fun y s2 => match y, s2[n]? with
        | .d (.int k), some (.lst xs) => match seqIndex? k xs.length with
          | some j => if fits k && decide (j < xs.length) then .nx e (s2.set n (.lst (xs.eraseIdx j))) else .bad
          | none => .bad
        | _, _ => .bad
      | _ => .bad
    | _ => .bad
  | .frz i, e, st => match e[i]? with
    | some (.own x) => .nx (e.set i (.v (.d x))) st
    | _ => .bad
  | .ret a, e, st => RS.ofR e (evE c a e st) fun x s1 => match asR x with
    | some y => .rt y s1
    | none => .bad
  | .retN, e, st => .rt (.d .none) st
  | .ife t a b, e, st => RS.ofR e (evE c t e st) fun x s1 => match asB x with
    | some true => exSs a e s1
    | some false => exSs b e s1
    | none => .bad
  | .for_ g it b, e, st => RS.ofR e (evI c it false e st) fun xs s1 => forL (exSs b) g xs e s1
  | .whl n t b, e, st => whlL (evE c t) (exSs b) n e st
  | .brk, e, st => .br e st
  | .cont, e, st => .ct e st
  | .dead, _, _ => .bad
def exSs : Ss → Envr → Sto → RS
  | .nil, e, st => .nx e st
  | .cons s ss, e, st => (exS s e st).then fun e1 s1 => exSs ss e1 s1
end
end

/-! ### the checker -/
def swapB (sc : Scope) (x : Str) (p : Pos) (e : Expr) : Bool := match e with
  | .ListComp _ _ s pos => (sc.names.lookup x == some .local) && p.line == pos.line && !(s.names.any fun q => q.1 == x && (q.2 == .local || q.2 == .cell))
  | .SetComp _ _ _ _ => true
  | .DictComp _ _ _ _ _ => true
  | _ => false
def isComp (e : Expr) : Bool := match e with
  | .ListComp _ _ _ _ => true
  | .SetComp _ _ _ _ => true
  | .DictComp _ _ _ _ _ => true
  | _ => false
def augIs : Op2 → Operator → Bool
  | .add, .Add => true | .sub, .Sub => true | .mul, .Mult => true
  | _, _ => false
theorem augIs_eq {a : Op2} {b : Operator} (h : augIs a b = true) : b = opOf a := by cases a <;> cases b <;> first | rfl | cases h
def isLc : A → Bool
  | .e (.lc _ _ _ _ _) => true
  | .e (.box (.lc _ _ _ _ _)) => true
  | _ => false
def noStores (ts : List Expr) (e : Expr) : Bool := match e with
  | .Tuple vs _ _ => (ts.length != 2 && ts.length != 3) || vs.length != ts.length || vs.all (foldedForSure 8)
  | _ => true
section
variable (T : Tab) (N : List Str)
def lcl (sc : Scope) (i : Nat) (x : Str) : Bool := decide (N[i]? = some x) && decide (sc.names.lookup x = some .local)
def lclc (sc : Scope) (i : Nat) (x : Str) : Bool := decide (N[i]? = some x) && (decide (sc.names.lookup x = some .local) || decide (sc.names.lookup x = some .cell))
def isLoc (sc : Scope) (x : Str) : Bool := decide (sc.names.lookup x = some .local)
def ckA (sc : Scope) : A → Expr → Bool
  | .e a, e => ckE T N sc a e
  | .pop j, e => match e with
    | .Call (.Attribute (.Name x _) m apos) [] [] cpos => decide (N[j]? = some x) && vis sc x && decide (m = "pop") && (apos.endLine == cpos.line)
    | _ => false
  | .popAt j a, e => match e with
    | .Call (.Attribute (.Name x _) m apos) [ea] [] cpos => decide (N[j]? = some x) && vis sc x && decide (m = "pop") && (apos.endLine == cpos.line) && notStar ea && ckE T N sc a ea
    | _ => false
mutual
def ckS (sc : Scope) : S → Stmt → Bool
  | .set own i a, s => match s with
    | .Assign [.Name x p] e pos => lclc N sc i x && ckA T N sc a e && (!swapB sc x p e || isLc a)
    | _ => false
  | .par2 _ i1 _ i2 a b, s => match s with
    | .Assign [.Tuple [.Name x px, .Name y py] _ _] (.Tuple [ea, eb] _ _) _ => lclc N sc i1 x && lclc N sc i2 y && notStar ea && notStar eb && ckE T N sc a ea && ckE T N sc b eb && ((isLoc sc x && isLoc sc y && decide (x ≠ y) && (py.line == px.line)
        && !([ea, eb].all (foldedForSure 8)) && !([ea, eb].all (constantsAlone 8))) || !(isLoc sc x && isLoc sc y))
    | _ => false
  | .par3 _ i1 _ i2 _ i3 a b d, s => match s with
    | .Assign [.Tuple [.Name x px, .Name y py, .Name z pz] _ _] (.Tuple [ea, eb, ec] _ _) _ => lclc N sc i1 x && lclc N sc i2 y && lclc N sc i3 z && notStar ea && notStar eb && notStar ec && ckE T N sc a ea && ckE T N sc b eb && ckE T N sc d ec
        && ((isLoc sc x && isLoc sc y && isLoc sc z && decide (x ≠ y) && decide (x ≠ z) && decide (y ≠ z) && (py.line == px.line) && (pz.line == px.line) && !([ea, eb, ec].all (foldedForSure 8)) && !([ea, eb, ec].all (constantsAlone 8))) || !(isLoc sc x && isLoc sc y && isLoc sc z))
    | _ => false
  | .asg g a, s => match s with
    | .Assign [.Tuple ts k p] e _ => ckG N sc (fun _ => true) g (.Tuple ts k p) && ckE T N sc a e && noStores ts e
    | _ => false
  | .app i a, s => match s with
    | .Expr (.Call (.Attribute (.Name x _) m apos) [ea] [] cpos) _ => decide (N[i]? = some x) && vis sc x && decide (m = "append") && (apos.endLine == cpos.line) && notStar ea && ckA T N sc a ea
    | _ => false
  | .rem i a, s => match s with
    | .Expr (.Call (.Attribute (.Name x _) m apos) [ea] [] cpos) _ => decide (N[i]? = some x) && vis sc x && decide (m = "remove") && (apos.endLine == cpos.line) && notStar ea && ckE T N sc a ea
    | _ => false
  | .ex a, s => match s with
    | .Expr e _ => ckA T N sc a e && !isComp e
    | _ => false
  | .setR o i a, s => match s with
    | .Assign [.Subscript eo ei _] e _ => notSlice ei && ckE T N sc o eo && ckE T N sc i ei && ckE T N sc a e
    | _ => false
  | .popR o i, s => match s with
    | .Expr (.Call (.Attribute eo m apos) [ei] [] cpos) _ => isSub eo && decide (m = "pop") && (apos.endLine == cpos.line) && notStar ei && ckE T N sc o eo && ckE T N sc i ei
    | _ => false
  | .setO i k a, s => match s with
    | .Assign [.Subscript (.Name x _) ek _] e _ => decide (N[i]? = some x) && vis sc x && notSlice ek && ckE T N sc k ek && ckE T N sc a e
    | _ => false
  | .augO i k o a, s => match s with
    | .AugAssign (.Subscript (.Name x _) ek _) op e _ => decide (N[i]? = some x) && vis sc x && notSlice ek && augIs o op && ckE T N sc k ek && ckE T N sc a e
    | _ => false
  | .aug i o a, s => match s with
    | .AugAssign (.Name x _) op e _ => lclc N sc i x && augIs o op && ckE T N sc a e
    | _ => false
  | .ext i a, s => match s with
    | .Expr (.Call (.Attribute (.Name x _) m apos) [ea] [] cpos) _ => decide (N[i]? = some x) && vis sc x && decide (m = "extend") && (apos.endLine == cpos.line) && notStar ea && ckE T N sc a ea
    | _ => false
  | .swp i k1 k2 a b, s => match s with
    | .Assign [.Tuple [.Subscript (.Name x _) e1 _, .Subscript (.Name y _) e2 _] _ _] (.Tuple [ea, eb] _ _) _ => decide (N[i]? = some x) && decide (y = x) && vis sc x && notSlice e1 && notSlice e2 && notStar ea && notStar eb && ckE T N sc k1 e1 && ckE T N sc k2 e2 && ckE T N sc a ea && ckE T N sc b eb
    | _ => false
  | .frz _, _ => false
  | .ret a, s => match s with
    | .Return (some e) _ => ckE T N sc a e
    | _ => false
  | .retN, s => match s with
    | .Return none _ => true
    | _ => false
  | .ife t a b, s => match s with
    | .If et ea eb _ => tst t && ckE T N sc t et && ckSs sc a ea && ckSs sc b eb
    | _ => false
  | .for_ g it b, s => match s with
    | .For tg iter body [] _ => ckG N sc (fun _ => true) g tg && notSet iter && ckI T N sc it (isTup g) iter && ckSs sc b body
    | _ => false
  | .whl _ t b, s => match s with
    | .While et body [] _ => tst t && ckE T N sc t et && ckSs sc b body
    | _ => false
  | .brk, s => match s with
    | .Break _ => true
    | _ => false
  | .cont, s => match s with
    | .Continue _ => true
    | _ => false
  | .dead, _ => true
def ckSs (sc : Scope) : Ss → List Stmt → Bool
  | .nil, ss => ss.isEmpty
  | .cons s ss, es => match s with
    | .frz _ => ckSs sc ss es
    | s => match es with
      | e :: es => ckS sc s e && ckSs sc ss es
      | [] => false
end
end
end Ev

set_option maxRecDepth 100000
/-! Ev14: what statements do to the state. -/
namespace Ev
open PySem L2 PySem.W PyProof.Rows PySem.SeqAt

/-- the state goes on -/
structure Kp (g g' : Gs) (H H' : Hp) : Prop where
  h0 : g'.H0 = g.H0
  r0 : g'.r0 = g.r0
  B : ∀ a, g.B a → g'.B a
  pre : g.r <+: g'.r
  keep : Keep g.Pr H g'.Pr H'
section
variable {K : PySem.W.Frag} {g g' g1 g2 : Gs} {st st' st1 st2 : Sto} {H H' H1 H2 : Hp} {Q : VK}
theorem Keep.refl {pr : Addr → Prop} : Keep pr H pr H := ⟨fun _ _ e n => ⟨e, n⟩, fun _ _ h => h, fun _ _ _ h => h⟩
theorem Keep.trans {pr pr1 pr2 : Addr → Prop} (a : Keep pr H pr1 H1) (b : Keep pr1 H1 pr2 H2) : Keep pr H pr2 H2 :=
  ⟨fun x o e n => b.k x o (a.k x o e n).1 (a.k x o e n).2, fun x xs h => b.t x xs (a.t x xs h), fun x o u h => b.z x o u (a.z x o u h)⟩
theorem Kp.refl : Kp g g H H := ⟨rfl, rfl, fun _ h => h, List.prefix_refl _, .refl⟩
theorem Kp.trans (a : Kp g g1 H H1) (b : Kp g1 g2 H1 H2) : Kp g g2 H H2 := ⟨b.h0.trans a.h0, b.r0.trans a.r0, fun x h => b.B x (a.B x h), a.pre.trans b.pre, a.keep.trans b.keep⟩
theorem Nx.kp (n : Nx g g' H H') (S : Sim K g st H) : Kp g g' H H' := ⟨n.h0, n.r0, n.B, n.pre, n.keep S⟩
theorem RepK.kp (k : Kp g g' H H') {v : V} {x : PV} (h : RepK K g H v x) : RepK K g' H' v x := by
  cases x with
  | d x => exact RD.keep k.keep h
  | ref n =>
    obtain ⟨a, e, q⟩ := h
    refine ⟨a, e, ?_⟩
    obtain ⟨t, ht⟩ := k.pre
    rw [← ht, List.getElem?_append_left (List.getElem?_eq_some_iff.mp q).1]
    exact q
  | ty n => exact h
  | fre _ => exact h
  | bor _ => exact h
  | fn _ => exact h
/-- kept, seen from fewer temporaries -/
theorem Rep.asR' {Bo : Addr → Prop} (hB : ∀ a, Bo a → g.B a) (S : Sim K g st H) {v : V} {x y : PV} (h : Rep K g Bo H v x) (e : Ev.asR x = some y) : RepK K (g.wB Bo) H v y := by
  cases x with
  | d x => cases e; exact RD.keep (.anti fun _ q => Gs.wB_pr hB q) h
  | fre x =>
    cases x with
    | list ds => ?_
    | _ => cases e
    cases e
    obtain ⟨a, rfl, o, hb, hn, h0⟩ := h
    obtain ⟨vs, o1, o2⟩ := o
    refine RD.lst (.inl o1) ?_ (o2.keep (.anti fun _ q => Gs.wB_pr hB q))
    rintro (q | q | ⟨i, x, q1, q2⟩)
    · exact hn q
    · exact S.rB a q hb
    · obtain ⟨b, h1, _, h2, _⟩ := S.own i x q1
      have q2 : g.s[i]? = some (some (.ref a)) := q2
      rw [q2] at h1; cases h1
      exact h2 hb
  | bor x => cases e
  | ref n => cases e; exact h
  | ty n => cases e
  | fn n => cases e
theorem asR_kind {x y : PV} (e : Ev.asR x = some y) : (∃ z, y = .d z) ∨ (∃ n, y = .ref n) ∨ ∃ n, y = .ty n := by
  cases x with
  | d x => cases e; exact .inl ⟨_, rfl⟩
  | fre x =>
    cases x with
    | list ds => cases e; exact .inl ⟨_, rfl⟩
    | _ => cases e
  | ref n => cases e; exact .inr (.inl ⟨_, rfl⟩)
  | _ => cases e
theorem asD_asR {x : PV} {d : PyData} (e : Ev.asD x = some d) : Ev.asR x = some (.d d) := by
  cases x with
  | d x => cases e; rfl
  | fre x =>
    cases x with
    | list ds => cases e; rfl
    | _ => cases e
  | _ => cases e
/-- an object, as what a slot owns -/
def OwnU (K : PySem.W.Frag) (pr : Addr → Prop) (H : Hp) (u : HO) : PyData → Prop
  | .list ds => ∃ vs, u = .lst vs ∧ RDs K pr H vs ds
  | .dict pd => DctAt K pr H u pd
  | _ => False
theorem OwnU.mut {pr : Addr → Prop} {u : HO} {x : PyData} (h : OwnU K pr H u x) : Mut (some u) := by
  cases x with
  | list ds => obtain ⟨vs, rfl, _⟩ := h; trivial
  | dict pd => exact DctAt.mut h
  | _ => exact h.elim
theorem OwnU.keep {pr pr' : Addr → Prop} {u : HO} {x : PyData} (h : OwnU K pr H u x) (k : Keep pr H pr' H') : OwnU K pr' H' u x := by
  cases x with
  | list ds => obtain ⟨vs, e, r⟩ := h; exact ⟨vs, e, r.keep k⟩
  | dict pd => exact DctAt.keep h k
  | _ => exact h.elim
theorem OwnU.at {a : Addr} {u : HO} {x : PyData} (h : OwnU K g.Pr H u x) (e : H a = some u) : OwnAt K g H a x := by
  cases x with
  | list ds => obtain ⟨vs, rfl, r⟩ := h; exact ⟨vs, e, r⟩
  | dict pd => exact ⟨u, e, h⟩
  | _ => exact h.elim
theorem OwnAt.u {a : Addr} {x : PyData} (h : OwnAt K g H a x) : ∃ u, H a = some u ∧ OwnU K g.Pr H u x := by
  cases x with
  | list ds => obtain ⟨vs, e, r⟩ := h; exact ⟨_, e, vs, rfl, r⟩
  | dict pd => obtain ⟨u, e, r⟩ := h; exact ⟨u, e, r⟩
  | _ => exact h.elim
/-- a slot takes a list of one's own -/
theorem Sim.seto {i : Nat} {a : Addr} {x : PyData} {u : HO} (S : Sim K g st H) (ho : H a = some u) (hb : ¬ g.B a) (hn : a ∉ g.r) (hw : ¬ OwnA g.e g.s a) (h0 : g.H0 a = none)
    (hr' : OwnU K (fun b => g.Pr b ∨ b = a) H u x) (hv : ∀ (j : Nat) x v, g.e[j]? = some (.v x) → g.s[j]? = some (some v) → RepK K (g.aB a) H v x) (hw' : ∀ (j : Nat) x b, g.e[j]? = some (.own x) → g.s[j]? = some (some (.ref b)) → OwnAt K (g.aB a) H b x)
    (hs : ∀ (n : Nat) o b, st[n]? = some o → g.r[n]? = some b → ObAt K (g.aB a) H b o) (hi : i < g.e.length) :
    Sim K { g with e := g.e.set i (.own x), s := g.s.set i (some (.ref a)) } st H ∧ ∀ b, Gs.Pr { g with e := g.e.set i (.own x), s := g.s.set i (some (.ref a)) } b → g.Pr b ∨ b = a := by
  have get : ∀ {j : Nat} {c : Cell}, (g.e.set i (.own x))[j]? = some c → (j = i ∧ c = .own x) ∨ (i ≠ j ∧ g.e[j]? = some c) := fun {j c} h => by
    by_cases hj : i = j
    · subst hj
      rw [List.getElem?_set_self hi] at h
      exact .inl ⟨rfl, (Option.some.inj h).symm⟩
    · rw [List.getElem?_set_ne hj] at h; exact .inr ⟨hj, h⟩
  have hi' : i < g.s.length := by rw [← S.len]; exact hi
  have sub : ∀ b, Gs.Pr { g with e := g.e.set i (.own x), s := g.s.set i (some (.ref a)) } b → g.Pr b ∨ b = a := by
    rintro b (h | h | ⟨j, y, h1, h2⟩)
    · exact .inl (.inl h)
    · exact .inl (.inr (.inl h))
    · have h2 : (g.s.set i (some (.ref a)))[j]? = some (some (.ref b)) := h2
      rcases get h1 with ⟨rfl, _⟩ | ⟨hj, h1⟩
      · rw [List.getElem?_set_self hi'] at h2
        cases h2
        exact .inr rfl
      · rw [List.getElem?_set_ne hj] at h2
        exact .inl (.inr (.inr ⟨j, y, h1, h2⟩))
  have sub' : ∀ b, Gs.Pr { g with e := g.e.set i (.own x), s := g.s.set i (some (.ref a)) } b → (g.aB a).Pr b := fun b h => (sub b h).elim (fun q => q.elim (fun q => .inl (.inl q)) .inr) fun q => .inl (.inr q)
  have rk : ∀ {w : V} {y : PV}, RepK K (g.aB a) H w y → RepK K { g with e := g.e.set i (.own x), s := g.s.set i (some (.ref a)) } H w y := fun {w y} h => by
    cases y with
    | d y => exact RD.keep (.anti sub') h
    | _ => exact h
  have ow : ∀ {b : Addr} {y : PyData}, OwnAt K (g.aB a) H b y → OwnAt K { g with e := g.e.set i (.own x), s := g.s.set i (some (.ref a)) } H b y := fun {b y} h => h.keep (fun _ q => q) (.anti sub')
  refine ⟨⟨by show (g.e.set i _).length = (g.s.set i _).length; rw [List.length_set, List.length_set]; exact S.len, fun j y h => ?_, fun j y h => ?_, fun j k y z b h1 h2 h3 h4 => ?_, S.slen, fun n o h => ?_, S.rB, S.nd, S.bt, S.pre, S.new, S.fr⟩, sub⟩
  · rcases get h with ⟨_, h⟩ | ⟨hj, h⟩
    · cases h
    · obtain ⟨w, h1, h2⟩ := S.val j y h
      exact ⟨w, by show (g.s.set i (some (.ref a)))[j]? = _; rw [List.getElem?_set_ne hj]; exact h1, rk (hv j y w h h1)⟩
  · rcases get h with ⟨hji, hc⟩ | ⟨hj, h⟩
    · cases hc
      exact ⟨a, by show (g.s.set i (some (.ref a)))[j]? = _; rw [hji]; exact List.getElem?_set_self hi', (hr'.keep (.anti sub)).at (g := { g with e := g.e.set i (.own x), s := g.s.set i (some (.ref a)) }) ho, hb, hn, h0⟩
    · obtain ⟨b, h1, h2, h3⟩ := S.own j y h
      exact ⟨b, by show (g.s.set i (some (.ref a)))[j]? = _; rw [List.getElem?_set_ne hj]; exact h1, ow (hw' j y b h h1), h3⟩
  · have h3 : (g.s.set i (some (.ref a)))[j]? = some (some (.ref b)) := h3
    have h4 : (g.s.set i (some (.ref a)))[k]? = some (some (.ref b)) := h4
    rcases get h1 with ⟨hji, _⟩ | ⟨hj, k1⟩
    · rw [hji, List.getElem?_set_self hi'] at h3
      cases h3
      rcases get h2 with ⟨hki, _⟩ | ⟨hk, k2⟩
      · rw [hji, hki]
      · rw [List.getElem?_set_ne hk] at h4
        exact absurd ⟨k, z, k2, h4⟩ hw
    · rw [List.getElem?_set_ne hj] at h3
      rcases get h2 with ⟨hki, _⟩ | ⟨hk, k2⟩
      · rw [hki, List.getElem?_set_self hi'] at h4
        cases h4
        exact absurd ⟨j, y, k1, h3⟩ hw
      · rw [List.getElem?_set_ne hk] at h4
        exact S.inj j k y z b k1 k2 h3 h4
  · obtain ⟨b, h1, h2⟩ := S.sto n o h
    have h2 := hs n o b h h1
    refine ⟨b, h1, ?_⟩
    exact h2.go (fun _ q => q) (.anti sub') fun _ _ q => rk q
/-- .. from a temporary -/
theorem Sim.own' {i : Nat} {V1 : V} {x : PyData} {Bo : Addr → Prop} (S : Sim K g st H) (h : Rep K g Bo H V1 (.fre x)) :
    let g' : Gs := { g with B := fun b => g.B b ∧ V1 ≠ .ref b, e := g.e.set i (.own x), s := g.s.set i (some V1) }
    Sim K g' st H ∧ ∀ b, g'.Pr b → g.Pr b := by
  obtain ⟨a, rfl, o, hb, hn, h0⟩ := h
  obtain ⟨u, o1, o2⟩ := o.u
  intro g'
  let B' : Addr → Prop := fun b => g.B b ∧ V.ref a ≠ .ref b
  have hB' : ∀ b, B' b → g.B b := fun b q => q.1
  have S' := S.weak hB'
  have up : ∀ b, (g.wB B').Pr b → g.Pr b := fun b q => Gs.wB_pr hB' q
  have up2 : ∀ b, ((g.wB B').aB a).Pr b → g.Pr b := fun b q => by
    rcases q with (q | q) | q
    · exact .inl q.1
    · rw [q]; exact .inl hb
    · exact .inr q
  have rk : ∀ {w : V} {y : PV}, RepK K g H w y → RepK K ((g.wB B').aB a) H w y := fun {w y} h => by
    cases y with
    | d y => exact RD.keep (.anti up2) h
    | _ => exact h
  have hw : ¬ OwnA g.e g.s a := fun ⟨j, y, q1, q2⟩ => by
    obtain ⟨b, h1, _, h3, _⟩ := S.own j y q1
    rw [q2] at h1; cases h1
    exact h3 hb
  by_cases hi : i < g.e.length
  case neg =>
    have e1 : g.e.set i (.own x) = g.e := List.set_eq_of_length_le (Nat.le_of_not_lt hi)
    have e2 : g.s.set i (some (V.ref a)) = g.s := List.set_eq_of_length_le (by rw [← S.len]; exact Nat.le_of_not_lt hi)
    have eg : g' = g.wB B' := by show { g with B := B', e := g.e.set i (.own x), s := g.s.set i (some (V.ref a)) } = { g with B := B' }; rw [e1, e2]
    rw [eg]
    exact ⟨S', up⟩
  have := Sim.seto (g := g.wB B') (i := i) (a := a) S' o1 (fun q => q.2 rfl) (fun q => S.rB a q hb) hw h0
    (o2.keep (.anti fun b q => q.elim (up b) fun q => by rw [q]; exact .inl hb))
    (fun j x v h1 h2 => by
      obtain ⟨v', q1, q2⟩ := S.val j x h1
      have h2 : g.s[j]? = some (some v) := h2
      rw [h2] at q1; cases q1
      exact rk q2)
    (fun j x b h1 h2 => by
      obtain ⟨b', q1, q2, _⟩ := S.own j x h1
      have h2 : g.s[j]? = some (some (.ref b)) := h2
      rw [h2] at q1; cases q1
      exact q2.keep (fun _ q => q) (.anti up2))
    (fun n o b h1 h2 => by
      obtain ⟨b', q1, q2⟩ := S.sto n o h1
      have h2 : g.r[n]? = some b := h2
      rw [h2] at q1; cases q1
      exact q2.go (fun _ q => q) (.anti up2) fun _ _ q => rk q) hi
  exact ⟨this.1, fun b q => (this.2 b q).elim (up b) fun q => by rw [q]; exact .inl hb⟩

/-- a list of one's own is changed -/
theorem Sim.mutU {j : Nat} {a : Addr} {x x' : PyData} {u' : HO} (S : Sim K g st H) (he : g.e[j]? = some (.own x)) (hs : g.s[j]? = some (some (.ref a))) (r : OwnU K g.Pr H u' x') :
    let g' : Gs := { g with e := g.e.set j (.own x') }
    Sim K g' st (upd H a u') ∧ Kp g g' H (upd H a u') := by
  intro g'
  obtain ⟨a', hs', o, hb, hn, h0⟩ := S.own j _ he
  rw [hs] at hs'; cases hs'
  obtain ⟨u, o1, mu⟩ := o.mut
  have hj : j < g.e.length := (List.getElem?_eq_some_iff.mp he).1
  have get : ∀ {k : Nat} {c : Cell}, (g.e.set j (.own x'))[k]? = some c → (k = j ∧ c = .own x') ∨ (j ≠ k ∧ g.e[k]? = some c) := fun {k c} h => by
    by_cases hk : j = k
    · subst hk
      rw [List.getElem?_set_self hj] at h
      exact .inl ⟨rfl, (Option.some.inj h).symm⟩
    · rw [List.getElem?_set_ne hk] at h; exact .inr ⟨hk, h⟩
  have pr : ∀ b, g'.Pr b → g.Pr b := fun b q => by
    rcases q with q | q | ⟨k, x, q1, q2⟩
    · exact .inl q
    · exact .inr (.inl q)
    · rcases get q1 with ⟨e, _⟩ | ⟨_, q1⟩
      · rw [e] at q2; exact .inr (.inr ⟨j, _, he, q2⟩)
      · exact .inr (.inr ⟨k, x, q1, q2⟩)
  have pa : g.Pr a := .inr (.inr ⟨j, _, he, hs⟩)
  have kp : Keep g.Pr H g'.Pr (upd H a u') := (Keep.wr pa o1 mu).trans (.anti pr)
  have rk : ∀ {w : V} {y : PV}, RepK K g H w y → RepK K g' (upd H a u') w y := fun {w y} h => by
    cases y with
    | d y => exact RD.keep kp h
    | _ => exact h
  refine ⟨?_, rfl, rfl, fun _ q => q, List.prefix_refl _, kp⟩
  exact {
    len := by show (g.e.set j _).length = _; rw [List.length_set]; exact S.len
    val := fun i x h => by
      rcases get h with ⟨_, h⟩ | ⟨_, h⟩
      · cases h
      · let ⟨v, h1, h2⟩ := S.val i x h; exact ⟨v, h1, rk h2⟩
    own := fun i x q => by
      rcases get q with ⟨e, q⟩ | ⟨hk, q⟩
      · cases q
        exact ⟨a, by rw [e]; exact hs, (r.keep kp).at upd_same, hb, hn, h0⟩
      · obtain ⟨b, h1, h2, h3, h4⟩ := S.own i x q
        refine ⟨b, h1, h2.keep (fun u q' => ?_) kp, h3, h4⟩
        rw [upd_ne (fun e => hk (by rw [e] at h1; exact S.inj j i _ _ a he q hs h1))]
        exact q'
    inj := fun i k x y b h1 h2 h3 h4 => by
      rcases get h1 with ⟨e1, _⟩ | ⟨k1, h1⟩
      · rcases get h2 with ⟨e2, _⟩ | ⟨k2, h2⟩
        · rw [e1, e2]
        · rw [e1] at h3 ⊢; exact S.inj j k _ _ b he h2 h3 h4
      · rcases get h2 with ⟨e2, _⟩ | ⟨k2, h2⟩
        · rw [e2] at h4 ⊢; exact S.inj i j _ _ b h1 he h3 h4
        · exact S.inj i k _ _ b h1 h2 h3 h4
    slen := S.slen
    sto := fun n o q => by
      obtain ⟨b, h1, h2⟩ := S.sto n o q
      have hne : b ≠ a := fun e => hn (by rw [← e]; exact List.mem_of_getElem? h1)
      refine ⟨b, h1, ?_⟩
      exact h2.go (fun u q => by rw [upd_ne hne]; exact q) kp fun _ _ q => rk q
    rB := S.rB
    nd := S.nd
    bt := fun b q e => by
      unfold upd at e
      split at e
      · cases e
      · exact S.bt b q e
    pre := S.pre
    new := S.new
    fr := fun b o q hr => by
      have hne : b ≠ a := fun e => by rw [e, h0] at q; cases q
      rw [upd_ne hne]
      exact S.fr b o q hr }
theorem Sim.mut {j : Nat} {a : Addr} {ds ds' : List PyData} {vs' : List V} (S : Sim K g st H) (he : g.e[j]? = some (.own (.list ds))) (hs : g.s[j]? = some (some (.ref a))) (r : RDs K g.Pr H vs' ds') :
    let g' : Gs := { g with e := g.e.set j (.own (.list ds')) }
    Sim K g' st (upd H a (.lst vs')) ∧ Kp g g' H (upd H a (.lst vs')) := S.mutU (x' := .list ds') he hs ⟨vs', rfl, r⟩
/-- what is one's own is kept from now on -/
theorem Sim.frz {j : Nat} {x : PyData} (S : Sim K g st H) (he : g.e[j]? = some (.own x)) : ∃ a u, H a = some u ∧ Mut (some u) ∧ ∀ od,
    let g' : Gs := { g with e := g.e.set j (.v (.d x)) }
    Sim K g' st (upd H a (.frz od u)) ∧ Kp g g' H (upd H a (.frz od u)) := by
  obtain ⟨a, hs, o, hb, hn, h0⟩ := S.own j _ he
  obtain ⟨u, o1, o2⟩ := o.u
  refine ⟨a, u, o1, o2.mut, fun od => ?_⟩
  intro g'
  have hj : j < g.e.length := (List.getElem?_eq_some_iff.mp he).1
  have get : ∀ {k : Nat} {c : Cell}, (g.e.set j (.v (.d x)))[k]? = some c → (k = j ∧ c = .v (.d x)) ∨ (j ≠ k ∧ g.e[k]? = some c) := fun {k c} h => by
    by_cases hk : j = k
    · subst hk
      rw [List.getElem?_set_self hj] at h
      exact .inl ⟨rfl, (Option.some.inj h).symm⟩
    · rw [List.getElem?_set_ne hk] at h; exact .inr ⟨hk, h⟩
  have own' : ∀ {k : Nat} {y : PyData}, g'.e[k]? = some (.own y) → j ≠ k ∧ g.e[k]? = some (.own y) := fun {k y} h => by
    rcases get h with ⟨_, h⟩ | h
    · cases h
    · exact h
  have pr : ∀ b, g'.Pr b → g.Pr b := fun b q => by
    rcases q with q | q | ⟨k, y, q1, q2⟩
    · exact .inl q
    · exact .inr (.inl q)
    · exact .inr (.inr ⟨k, y, (own' q1).2, q2⟩)
  have pa : g.Pr a := .inr (.inr ⟨j, _, he, hs⟩)
  have kp : Keep g.Pr H g'.Pr (upd H a (.frz od u)) := (Keep.wr pa o1 o2.mut).trans (.anti pr)
  have rk : ∀ {w : V} {y : PV}, RepK K g H w y → RepK K g' (upd H a (.frz od u)) w y := fun {w y} h => by
    cases y with
    | d y => exact RD.keep kp h
    | _ => exact h
  have na : ¬ g'.Pr a := by
    rintro (q | q | ⟨k, y, q1, q2⟩)
    · exact hb q
    · exact hn q
    · obtain ⟨h1, h2⟩ := own' q1
      exact h1 (S.inj j k _ _ a he h2 hs q2)
  have new : RD K g'.Pr (upd H a (.frz od u)) (.ref a) x := by
    have o3 := o2.keep kp
    cases x with
    | list ds => obtain ⟨vs, rfl, r⟩ := o3; exact RD.lst (.inr ⟨od, upd_same⟩) na r
    | dict pd =>
      have o3 : DctAt K g'.Pr (upd H a (.frz od u)) u pd := o3
      cases u with
      | dK kvs => exact RD.dct upd_same o3
      | dT kvs => exact RD.dctT upd_same o3
      | _ => exact o3.elim
    | _ => exact o3.elim
  refine ⟨?_, rfl, rfl, fun _ q => q, List.prefix_refl _, kp⟩
  exact {
    len := by show (g.e.set j _).length = _; rw [List.length_set]; exact S.len
    val := fun i x h => by
      rcases get h with ⟨e, h⟩ | ⟨_, h⟩
      · cases h
        exact ⟨.ref a, by rw [e]; exact hs, new⟩
      · let ⟨v, h1, h2⟩ := S.val i x h; exact ⟨v, h1, rk h2⟩
    own := fun i x q => by
      obtain ⟨hk, q⟩ := own' q
      obtain ⟨b, h1, h2, h3, h4⟩ := S.own i x q
      refine ⟨b, h1, h2.keep (fun u q' => ?_) kp, h3, h4⟩
      rw [upd_ne (fun e => hk (by rw [e] at h1; exact S.inj j i _ _ a he q hs h1))]
      exact q'
    inj := fun i k x y b h1 h2 h3 h4 => S.inj i k _ _ b (own' h1).2 (own' h2).2 h3 h4
    slen := S.slen
    sto := fun n o q => by
      obtain ⟨b, h1, h2⟩ := S.sto n o q
      have hne : b ≠ a := fun e => hn (by rw [← e]; exact List.mem_of_getElem? h1)
      exact ⟨b, h1, h2.go (fun u q => by rw [upd_ne hne]; exact q) kp fun _ _ q => rk q⟩
    rB := S.rB
    nd := S.nd
    bt := fun b q e => by
      unfold upd at e
      split at e
      · cases e
      · exact S.bt b q e
    pre := S.pre
    new := S.new
    fr := fun b o q hr => by
      have hne : b ≠ a := fun e => by rw [e, h0] at q; cases q
      rw [upd_ne hne]
      exact S.fr b o q hr }
/-- an object of the store is changed -/
def ObU (K : PySem.W.Frag) (g : Gs) (H : Hp) (u : HO) : Ob → Prop
  | .lst xs => ∃ vs, u = .lst vs ∧ Paired (RepK K g H) vs xs
  | .dct pd => DctAt K g.Pr H u pd
  | .tab _ _ => False
theorem ObU.at {a : Addr} {u : HO} {o : Ob} (h : ObU K g H u o) (e : H' a = some u) (kp : Keep g.Pr H g'.Pr H') (rk : ∀ v x, RepK K g H v x → RepK K g' H' v x) : ObAt K g' H' a o := by
  cases o with
  | lst xs => obtain ⟨vs, rfl, r⟩ := h; exact ⟨vs, e, Paired.imp rk r⟩
  | dct pd => exact ⟨u, e, DctAt.keep h kp⟩
  | tab _ _ => exact h.elim
theorem Sim.wrO {n : Nat} {a : Addr} {o o' : Ob} {u' : HO} (S : Sim K g st H) (he : st[n]? = some o) (hs : g.r[n]? = some a) (r : ObU K g H u' o') (nt : ∀ P q, o ≠ .tab P q := by intro _ _ q; cases q) :
    Sim K g (st.set n o') (upd H a u') ∧ Kp g g H (upd H a u') := by
  obtain ⟨a', hs', ob⟩ := S.sto n _ he
  rw [hs] at hs'; cases hs'
  obtain ⟨u, o1, mu⟩ : ∃ u, H a = some u ∧ Mut (some u) := by
    cases o with
    | lst xs => obtain ⟨vs, h1, _⟩ := ob; exact ⟨_, h1, trivial⟩
    | dct pd => obtain ⟨u, h1, d⟩ := ob; exact ⟨u, h1, d.mut⟩
    | tab P q => exact (nt P q rfl).elim
  have ha : a ∈ g.r := List.mem_of_getElem? hs
  have pa : g.Pr a := .inr (.inl ha)
  have kp : Keep g.Pr H g.Pr (upd H a u') := Keep.wr pa o1 mu
  have rk : ∀ {w : V} {y : PV}, RepK K g H w y → RepK K g (upd H a u') w y := fun {w y} h => by
    cases y with
    | d y => exact RD.keep kp h
    | _ => exact h
  refine ⟨?_, rfl, rfl, fun _ q => q, List.prefix_refl _, kp⟩
  exact {
    len := S.len
    val := fun i x h => let ⟨v, h1, h2⟩ := S.val i x h; ⟨v, h1, rk h2⟩
    own := fun i x q => by
      obtain ⟨b, h1, h2, h3, h4, h5⟩ := S.own i x q
      refine ⟨b, h1, h2.keep (fun u q => ?_) kp, h3, h4, h5⟩
      rw [upd_ne (fun e => h4 (by rw [e]; exact ha))]
      exact q
    inj := S.inj
    slen := by rw [List.length_set]; exact S.slen
    sto := fun k o q => by
      by_cases hk : n = k
      · subst hk
        rw [List.getElem?_set_self (List.getElem?_eq_some_iff.mp he).1] at q
        cases q
        exact ⟨a, hs, r.at upd_same kp fun _ _ q => rk q⟩
      · rw [List.getElem?_set_ne hk] at q
        obtain ⟨b, h1, h2⟩ := S.sto k o q
        have hne : b ≠ a := fun e => hk (by
          rw [e] at h1
          have e1 := List.getElem?_eq_some_iff.mp hs
          have e2 := List.getElem?_eq_some_iff.mp h1
          exact (List.getElem_inj S.nd).mp (e1.2.trans e2.2.symm))
        exact ⟨b, h1, h2.go (fun u q => by rw [upd_ne hne]; exact q) kp fun _ _ q => rk q⟩
    rB := S.rB
    nd := S.nd
    bt := fun b q e => by
      unfold upd at e
      split at e
      · cases e
      · exact S.bt b q e
    pre := S.pre
    new := S.new
    fr := fun b o q hr => by
      have hne : b ≠ a := fun e => by
        rcases S.new a ha with h | h
        · rw [e] at hr; exact hr h
        · rw [e, h] at q; cases q
      rw [upd_ne hne]
      exact S.fr b o q hr }
theorem Sim.wrR {n : Nat} {a : Addr} {xs xs' : List PV} {vs' : List V} (S : Sim K g st H) (he : st[n]? = some (.lst xs)) (hs : g.r[n]? = some a) (r : Paired (RepK K g H) vs' xs') :
    Sim K g (st.set n (.lst xs')) (upd H a (.lst vs')) ∧ Kp g g H (upd H a (.lst vs')) := S.wrO he hs ⟨vs', rfl, r⟩
def dropB (x : PV) (V1 : V) (B : Addr → Prop) : Addr → Prop := match x with
  | .fre _ => fun b => B b ∧ V1 ≠ .ref b
  | _ => B
/-- a slot takes a value -/
theorem putC_spec {own : Bool} {i : Nat} {x : PV} {V1 : V} {Bo : Addr → Prop} {e1 : Envr} (S : Sim K g st H) (h : Rep K g Bo H V1 x) (hB : ∀ a, Bo a → g.B a) (hc : putC own i x g.e = some e1) :
    let g' : Gs := { g with B := dropB x V1 g.B, e := e1, s := g.s.set i (some V1) }
    Sim K g' st H ∧ (∀ b, g'.Pr b → g.Pr b) ∧ ∀ b, Bo b → g'.B b := by
  intro g'
  have hB' : ∀ b, Bo b → g'.B b := fun b q => by
    show dropB x V1 g.B b
    unfold dropB
    split
    · obtain ⟨a, rfl, _, _, hn, _⟩ := h
      exact ⟨hB b q, fun e => by cases e; exact hn q⟩
    · exact hB b q
  cases own with
  | true =>
    cases x with
    | fre y =>
      cases hc
      obtain ⟨k1, k2⟩ := S.own' h (i := i)
      exact ⟨k1, k2, hB'⟩
    | _ => cases hc
  | false =>
    simp only [putC, Option.map_eq_some_iff] at hc
    obtain ⟨y, hy, rfl⟩ := hc
    have hd : ∀ b, dropB x V1 g.B b → g.B b := fun b q => by
      unfold dropB at q
      split at q
      · exact q.1
      · exact q
    have hr : Rep K g (dropB x V1 g.B) H V1 x := by
      cases x with
      | fre z =>
        obtain ⟨a, rfl, o, hb, hn, h0⟩ := h
        exact ⟨a, rfl, o, hb, fun q => q.2 rfl, h0⟩
      | _ => exact h
    have rr := hr.asR' hd S hy
    obtain ⟨k1, k2⟩ := Sim.setv (i := i) (S.weak hd) rr (asR_kind hy)
    exact ⟨k1, fun b q => Gs.wB_pr hd (k2 b q), hB'⟩
theorem putC_fb {own : Bool} {i : Nat} {y : PV} {e e1 : Envr} (hc : putC own i y e = some e1) : ∀ z, y ≠ .bor z := fun z e => by
  subst e
  cases own <;> cases hc
/-- what else is at hand, behind it -/
theorem Rep.after {x y : PV} {V1 V2 : V} {B1 Bo : Addr → Prop} {e1 : Envr} {s1 : L2.St} (h : Rep K g B1 H V2 y) (hy : ∀ z, y ≠ .bor z) (h1 : ∀ b, Bo b → B1 b) (h2 : ∀ z b, x = .fre z → V1 = .ref b → B1 b)
    (pr : ∀ b, Gs.Pr { g with B := dropB x V1 g.B, e := e1, s := s1 } b → g.Pr b) : Rep K { g with B := dropB x V1 g.B, e := e1, s := s1 } Bo H V2 y := by
  cases y with
  | d y => exact RD.keep (.anti pr) h
  | fre y =>
    obtain ⟨a, rfl, o, hb, hn, h0⟩ := h
    refine ⟨a, rfl, o.keep (fun _ q => q) (.anti pr), ?_, fun q => hn (h1 a q), h0⟩
    show dropB x V1 g.B a
    unfold dropB
    split
    · rename_i z
      exact ⟨hb, fun e => hn (h2 z a rfl e)⟩
    · exact hb
  | bor z => exact absurd rfl (hy z)
  | ref n => exact h
  | ty n => exact h
  | fn n => exact h
/-- an item of what is one's own is set -/
theorem setD_spec {pr : Addr → Prop} {a : Addr} {x x' w d : PyData} {V1 V2 : V} {u : HO} (hu : H a = some u) (o : OwnU K pr H u x) (hx : setD x w d = some x') (rw' : RT K pr H V2 w) (rd : RD K pr H V1 d) :
    ∃ u', OwnU K pr H u' x' ∧ ∀ Q : Hp → Prop, Q (upd H a u') → rSetL (.ref a) V2 V1 H Q ∨ ∃ b H', V.ref a = .ref b ∧ DPutE H b V2 V1 H' ∧ Q H' := by
  unfold setD at hx
  split at hx
  · rw [Option.map_eq_some_iff] at hx
    obtain ⟨n, hn, rfl⟩ := hx
    obtain ⟨vs, rfl, r⟩ := o
    cases rw'.int
    exact ⟨_, ⟨_, rfl, RDs.set rd n r⟩, fun Q q => .inl ⟨a, vs, _, n, rfl, rfl, hu, by rw [r.length]; exact hn, q⟩⟩
  · rw [Option.bind_eq_some_iff] at hx
    obtain ⟨k, hk, hx⟩ := hx
    split at hx
    · rename_i hc
      cases hx
      rw [Bool.and_eq_true, decide_eq_true_eq] at hc
      obtain ⟨u', h1, h2⟩ := dct_put hu (show DctAt K pr H u _ from o) (rt_key rw' hk) hk hc.1 hc.2 rd
      exact ⟨u', h2, fun Q q => .inr ⟨a, _, rfl, h1, q⟩⟩
    · cases hx
  · cases hx
end
end Ev

set_option maxRecDepth 100000
/-! Ev15: statements are sound. -/
namespace Ev
open PySem L2 PySem.W PyProof.Rows PySem.SeqAt

def rsp (r : RS) (nx br ct : Envr → Sto → Prop) (rt : PV → Sto → Prop) : Prop := match r with
  | .nx e s => nx e s
  | .br e s => br e s
  | .ct e s => ct e s
  | .rt v s => rt v s
  | _ => False
theorem rsp_imp {r : RS} {nx br ct nx' br' ct' : Envr → Sto → Prop} {rt rt' : PV → Sto → Prop} (h : rsp r nx br ct rt) (h1 : ∀ e s, nx e s → nx' e s) (h2 : ∀ e s, br e s → br' e s) (h3 : ∀ e s, ct e s → ct' e s) (h4 : ∀ e s, rt e s → rt' e s) : rsp r nx' br' ct' rt' := by
  cases r with
  | nx e s => exact h1 e s h
  | br e s => exact h2 e s h
  | ct e s => exact h3 e s h
  | rt v s => exact h4 v s h
  | _ => exact h
theorem rsp_ofR {α : Type} {e : Envr} {r : R α} {f : α → Sto → RS} {nx br ct : Envr → Sto → Prop} {rt : PV → Sto → Prop} (h : rsp (RS.ofR e r f) nx br ct rt) : RP r fun a s => rsp (f a s) nx br ct rt := by
  cases r with
  | ok a s => exact h
  | _ => exact h
section
variable (K : PySem.W.Frag)
/-- .. from a state on -/
def goNx (g : Gs) (H : Hp) (Q : L2.St → Hp → Prop) : Envr → Sto → Prop := fun e' st' => ∀ g' H', g'.e = e' → Kp g g' H H' → g'.B = g.B → Sim K g' st' H' → Q g'.s H'
def goRt (g : Gs) (H : Hp) (Q : VK) : PV → Sto → Prop := fun v st' => ∀ g' H' w, Kp g g' H H' → g'.B = g.B → Sim K g' st' H' → RepK K g' H' w v → Q w H'
def tS (f : Envr → Sto → RS) : TS := fun D σ H => ∃ g st, g.s = σ ∧ Sim K g st H ∧ rsp (f g.e st) (goNx K g H D.nx) (goNx K g H D.bk) (goNx K g H D.ct) (goRt K g H D.rt)
def tAr (f : Envr → Sto → R (PV × Envr)) : TE := fun σ H Q => ∃ g st, g.s = σ ∧ Sim K g st H ∧ RP (f g.e st) fun p st' => ∀ g' H' w, g'.s = g.s → g'.e = p.2 → Kp g g' H H' → Sim K g' st' H' → Rep K g' g.B H' w p.1 → Q w H'
end
section
variable {K : PySem.W.Frag} {g g' g1 g2 : Gs} {st st' st1 st2 : Sto} {H H' H1 H2 : Hp}
theorem goNx.kp {Q : L2.St → Hp → Prop} {e : Envr} {s : Sto} (h : goNx K g H Q e s) (k : Kp g g1 H H1) (hB : g1.B = g.B) : goNx K g1 H1 Q e s := fun g' H' he k' hB' S => h g' H' he (k.trans k') (hB'.trans hB) S
theorem goRt.kp {Q : VK} {e : PV} {s : Sto} (h : goRt K g H Q e s) (k : Kp g g1 H H1) (hB : g1.B = g.B) : goRt K g1 H1 Q e s := fun g' H' w k' hB' S r => h g' H' w (k.trans k') (hB'.trans hB) S r
theorem Kp.weak (k : Kp g g' H H') : Kp g (g'.wB g.B) H H' := ⟨k.h0, k.r0, fun _ q => q, k.pre, k.keep.trans (.anti fun _ q => Gs.wB_pr k.B q)⟩
theorem ofA {fa : Envr → Sto → R (PV × Envr)} {R : V → Hp → Prop} {p : PV × Envr → Sto → Prop} (S : Sim K g st H) (h : RP (fa g.e st) p)
    (k : ∀ x s1 g1 H1 V1, p x s1 → g1.s = g.s → g1.e = x.2 → Kp g g1 H H1 → Sim K g1 s1 H1 → Rep K g1 g.B H1 V1 x.1 → R V1 H1) : tAr K fa g.s H R :=
  ⟨g, st, rfl, S, h.imp fun x s1 h g1 H1 V1 h1 h2 n1 S1 r1 => k x s1 g1 H1 V1 h h1 h2 n1 S1 r1⟩
end

/-! ### side conditions -/
section
variable {X : Cx}
theorem blk_fun (hk : X.env.scope.kind = .function) : X.env.blockKind = .function := by unfold Env.blockKind; rw [hk]; rfl
theorem swaps_no {x : Str} {p : Pos} {e : Expr} {l : Nat} (hk : X.env.scope.kind = .function) (h : swapB X.env.scope x p e = false) : swapsWith e (some (.Name x p)) l X.env = pure false := by
  cases e with
  | ListComp elt gens s pos =>
    unfold swapB at h
    show (pure (X.env.blockKind == .function && X.env.kindOf x == some .local && p.line == pos.line && !(s.names.any fun (n, k) => n == x && (k == .local || k == .cell))) : Sem Bool) = pure false
    rw [blk_fun hk]
    exact congrArg pure h
  | SetComp => cases h
  | DictComp => cases h
  | _ => rfl
theorem swaps_yes {x : Str} {p : Pos} {elt : Expr} {gens : List Comprehension} {s : Scope} {pos : Pos} {l : Nat} (hk : X.env.scope.kind = .function) (h : swapB X.env.scope x p (.ListComp elt gens s pos) = true) : swapsWith (.ListComp elt gens s pos) (some (.Name x p)) l X.env = pure true := by
  unfold swapB at h
  show (pure (X.env.blockKind == .function && X.env.kindOf x == some .local && p.line == pos.line && !(s.names.any fun (n, k) => n == x && (k == .local || k == .cell))) : Sem Bool) = pure true
  rw [blk_fun hk]
  exact congrArg pure h
theorem swaps_none {e : Expr} {l : Nat} (h : isComp e = false) : swapsWith e none l X.env = pure false := by
  cases e <;> first | rfl | cases h
theorem swaps_tup {e : Expr} {l k : Nat} {ts : List Expr} {p : Pos} : swapsWithSole [.Tuple ts k p] e l X.env = pure false := by
  cases e <;> rfl
theorem swaps_sub {e a b : Expr} {l : Nat} {p : Pos} : swapsWithSole [.Subscript a b p] e l X.env = pure false := by
  cases e <;> rfl
theorem stores_sub {e a b : Expr} {p : Pos} : swappedStores [.Subscript a b p] e X.env = pure none := by
  cases e <;> rfl
theorem stores_no {ts : List Expr} {k : Nat} {p : Pos} {e : Expr} (h : noStores ts e = true) : swappedStores [.Tuple ts k p] e X.env = pure none := by
  cases e with
  | Tuple vs k2 p2 =>
    unfold noStores at h
    unfold swappedStores
    simp only [Bool.or_eq_true, Bool.and_eq_true, bne_iff_ne, ne_eq] at h
    dsimp only
    split
    · rfl
    · rename_i hc
      simp only [Bool.or_eq_true, Bool.not_eq_true', bne_iff_ne, ne_eq, not_or, Bool.not_eq_false, beq_iff_eq, Decidable.not_not] at hc
      obtain ⟨⟨c1, c2⟩, c3⟩ := hc
      have hf : vs.all (foldedForSure 8) = true := by
        rcases h with (h | h) | h
        · rcases c1 with c1 | c1
          · exact absurd c1 h.1
          · exact absurd c1 h.2
        · exact absurd c2 h
        · exact h
      split
      · rfl
      · split
        · rfl
        · rfl
  | _ => rfl
theorem dups2 {x y : Str} (h : x ≠ y) : [x, y].eraseDups = [x, y] := by
  have : (y == x) = false := by rw [beq_eq_false_iff_ne]; exact Ne.symm h
  show List.eraseDupsBy (· == ·) [x, y] = _
  unfold List.eraseDupsBy
  simp [List.eraseDupsBy.loop, this]
theorem dups3 {x y z : Str} (h : x ≠ y) (h2 : x ≠ z) (h3 : y ≠ z) : [x, y, z].eraseDups = [x, y, z] := by
  have e1 : (y == x) = false := by rw [beq_eq_false_iff_ne]; exact Ne.symm h
  have e2 : (z == x) = false := by rw [beq_eq_false_iff_ne]; exact Ne.symm h2
  have e3 : (z == y) = false := by rw [beq_eq_false_iff_ne]; exact Ne.symm h3
  show List.eraseDupsBy (· == ·) [x, y, z] = _
  unfold List.eraseDupsBy
  simp [List.eraseDupsBy.loop, e1, e2, e3]
theorem stores_2 {x y : Str} {px py pt pt2 : Pos} {k k2 : Nat} {a b : Expr} (hk : X.env.scope.kind = .function) (hx : X.env.scope.names.lookup x = some .local) (hy : X.env.scope.names.lookup y = some .local) (hxy : x ≠ y) (hl : (py.line == px.line) = true)
    (ha : notStar a = true) (hb : notStar b = true) (h1 : [a, b].all (foldedForSure 8) = false) (h2 : [a, b].all (constantsAlone 8) = false) : swappedStores [.Tuple [.Name x px, .Name y py] k pt] (.Tuple [a, b] k2 pt2) X.env = pure (some [x, y]) := by
  have e1 : (X.env.kindOf x == some .local) = true := by unfold Env.kindOf; rw [hx]; rfl
  have e2 : (X.env.kindOf y == some .local) = true := by unfold Env.kindOf; rw [hy]; rfl
  have e3 : (([Expr.Name x px, Expr.Name y py].head?.map (·.pos.line)).getD 0) = px.line := rfl
  unfold swappedStores
  dsimp only
  split
  · rename_i hc
    rw [blk_fun hk] at hc
    exact absurd hc (by simp)
  · split
    · rename_i hc
      rw [List.any_eq_true] at hc
      obtain ⟨v, hv, q⟩ := hc
      rcases List.mem_cons.mp hv with e | e
      · rw [e] at q; cases a <;> first | (cases q; done) | (cases ha; done)
      · rw [List.mem_singleton.mp e] at q; cases b <;> first | (cases q; done) | (cases hb; done)
    · simp only [List.filterMap_cons, e1, e2, e3, hl, beq_self_eq_true, Bool.and_self, if_true, List.filterMap_nil]
      split
      · rename_i hc
        exact absurd hc (by rw [dups2 hxy]; simp)
      · rw [h1, if_neg Bool.false_ne_true, h2, if_neg Bool.false_ne_true]
theorem stores_3 {x y z : Str} {px py pz pt pt2 : Pos} {k k2 : Nat} {a b d : Expr} (hk : X.env.scope.kind = .function) (hx : X.env.scope.names.lookup x = some .local) (hy : X.env.scope.names.lookup y = some .local) (hz : X.env.scope.names.lookup z = some .local)
    (hxy : x ≠ y) (hxz : x ≠ z) (hyz : y ≠ z) (hl : (py.line == px.line) = true) (hl2 : (pz.line == px.line) = true)
    (ha : notStar a = true) (hb : notStar b = true) (hd : notStar d = true) (h1 : [a, b, d].all (foldedForSure 8) = false) (h2 : [a, b, d].all (constantsAlone 8) = false) :
    swappedStores [.Tuple [.Name x px, .Name y py, .Name z pz] k pt] (.Tuple [a, b, d] k2 pt2) X.env = pure (some [x, y, z]) := by
  have e1 : (X.env.kindOf x == some .local) = true := by unfold Env.kindOf; rw [hx]; rfl
  have e2 : (X.env.kindOf y == some .local) = true := by unfold Env.kindOf; rw [hy]; rfl
  have e4 : (X.env.kindOf z == some .local) = true := by unfold Env.kindOf; rw [hz]; rfl
  have e3 : (([Expr.Name x px, Expr.Name y py, Expr.Name z pz].head?.map (·.pos.line)).getD 0) = px.line := rfl
  unfold swappedStores
  dsimp only
  split
  · rename_i hc
    rw [blk_fun hk] at hc
    exact absurd hc (by simp)
  · split
    · rename_i hc
      rw [List.any_eq_true] at hc
      obtain ⟨v, hv, q⟩ := hc
      rcases List.mem_cons.mp hv with e | e
      · rw [e] at q; cases a <;> first | (cases q; done) | (cases ha; done)
      · rcases List.mem_cons.mp e with e | e
        · rw [e] at q; cases b <;> first | (cases q; done) | (cases hb; done)
        · rw [List.mem_singleton.mp e] at q; cases d <;> first | (cases q; done) | (cases hd; done)
    · simp only [List.filterMap_cons, e1, e2, e3, e4, hl, hl2, beq_self_eq_true, Bool.and_self, if_true, List.filterMap_nil]
      split
      · rename_i hc
        exact absurd hc (by rw [dups3 hxy hxz hyz]; simp)
      · rw [h1, if_neg Bool.false_ne_true, h2, if_neg Bool.false_ne_true]
theorem stores_c2 {x y : Str} {px py pt pt2 : Pos} {k k2 : Nat} {a b : Expr} (h : (isLoc X.env.scope x && isLoc X.env.scope y) = false) : swappedStores [.Tuple [.Name x px, .Name y py] k pt] (.Tuple [a, b] k2 pt2) X.env = pure none := by
  have hne : ¬ (X.env.kindOf x = some .local ∧ X.env.kindOf y = some .local) := fun ⟨h1, h2⟩ => by
    unfold isLoc at h
    rw [show X.env.scope.names.lookup x = some .local from h1, show X.env.scope.names.lookup y = some .local from h2] at h
    simp at h
  have key : ∀ l : Nat, (([Expr.Name x px, Expr.Name y py].filterMap fun
    | .Name id pos => if X.env.kindOf id == some .local && pos.line == l then some id else none
    | _ => none).length != 2) = true := fun l => by
    simp only [List.filterMap_cons, List.filterMap_nil]
    by_cases h1 : X.env.kindOf x = some .local
    · have h2 : (X.env.kindOf y == some .local) = false := by rw [beq_eq_false_iff_ne]; exact fun q => hne ⟨h1, q⟩
      simp only [h2, Bool.false_and]
      split <;> simp
    · have h2 : (X.env.kindOf x == some .local) = false := by rw [beq_eq_false_iff_ne]; exact h1
      simp only [h2, Bool.false_and]
      cases hh : (X.env.kindOf y == some NameKind.local && py.line == l) <;> simp [hh]
  unfold swappedStores
  dsimp only
  split
  · rfl
  · split
    · rfl
    · rw [if_pos]
      rw [Bool.or_eq_true]
      exact .inl (key _)
theorem stores_c3 {x y z : Str} {px py pz pt pt2 : Pos} {k k2 : Nat} {a b d : Expr} (h : (isLoc X.env.scope x && isLoc X.env.scope y && isLoc X.env.scope z) = false) : swappedStores [.Tuple [.Name x px, .Name y py, .Name z pz] k pt] (.Tuple [a, b, d] k2 pt2) X.env = pure none := by
  have hne : ¬ (X.env.kindOf x = some .local ∧ X.env.kindOf y = some .local ∧ X.env.kindOf z = some .local) := fun ⟨h1, h2, h3⟩ => by
    unfold isLoc at h
    rw [show X.env.scope.names.lookup x = some .local from h1, show X.env.scope.names.lookup y = some .local from h2, show X.env.scope.names.lookup z = some .local from h3] at h
    simp at h
  have key : ∀ l : Nat, (([Expr.Name x px, Expr.Name y py, Expr.Name z pz].filterMap fun
    | .Name id pos => if X.env.kindOf id == some .local && pos.line == l then some id else none
    | _ => none).length != 3) = true := fun l => by
    simp only [List.filterMap_cons, List.filterMap_nil]
    cases h1 : (X.env.kindOf x == some NameKind.local && px.line == l) <;> cases h2 : (X.env.kindOf y == some NameKind.local && py.line == l) <;> cases h3 : (X.env.kindOf z == some NameKind.local && pz.line == l) <;> simp [h1, h2, h3]
    simp only [Bool.and_eq_true, beq_iff_eq] at h1 h2 h3
    exact hne ⟨h1.1, h2.1, h3.1⟩
  unfold swappedStores
  dsimp only
  split
  · rfl
  · split
    · rfl
    · rw [if_pos]
      rw [Bool.or_eq_true]
      exact .inl (key _)
end
end Ev

set_option maxRecDepth 100000
/-! Ev16: statements are sound. -/
namespace Ev
open PySem L2 PySem.W PyProof.Rows PySem.SeqAt

structure OkS (T : Tab) (c : Nat → List PV → Sto → R PV) (X : Cx) : Prop extends Ok T c X where
  kind : X.env.scope.kind = .function
  fn : ∀ x, X.fn x = true
  pass : PassesOwn (model X.prog X.w) X.A X.env X.xe
section
variable {T : Tab} {c : Nat → List PV → Sto → R PV} {X : Cx} {K : PySem.W.Frag}
theorem few1 {X : Cx} {e : Expr} {cpos : Pos} (h : notStar e = true) : ((backTo cpos (starEach [e] X.env)).all (fun x => !x.1) && (backToKw cpos (keywordEach [] X.env)).all (fun x => x.1.isSome)
      && decide (([e] : List Expr).length + ([] : List Keyword).length + (if ([] : List Keyword).isEmpty then 0 else 1) < 30)) = true := by
  rw [star1 h]; rfl
theorem lc_imp {own : List Nat} {gt : G} {it : It} {ts : Es} {y : E} (hin : gIn own gt = true) (σ : L2.St) (H : Hp) (Q : VK) (q : tEv K (evE c (.lc own gt it ts y)) σ H Q) :
    tLc (tI K true (evI c it true)) (gT K gt) (tTs K (evTs c ts)) (tEv K (evE c y)) own σ H Q := by
  obtain ⟨g, st, e, S, h⟩ := q
  subst e
  rw [evE] at h
  split at h
  · rename_i hn
    exact lc_core S hn hin h
  · exact h.elim
theorem box_imp {a : E} (σ : L2.St) (H : Hp) (Q : VK) (q : tEv K (evE c (.box a)) σ H Q) : tEv K (evE c a) σ H Q := by
  obtain ⟨g, st, e, S, h⟩ := q
  subst e
  rw [evE] at h
  refine one S h.bind fun x s1 g1 H1 V1 h n1 S1 r1 => ?_
  split at h
  · exact Fin.box (st := st) h n1 S1 r1
  · exact Fin.boxD (st := st) h n1 S1 r1
  · exact h.elim
theorem ar_imp {a : E} (σ : L2.St) (H : Hp) (Q : VK) (q : tAr K (evA c (.e a)) σ H Q) : tEv K (evE c a) σ H Q := by
  obtain ⟨g, st, e, S, h⟩ := q
  subst e
  rw [evA] at h
  refine one S h.bind fun x s1 g1 H1 V1 h n1 S1 r1 => ?_
  exact h g1 H1 V1 n1.s n1.e (n1.kp S) S1 r1
theorem sndA (ok : Ok T c X) : ∀ (a : A) {e : Expr}, ckA T X.N X.env.scope a e = true → PE X e (tAr X.K (evA c a))
  | .e a, e, h => (sndE a ok h).pe.imp ar_imp
  | .pop j, e, h => by
    rw [ckA.eq_def] at h
    dsimp only at h
    split at h
    · simp only [Bool.and_eq_true, decide_eq_true_eq] at h
      obtain ⟨⟨⟨hN, hv⟩, rfl⟩, hl⟩ := h
      obtain ⟨v1, v2, v3⟩ := vis_spec hv
      refine (pe_bm0 PySem.F.plainAttrs_list PySem.F.slot_list_pop PySem.F.type_list_pop mt_pop (pe_var hN v1 v2 v3) rfl hl).imp fun σ H Q ⟨g, st, e, S, h⟩ => ?_
      subst e
      rw [evA] at h
      split at h
      · rename_i ds hj
        split at h
        · rename_i x hx
          obtain ⟨a, hs, ⟨vs, o1, o2⟩, _⟩ := S.own j _ hj
          obtain ⟨y, hy, ry⟩ := o2.get hx
          obtain ⟨k1, k2⟩ := S.mut hj hs o2.dropLast
          rw [← o2.length] at hy
          exact ⟨.ref a, hs, .inl ⟨rfl, vs, .inl (.inl o1)⟩, a, vs, y, rfl, rfl, o1, hy, h { g with e := g.e.set j (.own (.list ds.dropLast)) } _ y rfl rfl k2 k1 (show RD _ _ _ _ _ from ry.keep k2.keep)⟩
        · exact h.elim
      · exact h.elim
    · cases h
  | .popAt j b, e, h => by
    rw [ckA.eq_def] at h
    dsimp only at h
    split at h
    · simp only [Bool.and_eq_true, decide_eq_true_eq] at h
      obtain ⟨⟨⟨⟨⟨hN, hv⟩, rfl⟩, hl⟩, hst⟩, hb⟩ := h
      obtain ⟨v1, v2, v3⟩ := vis_spec hv
      refine (pe_bm PySem.F.plainAttrs_list PySem.F.slot_list_pop PySem.F.type_list_pop mt_popAt (pe_var hN v1 v2 v3) (pa_cons (sndE b ok hb).pe pa_nil (star1 hst)) rfl (few1 hst) hl (star1 hst) rfl).imp fun σ H Q ⟨g, st, e, S, h⟩ => ?_
      subst e
      rw [evA] at h
      have hj : ∃ ds, g.e[j]? = some (.own (.list ds)) := by
        cases q : evE c b g.e st with
        | ok x s1 =>
          rw [q] at h
          have h : RP (match x with
            | .d (.int i) => match g.e[j]? with
              | some (.own (.list ds)) => match seqIndex? i ds.length with
                | some k => match ds[k]? with
                  | some y => if fits i then R.ok (PV.d y, g.e.set j (.own (.list (ds.eraseIdx k)))) s1 else .bad
                  | none => .bad
                | none => .bad
              | _ => .bad
            | _ => .bad) _ := h
          split at h
          · split at h
            · rename_i ds hj; exact ⟨ds, hj⟩
            · exact h.elim
          · exact h.elim
        | ex _ _ _ => rw [q] at h; exact h.elim
        | bad => rw [q] at h; exact h.elim
      obtain ⟨ds, hj⟩ := hj
      obtain ⟨a, hs, ⟨vs, o1, o2⟩, _⟩ := S.own j _ hj
      refine ⟨.ref a, hs, .inl ⟨rfl, vs, .inl (.inl o1)⟩, one S h.bind fun x s1 g1 H1 V1 h n1 S1 r1 => ?_⟩
      split at h
      · cases r1.int_
        rw [hj] at h
        dsimp only at h
        have hj1 : g1.e[j]? = some (.own (.list ds)) := by rw [n1.e]; exact hj
        have hs1 : g1.s[j]? = some (some (.ref a)) := by rw [n1.s]; exact hs
        obtain ⟨a', hs', ⟨vs, o1, o2⟩, _⟩ := S1.own j _ hj1
        rw [hs1] at hs'; cases hs'
        split at h
        · rename_i k hk
          split at h
          · rename_i y hy
            split at h
            · rename_i hf
              have hf := fits_eq hf
              obtain ⟨u, hu, ru⟩ := o2.get hy
              obtain ⟨k1, k2⟩ := S1.mut hj1 hs1 (o2.eraseIdx k)
              rw [← o2.length] at hk
              refine ⟨a, vs, _, k, u, rfl, rfl, o1, hf.1, hf.2, hk, hu, h _ _ u ?_ ?_ ((n1.kp S).trans k2) k1 (show RD _ _ _ _ _ from ru.keep k2.keep)⟩
              · exact n1.s
              · show g1.e.set j _ = _
                rw [n1.e]
            · exact h.elim
          · exact h.elim
        · exact h.elim
      · exact h.elim
    · cases h
theorem evA_own {a : A} {e : Envr} {st s1 : Sto} {p : PV × Envr} (h : evA c a e st = .ok p s1) {i : Nat} {x : List PyData} (q : p.2[i]? = some (.own (.list x))) : ∃ y, e[i]? = some (.own (.list y)) := by
  have aux : ∀ {j : Nat} {z w : List PyData}, e[j]? = some (.own (.list z)) → (e.set j (.own (.list w)))[i]? = some (.own (.list x)) → ∃ y, e[i]? = some (.own (.list y)) := fun {j z w} hj hi => by
    by_cases hji : j = i
    · subst hji; exact ⟨z, hj⟩
    · rw [List.getElem?_set_ne hji] at hi; exact ⟨x, hi⟩
  cases a with
  | e a =>
    rw [evA] at h
    cases q' : evE c a e st with
    | ok y s2 => rw [q'] at h; cases h; exact ⟨x, q⟩
    | ex _ _ _ => rw [q'] at h; cases h
    | bad => rw [q'] at h; cases h
  | pop j =>
    rw [evA] at h
    split at h
    · rename_i ds hj
      split at h
      · cases h; exact aux hj q
      · cases h
    · cases h
  | popAt j a =>
    rw [evA] at h
    cases q' : evE c a e st with
    | ok y s2 =>
      rw [q'] at h
      dsimp only [R.bind] at h
      split at h
      · split at h
        · rename_i ds hj
          split at h
          · split at h
            · split at h
              · cases h; exact aux hj q
              · cases h
            · cases h
          · cases h
        · cases h
      · cases h
    | ex _ _ _ => rw [q'] at h; cases h
    | bad => rw [q'] at h; cases h
theorem ckNs_mono {N : List Str} {sc : Scope} {f : Str → Bool} : ∀ {is : List Nat} {es : List Expr}, ckG.ckNs N sc (fun _ => false) is es = true → ckG.ckNs N sc f is es = true
  | [], [], _ => rfl
  | [], _ :: _, h => by cases h
  | _ :: _, [], h => by cases h
  | i :: is, e :: es, h => by
    cases e with
    | Name x p =>
      unfold ckG.ckNs at h ⊢
      simp only [Bool.and_eq_true, Bool.or_eq_true, decide_eq_true_eq, Bool.false_eq_true, and_false, or_false] at h ⊢
      exact ⟨⟨h.1.1, .inl h.1.2⟩, ckNs_mono h.2⟩
    | _ => cases h
theorem ckG_mono {N : List Str} {sc : Scope} {f : Str → Bool} {gt : G} {tg : Expr} (h : ckG N sc (fun _ => false) gt tg = true) : ckG N sc f gt tg = true := by
  unfold ckG at h ⊢
  split at h
  · simp only [Bool.and_eq_true, Bool.or_eq_true, decide_eq_true_eq, Bool.false_eq_true, and_false, or_false] at h ⊢
    exact ⟨h.1, .inl h.2⟩
  · exact ckNs_mono h
  · cases h
theorem findI_spec {k : Int} : ∀ {ns : List Int} {ds' : List PyData}, findI k (ns.map .int) = some ds' → ∃ j : Nat, ns[j]? = some k ∧ (∀ m : Nat, m < j → ns[m]? ≠ some k) ∧ ds' = (ns.eraseIdx j).map .int
  | [], ds', h => by cases h
  | n :: ns, ds', h => by
    rw [List.map_cons, findI] at h
    split at h
    · rename_i hk
      cases h
      exact ⟨0, by simp [hk], fun m hm => absurd hm (Nat.not_lt_zero _), rfl⟩
    · rename_i hk
      rw [Option.map_eq_some_iff] at h
      obtain ⟨ds, h1, rfl⟩ := h
      obtain ⟨j, j1, j2, rfl⟩ := findI_spec h1
      refine ⟨j + 1, by simpa using j1, fun m hm => ?_, rfl⟩
      cases m with
      | zero => simpa using hk
      | succ m => simpa using j2 m (by omega)
theorem Paired.set {α β : Type} {F : α → β → Prop} {xs : List α} {ys : List β} {a : α} {b : β} (h : Paired F xs ys) (r : F a b) : ∀ i : Nat, Paired F (xs.set i a) (ys.set i b) := by
  induction h with
  | nil => intro i; exact .nil
  | cons r' t ih =>
    intro i
    cases i with
    | zero => exact .cons r t
    | succ i => exact .cons r' (ih i)
theorem Paired.eraseIdx {α β : Type} {F : α → β → Prop} {xs : List α} {ys : List β} (h : Paired F xs ys) : ∀ i : Nat, Paired F (xs.eraseIdx i) (ys.eraseIdx i) := by
  induction h with
  | nil => intro i; exact .nil
  | cons r' t ih =>
    intro i
    cases i with
    | zero => exact t
    | succ i => exact .cons r' (ih i)

/-- an assignment to a name, by its value -/
theorem set_core {own : Bool} {i : Nat} {a : A} {D : Ends} {σ : L2.St} {H : Hp} (q : tS K (exS c (.set own i a)) D σ H) : tAr K (evA c a) σ H (fun x H1 => gName i x σ H1 D.nx) := by
  obtain ⟨g, st, e, S, h⟩ := q
  subst e
  rw [exS] at h
  refine ofA S (rsp_ofR h) fun p s1 g1 H1 V1 h hs he k1 S1 r1 => ?_
  split at h
  · rename_i e1 hc
    rw [← he] at hc
    obtain ⟨S2, pr, b⟩ := putC_spec S1 r1 k1.B hc
    have kk : Kp g { g1 with B := g.B, e := e1, s := g1.s.set i (some V1) } H H1 := ⟨k1.h0, k1.r0, fun _ q => q, k1.pre, k1.keep.trans (.anti fun x q => pr x (Gs.wB_pr b q))⟩
    have := h { g1 with B := g.B, e := e1, s := g1.s.set i (some V1) } H1 rfl kk rfl (S2.weak b)
    rw [← hs]
    exact this
  · exact h.elim
theorem Rep.laid {g : Gs} {H : Hp} {Bo : Addr → Prop} {p : Addr} {o : HO} (hp : H p = none) {v : V} {x : PV} (h : Rep K g Bo H v x) : Rep K g Bo (upd H p o) v x := by
  cases x with
  | fre x =>
    obtain ⟨a, e, o, hb, hn, h0⟩ := h
    exact ⟨a, e, o.laid hp, hb, hn, h0⟩
  | bor x => exact h
  | d x => exact RepK.laid (x := .d x) hp h
  | ref n => exact h
  | ty n => exact h
  | fn n => exact h
theorem par2_fin {o1 o2 : Bool} {i j : Nat} {g g2 : Gs} {st s2 : Sto} {H H2 : Hp} {V1 V2 : V} {x y : PV} {B1 : Addr → Prop} {Q Q2 Q3 : L2.St → Hp → Prop} {QR : VK} (S : Sim K g st H) (nn : Nx g g2 H H2) (S2 : Sim K g2 s2 H2) (r1 : Rep K g2 g.B H2 V1 x) (r2 : Rep K g2 B1 H2 V2 y) (hB : ∀ a, g.B a → B1 a)
    (fr : ∀ z b, x = .fre z → V1 = .ref b → B1 b) (h : rsp (match (putC o1 i x g.e).bind fun e1 => putC o2 j y e1 with
      | some e2 => .nx e2 s2
      | none => .bad) (goNx K g H Q) (goNx K g H Q2) (goNx K g H Q3) (goRt K g H QR)) : Q ((g2.s.set i (some V1)).set j (some V2)) H2 := by
  split at h
  · rename_i e2 hc
    rw [Option.bind_eq_some_iff] at hc
    obtain ⟨e1, c1, c2⟩ := hc
    rw [← nn.e] at c1
    obtain ⟨S3, pr3, b3⟩ := putC_spec S2 r1 nn.B c1
    have r3 := Rep.after r2 (putC_fb c2) hB fr pr3
    obtain ⟨S4, pr4, b4⟩ := putC_spec S3 r3 b3 c2
    have kk : Kp g { g2 with B := g.B, e := e2, s := (g2.s.set i (some V1)).set j (some V2) } H H2 := ⟨nn.h0, nn.r0, fun _ q => q, nn.pre, (nn.keep S).trans (.anti fun x q => pr3 x (pr4 x (Gs.wB_pr b4 q)))⟩
    exact h { g2 with B := g.B, e := e2, s := (g2.s.set i (some V1)).set j (some V2) } H2 rfl kk rfl (S4.weak b4)
  · exact h.elim
theorem fre_in {Bo : Addr → Prop} {g1 : Gs} {H1 : Hp} {V1 : V} {x : PV} (r1 : Rep K g1 Bo H1 V1 x) : ∀ z b, x = .fre z → V1 = .ref b → g1.B b := fun z b q1 q2 => by subst q1; subst q2; obtain ⟨a, ea, _, hb, _⟩ := r1; cases ea; exact hb
theorem par2_core {o1 o2 : Bool} {i j : Nat} {a b : E} {D : Ends} {σ : L2.St} {H : Hp} (q : tS K (exS c (.par2 o1 i o2 j a b)) D σ H) : tPar i j (tCons (tEv K (evE c a)) (tCons (tEv K (evE c b)) tNil)) D σ H := by
  obtain ⟨g, st, e, S, h⟩ := q
  subst e
  rw [exS] at h
  refine one S (rsp_ofR h) fun x s1 g1 H1 V1 h n1 S1 r1 => ?_
  rw [← n1.s]
  refine one S1 (by rw [n1.e]; exact rsp_ofR h) fun y s2 g2 H2 V2 h n2 S2 r2 => ?_
  refine ⟨V1, V2, rfl, ?_⟩
  rw [← n2.s]
  exact par2_fin S (n1.trans S1 n2) S2 (r1.keep n2 S1) r2 n1.B (fre_in r1) h
theorem par2T_core {o1 o2 : Bool} {i j : Nat} {a b : E} {D : Ends} {σ : L2.St} {H : Hp} (q : tS K (exS c (.par2 o1 i o2 j a b)) D σ H) : tAsg (tTup (tCons (tEv K (evE c a)) (tCons (tEv K (evE c b)) tNil))) (gT K (.tp [i, j])) D σ H := by
  obtain ⟨g, st, e, S, h⟩ := q
  subst e
  rw [exS] at h
  refine one S (rsp_ofR h) fun x s1 g1 H1 V1 h n1 S1 r1 => ?_
  rw [← n1.s]
  refine one S1 (by rw [n1.e]; exact rsp_ofR h) fun y s2 g2 H2 V2 h n2 S2 r2 => ?_
  refine ⟨by show 2 ≤ sizeLine; decide, fun p hp => ⟨p, [V1, V2], rfl, .inl (.inl upd_same), rfl, V1, _, rfl, V2, _, rfl, rfl, ?_⟩⟩
  rw [← n2.s]
  exact par2_fin S ((n1.trans S1 n2).laid S2 hp) (S2.laid hp) ((r1.keep n2 S1).laid hp) (r2.laid hp) n1.B (fre_in r1) h
theorem par3_fin {o1 o2 o3 : Bool} {i j l : Nat} {g g2 : Gs} {st s2 : Sto} {H H2 : Hp} {V1 V2 V3 : V} {x y z : PV} {B1 B2 : Addr → Prop} {Q Q2 Q3 : L2.St → Hp → Prop} {QR : VK} (S : Sim K g st H) (nn : Nx g g2 H H2) (S2 : Sim K g2 s2 H2) (r1 : Rep K g2 g.B H2 V1 x) (r2 : Rep K g2 B1 H2 V2 y) (r3 : Rep K g2 B2 H2 V3 z)
    (hB : ∀ a, g.B a → B1 a) (hB2 : ∀ a, B1 a → B2 a) (fr : ∀ z b, x = .fre z → V1 = .ref b → B1 b) (fr2 : ∀ z b, y = .fre z → V2 = .ref b → B2 b) (h : rsp (match ((putC o1 i x g.e).bind fun e1 => putC o2 j y e1).bind fun e2 => putC o3 l z e2 with
      | some e2 => .nx e2 s2
      | none => .bad) (goNx K g H Q) (goNx K g H Q2) (goNx K g H Q3) (goRt K g H QR)) : Q (((g2.s.set i (some V1)).set j (some V2)).set l (some V3)) H2 := by
  split at h
  · rename_i e3 hc
    simp only [Option.bind_eq_some_iff] at hc
    obtain ⟨e2, ⟨e1, c1, c2⟩, c3⟩ := hc
    rw [← nn.e] at c1
    obtain ⟨S4, pr4, b4⟩ := putC_spec S2 r1 nn.B c1
    have r2' := Rep.after r2 (putC_fb c2) hB fr pr4
    have r3' := Rep.after (Bo := B2) r3 (putC_fb c3) (fun _ q => q) (fun z b q1 q2 => hB2 b (fr z b q1 q2)) pr4
    obtain ⟨S5, pr5, b5⟩ := putC_spec S4 r2' b4 c2
    have r3'' := Rep.after (Bo := g.B) r3' (putC_fb c3) (fun a q => hB2 a (hB a q)) fr2 pr5
    obtain ⟨S6, pr6, b6⟩ := putC_spec S5 r3'' b5 c3
    have kk : Kp g { g2 with B := g.B, e := e3, s := ((g2.s.set i (some V1)).set j (some V2)).set l (some V3) } H H2 := ⟨nn.h0, nn.r0, fun _ q => q, nn.pre, (nn.keep S).trans (.anti fun x q => pr4 x (pr5 x (pr6 x (Gs.wB_pr b6 q))))⟩
    exact h { g2 with B := g.B, e := e3, s := ((g2.s.set i (some V1)).set j (some V2)).set l (some V3) } H2 rfl kk rfl (S6.weak b6)
  · exact h.elim
theorem par3_core {o1 o2 o3 : Bool} {i j l : Nat} {a b d : E} {D : Ends} {σ : L2.St} {H : Hp} (q : tS K (exS c (.par3 o1 i o2 j o3 l a b d)) D σ H) : tPar3 i j l (tCons (tEv K (evE c a)) (tCons (tEv K (evE c b)) (tCons (tEv K (evE c d)) tNil))) D σ H := by
  obtain ⟨g, st, e, S, h⟩ := q
  subst e
  rw [exS] at h
  refine one S (rsp_ofR h) fun x s1 g1 H1 V1 h n1 S1 r1 => ?_
  rw [← n1.s]
  refine one S1 (by rw [n1.e]; exact rsp_ofR h) fun y s2 g2 H2 V2 h n2 S2 r2 => ?_
  rw [← n2.s]
  refine one S2 (by rw [n2.e, n1.e]; exact rsp_ofR h) fun z s3 g3 H3 V3 h n3 S3 r3 => ?_
  refine ⟨V1, V2, V3, rfl, ?_⟩
  rw [← n3.s]
  exact par3_fin S ((n1.trans S1 n2).trans S2 n3) S3 ((r1.keep n2 S1).keep n3 S2) (r2.keep n3 S2) r3 n1.B n2.B (fre_in r1) (fre_in r2) h
theorem par3T_core {o1 o2 o3 : Bool} {i j l : Nat} {a b d : E} {D : Ends} {σ : L2.St} {H : Hp} (q : tS K (exS c (.par3 o1 i o2 j o3 l a b d)) D σ H) : tAsg (tTup (tCons (tEv K (evE c a)) (tCons (tEv K (evE c b)) (tCons (tEv K (evE c d)) tNil)))) (gT K (.tp [i, j, l])) D σ H := by
  obtain ⟨g, st, e, S, h⟩ := q
  subst e
  rw [exS] at h
  refine one S (rsp_ofR h) fun x s1 g1 H1 V1 h n1 S1 r1 => ?_
  rw [← n1.s]
  refine one S1 (by rw [n1.e]; exact rsp_ofR h) fun y s2 g2 H2 V2 h n2 S2 r2 => ?_
  rw [← n2.s]
  refine one S2 (by rw [n2.e, n1.e]; exact rsp_ofR h) fun z s3 g3 H3 V3 h n3 S3 r3 => ?_
  refine ⟨by show 3 ≤ sizeLine; decide, fun p hp => ⟨p, [V1, V2, V3], rfl, .inl (.inl upd_same), rfl, V1, _, rfl, V2, _, rfl, V3, _, rfl, rfl, ?_⟩⟩
  rw [← n3.s]
  exact par3_fin S (((n1.trans S1 n2).trans S2 n3).laid S3 hp) (S3.laid hp) (((r1.keep n2 S1).keep n3 S2).laid hp) ((r2.keep n3 S2).laid hp) (r3.laid hp) n1.B n2.B (fre_in r1) (fre_in r2) h
end
end Ev

set_option maxRecDepth 100000
/-! Ev17: statements are sound, by induction. -/
namespace Ev
open PySem L2 PySem.W PyProof.Rows PySem.SeqAt

section
variable {T : Tab} {c : Nat → List PV → Sto → R PV} {X : Cx} {K : PySem.W.Frag}
theorem asg_core {gt : G} {a : E} {D : Ends} {σ : L2.St} {H : Hp} (q : tS K (exS c (.asg gt a)) D σ H) : tAsg (tEv K (evE c a)) (gT K gt) D σ H := by
  obtain ⟨g, st, e, S, h⟩ := q
  subst e
  rw [exS] at h
  refine one S (rsp_ofR h) fun x s1 g1 H1 V1 h n1 S1 r1 => ?_
  split at h
  · rename_i e1 hc
    rw [Option.bind_eq_some_iff] at hc
    obtain ⟨d, hd, hc⟩ := hc
    have S2 := S1.weak n1.B
    obtain ⟨s1', ⟨S3, pr⟩, _, k⟩ := asg_spec (gt := gt) (e1 := e1) S2 (by show Ev.asg g1.e gt d = some e1; rw [n1.e]; exact hc) (r1.asD n1 S1 hd)
    rw [← n1.s]
    exact k D.nx (h { g1 with B := g.B, e := e1, s := s1' } H1 rfl ⟨n1.h0, n1.r0, fun _ q => q, n1.pre, (n1.keep S).trans (.anti fun b q => Gs.wB_pr n1.B (pr b q))⟩ rfl S3)
  · exact h.elim
theorem app_core {i : Nat} {a : A} {D : Ends} {σ : L2.St} {H : Hp} (q : tS K (exS c (.app i a)) D σ H) : tDrop (tBM K "list" rAppend (fun σ H Q => ∃ v, σ[i]? = some (some v) ∧ Q v H) (tCons (tAr K (evA c a)) tNil)) D σ H := by
  obtain ⟨g, st, e, S, h⟩ := q
  subst e
  rw [exS] at h
  have hi : ∃ x, g.e[i]? = some (.own (.list x)) := by
    cases q : evA c a g.e st with
    | ok p s1 =>
      rw [q] at h
      dsimp only [RS.ofR] at h
      split at h
      · rename_i hq; exact evA_own q hq
      · exact h.elim
    | ex _ _ _ => rw [q] at h; exact h.elim
    | bad => rw [q] at h; exact h.elim
  obtain ⟨x, hi⟩ := hi
  obtain ⟨a0, hs, ⟨vs, o1, o2⟩, _⟩ := S.own i _ hi
  refine ⟨.ref a0, hs, .inl ⟨rfl, vs, .inl (.inl o1)⟩, ofA S (rsp_ofR h) fun p s1 g1 H1 V1 h hs1 he k1 S1 r1 => ?_⟩
  split at h
  · rename_i d ds' hd hp
    split at h
    · rename_i hl
      rw [← he] at hp
      have S2 := S1.weak k1.B
      have rr : RD K (g1.wB g.B).Pr H1 V1 d := Rep.asR' k1.B S1 r1 (asD_asR hd)
      obtain ⟨a1, hs', ⟨vs', p1, p2⟩, _⟩ := S2.own i _ hp
      have hs' : g1.s[i]? = some (some (.ref a1)) := hs'
      rw [hs1, hs] at hs'
      cases hs'
      obtain ⟨k2, k3⟩ := S2.mut (ds' := ds' ++ [d]) (vs' := vs' ++ [V1]) hp (by show g1.s[i]? = _; rw [hs1]; exact hs) (p2.append (.cons rr .nil))
      refine ⟨a0, vs', V1, rfl, rfl, p1, by rw [p2.length]; exact hl, ?_⟩
      have := h { g1.wB g.B with e := g1.e.set i (.own (.list (ds' ++ [d]))) } _ (by show g1.e.set i _ = _; rw [he]) (k1.weak.trans k3) rfl k2
      rw [← hs1]
      exact this
    · exact h.elim
  · exact h.elim
theorem rem_core {i : Nat} {a : E} {D : Ends} {σ : L2.St} {H : Hp} (q : tS K (exS c (.rem i a)) D σ H) : tDrop (tBM K "list" rRemI (fun σ H Q => ∃ v, σ[i]? = some (some v) ∧ Q v H) (tCons (tEv K (evE c a)) tNil)) D σ H := by
  obtain ⟨g, st, e, S, h⟩ := q
  subst e
  rw [exS] at h
  have hi : ∃ x, g.e[i]? = some (.own (.list x)) := by
    cases q : evE c a g.e st with
    | ok p s1 =>
      rw [q] at h
      dsimp only [RS.ofR] at h
      split at h
      · rename_i hq; exact ⟨_, hq⟩
      · exact h.elim
    | ex _ _ _ => rw [q] at h; exact h.elim
    | bad => rw [q] at h; exact h.elim
  obtain ⟨ds, hi⟩ := hi
  obtain ⟨a0, hs, ⟨vs, o1, o2⟩, _⟩ := S.own i _ hi
  refine ⟨.ref a0, hs, .inl ⟨rfl, vs, .inl (.inl o1)⟩, one S (rsp_ofR h) fun x s1 g1 H1 V1 h n1 S1 r1 => ?_⟩
  split at h
  · cases r1.int_
    rename_i hq
    rw [hi] at hq
    cases hq
    split at h
    · rename_i ns hns
      split at h
      · rename_i ds' hf
        have eds := allInts_eq hns
        subst eds
        obtain ⟨j, j1, j2, rfl⟩ := findI_spec hf
        have S2 := S1.weak n1.B
        have hi2 : (g1.wB g.B).e[i]? = some (.own (.list (ns.map .int))) := by show g1.e[i]? = _; rw [n1.e]; exact hi
        have hs2 : (g1.wB g.B).s[i]? = some (some (.ref a0)) := by show g1.s[i]? = _; rw [n1.s]; exact hs
        obtain ⟨a1, hs', ⟨vs', p1, p2⟩, _⟩ := S2.own i _ hi2
        rw [hs2] at hs'; cases hs'
        cases p2.to_ints
        obtain ⟨k2, k3⟩ := S2.mut (ds' := (ns.eraseIdx j).map .int) (vs' := (ns.eraseIdx j).map V.int) hi2 hs2 (RDs.ints _)
        refine ⟨a0, ns, _, j, rfl, rfl, p1, j1, j2, ?_⟩
        have := h { g1.wB g.B with e := g1.e.set i (.own (.list ((ns.eraseIdx j).map .int))) } _ (by show g1.e.set i _ = _; rw [n1.e]) (n1.weak.kp S |>.trans k3) rfl k2
        rw [← n1.s]
        exact this
      · exact h.elim
    · exact h.elim
  · exact h.elim
/-- o[i] = v, by values -/
def rSetA : TSet := fun o i v H Q => rSetL o i v H Q ∨ ∃ b H', o = .ref b ∧ DPutE H b i v H' ∧ Q H'
theorem set_any {X : Cx} (hu : X.A.units + 1 < cLine) : PSet X rSetA := PSet.or set_list (set_dictE hu)
theorem setR_core {o i a : E} {D : Ends} {σ : L2.St} {H : Hp} (q : tS K (exS c (.setR o i a)) D σ H) : tAsg (tEv K (evE c a)) (gSub (tEv K (evE c o)) (tEv K (evE c i)) rSetA) D σ H := by
  obtain ⟨g, st, e, S, h⟩ := q
  subst e
  rw [exS] at h
  refine one S (rsp_ofR h) fun x s1 g1 H1 V1 h n1 S1 r1 => ?_
  rw [← n1.s]
  refine one S1 (by rw [n1.e]; exact rsp_ofR h) fun y s2 g2 H2 V2 h n2 S2 r2 => ?_
  rw [← n2.s]
  refine one S2 (by rw [n2.e, n1.e]; exact rsp_ofR h) fun z s3 g3 H3 V3 h n3 S3 r3 => ?_
  have nn := (n1.trans S1 n2).trans S2 n3
  have S4 := S3.weak nn.B
  split at h
  · obtain ⟨b, rfl, hb⟩ := r2.keep n3 S2
    split at h
    · rename_i xs hx
      split at h
      · rename_i hu
        cases r3.int_
        split at h
        · rename_i j hj
          obtain ⟨b', hb', vs, o1, o2⟩ := S4.sto _ _ hx
          cases hb.symm.trans (show g3.r[_]? = some b' from hb')
          have ru : RepK K (g3.wB g.B) H3 V1 _ := Rep.asR' nn.B S3 ((r1.keep n2 S1).keep n3 S2) hu
          obtain ⟨k1, k2⟩ := S4.wrR (vs' := vs.set j V1) hx hb (Paired.set o2 ru j)
          rw [← Paired.length o2] at hj
          refine .inl ⟨b, vs, _, j, rfl, rfl, o1, hj, ?_⟩
          have := h (g3.wB g.B) _ nn.e (nn.weak.kp S |>.trans k2) rfl k1
          rw [← n3.s]
          exact this
        · exact h.elim
      · exact h.elim
    · rename_i pd hx
      split at h
      · rename_i d w hd hw
        split at h
        · rename_i pd' hset
          obtain ⟨b', hb', u, o1, o2⟩ := S4.sto _ _ hx
          cases hb.symm.trans (show g3.r[_]? = some b' from hb')
          have ru : RepK K (g3.wB g.B) H3 V1 (.d d) := Rep.asR' nn.B S3 ((r1.keep n2 S1).keep n3 S2) (asD_asR hd)
          have ry : RT K (g3.wB g.B).Pr H3 V3 w := RT.weak nn.B (r3.rt S3 hw)
          obtain ⟨u', q1, q2⟩ := setD_spec (x := .dict pd) o1 o2 hset ry ru
          obtain ⟨k1, k2⟩ := S4.wrO (o' := .dct pd') hx hb q1
          refine q2 _ ?_
          have := h (g3.wB g.B) _ nn.e (nn.weak.kp S |>.trans k2) rfl k1
          rw [← n3.s]
          exact this
        · exact h.elim
      · exact h.elim
    · exact h.elim
  · exact h.elim
theorem popR_core {o i : E} {D : Ends} {σ : L2.St} {H : Hp} (q : tS K (exS c (.popR o i)) D σ H) : tDrop (tBM K "list" rPopAt (tEv K (evE c o)) (tCons (tEv K (evE c i)) tNil)) D σ H := by
  obtain ⟨g, st, e, S, h⟩ := q
  subst e
  rw [exS] at h
  refine one S (rsp_ofR h) fun y s2 g2 H2 V2 h n2 S2 r2 => ?_
  split at h
  case h_2 => exact h.elim
  rename_i n
  split at h
  case h_2 => exact h.elim
  rename_i xs0 hx0
  obtain ⟨b, rfl, hb⟩ := r2
  obtain ⟨b0, hb0, ws, hw, _⟩ := S2.sto _ _ hx0
  cases hb.symm.trans hb0
  refine ⟨.inl ⟨rfl, ws, .inl (.inl hw)⟩, ?_⟩
  rw [← n2.s]
  refine one S2 (by rw [n2.e]; exact rsp_ofR h) fun z s3 g3 H3 V3 h n3 S3 r3 => ?_
  have nn := n2.trans S2 n3
  split at h
  · rename_i k xs hx
    cases r3.int_
    split at h
    · rename_i j hj
      split at h
      · rename_i hf
        rw [Bool.and_eq_true, decide_eq_true_eq] at hf
        have hf := And.intro (fits_eq hf.1) hf.2
        have S4 := S3.weak nn.B
        have hb3 : g3.r[n]? = some b := by
          obtain ⟨t, ht⟩ := n3.pre
          rw [← ht, List.getElem?_append_left (List.getElem?_eq_some_iff.mp hb).1]
          exact hb
        obtain ⟨b', hb', vs, o1, o2⟩ := S4.sto _ _ hx
        cases hb3.symm.trans (show g3.r[n]? = some b' from hb')
        obtain ⟨k1, k2⟩ := S4.wrR hx hb3 (Paired.eraseIdx o2 j)
        have hl := Paired.length o2
        refine ⟨b, vs, _, j, vs[j]'(by rw [hl]; exact hf.2), rfl, rfl, o1, hf.1.1, hf.1.2, by rw [hl]; exact hj, List.getElem?_eq_getElem _, ?_⟩
        have := h (g3.wB g.B) _ nn.e (nn.weak.kp S |>.trans k2) rfl k1
        rw [← n3.s]
        exact this
      · exact h.elim
    · exact h.elim
  · exact h.elim
/-- an item of one's own is set, in the state -/
theorem own_set {j : Nat} {a : Addr} {x x' w d : PyData} {V1 V2 : V} {g : Gs} {st : Sto} {H : Hp} (S : Sim K g st H) (he : g.e[j]? = some (.own x)) (hs : g.s[j]? = some (some (.ref a))) (hx : setD x w d = some x') (rw' : RT K g.Pr H V2 w) (rd : RD K g.Pr H V1 d) {Q : Hp → Prop}
    (h : ∀ H', Sim K { g with e := g.e.set j (.own x') } st H' → Kp g { g with e := g.e.set j (.own x') } H H' → Q H') : rSetA (.ref a) V2 V1 H Q := by
  obtain ⟨a', hs', o, _⟩ := S.own j _ he
  rw [hs] at hs'; cases hs'
  obtain ⟨u, hu, ou⟩ := o.u
  obtain ⟨u', q1, q2⟩ := setD_spec hu ou hx rw' rd
  obtain ⟨k1, k2⟩ := S.mutU he hs q1
  exact q2 Q (h _ k1 k2)
theorem setO_core {i : Nat} {k a : E} {D : Ends} {σ : L2.St} {H : Hp} (q : tS K (exS c (.setO i k a)) D σ H) : tAsg (tEv K (evE c a)) (gSub (fun σ H Q => ∃ v, σ[i]? = some (some v) ∧ Q v H) (tEv K (evE c k)) rSetA) D σ H := by
  obtain ⟨g, st, e, S, h⟩ := q
  subst e
  rw [exS] at h
  refine one S (rsp_ofR h) fun x s1 g1 H1 V1 h n1 S1 r1 => ?_
  have hi : ∃ z, g.e[i]? = some (.own z) := by
    obtain ⟨y, sy, _, h⟩ := (rsp_ofR h).inv
    split at h
    · rename_i hq hd hw; exact ⟨_, hq⟩
    · exact h.elim
  obtain ⟨z, hi⟩ := hi
  obtain ⟨a0, hs, _⟩ := S.own i _ hi
  refine ⟨.ref a0, hs, ?_⟩
  rw [← n1.s]
  refine one S1 (by rw [n1.e]; exact rsp_ofR h) fun y s2 g2 H2 V2 h n2 S2 r2 => ?_
  have nn := n1.trans S1 n2
  have S3 := S2.weak nn.B
  split at h
  · rename_i x0 d w hq hd hw
    rw [hi] at hq
    cases hq
    split at h
    · rename_i x' hset
      refine own_set S3 (show g2.e[i]? = _ by rw [nn.e]; exact hi) (show g2.s[i]? = _ by rw [nn.s]; exact hs) hset (RT.weak nn.B ((r2.mono n1.B).rt S2 hw)) (Rep.asR' nn.B S2 (r1.keep n2 S1) (asD_asR hd)) fun H' k1 k2 => ?_
      have := h { g2.wB g.B with e := g2.e.set i (.own x') } H' (by show g2.e.set i _ = _; rw [nn.e]) (nn.weak.kp S |>.trans k2) rfl k1
      rw [← n2.s]
      exact this
    · exact h.elim
  · exact h.elim
theorem augD_int {o : Op2} {z u r : PyData} (h : augD o z u = some r) : ∃ i j k, z = .int i ∧ u = .int j ∧ r = .int k := by
  unfold augD at h
  split at h
  · cases h; exact ⟨_, _, _, rfl, rfl, rfl⟩
  · cases h; exact ⟨_, _, _, rfl, rfl, rfl⟩
  · split at h
    · cases h; exact ⟨_, _, _, rfl, rfl, rfl⟩
    · cases h
  · cases h
/-- op=, by values -/
def rAug : Op2 → TIp
  | .add => ipI fun i j => i + j
  | .sub => ipI fun i j => i - j
  | .mul => rI CMul fun i j => .int (i * j)
  | _ => fun _ _ _ _ => False
theorem ip_all {X : Cx} (o : Op2) : PIp X (opOf o) (rAug o) := by
  cases o with
  | add => exact ip_add
  | sub => exact ip_sub
  | mul => exact iop_mul
  | _ => exact fun _ _ _ _ _ _ _ _ _ _ _ _ h => h.elim
theorem aug_spec {pr : Addr → Prop} {H : Hp} {o : Op2} {z u r : PyData} {V1 V2 : V} {Q : VK} (h : augD o z u = some r) (h1 : RT K pr H V1 z) (h2 : RT K pr H V2 u) (q : ∀ v, RD K pr H v r → Q v H) : rAug o V1 V2 H Q := by
  obtain ⟨i, j, k, rfl, rfl, rfl⟩ := augD_int h
  cases h1.int
  cases h2.int
  cases o <;> simp only [augD] at h <;> try (cases h; done)
  · cases h; exact ⟨_, _, rfl, rfl, q _ (.int _)⟩
  · cases h; exact ⟨_, _, rfl, rfl, q _ (.int _)⟩
  · split at h
    · rename_i hl
      cases h
      refine ⟨_, _, rfl, rfl, ?_, q _ (.int _)⟩
      (simp only [mulOk, Bool.or_eq_true, decide_eq_true_eq] at hl; unfold CMul; omega)
    · cases h
theorem aug_core {i : Nat} {o : Op2} {a : E} {D : Ends} {σ : L2.St} {H : Hp} (q : tS K (exS c (.aug i o a)) D σ H) : tAug i (tEv K (evE c a)) (rAug o) D σ H := by
  obtain ⟨g, st, e, S, h⟩ := q
  subst e
  rw [exS] at h
  split at h
  · rename_i z hz
    obtain ⟨v, hv, rv⟩ := S.val i _ hz
    have rv : RD K g.Pr H v z := rv
    refine ⟨v, hv, one S (rsp_ofR h) fun x s1 g1 H1 V1 h n1 S1 r1 => ?_⟩
    split at h
    · rename_i r hr
      rw [Option.bind_eq_some_iff] at hr
      obtain ⟨u, hu, hr⟩ := hr
      have S2 := S1.weak n1.B
      refine aug_spec (pr := (g1.wB g.B).Pr) hr (RT.weak n1.B (RD.rt (rv.keep (n1.keep S)))) (RT.weak n1.B (r1.rt S1 hu)) fun v' rv' => ?_
      obtain ⟨k1, k2⟩ := Sim.setv (i := i) (x := .d r) S2 rv'
      have := h { g1.wB g.B with e := g1.e.set i (.v (.d r)), s := g1.s.set i (some v') } H1 (by show g1.e.set i _ = _; rw [n1.e]) ⟨n1.h0, n1.r0, fun _ q => q, n1.pre, (n1.weak.keep S).trans (.anti k2)⟩ rfl k1
      rw [← n1.s]
      exact this
    · exact h.elim
  · exact h.elim
/-- o[i], by values -/
def rGetA (K : PySem.W.Frag) : V → V → Hp → VK → Prop := fun x y H Q => (rIxL K x y H Q ∨ rIxT K x y H Q) ∨ rIxDct x y H Q
theorem augO_core {i : Nat} {o : Op2} {k a : E} {D : Ends} {σ : L2.St} {H : Hp} (q : tS K (exS c (.augO i k o a)) D σ H) : tAugS (fun σ H Q => ∃ v, σ[i]? = some (some v) ∧ Q v H) (tEv K (evE c k)) (tEv K (evE c a)) (rGetA K) (rAug o) rSetA D σ H := by
  obtain ⟨g, st, e, S, h⟩ := q
  subst e
  rw [exS] at h
  have hi : ∃ z, g.e[i]? = some (.own z) := by
    obtain ⟨y, sy, _, h⟩ := (rsp_ofR h).inv
    split at h
    · rename_i hq hk; exact ⟨_, hq⟩
    · exact h.elim
  obtain ⟨z, hi⟩ := hi
  obtain ⟨a0, hs, _⟩ := S.own i _ hi
  refine ⟨.ref a0, hs, one S (rsp_ofR h) fun y s1 g1 H1 V1 h n1 S1 r1 => ?_⟩
  split at h
  · rename_i x0 w hq
    rw [hi] at hq
    cases hq
    have r1 : RD K g1.Pr H1 V1 w := r1
    have r1' : RD K (g1.wB g.B).Pr H1 V1 w := r1.keep (.anti fun _ q => Gs.wB_pr n1.B q)
    split at h
    · rename_i z0 hz
      have hi1 : g1.e[i]? = some (.own z) := by rw [n1.e]; exact hi
      have hs1 : g1.s[i]? = some (some (.ref a0)) := by rw [n1.s]; exact hs
      obtain ⟨a1, hs', ow, _⟩ := S1.own i _ hi1
      rw [hs1] at hs'; cases hs'
      have S1' := S1.weak n1.B
      refine ix_spec (g := g1.wB g.B) (st := s1) hz S1' (RT.weak n1.B ow.rt) (RD.rt r1') fun g' H' old n' S' ro => ?_
      have ro : RD K g'.Pr H' old z0 := ro
      have nn := n1.weak.trans S1' n'
      have es : g'.s = g.s := nn.s
      have ee : g'.e = g.e := nn.e
      rw [← es]
      refine one S' (by rw [ee]; exact rsp_ofR h) fun v s2 g2 H2 V2 h n2 S2 r2 => ?_
      have n3 := nn.trans S' n2
      have S3 := S2.weak n3.B
      split at h
      · rename_i r hr
        rw [Option.bind_eq_some_iff] at hr
        obtain ⟨u, hu, hr⟩ := hr
        split at h
        · rename_i x' hset
          have ro2 : RD K (g2.wB g.B).Pr H2 old z0 := (ro.keep (n2.keep S')).keep (.anti fun _ q => Gs.wB_pr n3.B q)
          refine aug_spec (pr := (g2.wB g.B).Pr) hr (RD.rt ro2) (RT.weak n3.B (r2.rt S2 hu)) fun v' rv' => ?_
          have hw2 : RT K (g2.wB g.B).Pr H2 V1 w := RD.rt (((r1'.keep (n'.keep S1')).keep (n2.keep S')).keep (.anti fun _ q => Gs.wB_pr n3.B q))
          · refine own_set S3 (show g2.e[i]? = _ by rw [n3.e]; exact hi) (show g2.s[i]? = _ by rw [n3.s]; exact hs) hset hw2 rv' fun H' k1 k2 => ?_
            have := h { g2.wB g.B with e := g2.e.set i (.own x') } H' (by show g2.e.set i _ = _; rw [n3.e]) (n3.weak.kp S |>.trans k2) rfl k1
            rw [← n2.s]
            exact this
        · exact h.elim
      · exact h.elim
    · exact h.elim
  · exact h.elim
theorem ext_core {i : Nat} {a : E} {D : Ends} {σ : L2.St} {H : Hp} (q : tS K (exS c (.ext i a)) D σ H) : tDrop (tBM K "list" rExtend (fun σ H Q => ∃ v, σ[i]? = some (some v) ∧ Q v H) (tCons (tEv K (evE c a)) tNil)) D σ H := by
  obtain ⟨g, st, e, S, h⟩ := q
  subst e
  rw [exS] at h
  have hi : ∃ z, g.e[i]? = some (.own (.list z)) := by
    obtain ⟨y, sy, _, h⟩ := (rsp_ofR h).inv
    split at h
    · rename_i hq hk; exact ⟨_, hq⟩
    · exact h.elim
  obtain ⟨ds, hi⟩ := hi
  obtain ⟨a0, hs, ⟨vs, o1, o2⟩, _⟩ := S.own i _ hi
  refine ⟨.ref a0, hs, .inl ⟨rfl, vs, .inl (.inl o1)⟩, one S (rsp_ofR h) fun x s1 g1 H1 V1 h n1 S1 r1 => ?_⟩
  split at h
  · rename_i xs ys hq
    rw [hi] at hq
    cases hq
    split at h
    · rename_i hl
      obtain ⟨b, rfl, ⟨ws, b1, b2⟩, hb, hn, h0⟩ := r1
      have S2 := S1.weak n1.B
      have hi2 : (g1.wB g.B).e[i]? = some (.own (.list ds)) := by show g1.e[i]? = _; rw [n1.e]; exact hi
      have hs2 : (g1.wB g.B).s[i]? = some (some (.ref a0)) := by show g1.s[i]? = _; rw [n1.s]; exact hs
      obtain ⟨a1, hs', ⟨vs', p1, p2⟩, _⟩ := S2.own i _ hi2
      rw [hs2] at hs'; cases hs'
      have b3 := b2.keep (pr' := (g1.wB g.B).Pr) (.anti fun _ q => Gs.wB_pr n1.B q)
      obtain ⟨k2, k3⟩ := S2.mut (ds' := ds ++ ys) (vs' := vs' ++ ws) hi2 hs2 (p2.append b3)
      refine ⟨a0, b, vs', ws, rfl, rfl, p1, b1, by rw [p2.length, b3.length]; exact hl, ?_⟩
      have := h { g1.wB g.B with e := g1.e.set i (.own (.list (ds ++ ys))) } _ (by show g1.e.set i _ = _; rw [n1.e]) (n1.weak.kp S |>.trans k3) rfl k2
      rw [← n1.s]
      exact this
    · exact h.elim
  · exact h.elim
theorem swp_core {i : Nat} {k1 k2 a b : E} {D : Ends} {σ : L2.St} {H : Hp} (q : tS K (exS c (.swp i k1 k2 a b)) D σ H) : tAsg (tTup (tCons (tEv K (evE c a)) (tCons (tEv K (evE c b)) tNil))) (gTup K 2 (gCons (gSub (fun σ H Q => ∃ v, σ[i]? = some (some v) ∧ Q v H) (tEv K (evE c k1)) rSetA) (gCons (gSub (fun σ H Q => ∃ v, σ[i]? = some (some v) ∧ Q v H) (tEv K (evE c k2)) rSetA) gNil))) D σ H := by
  obtain ⟨g, st, e, S, h⟩ := q
  subst e
  rw [exS] at h
  refine one S (rsp_ofR h) fun x s1 g1 H1 V1 h n1 S1 r1 => ?_
  rw [← n1.s]
  refine one S1 (by rw [n1.e]; exact rsp_ofR h) fun y s2 g2 H2 V2 h n2 S2 r2 => ?_
  refine ⟨by show 2 ≤ sizeLine; decide, fun p hp => ⟨p, [V1, V2], rfl, .inl (.inl upd_same), rfl, V1, [V2], rfl, ?_⟩⟩
  have nn := n1.trans S1 n2
  split at h
  case h_2 => exact h.elim
  rename_i dx dy hdx hdy
  have hi : ∃ z, g.e[i]? = some (.own z) := by
    obtain ⟨u, su, _, h⟩ := (rsp_ofR h).inv
    split at h
    · rename_i hq hk; exact ⟨_, hq⟩
    · exact h.elim
  obtain ⟨z, hi⟩ := hi
  obtain ⟨a0, hs, _⟩ := S.own i _ hi
  have S3 : Sim K (g2.wB g.B) s2 (upd H2 p (.tup [V1, V2])) := (S2.weak nn.B).laid hp
  have n3 : Nx g (g2.wB g.B) H (upd H2 p (.tup [V1, V2])) := nn.weak.laid (S2.weak nn.B) hp
  have ra : RD K (g2.wB g.B).Pr (upd H2 p (.tup [V1, V2])) V1 dx := by
    have : RepK K (g2.wB g.B) H2 V1 (.d dx) := Rep.asR' nn.B S2 (r1.keep n2 S1) (asD_asR hdx)
    exact RD.keep (.laid hp) this
  have rb : RD K (g2.wB g.B).Pr (upd H2 p (.tup [V1, V2])) V2 dy := by
    have : RepK K (g2.wB g.B) H2 V2 (.d dy) := Rep.asR' nn.B S2 (r2.mono n1.B) (asD_asR hdy)
    exact RD.keep (.laid hp) this
  generalize upd H2 p (.tup [V1, V2]) = H3 at S3 n3 ra rb
  refine ⟨.ref a0, by rw [n1.s]; exact hs, ?_⟩
  rw [n1.s, ← n3.s]
  refine one S3 (by rw [n3.e]; exact rsp_ofR h) fun u s4 g4 H4 U1 h n4 S4 q1 => ?_
  split at h
  case h_2 => exact h.elim
  rename_i z0 w hq hw
  rw [hi] at hq
  cases hq
  split at h
  case h_2 => exact h.elim
  rename_i z1 hz1
  have m4 := n3.trans S3 n4
  have S5 := S4.weak n4.B
  have ra4 : RD K (g4.wB g.B).Pr H4 V1 dx := (ra.keep (n4.keep S3)).keep (.anti fun _ q => Gs.wB_pr n4.B q)
  have rb4 : RD K (g4.wB g.B).Pr H4 V2 dy := (rb.keep (n4.keep S3)).keep (.anti fun _ q => Gs.wB_pr n4.B q)
  refine own_set (g := g4.wB g.B) (j := i) S5 (show g4.e[i]? = _ by rw [m4.e]; exact hi) (show g4.s[i]? = _ by rw [m4.s]; exact hs) hz1 (RT.weak n4.B (q1.rt S4 hw)) ra4 fun H5 k5 kp5 => ?_
  refine ⟨V2, [], rfl, .ref a0, by rw [n3.s]; exact hs, ?_⟩
  have e5 : (g4.wB g.B).e.set i (.own z1) = g.e.set i (.own z1) := by show g4.e.set i _ = _; rw [m4.e]
  have hi5 : (g.e.set i (.own z1))[i]? = some (.own z1) := List.getElem?_set_self (List.getElem?_eq_some_iff.mp hi).1
  have s5 : g4.s = g.s := m4.s
  show tEv K (evE c k2) (g2.wB g.B).s H5 _
  rw [show (g2.wB g.B).s = ({ g4.wB g.B with e := (g4.wB g.B).e.set i (.own z1) } : Gs).s from n4.s.symm]
  refine one k5 (by show RP (evE c k2 ((g4.wB g.B).e.set i (.own z1)) s4) _; rw [e5]; exact rsp_ofR h) fun u2 s6 g6 H6 U2 h n6 S6 q2 => ?_
  split at h
  case h_2 => exact h.elim
  rename_i w2 hw2
  split at h
  case h_2 => exact h.elim
  rename_i z2 hz2
  have rb6 : RD K (g6.wB g.B).Pr H6 V2 dy := ((rb4.keep kp5.keep).keep (n6.keep k5)).keep (.anti fun _ q => Gs.wB_pr n6.B q)
  have e6 : g6.e = g.e.set i (.own z1) := n6.e.trans e5
  have s6' : g6.s = g.s := n6.s.trans s5
  refine own_set (g := g6.wB g.B) (j := i) (S6.weak n6.B) (show g6.e[i]? = _ by rw [e6]; exact hi5) (show g6.s[i]? = _ by rw [s6']; exact hs) hz2 (RT.weak n6.B (q2.rt S6 hw2)) rb6 fun H7 k7 kp7 => ?_
  refine ⟨rfl, ?_⟩
  have := h { g6.wB g.B with e := g6.e.set i (.own z2) } H7 (by show g6.e.set i _ = _; rw [e6]) ((m4.weak.kp S |>.trans kp5).trans (n6.weak.kp k5 |>.trans kp7)) rfl k7
  have this : D.nx g6.s H7 := this
  show D.nx g4.s H7
  rw [s5, ← s6']
  exact this
end
end Ev

set_option maxRecDepth 100000
/-! Ev18: statements are sound, by induction. -/
namespace Ev
open PySem L2 PySem.W PyProof.Rows PySem.SeqAt

section
variable {T : Tab} {c : Nat → List PV → Sto → R PV} {X : Cx} {K : PySem.W.Frag}
theorem OkS.ckg (ok : OkS T c X) {gt : G} {tg : Expr} (h : ckG X.N X.env.scope (fun _ => true) gt tg = true) : ckG X.N X.env.scope X.fn gt tg = true := by
  have : X.fn = fun _ => true := funext ok.fn
  rw [this]; exact h
theorem as_sub {X : Cx} {eo ei : Expr} {p : Pos} (hsl : notSlice ei = true) : ∀ v, assign (.Subscript eo ei p) X.env v = (do
    let ov ← holding [v] (eval eo X.env)
    let iv ← holding [v, ov] (eval ei X.env)
    standAt p
    holding [v, ov, iv] (setItem ov iv v)
    release [v, ov, iv] []) := by
  intro v
  cases ei <;> first | rfl | (cases hsl; done)
theorem as_aug {ei : Expr} (hsl : notSlice ei = true) : ∀ ov iv new, augStore ei ov iv new = (do holding [new, ov, iv] (setItem ov iv new); release [new, ov, iv] []; pure .next) := by
  intro ov iv new
  cases ei <;> first | rfl | (cases hsl; done)
theorem stores_s2 {X : Cx} {a b a' b' v w : Expr} {p p' pt pt2 : Pos} {k k2 : Nat} : swappedStores [.Tuple [.Subscript a b p, .Subscript a' b' p'] k pt] (.Tuple [v, w] k2 pt2) X.env = pure none := by
  unfold swappedStores
  dsimp only
  split
  · rfl
  · split
    · rfl
    · rfl
theorem get_any {X : Cx} (hu : X.A.units + 1 < cLine) : PGet X (rGetA X.K) := by
  intro pins s σ H o i ov iv Q I ro ri h
  rcases h with (h | h) | h
  · obtain ⟨p, xs, k, z, rfl, rfl, hq, he, q⟩ := h
    cases ro
    obtain ⟨t, rfl⟩ := ri
    obtain ⟨its, r, pl, hz⟩ := I.list hq
    obtain ⟨j, h1, h2, h3, h4, h5⟩ := atI_get he
    obtain ⟨w, ew, rw'⟩ := r.get h2
    have hl := r.length
    have hn := line63
    have fin : EP X pins σ Q w s := ⟨z, H, I, rw', q⟩
    by_cases h0 : 0 ≤ k
    · have hj : k.toNat = j := by
        rw [seqIndex_of h0 h5] at h1
        exact Option.some.inj h1
      exact wpAny_getItem_list pl.isList h0 (by omega) (by rw [hj]; simpa using ew) fin
    · have hj : (k + (its.toArray.size : Int)).toNat = j := by
        rw [seqIndex_neg (by omega) h4] at h1
        rw [List.size_toArray, ← hl]
        exact Option.some.inj h1
      exact wpAny_getItem_list_neg pl.isList (by omega) (by rw [List.size_toArray] <;> omega) (by omega) (by rw [hj]; simpa using ew) fin
  · obtain ⟨p, xs, k, z, rfl, rfl, hq, he, q⟩ := h
    cases ro
    obtain ⟨t, rfl⟩ := ri
    obtain ⟨its, r, pl, hz⟩ := I.tuple hq
    obtain ⟨j, h1, h2, h3, h4, h5⟩ := atI_get he
    obtain ⟨w, ew, rw'⟩ := r.get h2
    have hl := r.length
    have hn := line63
    have fin : EP X pins σ Q w s := ⟨z, H, I, rw', q⟩
    exact getItem_tuple (j := j) pl (by omega) (by omega) (by rw [List.size_toArray, ← hl]; exact h1) (by simpa using ew) fin
  · obtain ⟨a, w, rfl, g, q⟩ := h
    cases (show ov = Value.ref a from ro)
    rcases g with ⟨kvs, k, e, rfl, l⟩ | ⟨kvs, k, b, e, rfl, eb, l⟩
    · obtain ⟨z, hd, vs, rel, dd⟩ := dk_rd I.hok e
      obtain ⟨w', hw, rw'⟩ := RelO.some_of (v := w) (o := valueAt vs k) (by rw [l]; exact rel.val k)
      exact wpAny_getItem_of (kV_is ri) dd.mapOf hw ⟨w, H, I.tok _, rw', q⟩
    · cases (show iv = Value.ref b from ri)
      obtain ⟨z, hd, xs, rel, dd⟩ := dt_rd I.hok e
      obtain ⟨w', hw, rw'⟩ := RelO.some_of (v := w) (o := (atKey xs k).map (·.2)) (by rw [l]; exact rel.val k)
      obtain ⟨p, hp, hp2⟩ := Option.map_eq_some_iff.mp hw
      refine wpAny_getItem_heap (tupleKind_room_in1 hu) (key_of I.hok eb) dd hp ?_
      rw [hp2]
      exact ⟨w, H, I.tok _, rw', q⟩
theorem lclc_spec {X : Cx} {i : Nat} {x : Str} (h : lclc X.N X.env.scope i x = true) : X.N[i]? = some x ∧ L2.Loc X.env.scope x := by
  unfold lclc at h
  simpa [L2.Loc] using h
theorem isLoc_spec {sc : Scope} {x : Str} (h : isLoc sc x = true) : sc.names.lookup x = some .local := by
  unfold isLoc at h
  simpa using h
theorem pgn (ok : OkS T c X) {i : Nat} {x : Str} {pos : Pos} (h : lclc X.N X.env.scope i x = true) : PG X (.Name x pos) (gName i) :=
  pg_name ok.nd (lclc_spec h).1 (lclc_spec h).2 (.inl (ok.fn x))
theorem lcl_spec {X : Cx} {i : Nat} {x : Str} (h : lcl X.N X.env.scope i x = true) : X.N[i]? = some x ∧ X.env.scope.names.lookup x = some .local := by
  unfold lcl at h
  simpa using h
theorem set_ps (ok : OkS T c X) {own : Bool} {i : Nat} {a : A} {x : Str} {p pos : Pos} {e : Expr} (hl : lclc X.N X.env.scope i x = true) (ha : ckA T X.N X.env.scope a e = true) (hs : swapB X.env.scope x p e = false ∨ isLc a = true) :
    PS X (.Assign [.Name x p] e pos) (tS X.K (exS c (.set own i a))) := by
  obtain ⟨h1, h2'⟩ := lclc_spec hl
  cases q : swapB X.env.scope x p e with
  | false => exact (ps_set ok.nd h1 h2' (sndA ok.toOk a ha) (swaps_no ok.kind q) (.inl (ok.fn x))).imp fun D σ H h => set_core h
  | true =>
    have hs := hs.resolve_left (by rw [q]; exact fun z => nomatch z)
    have main : ∀ {own : List Nat} {gt : G} {it : It} {ts : Es} {y : E} {t : TS}, ckE T X.N X.env.scope (.lc own gt it ts y) e = true → (∀ D σ H, t D σ H → tEv X.K (evE c (.lc own gt it ts y)) σ H fun x H1 => gName i x σ H1 D.nx) → PS X (.Assign [.Name x p] e pos) t := fun {own gt it ts y t} h imp => by
      rw [ckE.eq_def] at h
      dsimp only at h
      split at h
      · rename_i elt tg iter ifs scope pos'
        have h2 : X.env.scope.names.lookup x = some .local := by
          have q' := q
          simp only [swapB, Bool.and_eq_true, beq_iff_eq] at q'
          exact q'.1.1
        simp only [Bool.and_eq_true] at h
        obtain ⟨⟨⟨⟨⟨⟨hbk, hin⟩, hg⟩, hns⟩, hi⟩, ht⟩, hy⟩ := h
        have hown : (own.map fun i => (X.N.getD i Str.empty, i)).map (·.2) = own := by rw [List.map_map]; exact List.map_id' own
        have ok' := ok.toOk
        have R := ps_setLc (pos := pos') (spos := pos) ok.calm ok.nd h1 h2 (swaps_yes ok.kind q) (sndI it ok' (fun q => ckG_tup hg q) (bo := true) hi) (blkOk_by hbk) (g := gT X.K gt) (tt := tTs X.K (evTs c ts)) (te := tEv X.K (evE c y))
          (fun s H C cl fp => ckG_pg (ok'.blk s H scope _ fp) hg) (fun s H C cl fp => sndTs ts (ok'.blk s H scope (compEnvC scope cl C X.env) fp) ht) (fun s H C cl fp => (sndE y (ok'.blk s H scope (compEnvC scope cl C X.env) fp) hy).pe) (noSet hns)
        rw [hown] at R
        exact R.imp fun D σ H h => lc_imp hin σ H _ (imp D σ H h)
      · cases h
    cases a with
    | e a =>
      cases a with
      | lc own gt it ts y => exact main ha fun D σ H h => ar_imp σ H _ (set_core h)
      | box a =>
        cases a with
        | lc own gt it ts y =>
          refine main (by rw [ckA, ckE] at ha; exact ha) fun D σ H h => box_imp σ H _ (ar_imp σ H _ (set_core h))
        | _ => cases hs
      | _ => cases hs
    | _ => cases hs
theorem frz_ss {i : Nat} {ss : Ss} {D : Ends} {σ : L2.St} {H : Hp} (q : tS K (exSs c (.cons (.frz i) ss)) D σ H) : tLk (tS K (exSs c ss)) D σ H := by
  obtain ⟨g, st, e, S, h⟩ := q
  rw [exSs, exS] at h
  split at h
  · rename_i x hx
    obtain ⟨a, u, hu, mu, k⟩ := S.frz hx
    refine ⟨a, u, hu, mu, fun od => ?_⟩
    obtain ⟨k1, k2⟩ := k od
    exact ⟨{ g with e := g.e.set i (.v (.d x)) }, st, e, k1, rsp_imp h (fun _ _ q => goNx.kp q k2 rfl) (fun _ _ q => goNx.kp q k2 rfl) (fun _ _ q => goNx.kp q k2 rfl) (fun _ _ q => goRt.kp q k2 rfl)⟩
  · exact h.elim
theorem seq_core {s : S} {ss : Ss} {D : Ends} {σ : L2.St} {H : Hp} (q : tS K (exSs c (.cons s ss)) D σ H) : tSeq (tS K (exS c s)) (tS K (exSs c ss)) D σ H := by
  obtain ⟨g, st, e, S, h⟩ := q
  rw [exSs] at h
  refine ⟨g, st, e, S, ?_⟩
  cases hr : exS c s g.e st with
  | nx e1 s1 =>
    rw [hr] at h
    exact fun g' H' he k hB S' => ⟨g', s1, rfl, S', by
      rw [he]
      exact rsp_imp h (fun _ _ q => goNx.kp q k hB) (fun _ _ q => goNx.kp q k hB) (fun _ _ q => goNx.kp q k hB) (fun _ _ q => goRt.kp q k hB)⟩
  | _ => rw [hr] at h; exact h
theorem ife_core {t : E} {a b : Ss} {D : Ends} {σ : L2.St} {H : Hp} (q : tS K (exS c (.ife t a b)) D σ H) : tIfS (tTe K (evE c t)) (tS K (exSs c a)) (tS K (exSs c b)) D σ H := by
  obtain ⟨g, st, e, S, h⟩ := q
  rw [exS] at h
  refine ⟨g, st, e, S, (rsp_ofR h).imp fun x s1 h => ?_⟩
  have go : ∀ {k : Bool} {ss : Ss}, x = .d (.bool k) → rsp (exSs c ss g.e s1) (goNx K g H D.nx) (goNx K g H D.bk) (goNx K g H D.ct) (goRt K g H D.rt) → ∀ g1 H1, Nx g g1 H H1 → Sim K g1 s1 H1 → tS K (exSs c ss) D σ H1 := fun {k ss} _ h g1 H1 n1 S1 => by
    have kk : Kp g (g1.wB g.B) H H1 := n1.weak.kp S
    refine ⟨g1.wB g.B, s1, n1.s.trans e, S1.weak n1.B, ?_⟩
    show rsp (exSs c ss g1.e s1) _ _ _ _
    rw [n1.e]
    exact rsp_imp h (fun _ _ q => goNx.kp q kk rfl) (fun _ _ q => goNx.kp q kk rfl) (fun _ _ q => goNx.kp q kk rfl) (fun _ _ q => goRt.kp q kk rfl)
  split at h
  · rename_i hx
    refine ⟨true, asB_eq hx, fun g1 H1 n1 S1 => ?_⟩
    show (if true = true then tS K (exSs c a) D σ H1 else tS K (exSs c b) D σ H1)
    rw [if_pos rfl]
    exact go (asB_eq hx) h g1 H1 n1 S1
  · rename_i hx
    refine ⟨false, asB_eq hx, fun g1 H1 n1 S1 => ?_⟩
    show (if false = true then tS K (exSs c a) D σ H1 else tS K (exSs c b) D σ H1)
    rw [if_neg Bool.false_ne_true]
    exact go (asB_eq hx) h g1 H1 n1 S1
  · exact h.elim
/-- what a loop's body does, as the loop reads it -/
theorem body_core {b : Ss} {D : Ends} {gw g0 : Gs} {H0 H2 : Hp} {s1 : Sto} {r : Envr → Sto → RS} {N : L2.St → Hp → Prop} (kk : Kp g0 gw H0 H2) (hB : gw.B = g0.B)
    (hN : ∀ e2 s2, rsp (r e2 s2) (goNx K g0 H0 D.nx) (goNx K g0 H0 D.bk) (goNx K g0 H0 D.ct) (goRt K g0 H0 D.rt) → ∀ g' H', g'.e = e2 → Kp gw g' H2 H' → g'.B = gw.B → Sim K g' s2 H' → N g'.s H')
    (h : rsp (match exSs c b gw.e s1 with
      | .nx e2 s2 => r e2 s2
      | .ct e2 s2 => r e2 s2
      | .br e2 s2 => .nx e2 s2
      | r => r) (goNx K g0 H0 D.nx) (goNx K g0 H0 D.bk) (goNx K g0 H0 D.ct) (goRt K g0 H0 D.rt)) :
    rsp (exSs c b gw.e s1) (goNx K gw H2 N) (goNx K gw H2 D.nx) (goNx K gw H2 N) (goRt K gw H2 D.rt) := by
  cases hr : exSs c b gw.e s1 with
  | nx e2 s2 => rw [hr] at h; exact fun g' H' he k hB' S' => hN e2 s2 h g' H' he k hB' S'
  | ct e2 s2 => rw [hr] at h; exact fun g' H' he k hB' S' => hN e2 s2 h g' H' he k hB' S'
  | br e2 s2 => rw [hr] at h; exact goNx.kp h kk hB
  | rt v s2 => rw [hr] at h; exact goRt.kp h kk hB
  | ex _ _ _ _ => rw [hr] at h; exact h
  | bad => rw [hr] at h; exact h
theorem whl_core {n : Nat} {t : E} {b : Ss} {D : Ends} {σ : L2.St} {H : Hp} (q : tS K (exS c (.whl n t b)) D σ H) : tWhile (tTe K (evE c t)) (tS K (exSs c b)) D σ H := by
  obtain ⟨g, st, e, S, h⟩ := q
  rw [exS] at h
  let W : Nat → L2.St → Hp → Prop := fun m σ1 H1 => ∃ g1 st1, g1.s = σ1 ∧ Kp g g1 H H1 ∧ g1.B = g.B ∧ Sim K g1 st1 H1 ∧ rsp (whlL (evE c t) (exSs c b) m g1.e st1) (goNx K g H D.nx) (goNx K g H D.bk) (goNx K g H D.ct) (goRt K g H D.rt)
  refine ⟨W, ⟨n, g, st, e, .refl, rfl, S, h⟩, ?_⟩
  rintro m σ1 H1 ⟨g1, st1, rfl, k1, hB1, S1, h⟩
  cases m with
  | zero => exact h.elim
  | succ m =>
    rw [whlL] at h
    refine ⟨g1, st1, rfl, S1, (rsp_ofR h).imp fun x s1 h => ?_⟩
    split at h
    · rename_i hx
      refine ⟨true, asB_eq hx, fun g2 H2 n2 S2 => ?_⟩
      show (if true = true then ∃ N : L2.St → Hp → Prop, (∀ σ' H', N σ' H' → ∃ m', m' < m + 1 ∧ W m' σ' H') ∧ tS K (exSs c b) { D with nx := N, ct := N, bk := D.nx } g1.s H2 else D.nx g1.s H2)
      rw [if_pos rfl]
      have kk : Kp g (g2.wB g1.B) H H2 := k1.trans (n2.weak.kp S1)
      refine ⟨W m, fun σ' H' w => ⟨m, Nat.lt_succ_self m, w⟩, g2.wB g1.B, s1, n2.s, S2.weak n2.B, ?_⟩
      refine body_core (r := whlL (evE c t) (exSs c b) m) kk hB1 (fun e2 s2 h g' H' he k hB' S' => ⟨g', s2, rfl, kk.trans k, hB'.trans hB1, S', by rw [he]; exact h⟩) ?_
      show rsp (match exSs c b g2.e s1 with
        | .nx e2 s2 => whlL (evE c t) (exSs c b) m e2 s2
        | .ct e2 s2 => whlL (evE c t) (exSs c b) m e2 s2
        | .br e2 s2 => .nx e2 s2
        | r => r) _ _ _ _
      rw [n2.e]
      exact h
    · rename_i hx
      refine ⟨false, asB_eq hx, fun g2 H2 n2 S2 => ?_⟩
      show (if false = true then ∃ N : L2.St → Hp → Prop, (∀ σ' H', N σ' H' → ∃ m', m' < m + 1 ∧ W m' σ' H') ∧ tS K (exSs c b) { D with nx := N, ct := N, bk := D.nx } g1.s H2 else D.nx g1.s H2)
      rw [if_neg Bool.false_ne_true]
      have kk : Kp g (g2.wB g1.B) H H2 := k1.trans (n2.weak.kp S1)
      rw [← n2.s]
      exact h (g2.wB g1.B) H2 n2.e kk hB1 (S2.weak n2.B)
    · exact h.elim
theorem for_core {gt : G} {it : It} {b : Ss} {D : Ends} {σ : L2.St} {H : Hp} (q : tS K (exS c (.for_ gt it b)) D σ H) : tFor (tI K false (evI c it false)) (gT K gt) (tS K (exSs c b)) D σ H := by
  obtain ⟨g, st, e, S, h⟩ := q
  rw [exS] at h
  refine ⟨g, st, e, S, (rsp_ofR h).imp fun xs s1 h g0 H0 J G n0 hB0 S0 Wk0 St0 _ G0 => ?_⟩
  have kk0 : Kp g g0 H H0 := n0.kp S
  let W : Nat → Nat → L2.St → Hp → Prop := fun i m σ1 H1 => m = xs.length - i ∧ i ≤ xs.length ∧ ∃ g1 st1, g1.s = σ1 ∧ Kp g g1 H H1 ∧ g1.B = g.B ∧ Sim K g1 st1 H1 ∧ G g1.Pr g1.r H1 ∧
    rsp (forL (exSs c b) gt (xs.drop i) g1.e st1) (goNx K g H D.nx) (goNx K g H D.bk) (goNx K g H D.ct) (goRt K g H D.rt)
  refine ⟨W, ⟨_, rfl, Nat.zero_le _, g0, s1, n0.s.trans e, kk0, hB0, S0, G0, by rw [n0.e]; exact h⟩, ?_⟩
  rintro i m σ1 H1 ⟨rfl, hi, g1, st1, rfl, k1, hB1, S1, G1, h⟩
  by_cases hlt : i < xs.length
  · refine .inr ⟨Wk0.go _ _ _ _ G1 hlt, W (i + 1) (xs.length - (i + 1)), fun σ' H' w => ⟨_, by omega, w⟩, fun v H2 y => ?_⟩
    obtain ⟨x, hx, hv⟩ := Wk0.yld _ _ _ _ _ _ G1 hlt y
    have hd : xs.drop i = x :: xs.drop (i + 1) := by
      rw [List.drop_eq_getElem_cons hlt]
      rw [List.getElem?_eq_getElem hlt] at hx
      rw [Option.some.inj hx]
    rw [hd, forL] at h
    -- the item is there
    have item : Sim K g1 st1 H2 ∧ Kp g1 g1 H1 H2 ∧ RD K g1.Pr H2 v x := by
      rcases hv with ⟨rfl, r⟩ | ⟨T, vs, ds, rfl, hT, rfl, rfl, r⟩
      · exact ⟨S1, .refl, r⟩
      · exact ⟨S1.laid hT, ⟨rfl, rfl, fun _ q => q, List.prefix_refl _, .laid hT⟩, .tup upd_same (r.keep (.laid hT))⟩
    obtain ⟨S2, k2, r⟩ := item
    split at h
    · rename_i e1 hc
      obtain ⟨s2, ⟨S3, pr3⟩, _, kq⟩ := asg_spec S2 hc r
      refine kq _ ?_
      have k3 : Kp g1 { g1 with e := e1, s := s2 } H1 H2 := ⟨rfl, rfl, fun _ q => q, List.prefix_refl _, k2.keep.trans (.anti pr3)⟩
      have G3 : G (Gs.Pr { g1 with e := e1, s := s2 }) g1.r H2 := St0.keep rfl g1 { g1 with e := e1, s := s2 } H1 H2 k3.keep G1
      refine ⟨{ g1 with e := e1, s := s2 }, st1, rfl, S3, ?_⟩
      exact body_core (r := forL (exSs c b) gt (xs.drop (i + 1))) (k1.trans k3) hB1 (fun e2 s2 h g' H' he k hB' S' => ⟨rfl, hlt, g', s2, rfl, (k1.trans k3).trans k, hB'.trans hB1, S', St0.keep rfl _ g' H2 H' k.keep G3, by rw [he]; exact h⟩) h
    · exact h.elim
  · have ei : i = xs.length := by omega
    subst ei
    rw [List.drop_length] at h
    exact .inl ⟨Wk0.stop _ _ _ G1, h g1 H1 rfl k1 hB1 S1⟩
end
mutual
theorem sndS {T : Tab} {c : Nat → List PV → Sto → R PV} : ∀ (s : S) {X : Cx} {stm : Stmt}, OkS T c X → ckS T X.N X.env.scope s stm = true → PS X stm (tS X.K (exS c s))
  | .set own i a, X, stm, ok, h => by
    rw [ckS.eq_def] at h
    dsimp only at h
    split at h
    · simp only [Bool.and_eq_true, Bool.or_eq_true, Bool.not_eq_true'] at h
      exact set_ps ok h.1.1 h.1.2 h.2
    · cases h
  | .par2 o1 i1 o2 i2 a b, X, stm, ok, h => by
    rw [ckS.eq_def] at h
    dsimp only at h
    split at h
    · rename_i x px y py kt pt ea eb k2 pt2 pos
      rw [Bool.and_eq_true] at h
      obtain ⟨h0, h⟩ := h
      simp only [Bool.and_eq_true] at h0
      obtain ⟨⟨⟨⟨⟨h1, h2⟩, ha⟩, hb⟩, ca⟩, cb⟩ := h0
      have ok' := ok.toOk
      have P := pa_cons (sndE a ok' ca).pe (pa_cons (sndE b ok' cb).pe pa_nil (star1 hb)) (star1 ha)
      rw [Bool.or_eq_true] at h
      rcases h with h | h
      · simp only [Bool.and_eq_true, Bool.not_eq_true', decide_eq_true_eq] at h
        obtain ⟨⟨⟨⟨⟨l1, l2⟩, hxy⟩, hl⟩, hf⟩, hc⟩ := h
        have n1 := (lclc_spec h1).1
        have n2 := (lclc_spec h2).1
        exact (ps_par ok.calm ok.nd n1 n2 (fun e => hxy (by rw [e, n2] at n1; exact (Option.some.inj n1).symm)) (isLoc_spec l1) (isLoc_spec l2) P (stores_2 ok.kind (isLoc_spec l1) (isLoc_spec l2) hxy hl ha hb hf hc) swaps_tup).imp fun D σ H h => par2_core h
      · rw [Bool.not_eq_true'] at h
        exact (ps_asg (pe_tup P) (pg_tup (n := 2) ok.calm (pgs_cons (pgn ok h1) (pgs_cons (pgn ok h2) pgs_nil)) rfl rfl) swaps_tup (stores_c2 h)).imp fun D σ H h => par2T_core h
    · cases h
  | .par3 o1 i1 o2 i2 o3 i3 a b d, X, stm, ok, h => by
    rw [ckS.eq_def] at h
    dsimp only at h
    split at h
    · rw [Bool.and_eq_true] at h
      obtain ⟨h0, h⟩ := h
      simp only [Bool.and_eq_true] at h0
      obtain ⟨⟨⟨⟨⟨⟨⟨⟨h1, h2⟩, h3⟩, ha⟩, hb⟩, hd⟩, ca⟩, cb⟩, cd⟩ := h0
      have ok' := ok.toOk
      have P := pa_cons (sndE a ok' ca).pe (pa_cons (sndE b ok' cb).pe (pa_cons (sndE d ok' cd).pe pa_nil (star1 hd)) (star1 hb)) (star1 ha)
      rw [Bool.or_eq_true] at h
      rcases h with h | h
      · simp only [Bool.and_eq_true, Bool.not_eq_true', decide_eq_true_eq] at h
        obtain ⟨⟨⟨⟨⟨⟨⟨⟨⟨l1, l2⟩, l3⟩, hxy⟩, hxz⟩, hyz⟩, hl⟩, hl2⟩, hf⟩, hc⟩ := h
        have n1 := (lclc_spec h1).1
        have n2 := (lclc_spec h2).1
        have n3 := (lclc_spec h3).1
        have l1 := isLoc_spec l1
        have l2 := isLoc_spec l2
        have l3 := isLoc_spec l3
        exact (ps_par3 ok.calm ok.nd n1 n2 n3 (fun e => hxy (by rw [e, n2] at n1; exact (Option.some.inj n1).symm)) (fun e => hxz (by rw [e, n3] at n1; exact (Option.some.inj n1).symm)) (fun e => hyz (by rw [e, n3] at n2; exact (Option.some.inj n2).symm)) l1 l2 l3
          P (stores_3 ok.kind l1 l2 l3 hxy hxz hyz hl hl2 ha hb hd hf hc) swaps_tup).imp fun D σ H h => par3_core h
      · rw [Bool.not_eq_true'] at h
        exact (ps_asg (pe_tup P) (pg_tup (n := 3) ok.calm (pgs_cons (pgn ok h1) (pgs_cons (pgn ok h2) (pgs_cons (pgn ok h3) pgs_nil))) rfl rfl) swaps_tup (stores_c3 h)).imp fun D σ H h => par3T_core h
    · cases h
  | .asg gt a, X, stm, ok, h => by
    rw [ckS.eq_def] at h
    dsimp only at h
    split at h
    · simp only [Bool.and_eq_true] at h
      exact (ps_asg (sndE a ok.toOk h.1.2).pe (ckG_pg ok.toOk (ok.ckg h.1.1)) swaps_tup (stores_no h.2)).imp fun D σ H h => asg_core h
    · cases h
  | .app i a, X, stm, ok, h => by
    rw [ckS.eq_def] at h
    dsimp only at h
    split at h
    · simp only [Bool.and_eq_true, decide_eq_true_eq] at h
      obtain ⟨⟨⟨⟨⟨hN, hv⟩, rfl⟩, hl⟩, hst⟩, ha⟩ := h
      obtain ⟨v1, v2, v3⟩ := vis_spec hv
      exact (ps_expr (pe_bm PySem.F.plainAttrs_list PySem.F.slot_list_append PySem.F.type_list_append mt_append (pe_var hN v1 v2 v3) (pa_cons (sndA ok.toOk a ha) pa_nil (star1 hst)) rfl (few1 hst) hl (star1 hst) rfl)).imp fun D σ H h => app_core h
    · cases h
  | .rem i a, X, stm, ok, h => by
    rw [ckS.eq_def] at h
    dsimp only at h
    split at h
    · simp only [Bool.and_eq_true, decide_eq_true_eq] at h
      obtain ⟨⟨⟨⟨⟨hN, hv⟩, rfl⟩, hl⟩, hst⟩, ha⟩ := h
      obtain ⟨v1, v2, v3⟩ := vis_spec hv
      exact (ps_expr (pe_bm PySem.F.plainAttrs_list PySem.F.slot_list_remove PySem.F.type_list_remove mt_remove (pe_var hN v1 v2 v3) (pa_cons (sndE a ok.toOk ha).pe pa_nil (star1 hst)) rfl (few1 hst) hl (star1 hst) rfl)).imp fun D σ H h => rem_core h
    · cases h
  | .ex a, X, stm, ok, h => by
    rw [ckS.eq_def] at h
    dsimp only at h
    split at h
    · simp only [Bool.and_eq_true, Bool.not_eq_true'] at h
      refine (ps_expr (sndA ok.toOk a h.1) (swaps_none h.2)).imp fun D σ H ⟨g, st, e, S, h⟩ => ?_
      subst e
      rw [exS] at h
      refine ofA S (rsp_ofR h) fun p s1 g1 H1 V1 h hs he k1 S1 r1 => ?_
      have := h (g1.wB g.B) H1 he k1.weak rfl (S1.weak k1.B)
      rw [← hs]
      exact this
    · cases h
  | .setR o i a, X, stm, ok, h => by
    rw [ckS.eq_def] at h
    dsimp only at h
    split at h
    · simp only [Bool.and_eq_true] at h
      have ok' := ok.toOk
      rename_i eo ei p e pos
      have ha : ∀ v, assign (.Subscript eo ei p) X.env v = (do
          let ov ← holding [v] (eval eo X.env)
          let iv ← holding [v, ov] (eval ei X.env)
          standAt p
          holding [v, ov, iv] (setItem ov iv v)
          release [v, ov, iv] []) := by
        intro v
        have hsl := h.1.1.1
        cases ei <;> first | rfl | (cases hsl; done)
      exact (ps_asg (sndE a ok' h.2).pe (pg_sub (sndE o ok' h.1.1.2).pe (sndE i ok' h.1.2).pe (set_any (by have := ok.hu; omega)) ha) swaps_sub stores_sub).imp fun D σ H h => setR_core h
    · cases h
  | .popR o i, X, stm, ok, h => by
    rw [ckS.eq_def] at h
    dsimp only at h
    split at h
    · simp only [Bool.and_eq_true, decide_eq_true_eq] at h
      obtain ⟨⟨⟨⟨⟨hs, rfl⟩, hl⟩, hst⟩, ho⟩, hi⟩ := h
      have ok' := ok.toOk
      rename_i eo apos ei cpos pos
      have hb : attributeBase eo "pop" X.env (eval eo X.env) = eval eo X.env := by
        cases eo <;> first | rfl | (cases hs; done)
      exact (ps_expr (pe_bm PySem.F.plainAttrs_list PySem.F.slot_list_pop PySem.F.type_list_pop mt_popAt (sndE o ok' ho).pe (pa_cons (sndE i ok' hi).pe pa_nil (star1 hst)) hb (few1 hst) hl (star1 hst) rfl)).imp fun D σ H h => popR_core h
    · cases h
  | .setO i k a, X, stm, ok, h => by
    rw [ckS.eq_def] at h
    dsimp only at h
    split at h
    · rename_i x px ek p e pos
      simp only [Bool.and_eq_true, decide_eq_true_eq] at h
      obtain ⟨⟨⟨⟨hN, hv⟩, hsl⟩, hk⟩, ha⟩ := h
      obtain ⟨v1, v2, v3⟩ := vis_spec hv
      have ok' := ok.toOk
      exact (ps_asg (sndE a ok' ha).pe (pg_sub (pe_var hN v1 v2 v3) (sndE k ok' hk).pe (set_any (by have := ok.hu; omega)) (as_sub hsl)) swaps_sub stores_sub).imp fun D σ H h => setO_core h
    · cases h
  | .augO i k o a, X, stm, ok, h => by
    rw [ckS.eq_def] at h
    dsimp only at h
    split at h
    · rename_i x px ek p op e pos
      simp only [Bool.and_eq_true, decide_eq_true_eq] at h
      obtain ⟨⟨⟨⟨⟨hN, hv⟩, hsl⟩, ho⟩, hk⟩, ha⟩ := h
      obtain ⟨v1, v2, v3⟩ := vis_spec hv
      cases augIs_eq ho
      have ok' := ok.toOk
      have hu : X.A.units + 1 < cLine := by have := ok.hu; omega
      exact (ps_augS (pe_var hN v1 v2 v3) (sndE k ok' hk).pe (get_any hu) (sndE a ok' ha).pe (ip_all o) (set_any hu) (as_aug hsl)).imp fun D σ H h => augO_core h
    · cases h
  | .aug i o a, X, stm, ok, h => by
    rw [ckS.eq_def] at h
    dsimp only at h
    split at h
    · simp only [Bool.and_eq_true] at h
      obtain ⟨⟨hl, ho⟩, ha⟩ := h
      cases augIs_eq ho
      exact (ps_aug ok.nd (lclc_spec hl).1 (lclc_spec hl).2 (sndE a ok.toOk ha).pe (ip_all o) (.inl (ok.fn _))).imp fun D σ H h => aug_core h
    · cases h
  | .ext i a, X, stm, ok, h => by
    rw [ckS.eq_def] at h
    dsimp only at h
    split at h
    · simp only [Bool.and_eq_true, decide_eq_true_eq] at h
      obtain ⟨⟨⟨⟨⟨hN, hv⟩, rfl⟩, hl⟩, hst⟩, ha⟩ := h
      obtain ⟨v1, v2, v3⟩ := vis_spec hv
      exact (ps_expr (pe_bm PySem.F.plainAttrs_list PySem.F.slot_list_extend PySem.F.type_list_extend mt_extend (pe_var hN v1 v2 v3) (pa_cons (sndE a ok.toOk ha).pe pa_nil (star1 hst)) rfl (few1 hst) hl (star1 hst) rfl)).imp fun D σ H h => ext_core h
    · cases h
  | .swp i k1 m2 a b, X, stm, ok, h => by
    rw [ckS.eq_def] at h
    dsimp only at h
    split at h
    · rename_i x px e1 p1 y py e2 p2 kt pt ea eb k2 pt2 pos
      simp only [Bool.and_eq_true, decide_eq_true_eq] at h
      obtain ⟨⟨⟨⟨⟨⟨⟨⟨⟨⟨hN, rfl⟩, hv⟩, hs1⟩, hs2⟩, hst1⟩, hst2⟩, c1⟩, c2⟩, ca⟩, cb⟩ := h
      obtain ⟨v1, v2, v3⟩ := vis_spec hv
      have ok' := ok.toOk
      have hu : X.A.units + 1 < cLine := by have := ok.hu; omega
      have P := pa_cons (sndE a ok' ca).pe (pa_cons (sndE b ok' cb).pe pa_nil (star1 hst2)) (star1 hst1)
      have g1 := pg_sub (pos := p1) (pe_var (pos := px) hN v1 v2 v3) (sndE k1 ok' c1).pe (set_any hu) (as_sub hs1)
      have g2 := pg_sub (pos := p2) (pe_var (pos := py) hN v1 v2 v3) (sndE m2 ok' c2).pe (set_any hu) (as_sub hs2)
      exact (ps_asg (pe_tup P) (pg_tup (n := 2) ok.calm (pgs_cons g1 (pgs_cons g2 pgs_nil)) rfl rfl) swaps_tup stores_s2).imp fun D σ H h => swp_core h
    · cases h
  | .frz _, X, stm, ok, h => by
    rw [ckS.eq_def] at h
    cases h
  | .ret a, X, stm, ok, h => by
    rw [ckS.eq_def] at h
    dsimp only at h
    split at h
    · refine (ps_ret (sndE a ok.toOk h).pe).imp fun D σ H ⟨g, st, e, S, h⟩ => ?_
      subst e
      rw [exS] at h
      refine one S (rsp_ofR h) fun x s1 g1 H1 V1 h n1 S1 r1 => ?_
      split at h
      · rename_i y hy
        exact h (g1.wB g.B) H1 V1 (n1.weak.kp S) rfl (S1.weak n1.B) (r1.asR' n1.B S1 hy)
      · exact h.elim
    · cases h
  | .retN, X, stm, ok, h => by
    rw [ckS.eq_def] at h
    dsimp only at h
    split at h
    · exact ps_retN.imp fun D σ H ⟨g, st, e, S, h⟩ => h g H .non .refl rfl S RD.non
    · cases h
  | .ife t a b, X, stm, ok, h => by
    rw [ckS.eq_def] at h
    dsimp only at h
    split at h
    · simp only [Bool.and_eq_true] at h
      obtain ⟨⟨⟨h1, h2⟩, h3⟩, h4⟩ := h
      exact (ps_if ((sndE t ok.toOk h2).pt h1) (sndSs a ok h3) (sndSs b ok h4)).imp fun D σ H h => ife_core h
    · cases h
  | .for_ gt it b, X, stm, ok, h => by
    rw [ckS.eq_def] at h
    dsimp only at h
    split at h
    · simp only [Bool.and_eq_true] at h
      obtain ⟨⟨⟨h1, h2⟩, h3⟩, h4⟩ := h
      exact (ps_for ok.pass ok.calm (sndI it ok.toOk (fun q => ckG_tup h1 q) (bo := false) h3) (ckG_pg ok.toOk (ok.ckg h1)) (sndSs b ok h4) (noSet h2)).imp fun D σ H h => for_core h
    · cases h
  | .whl n t b, X, stm, ok, h => by
    rw [ckS.eq_def] at h
    dsimp only at h
    split at h
    · simp only [Bool.and_eq_true] at h
      exact (ps_while ok.pass ((sndE t ok.toOk h.1.2).pt h.1.1) (sndSs b ok h.2)).imp fun D σ H h => whl_core h
    · cases h
  | .brk, X, stm, ok, h => by
    rw [ckS.eq_def] at h
    dsimp only at h
    split at h
    · exact ps_break.imp fun D σ H ⟨g, st, e, S, h⟩ => by subst e; exact h g H rfl .refl rfl S
    · cases h
  | .cont, X, stm, ok, h => by
    rw [ckS.eq_def] at h
    dsimp only at h
    split at h
    · exact ps_continue.imp fun D σ H ⟨g, st, e, S, h⟩ => by subst e; exact h g H rfl .refl rfl S
    · cases h
  | .dead, X, stm, ok, h => ps_never.imp fun D σ H ⟨g, st, e, S, h⟩ => h
theorem sndSs {T : Tab} {c : Nat → List PV → Sto → R PV} : ∀ (ss : Ss) {X : Cx} {stms : List Stmt}, OkS T c X → ckSs T X.N X.env.scope ss stms = true → PSs X stms (tS X.K (exSs c ss))
  | .nil, X, stms, ok, h => by
    rw [ckSs, List.isEmpty_iff] at h
    subst h
    exact pss_nil.imp fun D σ H ⟨g, st, e, S, h⟩ => by subst e; exact h g H rfl .refl rfl S
  | .cons s ss, X, stms, ok, h => by
    by_cases hf : ∃ i, s = .frz i
    · obtain ⟨i, rfl⟩ := hf
      rw [ckSs.eq_def] at h
      exact (pss_lk (sndSs ss ok h)).imp fun D σ H h => frz_ss h
    · cases stms with
      | nil =>
        rw [ckSs.eq_def] at h
        cases s <;> first | (cases h; done) | exact absurd ⟨_, rfl⟩ hf
      | cons e es =>
        have h' : (ckS T X.N X.env.scope s e && ckSs T X.N X.env.scope ss es) = true := by
          rw [ckSs.eq_def] at h
          cases s <;> first | exact h | exact absurd ⟨_, rfl⟩ hf
        rw [Bool.and_eq_true] at h'
        exact (pss_cons (sndS s ok h'.1) (sndSs ss ok h'.2)).imp fun D σ H h => seq_core h
end
end Ev

set_option maxRecDepth 100000
/-! Ev19: defs, and the law. -/
namespace Ev
open PySem L2 PySem.W PyProof.Rows PySem.SeqAt

structure Fd where
  nm : Str
  st : Stmt
  N : List Str
  np : Nat
  body : Ss
def runB : RS → R PV
  | .rt v s => .ok v s
  | .nx _ s => .ok (.d .none) s
  | .ex c fs _ s => .ex c fs s
  | _ => .bad
def inC (n : Nat) (args : List PV) : Envr := args.map .v ++ List.replicate (n - args.length) .no
/-- the defs, to a depth -/
def callL (ds : List Fd) : Nat → Nat → List PV → Sto → R PV
  | 0, _, _, _ => .bad
  | k + 1, n, args, st => match ds[n]? with
    | some d => if args.length = d.np then runB (exSs (callL ds k) d.body (inC d.N.length args) st) else .bad
    | none => .bad
/-- the def that is looked at -/
def Tab.on (T : Tab) (x : Str) : Tab := { T with cur := (T.tabs.lookup x).map fun p => (p.1, p.2, (x ++ ".<locals>.") ++ "<lambda>") }
def Tab.st0 (T : Tab) : Sto := T.tabs.map fun p => .tab p.2.2 ((p.1 ++ ".<locals>.") ++ "<lambda>")
def ckDef (T : Tab) (d : Fd) : Bool := decide ((defScope d.st).kind = .function) && decide ((defScope d.st).isCoroutine = false) && decide ((defScope d.st).isGenerator = false) && decide d.N.Nodup && decide (d.np ≤ d.N.length)
  && ((d.N.take d.np).all fun x => decide ((defScope d.st).names.lookup x = some .local) || decide ((defScope d.st).names.lookup x = some .cell)) && ((defScope d.st).names.all fun y => decide (y.2 ≠ .free))
  && ckSs (T.on d.nm) d.N (defScope d.st) d.body (defBody d.st)
def Here (K : PySem.W.Frag) (mg : Str → Option Value) (T : Tab) (d : Fd) : Prop := ∃ f fd, mg d.nm = some (.ref f) ∧ PySem.W.keepIn K (.ref f) = true ∧ L2.Fun K d.nm d.nm d.st f fd ∧ (∀ c P, T.tabs.lookup d.nm = some (c, P) → fd.code = .ref c) ∧ ∀ us : List Value, us.length = (d.N.take d.np).length → bindArgs fd ⟨us, []⟩ = pure ((d.N.take d.np).zip us)
structure Top (K : PySem.W.Frag) (mg : Str → Option Value) (T : Tab) (ds : List Fd) : Prop where
  ck : ∀ d ∈ ds, ckDef T d = true
  fns : T.fns = ds.map fun d => (d.nm, d.np)
  here : ∀ d ∈ ds, Here K mg T d
  blt : ∀ x ∈ T.blt, mg x = none
  con : ∀ x d, (x, d) ∈ T.con → ∃ u v, mg x = some u ∧ RelV v u ∧ ∀ pr H, RD K pr H v d
theorem ckDef_spec {T : Tab} {d : Fd} (h : ckDef T d = true) : FnScope d.N (d.N.take d.np) (defScope d.st) ∧ d.np ≤ d.N.length ∧ ckSs (T.on d.nm) d.N (defScope d.st) d.body (defBody d.st) = true := by
  unfold ckDef at h
  simp only [Bool.and_eq_true, decide_eq_true_eq, List.all_eq_true, Bool.or_eq_true] at h
  obtain ⟨⟨⟨⟨⟨⟨⟨h1, h2⟩, h3⟩, h4⟩, h5⟩, h6⟩, h7⟩, h8⟩ := h
  have hl : (d.N.take d.np).length = d.np := by rw [List.length_take]; omega
  exact ⟨⟨h1, h2, h3, h4, by rw [hl], h6, h7⟩, h5, h8⟩
section
variable {K : PySem.W.Frag} {g g' : Gs} {st st' : Sto} {H H' : Hp}
theorem inC_get {n : Nat} {args : List PV} {i : Nat} {x : PV} (h : (inC n args)[i]? = some (.v x)) : args[i]? = some x := by
  unfold inC at h
  by_cases hi : i < args.length
  · rw [List.getElem?_append_left (by rw [List.length_map]; exact hi), List.getElem?_map] at h
    cases q : args[i]? with
    | none => rw [q] at h; cases h
    | some y => rw [q] at h; cases h; rfl
  · rw [List.getElem?_append_right (by rw [List.length_map]; omega)] at h
    have := List.mem_of_getElem? h
    rw [List.mem_replicate] at this
    cases this.2
theorem inC_own {n : Nat} {args : List PV} {i : Nat} {x : PyData} (h : (inC n args)[i]? = some (.own x)) : False := by
  have := List.mem_of_getElem? h
  unfold inC at this
  rcases List.mem_append.mp this with q | q
  · obtain ⟨y, _, e⟩ := List.mem_map.mp q; cases e
  · rw [List.mem_replicate] at q; cases q.2
/-- the state at a def's entry -/
theorem Sim.enter {N : List Str} {vs : List V} {args : List PV} (S : Sim K g st H) (he : g.e = []) (hp : Paired (RepK K g H) vs args) (hl : vs.length ≤ N.length) :
    Sim K ⟨g.B, H, g.r, g.r, inC N.length args, L2.start N vs⟩ st H := by
  have pr : ∀ a, Gs.Pr ⟨g.B, H, g.r, g.r, inC N.length args, L2.start N vs⟩ a → g.Pr a := by
    rintro a (h | h | ⟨i, x, h, _⟩)
    · exact .inl h
    · exact .inr (.inl h)
    · exact (inC_own h).elim
  have hlen : vs.length = args.length := Paired.length hp
  exact {
    len := by
      show (inC N.length args).length = (L2.start N vs).length
      unfold inC L2.start
      rw [List.length_append, List.length_append, List.length_map, List.length_map, List.length_replicate, List.length_replicate, hlen]
    val := fun i x h => by
      have hx := inC_get h
      have hi : i < args.length := (List.getElem?_eq_some_iff.mp hx).1
      have gp : ∀ {vs : List V} {args : List PV} {i : Nat}, Paired (RepK K g H) vs args → args[i]? = some x → ∃ v, vs[i]? = some v ∧ RepK K g H v x := by
        intro vs args i p
        induction p generalizing i with
        | nil => intro e; simp at e
        | cons r t ih =>
          intro e
          cases i with
          | zero => simp at e; subst e; exact ⟨_, rfl, r⟩
          | succ i => simpa using ih (by simpa using e)
      obtain ⟨v, hv, r⟩ := gp hp hx
      refine ⟨v, ?_, RepK.pr (ga := g) (gb := ⟨g.B, H, g.r, g.r, inC N.length args, L2.start N vs⟩) rfl pr r⟩
      show (L2.start N vs)[i]? = _
      unfold L2.start
      rw [List.getElem?_append_left (by rw [List.length_map, hlen]; exact hi), List.getElem?_map, hv]
      rfl
    own := fun i x h => (inC_own h).elim
    inj := fun i j x y a h => (inC_own h).elim
    slen := S.slen
    sto := fun n o h => let ⟨a, h1, h2⟩ := S.sto n o h; ⟨a, h1, ObAt.pr (ga := g) (gb := ⟨g.B, H, g.r, g.r, inC N.length args, L2.start N vs⟩) rfl pr h2⟩
    rB := S.rB
    nd := S.nd
    bt := S.bt
    pre := List.prefix_refl _
    new := fun a h => .inl h
    fr := fun a o h _ => h }
/-- .. and behind it -/
theorem Sim.leave {e0 : Envr} {s0 : L2.St} (S : Sim K g st H) (he : g.e = []) (hs : g.s = []) (k : Kp ⟨g.B, H, g.r, g.r, e0, s0⟩ g' H H') (hB : g'.B = g.B) (S' : Sim K g' st' H') :
    Nx g { g with r := g'.r } H H' ∧ Sim K { g with r := g'.r } st' H' ∧ ∀ a, Gs.Pr { g with r := g'.r } a → g'.Pr a := by
  have pr : ∀ a, Gs.Pr { g with r := g'.r } a → g'.Pr a := by
    rintro a (h | h | ⟨i, x, h, _⟩)
    · exact .inl (by rw [hB]; exact h)
    · exact .inr (.inl h)
    · have h : g.e[i]? = some (.own x) := h
      rw [he] at h; simp at h
  have rn : ∀ a ∈ g'.r, a ∈ g.r ∨ H a = none := fun a h => by
    have := S'.new a h
    rw [k.r0, k.h0] at this
    exact this
  have fr : ∀ a o, H a = some o → a ∉ g.r → H' a = some o := fun a o h hr => S'.fr a o (by rw [k.h0]; exact h) (by rw [k.r0]; exact hr)
  have pre : g.r <+: g'.r := k.pre
  refine ⟨⟨rfl, rfl, rfl, rfl, fun _ h => h, fun _ h => .inl h, pre, rn, fr⟩, ?_, pr⟩
  exact {
    len := S.len
    val := fun i x h => by have h : g.e[i]? = _ := h; rw [he] at h; simp at h
    own := fun i x h => by have h : g.e[i]? = _ := h; rw [he] at h; simp at h
    inj := fun i j x y a h => by have h : g.e[i]? = _ := h; rw [he] at h; simp at h
    slen := S'.slen
    sto := fun n o h => let ⟨a, h1, h2⟩ := S'.sto n o h; ⟨a, h1, ObAt.pr (ga := g') (gb := { g with r := g'.r }) rfl pr h2⟩
    rB := fun a h q => S'.rB a h (by rw [hB]; exact q)
    nd := S'.nd
    bt := fun a h => S'.bt a (by rw [hB]; exact h)
    pre := S.pre.trans pre
    new := fun a h => by
      rcases rn a h with h | h
      · exact S.new a h
      · exact .inr (S.h0 h)
    fr := fun a o h hr => by
      refine fr a o (S.fr a o h hr) fun q => ?_
      rcases S.new a q with q | q
      · exact hr q
      · rw [h] at q; cases q }
end
theorem callL_len {ds : List Fd} {k n : Nat} {d : Fd} {args : List PV} {st : Sto} (hd : ds[n]? = some d) (h : args.length ≠ d.np) : callL ds k n args st = .bad := by
  cases k with
  | zero => rfl
  | succ k => rw [callL, hd]; dsimp only; rw [if_neg h]
/-- all defs, to any depth -/
theorem defs_ok {P : Program} {w : World} {K : PySem.W.Frag} {mg : Str → Option Value} {base : Heap} {T : Tab} {ds : List Fd} (top : Top K mg T ds) (hTB : ∀ x c P, (x, c, P) ∈ T.tabs → LamX.TabB base mg c P) :
    ∀ (k n : Nat) (d : Fd) (f : Addr) (fd : FuncData), ds[n]? = some d → L2.Fun K d.nm d.nm d.st f fd → (∀ c P, T.tabs.lookup d.nm = some (c, P) → fd.code = .ref c) → FnOk P w K mg base (L2.CX P w) k f fd (d.N.take d.np) (spF K (callL ds k) n d.np)
  | 0, n, d, f, fd, hd, F, hcd => ⟨fun vs H Q E ⟨_, g, st, args, _, _, _, _, h⟩ => h.elim, fun A outer s H args us vs Q E _ _ _ _ ⟨_, g, st, args', _, _, _, _, h⟩ => h.elim⟩
  | k + 1, n, d, f, fd, hd, F, hcd => by
    obtain ⟨sc, hnp, hck⟩ := ckDef_spec (top.ck d (List.mem_of_getElem? hd))
    have hl : (d.N.take d.np).length = d.np := by rw [List.length_take]; omega
    obtain ⟨oc, od, kV, doc, pm, an, cdv, ct, osl, rfl, lk, hcin⟩ := F.ex
    refine fn_of lk hcin sc (fun vs H Q E ⟨h, _⟩ => by rw [hl]; exact h) fun A outer s H vs Q E hr ⟨hv, g, st, args, he, hs, S, hp, h⟩ => ?_
    have ok : OkS (T.on d.nm) (callL ds k) (cxOf (L2.CX P w) P w K mg base d.N d.nm (defScope d.st) f cdv A outer s H E) := {
      calm := rfl
      cur := fun c P q h => by
        unfold Tab.on at h
        simp only [Option.map_eq_some_iff] at h
        obtain ⟨p, hp, hq⟩ := h
        cases hq
        exact ⟨hcd _ _ hp, hTB _ _ _ (PySem.mem_of_lookup hp), rfl⟩
      dep := by have := hr.dp; show (A.deeper _).depth + 5 < recursionLimit; omega
      nd := sc.nd
      hu := by have := hr.un; show (A.deeper _).units + 100 < cLine; omega
      blt := top.blt
      con := top.con
      ar := fun n x m hn xs st hne => by
        have hn : T.fns[n]? = some (x, m) := hn
        rw [top.fns, List.getElem?_map, Option.map_eq_some_iff] at hn
        obtain ⟨d', h1, h2⟩ := hn
        cases h2
        exact callL_len h1 hne
      fns := fun n x m hn => by
        have hn : T.fns[n]? = some (x, m) := hn
        rw [top.fns, List.getElem?_map, Option.map_eq_some_iff] at hn
        obtain ⟨d', h1, h2⟩ := hn
        cases h2
        obtain ⟨f', fd', q1, q2, q3, q5, q4⟩ := top.here d' (List.mem_of_getElem? h1)
        exact ⟨k, f', fd', _, q1, q2, .all q4, defs_ok top hTB k n d' f' fd' h1 q3 q5, hr⟩
      kind := sc.kind
      fn := fun _ => rfl
      pass := passes_of rfl }
    refine ⟨_, sndSs d.body ok hck, ?_⟩
    have S0 := S.enter (N := d.N) he hp (by omega)
    refine ⟨_, st, rfl, S0, ?_⟩
    have hal : args.length = d.np := by rw [← Paired.length hp]; exact hv
    rw [callL, hd] at h
    dsimp only at h
    rw [if_pos hal] at h
    show rsp (exSs (callL ds k) d.body (inC d.N.length args) st) _ _ _ _
    cases hx : exSs (callL ds k) d.body (inC d.N.length args) st with
    | nx e1 s1 =>
      rw [hx] at h
      have h : ∀ g' H' w, Nx g g' H H' → Sim K g' s1 H' → g'.B = g.B → RepK K g' H' w (.d .none) → Q w H' := h
      intro g' H' _ kk hB S'
      obtain ⟨k1, k2, k3⟩ := S.leave he hs kk hB S'
      exact h _ H' .non k1 k2 rfl RD.non
    | rt v s1 =>
      rw [hx] at h
      have h : ∀ g' H' w, Nx g g' H H' → Sim K g' s1 H' → g'.B = g.B → RepK K g' H' w v → Q w H' := h
      intro g' H' u kk hB S' r
      obtain ⟨k1, k2, k3⟩ := S.leave he hs kk hB S'
      exact h _ H' u k1 k2 rfl (RepK.pr (ga := g') (gb := { g with r := g'.r }) rfl k3 r)
    | br _ _ => rw [hx] at h; exact h.elim
    | ct _ _ => rw [hx] at h; exact h.elim
    | ex _ _ _ _ => rw [hx] at h; exact h.elim
    | bad => rw [hx] at h; exact h.elim
/-- the law's promise, from what the interpreter says -/
theorem law_sp {K : PySem.W.Frag} {T : Tab} {ds : List Fd} {k n : Nat} {H : Hp} {a : Addr} {ns : List Int} {E : XK} (hS : SqL K H a (ns.map V.int)) (hnd : (T.tabs.map (·.2.2)).Nodup) (hT : ∀ p ∈ T.tabs, H p.2.2 = some (.tbl #[])) (h : ∃ st', callL ds k n [.d (.list (ns.map .int))] T.st0 = .ok (.d (.bool true)) st') :
    spF K (callL ds k) n 1 [.ref a] H (fun v _ => v = .bl true) E := by
  obtain ⟨st', h⟩ := h
  refine ⟨rfl, ⟨nopr, H, T.tabs.map (·.2.2), T.tabs.map (·.2.2), [], []⟩, T.st0, [.d (.list (ns.map .int))], rfl, rfl, ?_, .cons ?_ .nil, ?_⟩
  · exact {
      len := rfl
      val := fun i x h => by simp at h
      own := fun i x h => by simp at h
      inj := fun i j x y a h => by simp at h
      slen := by unfold Tab.st0; rw [List.length_map, List.length_map]
      sto := fun n o h => by
        unfold Tab.st0 at h
        rw [List.getElem?_map, Option.map_eq_some_iff] at h
        obtain ⟨p, hp, rfl⟩ := h
        refine ⟨p.2.2, by show (T.tabs.map (·.2.2))[n]? = _; rw [List.getElem?_map, hp]; rfl, rfl, #[], hT p (List.mem_of_getElem? hp), trivial, fun pos cv hc => ?_⟩
        have z : codeAmong pos [] = some cv := hc
        simp [codeAmong] at z
      rB := fun a h q => q
      nd := hnd
      bt := fun a h => h.elim
      pre := List.prefix_refl _
      new := fun a h => .inl h
      fr := fun a o h _ => h }
  · show RD K _ H (.ref a) (.list (ns.map .int))
    rcases hS with hS | hS
    · refine .lst hS ?_ (RDs.ints ns)
      rintro (q | q | ⟨i, x, q, _⟩)
      · exact q
      · obtain ⟨p, hp, e⟩ := List.mem_map.mp q
        have := hT p hp
        rw [e] at this
        rcases hS with hS | ⟨o, hS⟩ <;> rw [this] at hS <;> cases hS
      · simp at q
    · exact .lstK hS (RDs.ints ns)
  · rw [h]
    intro g' H' w _ _ _ r
    have r : RD K g'.Pr H' w (.bool true) := r
    cases r
    rfl
end Ev

set_option maxRecDepth 100000
/-! Ev20: what the top has written; the end. -/
namespace Ev
open PySem L2 PySem.W PyProof.Rows PySem.SeqAt

theorem here_mk {K : PySem.W.Frag} {h : Heap} {mg : Str → Option Value} {T : Tab} {d : Fd} {f : Addr} {oc : Value} {od an : Option Addr} {sl : Array (Option Value)} {kV dc pm cd ct : Value} (X : K.In h) (G : h.Ns mainGlobals mg)
    (b : ∀ (kV doc pm : Value) (an : Option Addr) (cdv ct : Value) (us : List Value), us.length = (d.N.take d.np).length → bindArgs (PySem.W.fnOf d.nm d.nm (defArgs d.st) (defBody d.st) (defScope d.st) .none kV doc pm an cdv ct) ⟨us, []⟩ = pure ((d.N.take d.np).zip us))
    (a : PySem.W.nsIn K mainGlobals d.nm = some (some (.ref f)))
    (l : K.lookup f = some ⟨oc, od, .func (PySem.W.fnOf d.nm d.nm (defArgs d.st) (defBody d.st) (defScope d.st) .none kV dc pm an cd ct), sl⟩)
    (c : PySem.W.codeIn K cd d.nm = true) (k : PySem.W.keepIn K (.ref f) = true) (t : T.tabs.lookup d.nm = none ∨ ∃ c P, T.tabs.lookup d.nm = some (c, P) ∧ cd = .ref c) : Here K mg T d :=
  ⟨f, _, PySem.W.mg_of X G a, k, fun_mk (st := d.st) l c k, fun c' P' e => by
    rcases t with t | ⟨c, P, t, r⟩
    · rw [t] at e; cases e
    · rw [t] at e; cases e; exact r, b kV dc pm an cd ct⟩
/-- the frag is read off what is in the heap -/
abbrev HereOf {K : PySem.W.Frag} {h : Heap} (_ : K.In h) (mg : Str → Option Value) (T : Tab) (d : Fd) : Prop := Here K mg T d
def ConAt (K : PySem.W.Frag) (mg : Str → Option Value) (x : Str) (d : PyData) : Prop := ∃ u v, mg x = some u ∧ RelV v u ∧ ∀ pr H, RD K pr H v d
theorem con_int {K : PySem.W.Frag} {h : Heap} {mg : Str → Option Value} {x : Str} {i : Int} {t : Tok} (X : K.In h) (G : h.Ns mainGlobals mg) (a : PySem.W.nsIn K mainGlobals x = some (some (.int i t))) : ConAt K mg x (.int i) :=
  ⟨_, .int i, PySem.W.mg_of X G a, ⟨t, rfl⟩, fun _ _ => .int i⟩
theorem con_str {K : PySem.W.Frag} {h : Heap} {mg : Str → Option Value} {x : Str} {i : Str} {t : Tok} (X : K.In h) (G : h.Ns mainGlobals mg) (a : PySem.W.nsIn K mainGlobals x = some (some (.str i t))) : ConAt K mg x (.str i) :=
  ⟨_, .str i, PySem.W.mg_of X G a, ⟨t, rfl⟩, fun _ _ => .str i⟩
theorem all_nil {α : Type} {P : α → Prop} : ∀ d ∈ ([] : List α), P d := fun _ h => nomatch h
theorem all_cons {α : Type} {P : α → Prop} {a : α} {l : List α} (h : P a) (t : ∀ d ∈ l, P d) : ∀ d ∈ a :: l, P d := fun d hd => by
  rcases List.mem_cons.mp hd with e | e
  · rw [e]; exact h
  · exact t d e
theorem con_all {K : PySem.W.Frag} {mg : Str → Option Value} {l : List (Str × PyData)} (h : ∀ p ∈ l, ConAt K mg p.1 p.2) : ∀ x d, (x, d) ∈ l → ConAt K mg x d := fun x d q => h (x, d) q
/-- the law's def, with its promise, at every base -/
theorem law_fn {l : PySem.W.OpenLaw} {w : World} {K : PySem.W.Frag} {mg : Str → Option Value} {fa : Addr} {T : Tab} {ds : List Fd} {k n : Nat} {d : Fd} {x : Str} (top : Top K mg T ds) (hd : ds[n]? = some d) (hnp : d.N.take d.np = [x]) (hp : d.np = 1) (hfa : mg d.nm = some (.ref fa)) :
    ∃ fd : FuncData, (∀ (s : Shared) (u : Value), BindsTo s fd ⟨[u], []⟩ [(x, u)]) ∧ ∀ base : Heap, (∀ x c P, (x, c, P) ∈ T.tabs → LamX.TabB base mg c P) → FnOk l.prog w K mg base (L2.CX l.prog w) k fa fd [x] (spF K (callL ds k) n 1) := by
  obtain ⟨f, fd, h1, h2, h3, h5, h4⟩ := top.here d (List.mem_of_getElem? hd)
  rw [hfa] at h1
  cases h1
  refine ⟨fd, fun s u => ?_, fun base hTB => ?_⟩
  · have := h4 [u] (by rw [hnp]; rfl)
    rw [hnp] at this
    exact .of_eq this
  · have := defs_ok (P := l.prog) (w := w) (base := base) top hTB k n d fa fd hd h3 h5
    rw [hnp, hp] at this
    exact this
/-- the walk, by what the interpreter says -/
theorem ev_walk {l : PySem.W.OpenLaw} {q : Program} {loose : List Str} {XP : (Str → Option Value) → Heap → Prop} {YP : World → Heap → Prop} {d : DefRec} {K : Params → PySem.W.Frag} {x : Str} (T : Tab) (ds : List Fd) (k n : Nat) (ld : Fd) (hn : l.most = some 63) (hdf : d.params.defaults = [])
    (hd : ds[n]? = some ld) (hnp : ld.N.take ld.np = [x]) (hp : ld.np = 1) (hnm : ld.nm = d.name) (hr : Room k callerA) (hT0 : T.tabs = [])
    (hY : ∀ (w : World) (h : Heap), YP w h → (K w.params).In h)
    (F : ∀ (w : World) (mg : Str → Option Value) (h : Heap), (K w.params).In h → h.Ns mainGlobals mg → Top (K w.params) mg T ds)
    (hl : ∀ ns : List Int, ns.length ≤ 63 → (∀ z ∈ ns, Builtin.Int.intBits z ≤ 1048576) → ∃ st', callL ds k n [.d (.list (ns.map .int))] [] = .ok (.d (.bool true)) st') :
    PySem.W.WalkO q loose XP YP l.row.toRowW d [] (fun f vs => PySem.call f vs) :=
  L2.walk_ofB (n := 63) (k := k) (x := x) (CX := fun w => L2.CX l.prog w) (sp := fun w => spF (K w.params) (callL ds k) n 1) hn (by decide) hdf hr hY
    (fun w mg fa h KX G hfa => by
      obtain ⟨fd, h1, h2⟩ := law_fn (l := l) (w := w) (F w mg h KX G) hd hnp hp (by rw [hnm]; exact hfa)
      exact ⟨fd, h1, fun base _ _ => h2 base fun x c P hm => by rw [hT0] at hm; cases hm⟩) (fun _ _ a ns hlen hb _ hS => law_sp (T := T) hS (by rw [hT0]; exact List.nodup_nil) (fun p hp => by rw [hT0] at hp; cases hp) (by unfold Tab.st0; rw [hT0]; exact hl ns hlen hb)) fun w H s e s' h => by
      obtain ⟨_, _, _, _, _, _, _, _, _, _, _, _, z⟩ := h
      exact z
/-- .. with lambdas -/
theorem ev_walkT {l : PySem.W.OpenLaw} {q : Program} {loose : List Str} {XP : (Str → Option Value) → Heap → Prop} {YP : World → Heap → Prop} {d : DefRec} {K : Params → PySem.W.Frag} {x : Str} (T : Tab) (ds : List Fd) (k n : Nat) (ld : Fd) (hn : l.most = some 63) (hdf : d.params.defaults = [])
    (hd : ds[n]? = some ld) (hnp : ld.N.take ld.np = [x]) (hp : ld.np = 1) (hnm : ld.nm = d.name) (hr : Room k callerA) (hnd : (T.tabs.map (·.2.2)).Nodup)
    (hY : ∀ (w : World) (h : Heap), YP w h → (K w.params).In h)
    (hY2 : ∀ (w : World) (h : Heap), YP w h → (K w.params).In h → ∀ p ∈ T.tabs, h.get? p.2.2 = some { cls := .none, data := .fields #[] } ∧ (K w.params).lookup p.2.2 = none ∧ CodeHd h p.2.1 p.2.2)
    (F : ∀ (w : World) (mg : Str → Option Value) (h : Heap), (K w.params).In h → h.Ns mainGlobals mg → Top (K w.params) mg T ds)
    (hl : ∀ ns : List Int, ns.length ≤ 63 → (∀ z ∈ ns, Builtin.Int.intBits z ≤ 1048576) → ∃ st', callL ds k n [.d (.list (ns.map .int))] T.st0 = .ok (.d (.bool true)) st') :
    PySem.W.WalkO q loose XP YP l.row.toRowW d [] (fun f vs => PySem.call f vs) :=
  LamX.walk_ofTs (n := 63) (k := k) (x := x) (CX := fun w => L2.CX l.prog w) hn (by decide) hdf hr hY
    (fun w mg fa h Y KX G hfa => by
      obtain ⟨fd, h1, h2⟩ := law_fn (l := l) (w := w) (F w mg h KX G) hd hnp hp (by rw [hnm]; exact hfa)
      have cm : ∀ p ∈ T.tabs.map (·.2), ∃ x, (x, p.1, p.2) ∈ T.tabs := fun p hp => by
        obtain ⟨y, hy, e⟩ := List.mem_map.mp hp
        subst e
        exact ⟨y.1, hy⟩
      refine ⟨fd, T.tabs.map (·.2), spF (K w.params) (callL ds k) n 1, fun p hp => ?_, fun p hp => ?_, fun p hp => ?_, h1, fun H a ns hlen hb hT hS => law_sp (T := T) hS hnd (fun p hp => hT p.2 (List.mem_map_of_mem hp)) (hl ns hlen hb), fun base _ _ hTB => h2 base fun x c P hm => hTB (c, P) (List.mem_map.mpr ⟨_, hm, rfl⟩)⟩
      · obtain ⟨x, hx⟩ := cm p hp; exact (hY2 w h Y KX _ hx).1
      · obtain ⟨x, hx⟩ := cm p hp; exact (hY2 w h Y KX _ hx).2.1
      · obtain ⟨x, hx⟩ := cm p hp; exact (hY2 w h Y KX _ hx).2.2) fun w H s e s' h => by
      obtain ⟨_, _, _, _, _, _, _, _, _, _, _, _, z⟩ := h
      exact z
end Ev

set_option maxRecDepth 100000
/-! Ev21: plain laws of the interpreter. -/
namespace Ev
open PySem

/-! ### small steps, one rewriting a piece -/
section
variable {c : Nat → List PV → Sto → R PV} {e : Envr} {st : Sto}
theorem x_nil : exSs c .nil e st = .nx e st := rfl
theorem x_cons (s : S) (ss : Ss) : exSs c (.cons s ss) e st = (exS c s e st).then fun e1 s1 => exSs c ss e1 s1 := rfl
theorem opt_some {α : Type} (a : α) (s : Sto) : R.opt (some a) s = .ok a s := rfl
theorem noEx_ok {α : Type} (a : α) (s : Sto) : noEx (R.ok a s) = .ok a s := rfl
/-- what is to be done next: simp does not look into it (it goes into no instance) -/
class Ct (α β : Type) where
  f : α → Sto → β
class Cs where
  f : Envr → Sto → RS
def R.bindI {α β : Type} (r : R α) [k : Ct α (R β)] : R β := r.bind k.f
def RS.ofRI {α : Type} (e : Envr) (r : R α) [k : Ct α RS] : RS := RS.ofR e r k.f
def RS.thenI (r : RS) [k : Cs] : RS := r.then k.f
theorem bind_I {α β : Type} (r : R α) (f : α → Sto → R β) : r.bind f = R.bindI r (k := ⟨f⟩) := rfl
theorem ofR_I {α : Type} (r : R α) (f : α → Sto → RS) : RS.ofR e r f = RS.ofRI e r (k := ⟨f⟩) := rfl
theorem then_I (r : RS) (f : Envr → Sto → RS) : r.then f = RS.thenI r (k := ⟨f⟩) := rfl
theorem then_nx (e1 : Envr) (s1 : Sto) (f : Envr → Sto → RS) : RS.thenI (RS.nx e1 s1) (k := ⟨f⟩) = f e1 s1 := rfl
theorem then_rt (v : PV) (s1 : Sto) (f : Envr → Sto → RS) : RS.thenI (RS.rt v s1) (k := ⟨f⟩) = .rt v s1 := rfl
theorem ofR_ok {α : Type} (a : α) (s : Sto) (f : α → Sto → RS) : RS.ofRI e (.ok a s) (k := ⟨f⟩) = f a s := rfl
theorem bind_ok {α β : Type} (a : α) (s : Sto) (f : α → Sto → R β) : R.bindI (R.ok a s) (k := ⟨f⟩) = f a s := rfl
theorem e_var (i : Nat) : evE c (.var i) e st = match e[i]? with
    | some (.v x) => .ok x st
    | some (.own x) => .ok (.bor x) st
    | _ => .bad := rfl
theorem e_lit (x : PyData) : evE c (.lit x) e st = .ok (.d x) st := rfl
theorem e_con (y : Str) (x : PyData) : evE c (.con y x) e st = .ok (.d x) st := rfl
theorem e_ty (y : Str) (n : String) : evE c (.ty y n) e st = .ok (.ty n) st := rfl
theorem e_op (o : Op2) (a b : E) : evE c (.op o a b) e st = (evE c a e st).bind fun x s1 => (evE c b e s1).bind fun y s2 => R.opt ((rd x s2).bind fun u => (rd y s2).bind fun w => opD o u w) s2 := rfl
theorem e_neg (a : E) : evE c (.neg a) e st = (evE c a e st).bind fun x s1 => match x with
    | .d (.int i) => .ok (.d (.int (-i))) s1
    | _ => .bad := rfl
theorem e_cmp (o : Cm) (a b : E) : evE c (.cmp o a b) e st = (evE c a e st).bind fun x s1 => (evE c b e s1).bind fun y s2 => R.opt ((rd x s2).bind fun u => (rd y s2).bind fun w => (cmpD o u w).map fun b => .d (.bool b)) s2 := rfl
theorem e_chn (o o2 : Cm) (a b b2 : E) : evE c (.chn o o2 a b b2) e st = (evE c a e st).bind fun x s1 => (evE c b e s1).bind fun y s2 =>
      match (rd x s2).bind fun u => (rd y s2).bind fun w => cmpD o u w with
      | some true => (evE c b2 e s2).bind fun z s3 => R.opt ((rd y s3).bind fun u => (rd z s3).bind fun w => (cmpD o2 u w).map fun b => .d (.bool b)) s3
      | some false => .ok (.d (.bool false)) s2
      | none => .bad := rfl
theorem e_andd (a b : E) : evE c (.andd a b) e st = (evE c a e st).bind fun x s1 => match x with
    | .d (.bool true) => (evE c b e s1).bind fun y s2 => R.opt ((asB y).map fun k => .d (.bool k)) s2
    | .d (.bool false) => .ok (.d (.bool false)) s1
    | _ => .bad := rfl
theorem e_orr (a b : E) : evE c (.orr a b) e st = (evE c a e st).bind fun x s1 => match x with
    | .d (.bool false) => (evE c b e s1).bind fun y s2 => R.opt ((asB y).map fun k => .d (.bool k)) s2
    | .d (.bool true) => .ok (.d (.bool true)) s1
    | _ => .bad := rfl
theorem e_nott (a : E) : evE c (.nott a) e st = (evE c a e st).bind fun x s1 => match x with
    | .d (.bool k) => .ok (.d (.bool (!k))) s1
    | _ => .bad := rfl
theorem e_ife (t a b : E) : evE c (.ife t a b) e st = (evE c t e st).bind fun x s1 => match x with
    | .d (.bool true) => evE c a e s1
    | .d (.bool false) => evE c b e s1
    | _ => .bad := rfl
theorem e_tup (es : Es) : evE c (.tup es) e st = (evDs c es e st).bind fun xs s1 => if xs.length ≤ sizeLine then .ok (.d (.tuple xs)) s1 else .bad := rfl
theorem e_lst (es : Es) : evE c (.lst es) e st = (evDs c es e st).bind fun xs s1 => if xs.length ≤ sizeLine then .ok (.fre (.list xs)) s1 else .bad := rfl
theorem e_lstR (es : Es) : evE c (.lstR es) e st = (evRs c es e st).bind fun xs s1 => if xs.length ≤ sizeLine then .ok (.ref s1.length) (s1 ++ [.lst xs]) else .bad := rfl
theorem e_sl (a : E) (lo hi : P) : evE c (.sl a lo hi) e st = (evE c a e st).bind fun x s1 => (evP c lo e s1).bind fun i s2 => (evP c hi e s2).bind fun j s3 => R.opt ((rd x s3).bind fun u => slD u i j) s3 := rfl
theorem e_call (f : Nat) (es : Es) : evE c (.call f es) e st = (evRs c es e st).bind fun xs s1 => c f xs s1 := rfl
theorem e_bi (b : Bi) (es : Es) : evE c (.bi b es) e st = (evAs c es e st).bind fun xs s1 => R.opt (biV b xs s1) s1 := rfl
theorem e_lrng (tp : Bool) (a b : E) : evE c (.lrng tp a b) e st = (evE c a e st).bind fun x s1 => (evE c b e s1).bind fun y s2 => match x, y with
    | .d (.int i), .d (.int j) => if smallI i && smallI j && decide ((j - i).toNat ≤ sizeLine) then .ok (cond tp (.d (.tuple (rgL i j))) (.fre (.list (rgL i j)))) s2 else .bad
    | _, _ => .bad := rfl
theorem e_lc (own : List Nat) (g : G) (it : It) (ts : Es) (y : E) : evE c (.lc own g it ts y) e st = if own.all (notOwn e) then (evI c it true e st).bind fun xs s1 =>
      (lcL (fun x s => match asg (wipeC e own) g x with
        | some e1 => (noEx (evTs c ts e1 s)).bind fun b s2 => if b then (noEx (evE c y e1 s2)).bind fun v s3 => R.opt ((asD v).map some) s3 else .ok none s2
        | none => .bad) xs s1 []).bind fun ys s2 => .ok (.fre (.list ys)) s2
    else .bad := rfl
theorem e_box (a : E) : evE c (.box a) e st = (evE c a e st).bind fun x s1 => match x with
    | .fre (.list xs) => .ok (.ref s1.length) (s1 ++ [.lst (xs.map .d)])
    | .fre (.dict pd) => .ok (.ref s1.length) (s1 ++ [.dct pd])
    | _ => .bad := rfl
theorem e_ix (a i : E) : evE c (.ix a i) e st = (evE c a e st).bind fun x s1 => (evE c i e s1).bind fun y s2 => match x, y with
    | .ref n, .d (.int j) => match s2[n]? with
      | some (.lst xs) => R.opt (L2.atI xs j) s2
      | _ => R.opt ((rd x s2).bind fun u => (rd y s2).bind fun w => (ixD u w).map .d) s2
    | _, _ => R.opt ((rd x s2).bind fun u => (rd y s2).bind fun w => (ixD u w).map .d) s2 := rfl
theorem e_rev (a : E) : evE c (.rev a) e st = (evE c a e st).bind fun x s1 => match rd x s1 with
    | some (.list xs) => .ok (.fre (.list xs.reverse)) s1
    | some (.tuple xs) => .ok (.d (.tuple xs.reverse)) s1
    | _ => .bad := rfl
theorem e_dsp (tp : Bool) (k v : E) : evE c (.dsp tp k v) e st = (evE c k e st).bind fun x s1 => (evE c v e s1).bind fun y s2 => match asD x, asD y with
    | some a, some b => match dKey a with
      | some j => if j.tup = tp then .ok (.fre (.dict [(a, b)])) s2 else .bad
      | none => .bad
    | _, _ => .bad := rfl
theorem e_keep (a : E) : evE c (.keep a) e st = (evE c a e st).bind fun x s1 => match x with
    | .fre (.dict pd) => .ok (.d (.dict pd)) s1
    | _ => .bad := rfl
theorem e_get1 (d k : E) : evE c (.get1 d k) e st = (evE c d e st).bind fun x s1 => if isTab (rd x s1) then (evE c k e s1).bind fun y s2 => R.opt ((rd x s2).bind fun u => (rd y s2).bind fun w => (getDD u w .none).map .d) s2 else .bad := rfl
theorem e_get2 (d k z : E) : evE c (.get2 d k z) e st = (evE c d e st).bind fun x s1 => if isTab (rd x s1) then (evE c k e s1).bind fun y s2 => (evE c z e s2).bind fun v s3 => match asD v with
    | some b => R.opt ((rd x s3).bind fun u => (rd y s3).bind fun w => (getDD u w b).map .d) s3
    | none => .bad else .bad := rfl
theorem e_dcp (own : List Nat) (g : G) (it : It) (ts : Es) (k y : E) : evE c (.dcp own g it ts k y) e st = if own.all (notOwn e) then (evI c it true e st).bind fun xs s1 =>
      (dpL (fun x s => match asg (wipeC e own) g x with
        | some e1 => (noEx (evTs c ts e1 s)).bind fun b s2 => if b then (noEx (evE c k e1 s2)).bind fun u s3 => (noEx (evE c y e1 s3)).bind fun v s4 => match asD u, asD v with
          | some a, some b => .ok (some (a, b)) s4
          | _, _ => .bad
          else .ok none s2
        | none => .bad) xs s1 []).bind fun ys s2 => .ok (.fre (.dict ys)) s2
    else .bad := rfl
theorem e_dcp2 (own : List Nat) (g : G) (it : It) (ts : Es) (v1 : List Nat) (g1 : G) (it1 : It) (ts1 : Es) (k y : E) : evE c (.dcp2 own g it ts v1 g1 it1 ts1 k y) e st = if own.all (notOwn e) && v1.all (fun i => decide (i ∈ own)) then (evI c it true e st).bind fun xs s1 =>
      (outL (fun x s acc => match asg (wipeC e own) g x with
        | some e1 => (noEx (evTs c ts e1 s)).bind fun b s2 => if b then (noEx (evI c it1 true e1 s2)).bind fun xs1 s3 =>
            dpL (fun x s => match asg (wipeC e1 v1) g1 x with
              | some e2 => (noEx (evTs c ts1 e2 s)).bind fun b s2 => if b then (noEx (evE c k e2 s2)).bind fun u s3 => (noEx (evE c y e2 s3)).bind fun v s4 => match asD u, asD v with
                | some a, some b => .ok (some (a, b)) s4
                | _, _ => .bad
                else .ok none s2
              | none => .bad) xs1 s3 acc
          else .ok acc s2
        | none => .bad) xs s1 []).bind fun ys s2 => .ok (.fre (.dict ys)) s2
    else .bad := rfl
theorem e_lc2 (own : List Nat) (g : G) (it : It) (ts : Es) (v1 : List Nat) (g1 : G) (it1 : It) (ts1 : Es) (y : E) : evE c (.lc2 own g it ts v1 g1 it1 ts1 y) e st = if own.all (notOwn e) && v1.all (fun i => decide (i ∈ own)) then (evI c it true e st).bind fun xs s1 =>
      (outL (fun x s acc => match asg (wipeC e own) g x with
        | some e1 => (noEx (evTs c ts e1 s)).bind fun b s2 => if b then (noEx (evI c it1 true e1 s2)).bind fun xs1 s3 =>
            lcL (fun x s => match asg (wipeC e1 v1) g1 x with
              | some e2 => (noEx (evTs c ts1 e2 s)).bind fun b s2 => if b then (noEx (evE c y e2 s2)).bind fun v s3 => R.opt ((asD v).map some) s3 else .ok none s2
              | none => .bad) xs1 s3 acc
          else .ok acc s2
        | none => .bad) xs s1 []).bind fun ys s2 => .ok (.fre (.list ys)) s2
    else .bad := rfl
theorem e_lset (a : E) : evE c (.lset a) e st = (evE c a e st).bind fun x s1 => R.opt ((rd x s1).bind lsetD) s1 := rfl
theorem e_sset (a : E) : evE c (.sset a) e st = (evE c a e st).bind fun x s1 => R.opt ((rd x s1).bind ssetD) s1 := rfl
theorem e_srtk (b : Bk) (n P : Nat) (q : Str) (k : LK) (a : E) : evE c (.srtk b n P q k a) e st = (evE c a e st).bind fun x s1 => if isTb s1 n P q then R.opt ((rd x s1).bind (srtkD b k)) s1 else .bad := rfl
theorem e_dzip (es : Es) : evE c (.dzip es) e st = (evDs c es e st).bind fun xs s1 => R.opt (dzV xs) s1 := rfl
theorem e_dnew : evE c .dnew e st = .ok (.fre (.dict [])) st := rfl
theorem runB_rt (v : PV) (s : Sto) : runB (.rt v s) = .ok v s := rfl
theorem runB_nx (e : Envr) (s : Sto) : runB (.nx e s) = .ok (.d .none) s := rfl
theorem s_set (own : Bool) (i : Nat) (a : A) : exS c (.set own i a) e st = RS.ofR e (evA c a e st) fun p s1 => match putC own i p.1 p.2 with
    | some e1 => .nx e1 s1
    | none => .bad := rfl
theorem s_par2 (o1 : Bool) (i1 : Nat) (o2 : Bool) (i2 : Nat) (a b : E) : exS c (.par2 o1 i1 o2 i2 a b) e st = RS.ofR e (evE c a e st) fun x s1 => RS.ofR e (evE c b e s1) fun y s2 =>
      match (putC o1 i1 x e).bind fun e1 => putC o2 i2 y e1 with
      | some e2 => .nx e2 s2
      | none => .bad := rfl
theorem s_par3 (o1 : Bool) (i1 : Nat) (o2 : Bool) (i2 : Nat) (o3 : Bool) (i3 : Nat) (a b d : E) : exS c (.par3 o1 i1 o2 i2 o3 i3 a b d) e st = RS.ofR e (evE c a e st) fun x s1 => RS.ofR e (evE c b e s1) fun y s2 => RS.ofR e (evE c d e s2) fun z s3 =>
      match ((putC o1 i1 x e).bind fun e1 => putC o2 i2 y e1).bind fun e2 => putC o3 i3 z e2 with
      | some e2 => .nx e2 s3
      | none => .bad := rfl
theorem s_asg (g : G) (a : E) : exS c (.asg g a) e st = RS.ofR e (evE c a e st) fun x s1 => match (asD x).bind fun d => asg e g d with
    | some e1 => .nx e1 s1
    | none => .bad := rfl
theorem s_app (i : Nat) (a : A) : exS c (.app i a) e st = RS.ofR e (evA c a e st) fun p s1 => match asD p.1, p.2[i]? with
    | some d, some (.own (.list ds)) => if ds.length < sizeLine then .nx (p.2.set i (.own (.list (ds ++ [d])))) s1 else .bad
    | _, _ => .bad := rfl
theorem s_ex (a : A) : exS c (.ex a) e st = RS.ofR e (evA c a e st) fun p s1 => .nx p.2 s1 := rfl
theorem s_setR (o i a : E) : exS c (.setR o i a) e st = RS.ofR e (evE c a e st) fun v s1 => RS.ofR e (evE c o e s1) fun x s2 => RS.ofR e (evE c i e s2) fun y s3 => match x with
    | .ref n => match s3[n]? with
      | some (.lst xs) => match asR v, y with
        | some u, .d (.int k) => match L2.ixN xs.length k with
          | some j => .nx e (s3.set n (.lst (xs.set j u)))
          | none => .bad
        | _, _ => .bad
      | some (.dct pd) => match asD v, rd y s3 with
        | some d, some w => match setD (.dict pd) w d with
          | some (.dict pd') => .nx e (s3.set n (.dct pd'))
          | _ => .bad
        | _, _ => .bad
      | _ => .bad
    | _ => .bad := rfl
theorem s_popR (o i : E) : exS c (.popR o i) e st = RS.ofR e (evE c o e st) fun x s1 => match x with
    | .ref n => match s1[n]? with
      | some (.lst _) => RS.ofR e (evE c i e s1) fun y s2 => match y, s2[n]? with
        | .d (.int k), some (.lst xs) => match seqIndex? k xs.length with
          | some j => if fits k && decide (j < xs.length) then .nx e (s2.set n (.lst (xs.eraseIdx j))) else .bad
          | none => .bad
        | _, _ => .bad
      | _ => .bad
    | _ => .bad := rfl
theorem s_setO (i : Nat) (k a : E) : exS c (.setO i k a) e st = RS.ofR e (evE c a e st) fun v s1 => RS.ofR e (evE c k e s1) fun y s2 => match e[i]?, asD v, rd y s2 with
    | some (.own x), some d, some w => match setD x w d with
      | some x' => .nx (e.set i (.own x')) s2
      | none => .bad
    | _, _, _ => .bad := rfl
theorem s_augO (i : Nat) (k : E) (o : Op2) (a : E) : exS c (.augO i k o a) e st = RS.ofR e (evE c k e st) fun y s1 => match e[i]?, y with
    | some (.own x), .d w => match ixD x w with
      | some z => RS.ofR e (evE c a e s1) fun v s2 => match (rd v s2).bind fun u => augD o z u with
        | some r => match setD x w r with
          | some x' => .nx (e.set i (.own x')) s2
          | none => .bad
        | none => .bad
      | none => .bad
    | _, _ => .bad := rfl
theorem s_aug (i : Nat) (o : Op2) (a : E) : exS c (.aug i o a) e st = match e[i]? with
    | some (.v (.d z)) => RS.ofR e (evE c a e st) fun v s1 => match (rd v s1).bind fun u => augD o z u with
      | some r => .nx (e.set i (.v (.d r))) s1
      | none => .bad
    | _ => .bad := rfl
theorem s_ext (i : Nat) (a : E) : exS c (.ext i a) e st = RS.ofR e (evE c a e st) fun v s1 => match e[i]?, v with
    | some (.own (.list xs)), .fre (.list ys) => if xs.length + ys.length ≤ sizeLine then .nx (e.set i (.own (.list (xs ++ ys)))) s1 else .bad
    | _, _ => .bad := rfl
theorem s_swp (i : Nat) (k1 k2 a b : E) : exS c (.swp i k1 k2 a b) e st = RS.ofR e (evE c a e st) fun x s1 => RS.ofR e (evE c b e s1) fun y s2 => match asD x, asD y with
    | some p, some q => RS.ofR e (evE c k1 e s2) fun u s3 => match e[i]?, rd u s3 with
      | some (.own z), some w => match setD z w p with
        | some z1 => RS.ofR (e.set i (.own z1)) (evE c k2 (e.set i (.own z1)) s3) fun u2 s4 => match rd u2 s4 with
          | some w2 => match setD z1 w2 q with
            | some z2 => .nx ((e.set i (.own z1)).set i (.own z2)) s4
            | none => .bad
          | none => .bad
        | none => .bad
      | _, _ => .bad
    | _, _ => .bad := rfl
theorem s_frz (i : Nat) : exS c (.frz i) e st = match e[i]? with
    | some (.own x) => .nx (e.set i (.v (.d x))) st
    | _ => .bad := rfl
theorem s_ret (a : E) : exS c (.ret a) e st = RS.ofR e (evE c a e st) fun x s1 => match asR x with
    | some y => .rt y s1
    | none => .bad := rfl
theorem s_retN : exS c .retN e st = .rt (.d .none) st := rfl
theorem s_ife (t : E) (a b : Ss) : exS c (.ife t a b) e st = RS.ofR e (evE c t e st) fun x s1 => match asB x with
    | some true => exSs c a e s1
    | some false => exSs c b e s1
    | none => .bad := rfl
theorem s_for (g : G) (it : It) (b : Ss) : exS c (.for_ g it b) e st = RS.ofR e (evI c it false e st) fun xs s1 => forL (exSs c b) g xs e s1 := rfl
theorem s_whl (n : Nat) (t : E) (b : Ss) : exS c (.whl n t b) e st = whlL (evE c t) (exSs c b) n e st := rfl
theorem s_brk : exS c .brk e st = .br e st := rfl
theorem s_cont : exS c .cont e st = .ct e st := rfl
theorem s_dead : exS c .dead e st = .bad := rfl
end
theorem callL_some {ds : List Fd} {k n : Nat} {d : Fd} {args : List PV} {st : Sto} (h : ds[n]? = some d) (hl : args.length = d.np) : callL ds (k + 1) n args st = runB (exSs (callL ds k) d.body (inC d.N.length args) st) := by
  rw [callL, h]; dsimp only; rw [if_pos hl]
theorem lcL_map {α : Type} {f : PyData → Sto → R (Option PyData)} {enc g : α → PyData} {st : Sto} : ∀ {l : List α} {acc : List PyData}, (∀ a ∈ l, f (enc a) st = .ok (some (g a)) st) → acc.length + l.length ≤ sizeLine → lcL f (l.map enc) st acc = .ok (acc ++ l.map g) st
  | [], acc, _, _ => by simp [lcL]
  | a :: l, acc, h, hz => by
    have h1 := h a List.mem_cons_self
    rw [List.length_cons] at hz
    simp only [List.map_cons, lcL, h1, R.bind]
    rw [if_pos (by omega), lcL_map (fun b hb => h b (List.mem_cons_of_mem _ hb)) (by rw [List.length_append, List.length_singleton]; omega)]
    simp
theorem lcL_filt {α : Type} {f : PyData → Sto → R (Option PyData)} {enc g : α → PyData} {p : α → Bool} {st : Sto} : ∀ {l : List α} {acc : List PyData}, (∀ a ∈ l, f (enc a) st = .ok (if p a = true then some (g a) else none) st) → acc.length + l.length ≤ sizeLine → lcL f (l.map enc) st acc = .ok (acc ++ (l.filter p).map g) st
  | [], acc, _, _ => by simp [lcL]
  | a :: l, acc, h, hz => by
    have h1 := h a List.mem_cons_self
    rw [List.length_cons] at hz
    simp only [List.map_cons, lcL, h1, R.bind]
    cases hp : p a with
    | true =>
      simp only [if_true, List.filter_cons, hp]
      rw [if_pos (by omega), lcL_filt (p := p) (g := g) (fun b hb => h b (List.mem_cons_of_mem _ hb)) (by rw [List.length_append, List.length_singleton]; omega)]
      simp
    | false =>
      simp only [Bool.false_eq_true, if_false, List.filter_cons, hp]
      exact lcL_filt (p := p) (g := g) (fun b hb => h b (List.mem_cons_of_mem _ hb)) (by omega)
/-- a loop that goes to its end -/
theorem forL_rel {α β : Type} {b : Envr → Sto → RS} {gt : G} {encX : α → PyData} {f : β → α → β} {Rel : List α → β → Envr → Prop} {st : Sto}
    (h : ∀ a r s e, Rel (a :: r) s e → ∃ e1 e2, asg e gt (encX a) = some e1 ∧ b e1 st = .nx e2 st ∧ Rel r (f s a) e2) : ∀ {l : List α} {s : β} {e : Envr}, Rel l s e → ∃ e', forL b gt (l.map encX) e st = .nx e' st ∧ Rel [] (l.foldl f s) e'
  | [], s, e, hr => ⟨e, rfl, hr⟩
  | a :: l, s, e, hr => by
    obtain ⟨e1, e2, h1, h2, h3⟩ := h a l s e hr
    simp only [List.map_cons, forL, h1, h2, List.foldl_cons]
    exact forL_rel h h3
/-- what a loop that may be left by a return comes to -/
def retF {α β γ : Type} (f : β → α → β) (q : β → α → Option γ) : List α → β → γ ⊕ β
  | [], s => .inr s
  | a :: r, s => match q s a with
    | some v => .inl v
    | none => retF f q r (f s a)
theorem forL_ret {α β γ : Type} {b : Envr → Sto → RS} {gt : G} {encX : α → PyData} {encV : γ → PV} {f : β → α → β} {q : β → α → Option γ} {Rel : List α → β → Envr → Prop} {st : Sto}
    (h : ∀ a r s e, Rel (a :: r) s e → ∃ e1, asg e gt (encX a) = some e1 ∧ ((∃ v, q s a = some v ∧ b e1 st = .rt (encV v) st) ∨ (q s a = none ∧ ∃ e2, b e1 st = .nx e2 st ∧ Rel r (f s a) e2))) : ∀ {l : List α} {s : β} {e : Envr}, Rel l s e →
      (∃ v, retF f q l s = .inl v ∧ forL b gt (l.map encX) e st = .rt (encV v) st) ∨ ∃ s' e', retF f q l s = .inr s' ∧ forL b gt (l.map encX) e st = .nx e' st ∧ Rel [] s' e'
  | [], s, e, hr => .inr ⟨s, e, rfl, rfl, hr⟩
  | a :: l, s, e, hr => by
    obtain ⟨e1, h1, h2⟩ := h a l s e hr
    simp only [List.map_cons, forL, h1, retF]
    rcases h2 with ⟨v, h2, h3⟩ | ⟨h2, e2, h3, h4⟩
    · rw [h2, h3]
      exact .inl ⟨v, rfl, rfl⟩
    · rw [h2, h3]
      exact forL_ret h h4
theorem whlL_rel {β : Type} {t : Envr → Sto → R PV} {b : Envr → Sto → RS} {c : β → Bool} {f : β → β} {m : β → Nat} {Rel : β → Envr → Prop} {st : Sto}
    (ht : ∀ s e, Rel s e → t e st = .ok (.d (.bool (c s))) st) (hb : ∀ s e, Rel s e → c s = true → m (f s) < m s ∧ ∃ e2, b e st = .nx e2 st ∧ Rel (f s) e2) : ∀ {n : Nat} {s : β} {e : Envr}, Rel s e → m s < n → ∃ s' e', whlL t b n e st = .nx e' st ∧ Rel s' e' ∧ c s' = false ∧ ∃ j : Nat, s' = Nat.repeat f j s
  | 0, s, e, _, h => absurd h (Nat.not_lt_zero _)
  | n + 1, s, e, hi, hm => by
    rw [whlL, ht s e hi]
    dsimp only [RS.ofR, asB]
    cases hc : c s with
    | true =>
      obtain ⟨h1, e2, h2, h3⟩ := hb s e hi hc
      dsimp only
      rw [h2]
      obtain ⟨s', e', q1, q2, q3, j, q4⟩ := whlL_rel ht hb h3 (by omega : m (f s) < n)
      refine ⟨s', e', q1, q2, q3, j + 1, ?_⟩
      rw [q4]
      clear q4 q1 q2 q3
      induction j with
      | zero => rfl
      | succ j ih => rw [Nat.repeat, ih]; rfl
    | false => exact ⟨s, e, rfl, hi, hc, 0, rfl⟩
theorem sz {n : Nat} (h : n ≤ 1000) : n ≤ sizeLine := Nat.le_trans h (by decide)
theorem zipD_map {α β : Type} {e1 : α → PyData} {e2 : β → PyData} : ∀ {l : List α} {m : List β}, zipD (l.map e1) (m.map e2) = (l.zip m).map fun p => .tuple [e1 p.1, e2 p.2]
  | [], m => by simp [zipD]
  | _ :: _, [] => by simp [zipD]
  | a :: l, b :: m => by simp [zipD, zipD_map]
theorem enD_map {α : Type} {e1 : α → PyData} : ∀ {l : List α} {k : Nat}, enD (k : Nat) (l.map e1) = (l.zipIdx k).map fun p => .tuple [.int (p.2 : Nat), e1 p.1]
  | [], k => by simp [enD]
  | a :: l, k => by
    have := enD_map (e1 := e1) (l := l) (k := k + 1)
    simp only [List.map_cons, enD, List.zipIdx_cons]
    rw [← this]
    rfl
theorem allBools_map {α : Type} {p : α → Bool} : ∀ {l : List α}, allBools (l.map fun a => .bool (p a)) = some (l.map p)
  | [] => rfl
  | a :: l => by simp [allBools, allBools_map]
theorem allInts_map {α : Type} {p : α → Int} : ∀ {l : List α}, allInts (l.map fun a => .int (p a)) = some (l.map p)
  | [] => rfl
  | a :: l => by simp [allInts, allInts_map]
end Ev

set_option maxRecDepth 100000
/-! EvS: what the small helpers of every law answer. -/
namespace Ev
open PySem
def I (r : List Int) : PyData := .tuple (r.map .int)
def L (r : List Int) : PyData := .list (r.map .int)
theorem allT {α : Type} (l : List α) : (l.all fun _ => true) = true := by induction l <;> simp_all
theorem ai_cons (i : Int) (r : List PyData) : allInts (.int i :: r) = (allInts r).map (i :: ·) := rfl
theorem l0 : (0 ≤ sizeLine) = True := by simp
theorem l1 : (1 ≤ sizeLine) = True := eq_true (by decide)
theorem l2 : (2 ≤ sizeLine) = True := eq_true (by decide)
theorem l3 : (3 ≤ sizeLine) = True := eq_true (by decide)
theorem l4 : (4 ≤ sizeLine) = True := eq_true (by decide)
theorem eq_int (i j : Int) : eqD (.int i) (.int j) = some (decide (i = j)) := rfl
theorem eq_bool (i j : Bool) : eqD (.bool i) (.bool j) = some (decide (i = j)) := rfl
theorem flat_ints (r : List Int) : flatDs (r.map .int) = true := flats_ints r
theorem callL_at {ds : List Fd} {k n np : Nat} {nm : Str} {s : Stmt} {N : List Str} {b : Ss} {args : List PV} {st : Sto} (h : ds[n]? = some ⟨nm, s, N, np, b⟩) (hl : args.length = np) : callL ds (k + 1) n args st = runB (exSs (callL ds k) b (inC N.length args) st) := callL_some h hl
local macro_rules | `(tactic| trivial) => `(tactic| simp [↓bind_I, ↓then_I, ↓ofR_I, x_nil, x_cons, then_nx, then_rt, ofR_ok, bind_ok, opt_some, noEx_ok, runB_rt, runB_nx, s_set, s_par2, s_par3, s_asg, s_app, s_ex, s_frz, s_ret, s_retN, s_ife, s_for, s_whl, s_brk, s_cont, s_setR, s_popR, s_setO, s_augO, s_aug, s_ext, s_swp, e_var, e_lit, e_con, e_ty, e_op, e_neg, e_cmp, e_chn, e_andd, e_orr, e_nott, e_ife, e_tup, e_lst, e_lstR, e_box, e_ix, e_sl, e_rev, e_call, e_bi, e_lrng, e_lc, e_lc2, e_dcp, e_dcp2, e_dnew, e_dsp, e_keep, e_get1, e_get2, e_lset, evRs, evAs, evDs, evTs, evI, evP, evA, biV, biD, rd, inC, asB, asR, asD, cmpD, opD, ltD, augD, isNone, List.replicate, I, L, srcV, srcL, itsV, vlsV, wipeC, asg, setAll, putC, notOwn, isaD, flatD, flat_ints, PyData.isInt, PyData.isBool, PyData.isTuple, allBools_map, allInts_map, List.all_map, Function.comp_def, ixD, allT, slD, itemsD, itemsK, ai_cons, l0, l1, l2, l3, l4, eq_int, eq_bool, sortD_eq, *])
def pickB : Ss := (.cons (.ife (.cmp .eq (.ix (.var 0) (.lit (.int 2))) (.lit (.int 0))) (.cons (.ret (.lit (.int 0))) .nil) .nil) (.cons (.ife (.cmp .gt (.bi .len (.cons (.ix (.var 0) (.lit (.int 0))) .nil)) (.lit (.int 0))) (.cons (.set false 2 (.e (.ix (.ix (.var 0) (.lit (.int 0))) (.lit (.int 0))))) (.cons (.setR (.ix (.var 0) (.lit (.int 0))) (.lit (.int 0)) (.op .fdiv (.var 2) (.var 1))) (.cons (.ife (.cmp .lt (.var 2) (.var 1)) (.cons (.popR (.ix (.var 0) (.lit (.int 0))) (.lit (.int 0))) .nil) .nil) (.cons (.ret (.op .mod (.bi .int (.cons (.var 2) .nil)) (.var 1))) .nil)))) .nil) (.cons (.setR (.var 0) (.lit (.int 3)) (.op .add (.ix (.var 0) (.lit (.int 3))) (.lit (.int 1)))) (.cons (.set false 2 (.e (.op .mod (.bi .int (.cons (.op .add (.op .mul (.op .add (.ix (.var 0) (.lit (.int 1))) (.op .mul (.lit (.int 7919)) (.ix (.var 0) (.lit (.int 3))))) (.lit (.int 48271))) (.lit (.int 11))) .nil)) (.lit (.int 2147483647))))) (.cons (.set false 2 (.e (.op .mod (.bi .int (.cons (.op .add (.op .mul (.var 2) (.op .add (.op .fdiv (.var 2) (.lit (.int 1009))) (.lit (.int 69621)))) (.ix (.var 0) (.lit (.int 3)))) .nil)) (.lit (.int 2147483399))))) (.cons (.setR (.var 0) (.lit (.int 1)) (.op .mod (.bi .int (.cons (.op .add (.ix (.var 0) (.lit (.int 1))) (.var 2)) .nil)) (.lit (.int 2147483629)))) (.cons (.ret (.op .mod (.bi .int (.cons (.op .fdiv (.var 2) (.lit (.int 16))) .nil)) (.var 1))) .nil)))))))
def bagB (seed : Int) : Ss := (.cons (.set false 1 (.e (.box (.lc [3] (.nm 3) (.sq (.sl (.var 0) .no (.ex (.lit (.int 63))))) (.cons (.cmp .ge (.bi .abs (.cons (.bi .int (.cons (.var 3) .nil)) .nil)) (.op .pow (.lit (.int 10)) (.lit (.int 18)))) .nil) (.bi .abs (.cons (.bi .int (.cons (.var 3) .nil)) .nil)))))) (.cons (.set false 2 (.e (.lit (.int seed)))) (.cons (.for_ (.nm 3) (.sq (.sl (.var 0) .no (.ex (.lit (.int 63))))) (.cons (.set false 2 (.e (.op .mod (.bi .int (.cons (.op .add (.op .add (.op .add (.op .mul (.var 2) (.lit (.int 69621))) (.op .mul (.bi .abs (.cons (.bi .int (.cons (.var 3) .nil)) .nil)) (.lit (.int 2)))) (.bi .int (.cons (.cmp .lt (.bi .int (.cons (.var 3) .nil)) (.lit (.int 0))) .nil))) (.lit (.int 17))) .nil)) (.lit (.int 2147483629))))) .nil)) (.cons (.ret (.lstR (.cons (.var 1) (.cons (.var 2) (.cons (.bi .len (.cons (.var 0) .nil)) (.cons (.lit (.int 0)) .nil)))))) .nil))))
def bagS (gs : List Int) (a b n : Int) : Sto := [.lst (gs.map fun g => .d (.int g)), .lst [.ref 0, .d (.int a), .d (.int b), .d (.int n)]]
def nu1 (a n : Int) : Int := ((a + 7919 * (n + 1)) * 48271 + 11) % 2147483647
def nu2 (a n : Int) : Int := (nu1 a n * (nu1 a n / 1009 + 69621) + (n + 1)) % 2147483399
def gNext (g many : Int) (gs : List Int) : List Int := if g < many then gs else g / many :: gs
theorem allD_ints : ∀ gs : List Int, allD (gs.map fun g => PV.d (.int g)) = some (gs.map .int)
  | [] => rfl
  | g :: gs => by rw [List.map_cons, allD, allD_ints gs]; rfl
structure BagI (st : Sto) : Prop where
  ex : ∃ gs a b n, st = bagS gs a b n ∧ gs.length ≤ 100
section
variable {ds : List Fd} {at_ : Nat} {nm : Str} {s : Stmt}
theorem pick0 (hd : ds[at_]? = some ⟨nm, s, ["bag", "many", "number"], 2, pickB⟩) (m : Nat) (gs : List Int) (a n many : Int) : callL ds (m + 1) at_ [.ref 1, .d (.int many)] (bagS gs a 0 n) = .ok (.d (.int 0)) (bagS gs a 0 n) := by
  rw [callL_at hd rfl, pickB]
  rfl
theorem pickN (hd : ds[at_]? = some ⟨nm, s, ["bag", "many", "number"], 2, pickB⟩) (m : Nat) (a b n many : Int) (hb : b ≠ 0) (hm : 0 < many) (hm2 : many < 100) : callL ds (m + 1) at_ [.ref 1, .d (.int many)] (bagS [] a b n) = .ok (.d (.int (nu2 a n / 16 % many))) (bagS [] ((a + nu2 a n) % 2147483629) b (n + 1)) := by
  rw [callL_at hd rfl, pickB]
  clear hd
  unfold bagS
  have i0 : ∀ (x y z w : PV), L2.atI [x, y, z, w] 2 = some z := fun _ _ _ _ => rfl
  have i1 : ∀ (x y z w : PV), L2.atI [x, y, z, w] 0 = some x := fun _ _ _ _ => rfl
  have i2 : ∀ (x y z w : PV), L2.atI [x, y, z, w] 3 = some w := fun _ _ _ _ => rfl
  have i3 : ∀ (x y z w : PV), L2.atI [x, y, z, w] 1 = some y := fun _ _ _ _ => rfl
  have j3 : L2.ixN 4 3 = some 3 := rfl
  have j1 : L2.ixN 4 1 = some 1 := rfl
  have m1 : ∀ x, mulOk 7919 x = true := fun x => by unfold mulOk; rw [Bool.or_eq_true]; exact .inl (decide_eq_true (by decide))
  have m2 : ∀ x, mulOk x 48271 = true := fun x => by unfold mulOk; rw [Bool.or_eq_true]; exact .inr (decide_eq_true (by decide))
  have m3 : ∀ y, mulOk (((a + 7919 * (n + 1)) * 48271 + 11) % 2147483647) y = true := fun y => by
    unfold mulOk
    rw [Bool.or_eq_true]
    exact .inl (decide_eq_true (by omega))
  have a0 : allD ([] : List PV) = some [] := rfl
  unfold nu2 nu1
  trivial
theorem pickG (hd : ds[at_]? = some ⟨nm, s, ["bag", "many", "number"], 2, pickB⟩) (m : Nat) (g : Int) (gs : List Int) (a b n many : Int) (hb : b ≠ 0) (hm : 0 < many) (hm2 : many < 100) (hz : gs.length ≤ 1000) : callL ds (m + 1) at_ [.ref 1, .d (.int many)] (bagS (g :: gs) a b n) = .ok (.d (.int (g % many))) (bagS (gNext g many gs) a b n) := by
  rw [callL_at hd rfl, pickB]
  clear hd
  unfold bagS gNext
  have i0 : ∀ (x y z w : PV), L2.atI [x, y, z, w] 2 = some z := fun _ _ _ _ => rfl
  have i1 : ∀ (x y z w : PV), L2.atI [x, y, z, w] 0 = some x := fun _ _ _ _ => rfl
  have a0 := allD_ints gs
  have a1 : L2.atI (PV.d (.int g) :: gs.map fun g => PV.d (.int g)) 0 = some (PV.d (.int g)) := L2.atI_nat (j := 0) rfl
  have j0 : L2.ixN (gs.length + 1) 0 = some 0 := by
    unfold L2.ixN
    rw [if_pos (Int.le_refl _), if_pos (by omega)]
    rfl
  have q0 : seqIndex? 0 (gs.length + 1) = some 0 := (L2.ixN_seq j0).1
  have f0 : fits 0 = true := by decide
  have d1 : many < 1073741824 := by omega
  have a2 : allD (PV.d (.int g) :: gs.map fun g => PV.d (.int g)) = some (.int g :: gs.map .int) := by rw [allD, a0]; rfl
  have pos : (0 : Int) < (gs.length : Int) + 1 := by omega
  by_cases h : g < many
  · trivial
  · trivial
theorem pick (hd : ds[at_]? = some ⟨nm, s, ["bag", "many", "number"], 2, pickB⟩) (m : Nat) {st : Sto} (hB : BagI st) {many : Int} (hm : 0 < many) (hm2 : many < 100) : ∃ p st', callL ds (m + 1) at_ [.ref 1, .d (.int many)] st = .ok (.d (.int p)) st' ∧ BagI st' ∧ 0 ≤ p ∧ p < many := by
  obtain ⟨gs, a, b, n, rfl, hg⟩ := hB.ex
  by_cases hb : b = 0
  · subst hb
    exact ⟨0, _, pick0 hd m gs a n many, ⟨gs, a, 0, n, rfl, hg⟩, Int.le_refl _, hm⟩
  · cases gs with
    | nil => exact ⟨_, _, pickN hd m a b n many hb hm hm2, ⟨[], _, b, _, rfl, hg⟩, Int.emod_nonneg _ (by omega), Int.emod_lt_of_pos _ hm⟩
    | cons g gs =>
      rw [List.length_cons] at hg
      refine ⟨_, _, pickG hd m g gs a b n many hb hm hm2 (by omega), ⟨_, a, b, n, rfl, ?_⟩, Int.emod_nonneg _ (by omega), Int.emod_lt_of_pos _ hm⟩
      unfold gNext
      split
      · omega
      · rw [List.length_cons]; omega
def ab (x : Int) : Int := if x < 0 then -x else x
def seedF (s x : Int) : Int := (s * 69621 + ab x * 2 + (if x < 0 then 1 else 0) + 17) % 2147483629
theorem cut63 {α : Type} (xs : List α) (h : xs.length ≤ 63) : cutL xs none (some 63) = xs := by
  refine cutL_full xs ⟨rfl, ?_⟩
  have := HT.sIx_nat xs.length xs.length 63
  rw [show ((63 : Nat) : Int) = 63 from rfl] at this
  rw [this]
  omega
theorem lawBag {seed : Int} (hd : ds[at_]? = some ⟨nm, s, ["script", "great", "seed", "cell"], 1, bagB seed⟩) (m : Nat) (ns : List Int) (h : ns.length ≤ 63) : ∃ st', callL ds (m + 1) at_ [.d (.list (ns.map .int))] [] = .ok (.ref 1) st' ∧ BagI st' := by
  have c1 := cut63 (ns.map PyData.int) (by rw [List.length_map]; exact h)
  have m1 : ∀ x, mulOk x 69621 = true := fun x => by unfold mulOk; rw [Bool.or_eq_true]; exact .inr (decide_eq_true (by decide))
  have m2 : ∀ x, mulOk x 2 = true := fun x => by unfold mulOk; rw [Bool.or_eq_true]; exact .inr (decide_eq_true (by decide))
  refine ⟨bagS ((ns.filter fun x => decide (10 ^ 18 ≤ ab x)).map ab) (ns.foldl seedF seed) ns.length 0, ?_, ⟨_, _, _, _, rfl, by rw [List.length_map]; exact Nat.le_trans (List.length_filter_le _ _) (by omega)⟩⟩
  rw [callL_at hd rfl, bagB]
  clear hd
  trivial
  rw [lcL_filt (enc := .int) (p := fun x => decide (10 ^ 18 ≤ ab x)) (g := fun x => .int (ab x))]
  · trivial
    generalize hb : exSs (callL ds m) (Ss.cons _ _) = b
    obtain ⟨e', q1, c4, q2⟩ := forL_rel (gt := .nm 3) (encX := PyData.int) (f := seedF) (st := [Ob.lst (((ns.filter fun x => decide (10 ^ 18 ≤ ab x)).map ab).map fun g => .d (.int g))]) (b := b)
      (Rel := fun l s e => ∃ c, e = [.v (.d (.list (ns.map .int))), .v (.ref 0), .v (.d (.int s)), c])
      (l := ns) (s := seed) (e := [.v (.d (.list (ns.map .int))), .v (.ref 0), .v (.d (.int seed)), .no])
      (by
        rintro x l s e ⟨c, rfl⟩
        subst hb
        refine ⟨_, [.v (.d (.list (ns.map .int))), .v (.ref 0), .v (.d (.int (seedF s x))), .v (.d (.int x))], rfl, ?_, _, rfl⟩
        unfold seedF ab
        by_cases h1 : x < 0 <;> trivial) ⟨_, rfl⟩
    have e18 : (10 : Int) ^ 18 = 1000000000000000000 := rfl
    simp only [List.map_map, Function.comp_def, e18] at q1
    rw [q1, q2]
    unfold bagS
    trivial
    try rfl
  · intro x _
    unfold ab
    by_cases h1 : x < 0
    · by_cases h2 : (1000000000000000000 : Int) ≤ -x <;> trivial
    · by_cases h2 : (1000000000000000000 : Int) ≤ x <;> trivial
  · exact sz (by simp; omega)
end
end Ev

set_option maxRecDepth 100000
/-! EvT: equal tuples; one statement and the next. -/
namespace Ev
open PySem
theorem plain_ints : ∀ r : List Int, PyData.plainAll (r.map .int) = true
  | [] => rfl
  | a :: r => by rw [List.map_cons, PyData.plainAll, plain_ints r]; rfl
theorem depth_ints : ∀ r : List Int, PyData.depthAll (r.map .int) ≤ 1
  | [] => Nat.zero_le _
  | a :: r => by
    rw [List.map_cons, PyData.depthAll]
    exact Nat.max_le.mpr ⟨by rw [PyData.depth]; omega, depth_ints r⟩
theorem eqvAll_ints : ∀ ns ms : List Int, PyData.eqvAll (ns.map PyData.int) (ms.map PyData.int) = decide (ns = ms)
  | [], [] => by simp [PyData.eqvAll]
  | [], _ :: _ => by simp [PyData.eqvAll]
  | _ :: _, [] => by simp [PyData.eqvAll]
  | n :: ns, m :: ms => by
    rw [List.map_cons, List.map_cons, PyData.eqvAll, eqvAll_ints ns ms]
    have e : PyData.eqv (.int n) (.int m) = decide (n = m) := by
      rw [PyData.eqv]
      by_cases h : n = m <;> simp [h]
    rw [e]
    by_cases h : n = m <;> simp [h]
theorem eq_ll (a b : List Int) : eqD (L a) (L b) = some (decide (a = b)) := by
  unfold eqD L
  have h1 : (PyData.list (a.map .int)).plain = true := plain_ints a
  have h1' : (PyData.list (b.map .int)).plain = true := plain_ints b
  have h2 : (PyData.list (a.map PyData.int)).depth ≤ 60 := by
    have := depth_ints a
    rw [PyData.depth]
    omega
  dsimp only
  rw [h1, h1', decide_eq_true h2]
  rw [PyData.eqv, eqvAll_ints]
  rfl
theorem eq_ii (a b : List Int) : eqD (I a) (I b) = some (decide (a = b)) := by
  unfold eqD I
  have h1 : (PyData.tuple (a.map .int)).plain = true := plain_ints a
  have h1' : (PyData.tuple (b.map .int)).plain = true := plain_ints b
  have h2 : (PyData.tuple (a.map PyData.int)).depth ≤ 60 := by
    have := depth_ints a
    rw [PyData.depth]
    omega
  dsimp only
  rw [h1, h1', decide_eq_true h2]
  rw [PyData.eqv, eqvAll_ints]
  rfl
theorem x_step {c : Nat → List PV → Sto → R PV} {s : S} {ss : Ss} {e e1 : Envr} {st st1 : Sto} (h : exS c s e st = .nx e1 st1) : exSs c (.cons s ss) e st = exSs c ss e1 st1 := by
  rw [x_cons, h]
  rfl
theorem x_ret {c : Nat → List PV → Sto → R PV} {a : E} {ss : Ss} {e : Envr} {st st1 : Sto} {v : PyData} (h : evE c a e st = .ok (.d v) st1) : runB (exSs c (.cons (.ret a) ss) e st) = .ok (.d v) st1 := by
  rw [x_cons, s_ret, h]
  rfl
theorem x_if {c : Nat → List PV → Sto → R PV} {t : E} {a b ss : Ss} {e : Envr} {st st1 : Sto} {k : Bool} (h : evE c t e st = .ok (.d (.bool k)) st1) : exSs c (.cons (.ife t a b) ss) e st = (exSs c (cond k a b) e st1).then fun e1 s1 => exSs c ss e1 s1 := by
  rw [x_cons, s_ife, h]
  cases k <;> rfl
theorem x_ifF {c : Nat → List PV → Sto → R PV} {t : E} {a ss : Ss} {e : Envr} {st st1 : Sto} (h : evE c t e st = .ok (.d (.bool false)) st1) : exSs c (.cons (.ife t a .nil) ss) e st = exSs c ss e st1 := by
  rw [x_if h]; rfl
theorem v_call {c : Nat → List PV → Sto → R PV} {n : Nat} {es : Es} {e : Envr} {st st1 : Sto} {args : List PV} {r : R PV} (ha : evRs c es e st = .ok args st1) (h : c n args st1 = r) : evE c (.call n es) e st = r := by
  rw [e_call, ha]; exact h
theorem v_cmp {c : Nat → List PV → Sto → R PV} {o : Cm} {a b : E} {e : Envr} {st s1 s2 : Sto} {x y : PyData} {k : Bool} (ha : evE c a e st = .ok (.d x) s1) (hb : evE c b e s1 = .ok (.d y) s2) (h : cmpD o x y = some k) : evE c (.cmp o a b) e st = .ok (.d (.bool k)) s2 := by
  rw [e_cmp, ha]
  show R.bind (evE c b e s1) _ = _
  rw [hb]
  show R.opt (Option.map _ (cmpD o x y)) s2 = _
  rw [h]; rfl
theorem v_orF {c : Nat → List PV → Sto → R PV} {a b : E} {e : Envr} {st s1 s2 : Sto} {k : Bool} (ha : evE c a e st = .ok (.d (.bool false)) s1) (hb : evE c b e s1 = .ok (.d (.bool k)) s2) : evE c (.orr a b) e st = .ok (.d (.bool k)) s2 := by
  rw [e_orr, ha]
  show R.bind (evE c b e s1) _ = _
  rw [hb]; rfl
theorem v_andT {c : Nat → List PV → Sto → R PV} {a b : E} {e : Envr} {st s1 s2 : Sto} {k : Bool} (ha : evE c a e st = .ok (.d (.bool true)) s1) (hb : evE c b e s1 = .ok (.d (.bool k)) s2) : evE c (.andd a b) e st = .ok (.d (.bool k)) s2 := by
  rw [e_andd, ha]
  show R.bind (evE c b e s1) _ = _
  rw [hb]; rfl
theorem v_not {c : Nat → List PV → Sto → R PV} {a : E} {e : Envr} {st s1 : Sto} {k : Bool} (ha : evE c a e st = .ok (.d (.bool k)) s1) : evE c (.nott a) e st = .ok (.d (.bool (!k))) s1 := by
  rw [e_nott, ha]; rfl
theorem c_ne {a b : List Int} : cmpD .ne (I a) (I b) = some (!decide (a = b)) := by
  show (eqD (I a) (I b)).map not = _
  rw [eq_ii]; rfl
theorem c_eq {a b : List Int} : cmpD .eq (I a) (I b) = some (decide (a = b)) := eq_ii a b
end Ev

set_option maxRecDepth 100000
/-! Sh1: data with a Lean type; what is asked of a way to write it as a datum. -/
namespace Ev
open PySem PySem.W PySem.SeqAt PyProof.Rows

section
variable {α β γ : Type}
abbrev eI : Int → PyData := PyData.int
abbrev eB : Bool → PyData := PyData.bool
abbrev eS : Str → PyData := PyData.str
def eU : Unit → PyData := fun _ => .none
def eO (f : α → PyData) : Option α → PyData
  | none => .none
  | some a => f a
def eT (f : α → PyData) (l : List α) : PyData := .tuple (l.map f)
def eL (f : α → PyData) (l : List α) : PyData := .list (l.map f)
def eP (f : α → PyData) (g : β → PyData) (p : α × β) : PyData := .tuple [f p.1, g p.2]
def eP3 (f : α → PyData) (g : β → PyData) (h : γ → PyData) (p : α × β × γ) : PyData := .tuple [f p.1, g p.2.1, h p.2.2]
def eD (f : α → PyData) (g : β → PyData) (l : List (α × β)) : PyData := .dict (l.map fun p => (f p.1, g p.2))
theorem beq_dec {δ : Type} [BEq δ] [LawfulBEq δ] [DecidableEq δ] (a b : δ) : (a == b) = decide (a = b) := by
  rw [Bool.eq_iff_iff, beq_iff_eq, decide_eq_true_eq]
/-- a datum without dicts, told apart by == -/
class Nc (f : α → PyData) [DecidableEq α] where
  d : Nat
  plain : ∀ a, (f a).plain = true
  eqv : ∀ a b, PyData.eqv (f a) (f b) = decide (a = b)
  dle : ∀ a, (f a).depth ≤ d
variable [DecidableEq α] [DecidableEq β] [DecidableEq γ]
theorem nc_plainAll {f : α → PyData} [Nc f] : ∀ l : List α, PyData.plainAll (l.map f) = true
  | [] => rfl
  | x :: xs => by
    rw [List.map_cons, PyData.plainAll, Nc.plain x, nc_plainAll xs]
    rfl
theorem nc_depthAll {f : α → PyData} [Nc f] : ∀ l : List α, PyData.depthAll (l.map f) ≤ Nc.d f
  | [] => Nat.zero_le _
  | x :: xs => by
    rw [List.map_cons, PyData.depthAll]
    exact Nat.max_le.mpr ⟨Nc.dle x, nc_depthAll xs⟩
theorem nc_eqvAll {f : α → PyData} [Nc f] : ∀ xs ys : List α, PyData.eqvAll (xs.map f) (ys.map f) = decide (xs = ys)
  | [], [] => by simp only [List.map_nil, PyData.eqvAll, decide_true]
  | [], _ :: _ => by simp [PyData.eqvAll]
  | _ :: _, [] => by simp [PyData.eqvAll]
  | x :: xs, y :: ys => by
    rw [List.map_cons, List.map_cons, PyData.eqvAll, Nc.eqv (f := f) x y, nc_eqvAll xs ys, ← Bool.decide_and]
    exact decide_eq_decide.mpr (by rw [List.cons.injEq])
instance : Nc eI where
  d := 0
  plain _ := rfl
  eqv a b := by simp only [PyData.eqv]; exact beq_dec a b
  dle _ := Nat.le_refl _
instance : Nc eB where
  d := 0
  plain _ := rfl
  eqv a b := by simp only [PyData.eqv]; exact beq_dec a b
  dle _ := Nat.le_refl _
instance : Nc eS where
  d := 0
  plain _ := rfl
  eqv a b := by simp only [PyData.eqv]; exact beq_dec a b
  dle _ := Nat.le_refl _
instance : Nc eU where
  d := 0
  plain _ := rfl
  eqv _ _ := by simp only [eU, PyData.eqv]; rfl
  dle _ := Nat.le_refl _
instance {f : α → PyData} [Nc f] : Nc (eL f) where
  d := Nc.d f + 1
  plain l := by simp only [eL, PyData.plain]; exact nc_plainAll l
  eqv a b := by simp only [eL, PyData.eqv]; exact nc_eqvAll a b
  dle l := by
    have := nc_depthAll (f := f) l
    simp only [eL, PyData.depth]
    omega
instance {f : α → PyData} [Nc f] : Nc (eT f) where
  d := Nc.d f + 1
  plain l := by simp only [eT, PyData.plain]; exact nc_plainAll l
  eqv a b := by simp only [eT, PyData.eqv]; exact nc_eqvAll a b
  dle l := by
    have := nc_depthAll (f := f) l
    simp only [eT, PyData.depth]
    omega
instance {f : α → PyData} {g : β → PyData} [Nc f] [Nc g] : Nc (eP f g) where
  d := max (Nc.d f) (Nc.d g) + 1
  plain p := by simp only [eP, PyData.plain, PyData.plainAll, Nc.plain, Bool.and_self, Bool.and_true]
  eqv p q := by
    simp only [eP, PyData.eqv, PyData.eqvAll, Nc.eqv (f := f), Nc.eqv (f := g), Bool.and_true]
    rw [← Bool.decide_and]
    exact decide_eq_decide.mpr (by rw [Prod.ext_iff])
  dle p := by
    have h1 := Nc.dle (f := f) p.1
    have h2 := Nc.dle (f := g) p.2
    simp only [eP, PyData.depth, PyData.depthAll]
    omega
instance {f : α → PyData} {g : β → PyData} {h : γ → PyData} [Nc f] [Nc g] [Nc h] : Nc (eP3 f g h) where
  d := max (Nc.d f) (max (Nc.d g) (Nc.d h)) + 1
  plain p := by simp only [eP3, PyData.plain, PyData.plainAll, Nc.plain, Bool.and_self, Bool.and_true]
  eqv p q := by
    simp only [eP3, PyData.eqv, PyData.eqvAll, Nc.eqv (f := f), Nc.eqv (f := g), Nc.eqv (f := h), Bool.and_true]
    rw [← Bool.decide_and, ← Bool.decide_and]
    exact decide_eq_decide.mpr (by rw [Prod.ext_iff, Prod.ext_iff])
  dle p := by
    have h1 := Nc.dle (f := f) p.1
    have h2 := Nc.dle (f := g) p.2.1
    have h3 := Nc.dle (f := h) p.2.2
    simp only [eP3, PyData.depth, PyData.depthAll]
    omega
/-- never None -/
class Nn {α : Type} (f : α → PyData) : Prop where
  nn : ∀ a, isNone (f a) = false
instance : Nn eI := ⟨fun _ => rfl⟩
instance : Nn eB := ⟨fun _ => rfl⟩
instance : Nn eS := ⟨fun _ => rfl⟩
instance {f : α → PyData} : Nn (eL f) := ⟨fun _ => rfl⟩
instance {f : α → PyData} : Nn (eT f) := ⟨fun _ => rfl⟩
instance {f : α → PyData} {g : β → PyData} : Nn (eP f g) := ⟨fun _ => rfl⟩
instance {f : α → PyData} {g : β → PyData} {h : γ → PyData} : Nn (eP3 f g h) := ⟨fun _ => rfl⟩
instance {f : α → PyData} {g : β → PyData} : Nn (eD f g) := ⟨fun _ => rfl⟩
theorem isNone_eO {f : α → PyData} [Nn f] (o : Option α) : isNone (eO f o) = o.isNone := by
  cases o with
  | none => rfl
  | some a => exact Nn.nn a
theorem none_eqv {x : PyData} (h : isNone x = false) : PyData.eqv .none x = false ∧ PyData.eqv x .none = false := by
  cases x <;> simp [PyData.eqv, isNone] at h ⊢
instance {f : α → PyData} [Nc f] [Nn f] : Nc (eO f) where
  d := Nc.d f
  plain o := by cases o with
    | none => rfl
    | some a => exact Nc.plain a
  eqv a b := by
    cases a with
    | none => cases b with
      | none => rfl
      | some b => exact (none_eqv (Nn.nn (f := f) b)).1
    | some a => cases b with
      | none => exact (none_eqv (Nn.nn (f := f) a)).2
      | some b => exact (Nc.eqv (f := f) a b).trans (decide_eq_decide.mpr (by rw [Option.some.injEq]))
  dle o := by cases o with
    | none => exact Nat.zero_le _
    | some a => exact Nc.dle a
theorem eqD_plain {x y : PyData} (hx : x.plain = true) (hy : y.plain = true) (hd : x.depth ≤ 60) : eqD x y = some (PyData.eqv x y) := by
  unfold eqD
  split
  · simp only [PyData.eqv, beq_dec]
  · simp only [PyData.eqv, beq_dec]
  · simp only [PyData.eqv, beq_dec]
  · simp only [PyData.eqv]
  · rw [hx, hy, decide_eq_true hd]; rfl
theorem eqD_nc {f : α → PyData} [Nc f] (h : decide (Nc.d f ≤ 60) = true) (a b : α) : eqD (f a) (f b) = some (decide (a = b)) := by
  rw [eqD_plain (Nc.plain a) (Nc.plain b) (Nat.le_trans (Nc.dle a) (of_decide_eq_true h)), Nc.eqv]
theorem c_eqN {f : α → PyData} [Nc f] (h : decide (Nc.d f ≤ 60) = true) (a b : α) : cmpD .eq (f a) (f b) = some (decide (a = b)) := eqD_nc h a b
theorem c_neN {f : α → PyData} [Nc f] (h : decide (Nc.d f ≤ 60) = true) (a b : α) : cmpD .ne (f a) (f b) = some (!decide (a = b)) := by
  show (eqD (f a) (f b)).map not = _
  rw [eqD_nc h]; rfl
theorem c_isN {f : α → PyData} [Nn f] (o : Option α) : cmpD .is_ (eO f o) .none = some o.isNone := by
  rw [← isNone_eO (f := f)]
  cases eO f o <;> rfl
theorem c_isntN {f : α → PyData} [Nn f] (o : Option α) : cmpD .isnt (eO f o) .none = some (!o.isNone) := by
  rw [← isNone_eO (f := f)]
  cases eO f o <;> rfl
theorem c_isT (b : Bool) : cmpD .is_ (.bool b) (.bool true) = some b := by cases b <;> rfl
theorem c_isntT (b : Bool) : cmpD .isnt (.bool b) (.bool true) = some (!b) := by cases b <;> rfl
theorem any_nc {f : α → PyData} [Nc f] (a : α) : ∀ l : List α, ((l.map f).any fun y => PyData.eqv y (f a)) = decide (a ∈ l)
  | [] => by simp
  | b :: l => by
    rw [List.map_cons, List.any_cons, Nc.eqv (f := f) b a, any_nc a l]
    by_cases h : b = a
    · simp [h]
    · have : ¬ a = b := fun e => h e.symm
      simp [h, this]
theorem inT_nc {f : α → PyData} [Nc f] (h : decide (Nc.d f ≤ 60) = true) (a : α) (l : List α) : inD (f a) (eT f l) = some (decide (a ∈ l)) := by
  unfold inD eT
  dsimp only
  rw [Nc.plain, nc_plainAll, decide_eq_true (Nat.le_trans (Nc.dle a) (of_decide_eq_true h)), any_nc]
  rfl
theorem inL_nc {f : α → PyData} [Nc f] (h : decide (Nc.d f ≤ 60) = true) (a : α) (l : List α) : inD (f a) (eL f l) = some (decide (a ∈ l)) := by
  unfold inD eL
  dsimp only
  rw [Nc.plain, nc_plainAll, decide_eq_true (Nat.le_trans (Nc.dle a) (of_decide_eq_true h)), any_nc]
  rfl
theorem c_inT {f : α → PyData} [Nc f] (h : decide (Nc.d f ≤ 60) = true) (a : α) (l : List α) : cmpD .in_ (f a) (eT f l) = some (decide (a ∈ l)) := inT_nc h a l
theorem c_inL {f : α → PyData} [Nc f] (h : decide (Nc.d f ≤ 60) = true) (a : α) (l : List α) : cmpD .in_ (f a) (eL f l) = some (decide (a ∈ l)) := inL_nc h a l
theorem c_notinT {f : α → PyData} [Nc f] (h : decide (Nc.d f ≤ 60) = true) (a : α) (l : List α) : cmpD .notin (f a) (eT f l) = some (!decide (a ∈ l)) := by
  show (inD (f a) (eT f l)).map not = _
  rw [inT_nc h]; rfl
theorem c_notinL {f : α → PyData} [Nc f] (h : decide (Nc.d f ≤ 60) = true) (a : α) (l : List α) : cmpD .notin (f a) (eL f l) = some (!decide (a ∈ l)) := by
  show (inD (f a) (eL f l)).map not = _
  rw [inL_nc h]; rfl

/-! ### order -/
class Lc {α : Type} (f : α → PyData) (lt : outParam (α → α → Bool)) : Prop where
  alike : ∀ a b, alike (f a) (f b) = true
  lt : ∀ a b, dataLt (f a) (f b) = lt a b
def ltI (a b : Int) : Bool := decide (a < b)
def ltS (lt : α → α → Bool) : List α → List α → Bool
  | _, [] => false
  | [], _ :: _ => true
  | a :: l, b :: m => if a = b then ltS lt l m else lt a b
def ltP (lt1 : α → α → Bool) (lt2 : β → β → Bool) (p q : α × β) : Bool := if p.1 = q.1 then lt2 p.2 q.2 else lt1 p.1 q.1
def ltP3 (lt1 : α → α → Bool) (lt2 : β → β → Bool) (lt3 : γ → γ → Bool) (p q : α × β × γ) : Bool := if p.1 = q.1 then (if p.2.1 = q.2.1 then lt3 p.2.2 q.2.2 else lt2 p.2.1 q.2.1) else lt1 p.1 q.1
/-- a strict order of all things -/
class Lo (lt : α → α → Bool) : Prop where
  irr : ∀ a, lt a a = false
  tr : ∀ a b c, lt a b = true → lt b c = true → lt a c = true
  tot : ∀ a b, lt a b = false → lt b a = false → a = b
theorem Lo.asym {lt : α → α → Bool} [Lo lt] {a b : α} (h : lt a b = true) : lt b a = false := by
  cases q : lt b a with
  | false => rfl
  | true =>
    have := Lo.tr a b a h q
    rw [Lo.irr (lt := lt) a] at this
    cases this
instance : Lo ltI where
  irr a := decide_eq_false (Int.lt_irrefl a)
  tr a b c h1 h2 := by simp only [ltI, decide_eq_true_eq] at *; omega
  tot a b h1 h2 := by simp only [ltI, decide_eq_false_iff_not] at *; omega
theorem ltS_irr {lt : α → α → Bool} [Lo lt] : ∀ l : List α, ltS lt l l = false
  | [] => by rw [ltS]
  | a :: l => by rw [ltS, if_pos rfl, ltS_irr l]
theorem ltS_tr {lt : α → α → Bool} [Lo lt] : ∀ a b c : List α, ltS lt a b = true → ltS lt b c = true → ltS lt a c = true
  | _, [], _, h, _ => by rw [ltS] at h; cases h
  | _, _ :: _, [], _, h => by rw [ltS] at h; cases h
  | [], _ :: _, _ :: _, _, _ => by rw [ltS]
  | x :: a, y :: b, z :: c, h1, h2 => by
    rw [ltS] at h1 h2 ⊢
    by_cases e1 : x = y
    · subst e1
      rw [if_pos rfl] at h1
      by_cases e2 : x = z
      · rw [if_pos e2] at h2 ⊢
        exact ltS_tr a b c h1 h2
      · rw [if_neg e2] at h2 ⊢
        exact h2
    · rw [if_neg e1] at h1
      by_cases e2 : y = z
      · subst e2
        rw [if_neg e1]
        exact h1
      · rw [if_neg e2] at h2
        have h3 := Lo.tr x y z h1 h2
        have e3 : x ≠ z := by
          rintro rfl
          rw [Lo.irr (lt := lt) x] at h3
          cases h3
        rw [if_neg e3]
        exact h3
theorem ltS_tot {lt : α → α → Bool} [Lo lt] : ∀ a b : List α, ltS lt a b = false → ltS lt b a = false → a = b
  | [], [], _, _ => rfl
  | [], _ :: _, h, _ => by rw [ltS] at h; cases h
  | _ :: _, [], _, h => by rw [ltS] at h; cases h
  | x :: a, y :: b, h1, h2 => by
    rw [ltS] at h1 h2
    by_cases e : x = y
    · subst e
      rw [if_pos rfl] at h1 h2
      rw [ltS_tot a b h1 h2]
    · rw [if_neg e] at h1
      rw [if_neg (fun q => e q.symm)] at h2
      exact absurd (Lo.tot x y h1 h2) e
instance {lt : α → α → Bool} [Lo lt] : Lo (ltS lt) := ⟨ltS_irr, ltS_tr, ltS_tot⟩
instance {lt1 : α → α → Bool} {lt2 : β → β → Bool} [Lo lt1] [Lo lt2] : Lo (ltP lt1 lt2) where
  irr p := by rw [ltP, if_pos rfl, Lo.irr (lt := lt2)]
  tr p q r h1 h2 := by
    rw [ltP] at *
    by_cases e1 : p.1 = q.1
    · rw [if_pos e1] at h1
      by_cases e2 : q.1 = r.1
      · rw [if_pos e2] at h2
        rw [if_pos (e1.trans e2)]
        exact Lo.tr _ _ _ h1 h2
      · rw [if_neg e2] at h2
        rw [e1, if_neg e2]
        exact h2
    · rw [if_neg e1] at h1
      by_cases e2 : q.1 = r.1
      · rw [← e2, if_neg e1]
        exact h1
      · rw [if_neg e2] at h2
        have h3 := Lo.tr _ _ _ h1 h2
        have e3 : p.1 ≠ r.1 := by
          intro e
          rw [e, Lo.irr (lt := lt1)] at h3
          cases h3
        rw [if_neg e3]
        exact h3
  tot p q h1 h2 := by
    rw [ltP] at h1 h2
    by_cases e1 : p.1 = q.1
    · rw [if_pos e1] at h1
      rw [if_pos e1.symm] at h2
      exact Prod.ext e1 (Lo.tot _ _ h1 h2)
    · rw [if_neg e1] at h1
      rw [if_neg (fun q => e1 q.symm)] at h2
      exact absurd (Lo.tot _ _ h1 h2) e1
theorem ltP3_eq (lt1 : α → α → Bool) (lt2 : β → β → Bool) (lt3 : γ → γ → Bool) : ltP3 lt1 lt2 lt3 = ltP lt1 (ltP lt2 lt3) := rfl
instance {lt1 : α → α → Bool} {lt2 : β → β → Bool} {lt3 : γ → γ → Bool} [Lo lt1] [Lo lt2] [Lo lt3] : Lo (ltP3 lt1 lt2 lt3) := by
  rw [ltP3_eq]; infer_instance
theorem lex_nil_cons (y : PyData) (ys : List PyData) : PyProof.Rows.lexLt itemOrd (keyToksAll []) (keyToksAll (y :: ys)) = true := by
  rw [keyToksAll, keyToksAll]
  rfl
theorem lex_cons_nil (y : PyData) (ys : List PyData) : PyProof.Rows.lexLt itemOrd (keyToksAll (y :: ys)) (keyToksAll []) = false := by
  rw [keyToksAll, keyToksAll]
  rfl
theorem lex_step {f : α → PyData} {lt : α → α → Bool} [Lc f lt] [Nc f] (a b : α) (xs ys : List PyData) : PyProof.Rows.lexLt itemOrd (keyToksAll (f a :: xs)) (keyToksAll (f b :: ys)) = if a = b then PyProof.Rows.lexLt itemOrd (keyToksAll xs) (keyToksAll ys) else lt a b := by
  have h1 := Lc.alike (f := f) a b
  have h2 := Nc.eqv (f := f) a b
  by_cases h : a = b
  · rw [decide_eq_true h] at h2
    rw [if_pos h, dataLt_all_yes h1 h2]
  · rw [decide_eq_false h] at h2
    rw [if_neg h, dataLt_all_no h1 h2, Lc.lt]
theorem lex_last {f : α → PyData} {lt : α → α → Bool} [Lc f lt] [Nc f] [Lo lt] (a b : α) : PyProof.Rows.lexLt itemOrd (keyToksAll [f a]) (keyToksAll [f b]) = lt a b := by
  rw [lex_step]
  by_cases h : a = b
  · rw [if_pos h, h, Lo.irr (lt := lt)]
    exact lex_irrefl _
  · rw [if_neg h]
theorem lc_alikeAll {f : α → PyData} {lt : α → α → Bool} [Lc f lt] : ∀ l m : List α, PySem.W.alikeAll (l.map f) (m.map f) = true
  | [], _ => by rw [List.map_nil, PySem.W.alikeAll]
  | _ :: _, [] => by rw [List.map_cons, List.map_nil, PySem.W.alikeAll]
  | a :: l, b :: m => by rw [List.map_cons, List.map_cons, PySem.W.alikeAll, Lc.alike (f := f) a b, lc_alikeAll l m]; rfl
theorem lc_all {f : α → PyData} {lt : α → α → Bool} [Lc f lt] [Nc f] : ∀ l m : List α, PyProof.Rows.lexLt itemOrd (keyToksAll (l.map f)) (keyToksAll (m.map f)) = ltS lt l m
  | [], [] => by
    rw [ltS, List.map_nil]
    exact lex_irrefl _
  | _ :: _, [] => by rw [ltS, List.map_cons, List.map_nil, lex_cons_nil]
  | [], _ :: _ => by rw [ltS, List.map_cons, List.map_nil, lex_nil_cons]
  | a :: l, b :: m => by
    rw [List.map_cons, List.map_cons, ltS, lex_step, lc_all l m]
instance : Lc eI ltI := ⟨fun _ _ => by rw [PySem.W.alike], fun a b => dataLt_int a b⟩
instance {f : α → PyData} {lt : α → α → Bool} [Lc f lt] [Nc f] : Lc (eT f) (ltS lt) := ⟨fun a b => by rw [eT, eT, PySem.W.alike, lc_alikeAll], fun a b => by rw [eT, eT, dataLt_tuple, lc_all]⟩
instance {f : α → PyData} {lt : α → α → Bool} [Lc f lt] [Nc f] : Lc (eL f) (ltS lt) := ⟨fun a b => by rw [eL, eL, PySem.W.alike, lc_alikeAll], fun a b => by rw [eL, eL, dataLt_list, lc_all]⟩
instance {f : α → PyData} {g : β → PyData} {lt1 : α → α → Bool} {lt2 : β → β → Bool} [Lc f lt1] [Nc f] [Lc g lt2] [Nc g] [Lo lt2] : Lc (eP f g) (ltP lt1 lt2) where
  alike p q := by rw [eP, eP, PySem.W.alike, PySem.W.alikeAll, PySem.W.alikeAll, PySem.W.alikeAll, Lc.alike (f := f), Lc.alike (f := g)]; rfl
  lt p q := by rw [eP, eP, dataLt_tuple, lex_step, lex_last]; rfl
instance {f : α → PyData} {g : β → PyData} {k : γ → PyData} {lt1 : α → α → Bool} {lt2 : β → β → Bool} {lt3 : γ → γ → Bool} [Lc f lt1] [Nc f] [Lc g lt2] [Nc g] [Lc k lt3] [Nc k] [Lo lt3] : Lc (eP3 f g k) (ltP3 lt1 lt2 lt3) where
  alike p q := by rw [eP3, eP3, PySem.W.alike, PySem.W.alikeAll, PySem.W.alikeAll, PySem.W.alikeAll, PySem.W.alikeAll, Lc.alike (f := f), Lc.alike (f := g), Lc.alike (f := k)]; rfl
  lt p q := by rw [eP3, eP3, dataLt_tuple, lex_step, lex_step, lex_last]; rfl
/-! ### comparing, sorting -/
theorem ltD_lc {f : α → PyData} {lt : α → α → Bool} [Lc f lt] [Nc f] [Nn f] (h : decide (Nc.d f ≤ 60) = true) (a b : α) : ltD (f a) (f b) = some (lt a b) := by
  have h0 := Nn.nn (f := f) a
  have h1 := Lc.alike (f := f) a b
  have h2 := Lc.lt (f := f) a b
  have h3 := Nc.plain (f := f) a
  have h4 := Nc.plain (f := f) b
  have h5 : decide ((f a).depth ≤ 60) = true := decide_eq_true (Nat.le_trans (Nc.dle a) (of_decide_eq_true h))
  generalize f a = x at *
  generalize f b = y at *
  unfold ltD
  split
  · rw [dataLt_int] at h2
    rw [h2]
  · cases h0
  · rw [h1, h3, h4, h5, h2]; rfl
theorem c_ltN {f : α → PyData} {lt : α → α → Bool} [Lc f lt] [Nc f] [Nn f] (h : decide (Nc.d f ≤ 60) = true) (a b : α) : cmpD .lt (f a) (f b) = some (lt a b) := ltD_lc h a b
theorem c_gtN {f : α → PyData} {lt : α → α → Bool} [Lc f lt] [Nc f] [Nn f] (h : decide (Nc.d f ≤ 60) = true) (a b : α) : cmpD .gt (f a) (f b) = some (lt b a) := ltD_lc h b a
def sortT (lt : α → α → Bool) (l : List α) : List α := l.mergeSort fun a b => !lt b a
theorem sortD_lc {f : α → PyData} {lt : α → α → Bool} [Lc f lt] (l : List α) : sortD (l.map f) = (sortT lt l).map f := by
  rw [sortD_eq, sortT]
  exact (List.map_mergeSort (fun a _ b _ => by
    rw [dataLe_eq]
    show (!lt b a) = (!dataLt (f b) (f a))
    rw [Lc.lt])).symm
theorem alikeAll_lc {f : α → PyData} {lt : α → α → Bool} [Lc f lt] [Nc f] [Nn f] (h : decide (Nc.d f ≤ 60) = true) (l : List α) : alikeAllB (l.map f) = true := by
  unfold alikeAllB
  rw [Bool.and_eq_true, List.all_eq_true, List.all_eq_true]
  constructor
  · intro x hx
    obtain ⟨a, _, rfl⟩ := List.mem_map.mp hx
    rw [List.all_eq_true]
    intro y hy
    obtain ⟨b, _, rfl⟩ := List.mem_map.mp hy
    exact Lc.alike a b
  · intro x hx
    obtain ⟨a, _, rfl⟩ := List.mem_map.mp hx
    rw [Nn.nn, decide_eq_true (Nat.le_trans (Nc.dle a) (of_decide_eq_true h))]
    rfl
end
end Ev

set_option maxRecDepth 100000
/-! Sh2: rules for expressions over typed data; what may fail is an option. -/
namespace Ev
open PySem PySem.W L2
theorem ob {α β : Type} {o : Option α} {f : α → Option β} {v : β} (h : o.bind f = some v) : ∃ x, o = some x ∧ f x = some v := Option.bind_eq_some_iff.mp h
section
variable {α β γ : Type}
/-! ### what may fail -/
def szO (l : List α) : Option (List α) := if l.length ≤ sizeLine then some l else none
theorem szO_eq {l m : List α} (h : szO l = some m) : m = l ∧ l.length ≤ sizeLine := by
  unfold szO at h
  split at h
  · exact ⟨(Option.some.inj h).symm, by assumption⟩
  · cases h
theorem szO_of {l : List α} (h : l.length ≤ 16777216) : szO l = some l := if_pos (by simpa [sizeLine] using h)
def mulO (i j : Int) : Option Int := if mulOk i j = true then some (i * j) else none
def fdivO (i j : Int) : Option Int := if 0 < j ∧ j < 1073741824 then some (i / j) else none
def modO (i j : Int) : Option Int := if 0 < j then some (i % j) else none
def powO (i j : Int) : Option Int := if 0 ≤ j ∧ j ≤ 1000000 ∧ i.natAbs < 2 ^ 64 then some (i ^ j.toNat) else none
def atO (l : List α) (i : Int) : Option α := atI l i
def appO (l m : List α) : Option (List α) := if l.length + m.length ≤ sizeLine then some (l ++ m) else none
def pushO (l : List α) (a : α) : Option (List α) := if l.length < sizeLine then some (l ++ [a]) else none
def repO (l : List α) (k : Int) : Option (List α) := if -(2 ^ 63) ≤ k ∧ k < 2 ^ 63 ∧ l.length * k.toNat ≤ sizeLine then some (List.replicate k.toNat l).flatten else none
def rgT (a b : Int) : List Int := (List.range (b - a).toNat).map fun (i : Nat) => a + (i : Int)
def rgdT (a : Int) (n : Nat) : List Int := (List.range n).map fun (i : Nat) => a + (i : Int) * (-1)
def rngO (a b : Int) : Option (List Int) := if (smallI a && smallI b) = true then some (rgT a b) else none
def rndO (a b : Int) : Option (List Int) := if smallI a = true ∧ smallI b = true then some (rgdT a (a - b).toNat) else none
def lrgO (a b : Int) : Option (List Int) := if (smallI a && smallI b && decide ((b - a).toNat ≤ sizeLine)) = true then some (rgT a b) else none
def enT : Int → List α → List (Int × α)
  | _, [] => []
  | i, a :: l => (i, a) :: enT (i + 1) l
def maxO (lt : α → α → Bool) : List α → Option α
  | [] => none
  | a :: l => some (l.foldl (fun a y => if lt a y = true then y else a) a)
def minO (lt : α → α → Bool) : List α → Option α
  | [] => none
  | a :: l => some (l.foldl (fun a y => if lt y a = true then y else a) a)
def sortO (lt : α → α → Bool) (l : List α) : Option (List α) := szO (sortT lt l)
def sortTO (lt : List α → List α → Bool) (l : List (List α)) : Option (List (List α)) := if ((l.all fun x => !x.isEmpty) || (l.head?.any fun x => x.isEmpty)) = true then szO (sortT lt l) else none
def setO (l : List α) (i : Int) (a : α) : Option (List α) := (ixN l.length i).map fun n => l.set n a
def popO (l : List α) : Option (α × List α) := (l[l.length - 1]?).map fun x => (x, l.dropLast)
def popAtO (l : List α) (i : Int) : Option (α × List α) := (seqIndex? i l.length).bind fun k => (l[k]?).bind fun y => if fits i = true then some (y, l.eraseIdx k) else none
def mapO (Y : α → Option β) : List α → Option (List β)
  | [] => some []
  | a :: l => (Y a).bind fun y => (mapO Y l).map (y :: ·)
def lcO (T : α → Option Bool) (Y : α → Option β) : List α → Option (List β)
  | [] => some []
  | a :: l => (T a).bind fun t => if t = true then (Y a).bind fun y => (lcO T Y l).map (y :: ·) else lcO T Y l
theorem mapO_some {Y : α → Option β} {g : α → β} : ∀ {l : List α}, (∀ a ∈ l, Y a = some (g a)) → mapO Y l = some (l.map g)
  | [], _ => rfl
  | a :: l, h => by
    rw [mapO, h a List.mem_cons_self, Option.bind_some, mapO_some (fun b hb => h b (List.mem_cons_of_mem _ hb))]
    rfl
theorem lcO_some {T : α → Option Bool} {Y : α → Option β} {p : α → Bool} {g : α → β} : ∀ {l : List α}, (∀ a ∈ l, T a = some (p a)) → (∀ a ∈ l, p a = true → Y a = some (g a)) → lcO T Y l = some ((l.filter p).map g)
  | [], _, _ => rfl
  | a :: l, h1, h2 => by
    have ih := lcO_some (T := T) (Y := Y) (p := p) (g := g) (l := l) (fun b hb => h1 b (List.mem_cons_of_mem _ hb)) (fun b hb => h2 b (List.mem_cons_of_mem _ hb))
    rw [lcO, h1 a List.mem_cons_self, Option.bind_some, List.filter_cons]
    cases hp : p a with
    | true => rw [if_pos rfl, if_pos rfl, h2 a List.mem_cons_self hp, Option.bind_some, ih]; rfl
    | false => rw [if_neg (by simp), if_neg (by simp), ih]
/-! ### expressions -/
variable {c : Nat → List PV → Sto → R PV} {e : Envr} {st s1 s2 s3 : Sto} {a b d : E} {x y z r : PV} {u w : PyData} {f : α → PyData} {g : β → PyData} {k : γ → PyData}
theorem v_op {o : Op2} (ha : evE c a e st = .ok x s1) (hb : evE c b e s1 = .ok y s2) (hx : rd x s2 = some u) (hy : rd y s2 = some w) (h : opD o u w = some r) : evE c (.op o a b) e st = .ok r s2 := by
  rw [e_op, ha]
  show R.bind (evE c b e s1) _ = _
  rw [hb]
  show R.opt ((rd x s2).bind fun u => (rd y s2).bind fun w => opD o u w) s2 = _
  rw [hx, hy]
  show R.opt (opD o u w) s2 = _
  rw [h]; rfl
theorem o_mul {i j m : Int} (h : mulO i j = some m) : opD .mul (.int i) (.int j) = some (.d (.int m)) := by
  unfold mulO at h
  show (if mulOk i j = true then some (PV.d (.int (i * j))) else none) = _
  split at h
  · rw [if_pos (by assumption), Option.some.inj h]
  · cases h
theorem o_fdiv {i j m : Int} (h : fdivO i j = some m) : opD .fdiv (.int i) (.int j) = some (.d (.int m)) := by
  unfold fdivO at h
  show (if 0 < j ∧ j < 1073741824 then some (PV.d (.int (i / j))) else none) = _
  split at h
  · rw [if_pos (by assumption), Option.some.inj h]
  · cases h
theorem o_mod {i j m : Int} (h : modO i j = some m) : opD .mod (.int i) (.int j) = some (.d (.int m)) := by
  unfold modO at h
  show (if 0 < j then some (PV.d (.int (i % j))) else none) = _
  split at h
  · rw [if_pos (by assumption), Option.some.inj h]
  · cases h
theorem o_pow {i j m : Int} (h : powO i j = some m) : opD .pow (.int i) (.int j) = some (.d (.int m)) := by
  unfold powO at h
  show (if 0 ≤ j ∧ j ≤ 1000000 ∧ i.natAbs < 2 ^ 64 then some (PV.d (.int (i ^ j.toNat))) else none) = _
  split at h
  · rw [if_pos (by assumption), Option.some.inj h]
  · cases h
theorem o_appL {l m n : List α} (h : appO l m = some n) : opD .add (eL f l) (eL f m) = some (.fre (eL f n)) := by
  unfold appO at h
  show (if (l.map f).length + (m.map f).length ≤ sizeLine then some (PV.fre (.list (l.map f ++ m.map f))) else none) = _
  rw [List.length_map, List.length_map]
  split at h
  · rw [if_pos (by assumption), ← Option.some.inj h, ← List.map_append]; rfl
  · cases h
theorem o_appT {l m n : List α} (h : appO l m = some n) : opD .add (eT f l) (eT f m) = some (.d (eT f n)) := by
  unfold appO at h
  show (if (l.map f).length + (m.map f).length ≤ sizeLine then some (PV.d (.tuple (l.map f ++ m.map f))) else none) = _
  rw [List.length_map, List.length_map]
  split at h
  · rw [if_pos (by assumption), ← Option.some.inj h, ← List.map_append]; rfl
  · cases h
theorem o_repL {l n : List α} {i : Int} (h : repO l i = some n) : opD .mul (eL f l) (.int i) = some (.fre (eL f n)) := by
  unfold repO at h
  show (if -(2 ^ 63) ≤ i ∧ i < 2 ^ 63 ∧ (l.map f).length * i.toNat ≤ sizeLine then some (PV.fre (.list (List.replicate i.toNat (l.map f)).flatten)) else none) = _
  rw [List.length_map]
  split at h
  · rw [if_pos (by assumption), ← Option.some.inj h, eL, List.map_flatten, List.map_replicate]
  · cases h
theorem v_neg {i : Int} (ha : evE c a e st = .ok (.d (.int i)) s1) : evE c (.neg a) e st = .ok (.d (.int (-i))) s1 := by
  rw [e_neg, ha]; rfl
theorem v_cmpG {o : Cm} {t : Bool} (ha : evE c a e st = .ok x s1) (hb : evE c b e s1 = .ok y s2) (hx : rd x s2 = some u) (hy : rd y s2 = some w) (h : cmpD o u w = some t) : evE c (.cmp o a b) e st = .ok (.d (.bool t)) s2 := by
  rw [e_cmp, ha]
  show R.bind (evE c b e s1) _ = _
  rw [hb]
  show R.opt ((rd x s2).bind fun u => (rd y s2).bind fun w => (cmpD o u w).map fun b => PV.d (.bool b)) s2 = _
  rw [hx, hy]
  show R.opt ((cmpD o u w).map fun b => PV.d (.bool b)) s2 = _
  rw [h]; rfl
/-- two comparisons in a row, of numbers -/
theorem v_chnI {o o2 : Cm} {i j m : Int} {t1 t2 : Bool} (ha : evE c a e st = .ok (.d (.int i)) s1) (hb : evE c b e s1 = .ok (.d (.int j)) s2) (hc : evE c d e s2 = .ok (.d (.int m)) s2) (h1 : cmpD o (.int i) (.int j) = some t1) (h2 : cmpD o2 (.int j) (.int m) = some t2) : evE c (.chn o o2 a b d) e st = .ok (.d (.bool (t1 && t2))) s2 := by
  rw [e_chn, ha]
  show R.bind (evE c b e s1) _ = _
  rw [hb]
  show (match cmpD o (.int i) (.int j) with
      | some true => (evE c d e s2).bind fun z s3 => R.opt (Option.bind (some (PyData.int j)) fun u => (rd z s3).bind fun w => (cmpD o2 u w).map fun b => PV.d (.bool b)) s3
      | some false => R.ok (PV.d (.bool false)) s2
      | none => .bad) = _
  rw [h1]
  cases t1 with
  | false => rfl
  | true =>
    show R.bind (evE c d e s2) _ = _
    rw [hc]
    show R.opt ((cmpD o2 (.int j) (.int m)).map fun b => PV.d (.bool b)) s2 = _
    rw [h2]; rfl
theorem v_chnIO {o o2 : Cm} {i j : Int} {t1 r : Bool} {Y : Option Bool} (ha : evE c a e st = .ok (.d (.int i)) s1) (hb : evE c b e s1 = .ok (.d (.int j)) s2) (h1 : cmpD o (.int i) (.int j) = some t1) (hr : (if t1 = true then Y else some false) = some r) (hc : ∀ t, Y = some t → ∃ m : Int, evE c d e s2 = .ok (.d (.int m)) s2 ∧ cmpD o2 (.int j) (.int m) = some t) : evE c (.chn o o2 a b d) e st = .ok (.d (.bool r)) s2 := by
  rw [e_chn, ha]
  show R.bind (evE c b e s1) _ = _
  rw [hb]
  show (match cmpD o (.int i) (.int j) with
      | some true => (evE c d e s2).bind fun z s3 => R.opt (Option.bind (some (PyData.int j)) fun u => (rd z s3).bind fun w => (cmpD o2 u w).map fun b => PV.d (.bool b)) s3
      | some false => R.ok (PV.d (.bool false)) s2
      | none => .bad) = _
  rw [h1]
  cases t1 with
  | false => rw [if_neg (by simp)] at hr; cases hr; rfl
  | true =>
    rw [if_pos rfl] at hr
    obtain ⟨m, hm, h2⟩ := hc r hr
    show R.bind (evE c d e s2) _ = _
    rw [hm]
    show R.opt ((cmpD o2 (.int j) (.int m)).map fun b => PV.d (.bool b)) s2 = _
    rw [h2]; rfl
theorem v_andB {p q : Bool} (ha : evE c a e st = .ok (.d (.bool p)) s1) (hb : evE c b e s1 = .ok (.d (.bool q)) s1) : evE c (.andd a b) e st = .ok (.d (.bool (p && q))) s1 := by
  rw [e_andd, ha]
  cases p with
  | false => rfl
  | true =>
    show R.bind (evE c b e s1) _ = _
    rw [hb]; rfl
theorem v_orB {p q : Bool} (ha : evE c a e st = .ok (.d (.bool p)) s1) (hb : evE c b e s1 = .ok (.d (.bool q)) s1) : evE c (.orr a b) e st = .ok (.d (.bool (p || q))) s1 := by
  rw [e_orr, ha]
  cases p with
  | true => rfl
  | false =>
    show R.bind (evE c b e s1) _ = _
    rw [hb]; rfl
theorem v_andO {p r : Bool} {Y : Option Bool} (ha : evE c a e st = .ok (.d (.bool p)) s1) (hr : (if p = true then Y else some false) = some r) (hb : ∀ t, Y = some t → evE c b e s1 = .ok (.d (.bool t)) s1) : evE c (.andd a b) e st = .ok (.d (.bool r)) s1 := by
  rw [e_andd, ha]
  cases p with
  | false => rw [if_neg (by simp)] at hr; cases hr; rfl
  | true =>
    rw [if_pos rfl] at hr
    show R.bind (evE c b e s1) _ = _
    rw [hb r hr]; rfl
theorem v_orO {p r : Bool} {Y : Option Bool} (ha : evE c a e st = .ok (.d (.bool p)) s1) (hr : (if p = true then some true else Y) = some r) (hb : ∀ t, Y = some t → evE c b e s1 = .ok (.d (.bool t)) s1) : evE c (.orr a b) e st = .ok (.d (.bool r)) s1 := by
  rw [e_orr, ha]
  cases p with
  | true => rw [if_pos rfl] at hr; cases hr; rfl
  | false =>
    rw [if_neg (by simp)] at hr
    show R.bind (evE c b e s1) _ = _
    rw [hb r hr]; rfl
theorem v_ifeB {p : Bool} {W : α → PV} {m n : α} (ht : evE c d e st = .ok (.d (.bool p)) s1) (ha : evE c a e s1 = .ok (W m) s1) (hb : evE c b e s1 = .ok (W n) s1) : evE c (.ife d a b) e st = .ok (W (if p = true then m else n)) s1 := by
  rw [e_ife, ht]
  cases p with
  | true => exact ha
  | false => exact hb
theorem v_ifeO {p : Bool} {W : α → PV} {X Y : Option α} {r : α} (ht : evE c d e st = .ok (.d (.bool p)) s1) (hr : (if p = true then X else Y) = some r) (ha : ∀ t, X = some t → evE c a e s1 = .ok (W t) s1) (hb : ∀ t, Y = some t → evE c b e s1 = .ok (W t) s1) : evE c (.ife d a b) e st = .ok (W r) s1 := by
  rw [e_ife, ht]
  cases p with
  | true => exact ha r (by rwa [if_pos rfl] at hr)
  | false => exact hb r (by rwa [if_neg (by simp)] at hr)
theorem ds_nil : evDs c .nil e st = .ok [] st := rfl
theorem ds_cons {es : Es} {us : List PyData} (ha : evE c a e st = .ok x s1) (hx : asD x = some u) (hs : evDs c es e s1 = .ok us s2) : evDs c (.cons a es) e st = .ok (u :: us) s2 := by
  rw [evDs, ha]
  show (match asD x with
    | some u => (evDs c es e s1).bind fun us s2 => R.ok (u :: us) s2
    | none => .bad) = _
  rw [hx, hs]; rfl
theorem rs_nil : evRs c .nil e st = .ok [] st := rfl
theorem rs_cons {es : Es} {us : List PV} (ha : evE c a e st = .ok x s1) (hx : asR x = some y) (hs : evRs c es e s1 = .ok us s2) : evRs c (.cons a es) e st = .ok (y :: us) s2 := by
  rw [evRs, ha]
  show (match asR x with
    | some u => (evRs c es e s1).bind fun us s2 => R.ok (u :: us) s2
    | none => .bad) = _
  rw [hx]
  show R.bind (evRs c es e s1) _ = _
  rw [hs]; rfl
theorem v_tup {es : Es} {us : List PyData} (hs : evDs c es e st = .ok us s1) (hz : us.length ≤ sizeLine) : evE c (.tup es) e st = .ok (.d (.tuple us)) s1 := by
  rw [e_tup, hs]
  show (if us.length ≤ sizeLine then R.ok (PV.d (.tuple us)) s1 else .bad) = _
  rw [if_pos hz]
theorem v_lst {es : Es} {us : List PyData} (hs : evDs c es e st = .ok us s1) (hz : us.length ≤ sizeLine) : evE c (.lst es) e st = .ok (.fre (.list us)) s1 := by
  rw [e_lst, hs]
  show (if us.length ≤ sizeLine then R.ok (PV.fre (.list us)) s1 else .bad) = _
  rw [if_pos hz]
/-- the value's type, told -/
theorem as_v {W : α → PV} {m : α} (h : evE c a e st = .ok (W m) s1) : evE c a e st = .ok (W m) s1 := h
theorem v_ixD {v : PyData} (ha : evE c a e st = .ok (.d u) s1) (hb : evE c b e s1 = .ok y s2) (hy : rd y s2 = some w) (h : ixD u w = some v) : evE c (.ix a b) e st = .ok (.d v) s2 := by
  rw [e_ix, ha]
  show R.bind (evE c b e s1) _ = _
  rw [hb]
  show R.opt ((rd y s2).bind fun w => (ixD u w).map PV.d) s2 = _
  rw [hy]
  show R.opt ((ixD u w).map PV.d) s2 = _
  rw [h]; rfl
theorem v_ixB {v : PyData} (ha : evE c a e st = .ok (.bor u) s1) (hb : evE c b e s1 = .ok y s2) (hy : rd y s2 = some w) (h : ixD u w = some v) : evE c (.ix a b) e st = .ok (.d v) s2 := by
  rw [e_ix, ha]
  show R.bind (evE c b e s1) _ = _
  rw [hb]
  show R.opt ((rd y s2).bind fun w => (ixD u w).map PV.d) s2 = _
  rw [hy]
  show R.opt ((ixD u w).map PV.d) s2 = _
  rw [h]; rfl
theorem v_ixF {v : PyData} (ha : evE c a e st = .ok (.fre u) s1) (hb : evE c b e s1 = .ok y s2) (hy : rd y s2 = some w) (h : ixD u w = some v) : evE c (.ix a b) e st = .ok (.d v) s2 := by
  rw [e_ix, ha]
  show R.bind (evE c b e s1) _ = _
  rw [hb]
  show R.opt ((rd y s2).bind fun w => (ixD u w).map PV.d) s2 = _
  rw [hy]
  show R.opt ((ixD u w).map PV.d) s2 = _
  rw [h]; rfl
theorem atI_map {l : List α} {i : Int} : atI (l.map f) i = (atI l i).map f := by
  unfold atI
  rw [List.length_map]
  cases ixN l.length i with
  | none => rfl
  | some n => exact List.getElem?_map
theorem i_atT {l : List α} {i : Int} {t : α} (h : atO l i = some t) : ixD (eT f l) (.int i) = some (f t) := by
  show atI (l.map f) i = _
  rw [atI_map]
  unfold atO at h
  rw [h]; rfl
theorem i_atL {l : List α} {i : Int} {t : α} (h : atO l i = some t) : ixD (eL f l) (.int i) = some (f t) := by
  show atI (l.map f) i = _
  rw [atI_map]
  unfold atO at h
  rw [h]; rfl
theorem v_sl {lo hi : P} {i j : Option Int} (ha : evE c a e st = .ok x s1) (hl : evP c lo e s1 = .ok i s2) (hh : evP c hi e s2 = .ok j s3) (hx : rd x s3 = some u) (h : slD u i j = some r) : evE c (.sl a lo hi) e st = .ok r s3 := by
  rw [e_sl, ha]
  show R.bind (evP c lo e s1) _ = _
  rw [hl]
  show R.bind (evP c hi e s2) _ = _
  rw [hh]
  show R.opt ((rd x s3).bind fun u => slD u i j) s3 = _
  rw [hx]
  show R.opt (slD u i j) s3 = _
  rw [h]; rfl
theorem p_no : evP c .no e st = .ok none st := rfl
theorem p_ex {i : Int} (ha : evE c a e st = .ok (.d (.int i)) s1) : evP c (.ex a) e st = .ok (some i) s1 := by
  rw [evP, ha]; rfl
theorem cut_map {l : List α} {lo hi : Option Int} : cutL (l.map f) lo hi = (cutL l lo hi).map f := by
  unfold cutL
  rw [List.length_map, List.map_take, List.map_drop]
theorem s_T (l : List α) (lo hi : Option Int) : slD (eT f l) lo hi = some (.d (eT f (cutL l lo hi))) := by
  show some (PV.d (.tuple (cutL (l.map f) lo hi))) = _
  rw [cut_map]; rfl
theorem s_L (l : List α) (lo hi : Option Int) : slD (eL f l) lo hi = some (.fre (eL f (cutL l lo hi))) := by
  show some (PV.fre (.list (cutL (l.map f) lo hi))) = _
  rw [cut_map]; rfl
theorem v_revT {l : List α} (ha : evE c a e st = .ok x s1) (hx : rd x s1 = some (eT f l)) : evE c (.rev a) e st = .ok (.d (eT f l.reverse)) s1 := by
  rw [e_rev, ha]
  show (match rd x s1 with
    | some (.list xs) => R.ok (PV.fre (.list xs.reverse)) s1
    | some (.tuple xs) => .ok (PV.d (.tuple xs.reverse)) s1
    | _ => .bad) = _
  rw [hx]
  show R.ok (PV.d (.tuple (l.map f).reverse)) s1 = _
  rw [← List.map_reverse]; rfl
theorem v_revL {l : List α} (ha : evE c a e st = .ok x s1) (hx : rd x s1 = some (eL f l)) : evE c (.rev a) e st = .ok (.fre (eL f l.reverse)) s1 := by
  rw [e_rev, ha]
  show (match rd x s1 with
    | some (.list xs) => R.ok (PV.fre (.list xs.reverse)) s1
    | some (.tuple xs) => .ok (PV.d (.tuple xs.reverse)) s1
    | _ => .bad) = _
  rw [hx]
  show R.ok (PV.fre (.list (l.map f).reverse)) s1 = _
  rw [← List.map_reverse]; rfl
/-! ### builtins -/
theorem v_bi1 {o : Bi} (ha : evE c a e st = .ok x s1) (hx : rd x s1 = some u) (h : biD o [u] = some r) : evE c (.bi o (.cons a .nil)) e st = .ok r s1 := by
  rw [e_bi, evAs, ha]
  show R.opt (biV o [x] s1) s1 = _
  have : biV o [x] s1 = (rd x s1).bind fun y => biD o [y] := by cases o <;> rfl
  rw [this, hx]
  show R.opt (biD o [u]) s1 = _
  rw [h]; rfl
theorem v_bi2 {o : Bi} (ho : o = .max ∨ o = .min) (ha : evE c a e st = .ok (.d u) s1) (hb : evE c b e s1 = .ok (.d w) s2) (h : biD o [u, w] = some r) : evE c (.bi o (.cons a (.cons b .nil))) e st = .ok r s2 := by
  rw [e_bi, evAs, ha]
  show R.bind (R.bind (R.bind (evE c b e s1) _) _) _ = _
  rw [hb]
  show R.opt (biV o [.d u, .d w] s2) s2 = _
  have : biV o [.d u, .d w] s2 = biD o [u, w] := by rcases ho with rfl | rfl <;> rfl
  rw [this, h]; rfl
theorem b_max2 (i j : Int) : biD .max [.int i, .int j] = some (.d (.int (max i j))) := by
  show some (PV.d (.int (if j > i then j else i))) = _
  rw [show (if j > i then j else i) = max i j by split <;> omega]
theorem b_min2 (i j : Int) : biD .min [.int i, .int j] = some (.d (.int (min i j))) := by
  show some (PV.d (.int (if j < i then j else i))) = _
  rw [show (if j < i then j else i) = min i j by split <;> omega]
theorem v_isa {n : String} {t : Bool} {y : String} {ty : Str} (ha : evE c a e st = .ok x s1) (hx : rd x s1 = some u) (hf : flatD u = true) (h : isaD n u = some t) : evE c (.bi .isinst (.cons a (.cons (.ty ty n) .nil))) e st = .ok (.d (.bool t)) s1 := by
  rw [e_bi, evAs, ha]
  show R.opt ((rd x s1).bind fun y => (if flatD y = true then isaD n y else none).map fun b => PV.d (.bool b)) s1 = _
  rw [hx]
  show R.opt ((if flatD u = true then isaD n u else none).map fun b => PV.d (.bool b)) s1 = _
  rw [if_pos hf, h]; rfl
theorem b_lenL (l : List α) : biD .len [eL f l] = some (.d (.int (l.length : Int))) := by
  show some (PV.d (.int ((l.map f).length : Int))) = _
  rw [List.length_map]
theorem b_lenT (l : List α) : biD .len [eT f l] = some (.d (.int (l.length : Int))) := by
  show some (PV.d (.int ((l.map f).length : Int))) = _
  rw [List.length_map]
theorem b_lenD (l : List (α × β)) : biD .len [eD f g l] = some (.d (.int (l.length : Int))) := by
  show some (PV.d (.int ((l.map fun p => (f p.1, g p.2)).length : Int))) = _
  rw [List.length_map]
theorem b_abs (i : Int) : biD .abs [.int i] = some (.d (.int (ab i))) := rfl
theorem b_int (i : Int) : biD .int [.int i] = some (.d (.int i)) := rfl
theorem b_intB (p : Bool) : biD .int [.bool p] = some (.d (.int (if p = true then 1 else 0))) := by cases p <;> rfl
theorem allInts_eI : ∀ l : List Int, allInts (l.map PyData.int) = some l
  | [] => rfl
  | i :: l => by rw [List.map_cons, allInts, allInts_eI l]; rfl
theorem allBools_eB : ∀ l : List Bool, allBools (l.map PyData.bool) = some l
  | [] => rfl
  | i :: l => by rw [List.map_cons, allBools, allBools_eB l]; rfl
theorem b_sumL (l : List Int) : biD .sum [eL eI l] = some (.d (.int l.sum)) := by
  show (allInts (l.map PyData.int)).map (fun ns => PV.d (.int ns.sum)) = _
  rw [allInts_eI]; rfl
theorem b_sumT (l : List Int) : biD .sum [eT eI l] = some (.d (.int l.sum)) := by
  show (allInts (l.map PyData.int)).map (fun ns => PV.d (.int ns.sum)) = _
  rw [allInts_eI]; rfl
theorem b_all (l : List Bool) : biD .all [eL eB l] = some (.d (.bool (l.all id))) := by
  show (allBools (l.map PyData.bool)).map (fun bs => PV.d (.bool (bs.all id))) = _
  rw [allBools_eB]; rfl
theorem b_any (l : List Bool) : biD .any [eL eB l] = some (.d (.bool (l.any id))) := by
  show (allBools (l.map PyData.bool)).map (fun bs => PV.d (.bool (bs.any id))) = _
  rw [allBools_eB]; rfl
theorem b_tupL (l : List α) : biD .tuple [eL f l] = some (.d (eT f l)) := rfl
theorem b_tupT (l : List α) : biD .tuple [eT f l] = some (.d (eT f l)) := rfl
theorem b_lstL (l : List α) : biD .list [eL f l] = some (.fre (eL f l)) := rfl
theorem b_lstT (l : List α) : biD .list [eT f l] = some (.fre (eL f l)) := rfl
theorem foldl_max (l : List Int) : ∀ n : Int, l.foldl max n = l.foldl (fun a y => if ltI a y = true then y else a) n := by
  induction l with
  | nil => intro n; rfl
  | cons a l ih =>
    intro n
    rw [List.foldl_cons, List.foldl_cons, ih]
    congr 1
    unfold ltI
    by_cases h : n < a
    · rw [if_pos (decide_eq_true h)]; omega
    · rw [if_neg (by simpa using h)]; omega
theorem foldl_min (l : List Int) : ∀ n : Int, l.foldl min n = l.foldl (fun a y => if ltI y a = true then y else a) n := by
  induction l with
  | nil => intro n; rfl
  | cons a l ih =>
    intro n
    rw [List.foldl_cons, List.foldl_cons, ih]
    congr 1
    unfold ltI
    by_cases h : a < n
    · rw [if_pos (decide_eq_true h)]; omega
    · rw [if_neg (by simpa using h)]; omega
theorem b_maxI {x : PyData} {l : List Int} {m : Int} (hx : itemsD x = some (l.map PyData.int)) (h2 : biD .max [x] = (itemsD x).bind fun xs => match xs with
    | [] => none
    | y :: r => match allInts (y :: r) with
      | some (n :: ns) => some (.d (.int (ns.foldl max n)))
      | _ => if alikeAllB (y :: r) = true then some (.d (maxD y r)) else none) (h : maxO ltI l = some m) : biD .max [x] = some (.d (.int m)) := by
  rw [h2, hx]
  cases l with
  | nil => cases h
  | cons a l =>
    show (match allInts ((a :: l).map PyData.int) with
      | some (n :: ns) => some (PV.d (.int (ns.foldl max n)))
      | _ => if alikeAllB ((a :: l).map PyData.int) = true then some (.d (maxD (.int a) (l.map PyData.int))) else none) = _
    rw [allInts_eI]
    show some (PV.d (.int (l.foldl max a))) = _
    rw [foldl_max]
    unfold maxO at h
    rw [Option.some.inj h]
theorem b_minI {x : PyData} {l : List Int} {m : Int} (hx : itemsD x = some (l.map PyData.int)) (h2 : biD .min [x] = (itemsD x).bind fun xs => match xs with
    | [] => none
    | y :: r => match allInts (y :: r) with
      | some (n :: ns) => some (.d (.int (ns.foldl min n)))
      | _ => if alikeAllB (y :: r) = true then some (.d (minD y r)) else none) (h : minO ltI l = some m) : biD .min [x] = some (.d (.int m)) := by
  rw [h2, hx]
  cases l with
  | nil => cases h
  | cons a l =>
    show (match allInts ((a :: l).map PyData.int) with
      | some (n :: ns) => some (PV.d (.int (ns.foldl min n)))
      | _ => if alikeAllB ((a :: l).map PyData.int) = true then some (.d (minD (.int a) (l.map PyData.int))) else none) = _
    rw [allInts_eI]
    show some (PV.d (.int (l.foldl min a))) = _
    rw [foldl_min]
    unfold minO at h
    rw [Option.some.inj h]
theorem b_maxIL {l : List Int} {m : Int} (h : maxO ltI l = some m) : biD .max [eL eI l] = some (.d (.int m)) := b_maxI rfl rfl h
theorem b_maxIT {l : List Int} {m : Int} (h : maxO ltI l = some m) : biD .max [eT eI l] = some (.d (.int m)) := b_maxI rfl rfl h
theorem b_minIL {l : List Int} {m : Int} (h : minO ltI l = some m) : biD .min [eL eI l] = some (.d (.int m)) := b_minI rfl rfl h
theorem b_minIT {l : List Int} {m : Int} (h : minO ltI l = some m) : biD .min [eT eI l] = some (.d (.int m)) := b_minI rfl rfl h
end
end Ev

set_option maxRecDepth 100000
/-! Sh3: more builtins, walks, comprehensions. -/
namespace Ev
open PySem PySem.W L2
section
variable {α β γ : Type} {c : Nat → List PV → Sto → R PV} {e : Envr} {st s1 s2 s3 : Sto} {a b d : E} {x y z r : PV} {u w : PyData} {f : α → PyData} {g : β → PyData} {k : γ → PyData}
/-! ### sorted, max, min of what is no number -/
class Nt {α : Type} (f : α → PyData) : Prop where
  nt : (∀ a, ∃ x xs, f a = .tuple (x :: xs)) ∨ ∀ a, (match f a with | .tuple _ => false | .none => false | _ => true) = true
instance : Nt eI := ⟨.inr fun _ => rfl⟩
instance : Nt eS := ⟨.inr fun _ => rfl⟩
instance : Nt (eP f g) := ⟨.inl fun p => ⟨_, _, rfl⟩⟩
instance : Nt (eP3 f g k) := ⟨.inl fun p => ⟨_, _, rfl⟩⟩
instance : Nt (eL f) := ⟨.inr fun _ => rfl⟩
theorem sortable_nt [Nt f] (l : List α) : sortableB (l.map f) = true := by
  unfold sortableB
  rw [Bool.or_eq_true]
  rcases Nt.nt (f := f) with h | h
  · left
    rw [List.all_eq_true]
    intro x hx
    obtain ⟨a, _, rfl⟩ := List.mem_map.mp hx
    obtain ⟨y, ys, e⟩ := h a
    rw [e]
  · right
    rw [List.all_eq_true]
    intro x hx
    obtain ⟨a, _, rfl⟩ := List.mem_map.mp hx
    have := h a
    revert this
    cases f a <;> simp
theorem b_sort [DecidableEq α] {lt : α → α → Bool} [Lc f lt] [Nc f] [Nn f] [Nt f] {l m : List α} (hd : decide (Nc.d f ≤ 60) = true) (hx : itemsK u = some (l.map f)) (h : sortO lt l = some m) : biD .sorted [u] = some (.fre (eL f m)) := by
  show ((itemsK u).bind fun xs => if (alikeAllB xs && (sortableB xs || (PyData.isList u && sort0B xs)) && decide (xs.length ≤ sizeLine)) = true then some (PV.fre (.list (sortD xs))) else none) = _
  obtain ⟨rfl, hz⟩ := szO_eq h
  rw [hx]
  show (if (alikeAllB (l.map f) && (sortableB (l.map f) || (PyData.isList u && sort0B (l.map f))) && decide ((l.map f).length ≤ sizeLine)) = true then some (PV.fre (.list (sortD (l.map f)))) else none) = _
  rw [alikeAll_lc hd, sortable_nt, List.length_map]
  rw [sortT, List.length_mergeSort] at hz
  rw [decide_eq_true hz, sortD_lc]
  rfl
theorem isEmpty_map' {l : List α} : (l.map f).isEmpty = l.isEmpty := by cases l <;> rfl
theorem b_sortLT [DecidableEq α] {lt : α → α → Bool} [Lc f lt] [Nc f] {l m : List (List α)} (hd : decide (Nc.d (eT f) ≤ 60) = true) (h : sortTO (ltS lt) l = some m) : biD .sorted [eL (eT f) l] = some (.fre (eL (eT f) m)) := by
  unfold sortTO at h
  split at h
  case isFalse => cases h
  case isTrue hc =>
  obtain ⟨rfl, hz⟩ := szO_eq h
  show (if (alikeAllB (l.map (eT f)) && (sortableB (l.map (eT f)) || (true && sort0B (l.map (eT f)))) && decide ((l.map (eT f)).length ≤ sizeLine)) = true then some (PV.fre (.list (sortD (l.map (eT f))))) else none) = _
  rw [alikeAll_lc hd, List.length_map]
  rw [sortT, List.length_mergeSort] at hz
  have : (sortableB (l.map (eT f)) || (true && sort0B (l.map (eT f)))) = true := by
    rw [Bool.or_eq_true] at hc ⊢
    rcases hc with hc | hc
    · left
      unfold sortableB
      rw [Bool.or_eq_true]
      left
      rw [List.all_eq_true] at hc ⊢
      intro x hx
      obtain ⟨a, ha, rfl⟩ := List.mem_map.mp hx
      have := hc a ha
      cases a with
      | nil => simp at this
      | cons b bs => rfl
    · right
      rw [Bool.true_and]
      cases l with
      | nil => simp at hc
      | cons a l =>
        cases a with
        | cons b bs => simp at hc
        | nil =>
          show ((l.map (eT f)).all PyData.isTuple) = true
          rw [List.all_eq_true]
          intro x hx
          obtain ⟨a, ha, rfl⟩ := List.mem_map.mp hx
          rfl
  rw [this, decide_eq_true hz, sortD_lc]
  rfl
theorem foldlMax [DecidableEq α] {lt : α → α → Bool} [Lc f lt] : ∀ (l : List α) (n : α), (l.map f).foldl (fun a y => if dataLt a y = true then y else a) (f n) = f (l.foldl (fun a y => if lt a y = true then y else a) n)
  | [], n => rfl
  | a :: l, n => by
    rw [List.map_cons, List.foldl_cons, List.foldl_cons, ← foldlMax l, Lc.lt]
    congr 1
    split <;> rfl
theorem foldlMin [DecidableEq α] {lt : α → α → Bool} [Lc f lt] : ∀ (l : List α) (n : α), (l.map f).foldl (fun a y => if dataLt y a = true then y else a) (f n) = f (l.foldl (fun a y => if lt y a = true then y else a) n)
  | [], n => rfl
  | a :: l, n => by
    rw [List.map_cons, List.foldl_cons, List.foldl_cons, ← foldlMin l, Lc.lt]
    congr 1
    split <;> rfl
theorem b_maxN [DecidableEq α] {lt : α → α → Bool} [Lc f lt] [Nc f] [Nn f] {l : List α} {m : α} (hd : decide (Nc.d f ≤ 60) = true) (hx : itemsD u = some (l.map f)) (h2 : biD .max [u] = (itemsD u).bind fun xs => match xs with
    | [] => none
    | y :: r => match allInts (y :: r) with
      | some (n :: ns) => some (.d (.int (ns.foldl max n)))
      | _ => if alikeAllB (y :: r) = true then some (.d (maxD y r)) else none) (hn : ∀ a, allInts [f a] = none) (h : maxO lt l = some m) : biD .max [u] = some (.d (f m)) := by
  rw [h2, hx]
  cases l with
  | nil => cases h
  | cons a l =>
    have h0 : allInts ((a :: l).map f) = none := by
      have := hn a
      rw [List.map_cons]
      revert this
      cases f a <;> simp [allInts]
    show (match allInts ((a :: l).map f) with
      | some (n :: ns) => some (PV.d (.int (ns.foldl max n)))
      | _ => if alikeAllB ((a :: l).map f) = true then some (PV.d (maxD (f a) (l.map f))) else none) = _
    rw [h0]
    show (if alikeAllB ((a :: l).map f) = true then some (PV.d (maxD (f a) (l.map f))) else none) = _
    rw [if_pos (alikeAll_lc hd _), maxD, foldlMax]
    unfold maxO at h
    rw [Option.some.inj h]
theorem b_minN [DecidableEq α] {lt : α → α → Bool} [Lc f lt] [Nc f] [Nn f] {l : List α} {m : α} (hd : decide (Nc.d f ≤ 60) = true) (hx : itemsD u = some (l.map f)) (h2 : biD .min [u] = (itemsD u).bind fun xs => match xs with
    | [] => none
    | y :: r => match allInts (y :: r) with
      | some (n :: ns) => some (.d (.int (ns.foldl min n)))
      | _ => if alikeAllB (y :: r) = true then some (.d (minD y r)) else none) (hn : ∀ a, allInts [f a] = none) (h : minO lt l = some m) : biD .min [u] = some (.d (f m)) := by
  rw [h2, hx]
  cases l with
  | nil => cases h
  | cons a l =>
    have h0 : allInts ((a :: l).map f) = none := by
      have := hn a
      rw [List.map_cons]
      revert this
      cases f a <;> simp [allInts]
    show (match allInts ((a :: l).map f) with
      | some (n :: ns) => some (PV.d (.int (ns.foldl min n)))
      | _ => if alikeAllB ((a :: l).map f) = true then some (PV.d (minD (f a) (l.map f))) else none) = _
    rw [h0]
    show (if alikeAllB ((a :: l).map f) = true then some (PV.d (minD (f a) (l.map f))) else none) = _
    rw [if_pos (alikeAll_lc hd _), minD, foldlMin]
    unfold minO at h
    rw [Option.some.inj h]
/-! ### ranges -/
theorem rgL_T (i j : Int) : rgL i j = (rgT i j).map eI := by
  unfold rgL rgT
  rw [List.map_map]; rfl
theorem rgC_T (i : Int) (n : Nat) : rgC i (-1) n = (rgdT i n).map eI := by
  unfold rgC rgdT
  rw [List.map_map]; rfl
theorem v_lrgT {i j : Int} {l : List Int} (ha : evE c a e st = .ok (.d (.int i)) s1) (hb : evE c b e s1 = .ok (.d (.int j)) s2) (h : lrgO i j = some l) : evE c (.lrng true a b) e st = .ok (.d (eT eI l)) s2 := by
  rw [e_lrng, ha]
  show R.bind (evE c b e s1) _ = _
  rw [hb]
  show (if (smallI i && smallI j && decide ((j - i).toNat ≤ sizeLine)) = true then R.ok (PV.d (.tuple (rgL i j))) s2 else .bad) = _
  unfold lrgO at h
  split at h
  · rw [if_pos (by assumption), rgL_T, Option.some.inj h]; rfl
  · cases h
theorem v_lrgL {i j : Int} {l : List Int} (ha : evE c a e st = .ok (.d (.int i)) s1) (hb : evE c b e s1 = .ok (.d (.int j)) s2) (h : lrgO i j = some l) : evE c (.lrng false a b) e st = .ok (.fre (eL eI l)) s2 := by
  rw [e_lrng, ha]
  show R.bind (evE c b e s1) _ = _
  rw [hb]
  show (if (smallI i && smallI j && decide ((j - i).toNat ≤ sizeLine)) = true then R.ok (PV.fre (.list (rgL i j))) s2 else .bad) = _
  unfold lrgO at h
  split at h
  · rw [if_pos (by assumption), rgL_T, Option.some.inj h]; rfl
  · cases h
/-! ### walks -/
variable {bo : Bool}
theorem i_sq {xs : List PyData} (ha : evE c a e st = .ok x s1) (hs : srcV bo x = some xs) : evI c (.sq a) bo e st = .ok xs s1 := by
  rw [evI, ha]
  show R.opt (srcV bo x) s1 = _
  rw [hs]; rfl
theorem i_r1 {j : Int} {l : List Int} (ha : evE c a e st = .ok (.d (.int j)) s1) (h : rngO 0 j = some l) : evI c (.r1 a) bo e st = .ok (l.map eI) s1 := by
  rw [evI, ha]
  show (if smallI j = true then R.ok (rgL 0 j) s1 else .bad) = _
  unfold rngO at h
  split at h
  case isTrue q =>
    rw [Bool.and_eq_true] at q
    rw [if_pos q.2, rgL_T, Option.some.inj h]
  case isFalse => cases h
theorem i_r2 {i j : Int} {l : List Int} (ha : evE c a e st = .ok (.d (.int i)) s1) (hb : evE c b e s1 = .ok (.d (.int j)) s2) (h : rngO i j = some l) : evI c (.r2 a b) bo e st = .ok (l.map eI) s2 := by
  rw [evI, ha]
  show R.bind (evE c b e s1) _ = _
  rw [hb]
  show (if (smallI i && smallI j) = true then R.ok (rgL i j) s2 else .bad) = _
  unfold rngO at h
  split at h
  · rw [if_pos (by assumption), rgL_T, Option.some.inj h]
  · cases h
theorem i_r3 {i j : Int} {l : List Int} (ha : evE c a e st = .ok (.d (.int i)) s1) (hb : evE c b e s1 = .ok (.d (.int j)) s2) (hd : evE c d e s2 = .ok (.d (.int (-1))) s3) (h : rndO i j = some l) : evI c (.r3 a b d) bo e st = .ok (l.map eI) s3 := by
  rw [evI, ha]
  show R.bind (evE c b e s1) _ = _
  rw [hb]
  show R.bind (evE c d e s2) _ = _
  rw [hd]
  show (if (-1 : Int) = -1 ∧ smallI i = true ∧ smallI j = true then R.ok (rgC i (-1) (i - j).toNat) s3 else .bad) = _
  unfold rndO at h
  split at h
  case isTrue q => rw [if_pos ⟨rfl, q⟩, rgC_T, Option.some.inj h]
  case isFalse => cases h
theorem zipD_T : ∀ (l : List α) (m : List β), zipD (l.map f) (m.map g) = (l.zip m).map (eP f g)
  | [], m => by simp [zipD]
  | _ :: _, [] => by simp [zipD]
  | a :: l, b :: m => by simp [zipD, zipD_T l m, eP]
theorem enD_T : ∀ (l : List α) (i : Int), enD i (l.map f) = (enT i l).map (eP eI f)
  | [], i => rfl
  | a :: l, i => by
    rw [List.map_cons, enD, enD_T l, enT]; rfl
theorem i_zp {l : List α} {m : List β} (ha : evE c a e st = .ok x s1) (hb : evE c b e s1 = .ok y s2) (hx : srcL bo x = some (l.map f)) (hy : srcL bo y = some (m.map g)) : evI c (.zp a b) bo e st = .ok ((l.zip m).map (eP f g)) s2 := by
  rw [evI, ha]
  show R.bind (evE c b e s1) _ = _
  rw [hb]
  show R.opt ((srcL bo x).bind fun us => (srcL bo y).map fun ws => zipD us ws) s2 = _
  rw [hx, hy]
  show R.ok (zipD (l.map f) (m.map g)) s2 = _
  rw [zipD_T]
theorem i_en {l : List α} (ha : evE c a e st = .ok x s1) (hx : srcL bo x = some (l.map f)) : evI c (.en a) bo e st = .ok ((enT 0 l).map (eP eI f)) s1 := by
  rw [evI, ha]
  show R.opt ((srcL bo x).map (enD 0)) s1 = _
  rw [hx]
  show R.ok (enD 0 (l.map f)) s1 = _
  rw [enD_T]
theorem i_its {l : List (α × β)} (ha : evE c a e st = .ok (.d (eD f g l)) s1) : evI c (.its a) bo e st = .ok (l.map (eP f g)) s1 := by
  rw [evI, ha]
  show R.ok ((l.map fun p => (f p.1, g p.2)).map fun p => PyData.tuple [p.1, p.2]) s1 = _
  rw [List.map_map]; rfl
theorem i_vls {l : List (α × β)} (ha : evE c a e st = .ok (.d (eD f g l)) s1) : evI c (.vls a) bo e st = .ok ((l.map Prod.snd).map g) s1 := by
  rw [evI, ha]
  show R.ok ((l.map fun p => (f p.1, g p.2)).map fun p => p.2) s1 = _
  rw [List.map_map, List.map_map]; rfl
theorem src_D (l : List (α × β)) : srcV bo (.d (eD f g l)) = some ((l.map Prod.fst).map f) := by
  show some ((l.map fun p => (f p.1, g p.2)).map fun p => p.1) = _
  rw [List.map_map, List.map_map]; rfl
/-! ### comprehensions -/
def lcF (c : Nat → List PV → Sto → R PV) (e : Envr) (own : List Nat) (g : G) (ts : Es) (y : E) : PyData → Sto → R (Option PyData) := fun x s => match asg (wipeC e own) g x with
        | some e1 => (noEx (evTs c ts e1 s)).bind fun b s2 => if b then (noEx (evE c y e1 s2)).bind fun v s3 => R.opt ((asD v).map some) s3 else .ok none s2
        | none => .bad
theorem v_lcR {own : List Nat} {gt : G} {it : It} {ts : Es} {y : E} {xs ys : List PyData} (hn : own.all (notOwn e) = true) (hI : evI c it true e st = .ok xs s1) (h : lcL (lcF c e own gt ts y) xs s1 [] = .ok ys s2) : evE c (.lc own gt it ts y) e st = .ok (.fre (.list ys)) s2 := by
  rw [e_lc, if_pos hn, hI]
  show R.bind (lcL (lcF c e own gt ts y) xs s1 []) _ = _
  rw [h]
  rfl
theorem lcL_app {F : PyData → Sto → R (Option PyData)} {T : α → Option Bool} {Y : α → Option β} : ∀ {l : List α} {acc : List PyData} {m : List β}, (∀ a t, T a = some t → (t = false → F (f a) st = .ok none st) ∧ (t = true → ∀ v, Y a = some v → F (f a) st = .ok (some (g v)) st)) → lcO T Y l = some m → acc.length + m.length ≤ sizeLine → lcL F (l.map f) st acc = .ok (acc ++ m.map g) st
  | [], acc, m, _, h, _ => by
    cases h
    rw [List.map_nil, List.map_nil, List.append_nil]; rfl
  | a :: l, acc, m, hF, h, hz => by
    rw [lcO] at h
    obtain ⟨t, ht, h⟩ := ob h
    obtain ⟨h1, h2⟩ := hF a t ht
    rw [List.map_cons, lcL]
    cases t with
    | false =>
      rw [if_neg (by simp)] at h
      rw [h1 rfl]
      exact lcL_app hF h hz
    | true =>
      rw [if_pos rfl] at h
      obtain ⟨v, hv, h⟩ := ob h
      rw [h2 rfl v hv]
      obtain ⟨m', hm, rfl⟩ := Option.map_eq_some_iff.mp h
      rw [List.length_cons] at hz
      show (if acc.length < sizeLine then lcL F (l.map f) st (acc ++ [g v]) else .bad) = _
      rw [if_pos (by omega), lcL_app hF hm (by rw [List.length_append, List.length_singleton]; omega)]
      simp
/-- with tests -/
theorem v_lcO {own : List Nat} {gt : G} {it : It} {ts : Es} {y : E} {l : List α} {T : α → Option Bool} {Y : α → Option β} {E : α → Envr} {m : List β} (hn : own.all (notOwn e) = true) (hI : evI c it true e st = .ok (l.map f) s1) (hg : ∀ a, asg (wipeC e own) gt (f a) = some (E a))
    (hT : ∀ a t, T a = some t → evTs c ts (E a) s1 = .ok t s1) (hY : ∀ a v, Y a = some v → ∃ z, evE c y (E a) s1 = .ok z s1 ∧ asD z = some (g v)) (h : (lcO T Y l).bind szO = some m) : evE c (.lc own gt it ts y) e st = .ok (.fre (eL g m)) s1 := by
  obtain ⟨m', h1, h2⟩ := ob h
  obtain ⟨rfl, hz⟩ := szO_eq h2
  refine v_lcR hn hI (lcL_app (f := f) (g := g) (T := T) (Y := Y) (acc := []) (fun a t ht => ⟨fun q => ?_, fun q v hv => ?_⟩) h1 (by rw [List.length_nil]; omega))
  · subst q
    unfold lcF
    rw [hg, ]
    show R.bind (noEx (evTs c ts (E a) s1)) _ = _
    rw [hT a _ ht]; rfl
  · subst q
    obtain ⟨z, hz1, hz2⟩ := hY a v hv
    unfold lcF
    rw [hg]
    show R.bind (noEx (evTs c ts (E a) s1)) _ = _
    rw [hT a _ ht]
    show R.bind (noEx (evE c y (E a) s1)) _ = _
    rw [hz1]
    show R.opt ((asD z).map some) s1 = _
    rw [hz2]; rfl
theorem ts_nil : evTs c .nil e st = .ok true st := rfl
theorem ts_one {t : Bool} (h : evE c a e st = .ok (.d (.bool t)) s1) : evTs c (.cons a .nil) e st = .ok t s1 := by
  rw [evTs, h]
  cases t <;> rfl
theorem lcO_T (Y : α → Option β) : ∀ l : List α, lcO (fun _ => some true) Y l = mapO Y l
  | [] => rfl
  | a :: l => by rw [lcO, mapO, Option.bind_some, if_pos rfl, lcO_T Y l]
/-- without tests -/
theorem v_lcM {own : List Nat} {gt : G} {it : It} {y : E} {l : List α} {Y : α → Option β} {E : α → Envr} {m : List β} (hn : own.all (notOwn e) = true) (hI : evI c it true e st = .ok (l.map f) s1) (hg : ∀ a, asg (wipeC e own) gt (f a) = some (E a))
    (hY : ∀ a v, Y a = some v → ∃ z, evE c y (E a) s1 = .ok z s1 ∧ asD z = some (g v)) (h : (mapO Y l).bind szO = some m) : evE c (.lc own gt it .nil y) e st = .ok (.fre (eL g m)) s1 :=
  v_lcO (T := fun _ => some true) (Y := Y) (E := E) hn hI hg (fun _ _ q => by cases q; rfl) hY (by rw [lcO_T]; exact h)
/-- nothing may fail -/
theorem v_lcB {own : List Nat} {gt : G} {it : It} {ts : Es} {y : E} {l : List α} {T : α → Bool} {Y : α → β} {E : α → Envr} {m : List β} (hn : own.all (notOwn e) = true) (hI : evI c it true e st = .ok (l.map f) s1) (hg : ∀ a, asg (wipeC e own) gt (f a) = some (E a))
    (hT : ∀ a, evTs c ts (E a) s1 = .ok (T a) s1) (hY : ∀ a, ∃ z, evE c y (E a) s1 = .ok z s1 ∧ asD z = some (g (Y a))) (h : szO ((l.filter T).map Y) = some m) : evE c (.lc own gt it ts y) e st = .ok (.fre (eL g m)) s1 :=
  v_lcO (T := fun a => some (T a)) (Y := fun a => some (Y a)) (E := E) hn hI hg (fun a t q => by cases q; exact hT a) (fun a v q => by cases q; exact hY a) (by rw [lcO_some (p := T) (g := Y) (fun _ _ => rfl) (fun _ _ _ => rfl)]; exact h)
theorem v_lcBM {own : List Nat} {gt : G} {it : It} {y : E} {l : List α} {Y : α → β} {E : α → Envr} {m : List β} (hn : own.all (notOwn e) = true) (hI : evI c it true e st = .ok (l.map f) s1) (hg : ∀ a, asg (wipeC e own) gt (f a) = some (E a))
    (hY : ∀ a, ∃ z, evE c y (E a) s1 = .ok z s1 ∧ asD z = some (g (Y a))) (h : szO (l.map Y) = some m) : evE c (.lc own gt it .nil y) e st = .ok (.fre (eL g m)) s1 :=
  v_lcM (Y := fun a => some (Y a)) (E := E) hn hI hg (fun a v q => by cases q; exact hY a) (by rw [mapO_some (g := Y) (fun _ _ => rfl)]; exact h)
/-- nothing may fail, the item itself, tests -/
theorem no_nil : ([] : List Nat).all (notOwn e) = true := rfl
def nv (c : Cell) : Prop := c = .no ∨ ∃ x, c = .v x
theorem nv_no : nv .no := .inl rfl
theorem nv_v {x : PV} : nv (.v x) := .inr ⟨x, rfl⟩
theorem no_nv {i : Nat} {q : Cell} (h : e[i]? = some q) (hq : nv q) : notOwn e i = true := by
  unfold notOwn
  rw [h]
  rcases hq with rfl | ⟨x, rfl⟩ <;> rfl
theorem no_cons {i : Nat} {is : List Nat} (h : notOwn e i = true) (hs : is.all (notOwn e) = true) : (i :: is).all (notOwn e) = true := by
  rw [List.all_cons, h, hs]; rfl
end
end Ev

set_option maxRecDepth 100000
/-! Sh4: statements. -/
namespace Ev
open PySem PySem.W L2
/-- one block behind another -/
def Ss.app : Ss → Ss → Ss
  | .nil, b => b
  | .cons s a, b => .cons s (a.app b)
inductive Out (ρ σ : Type) where
  | nx (s : σ) | br (s : σ) | ct (s : σ) | rt (v : ρ)
section
variable {α β γ σ ρ : Type} {c : Nat → List PV → Sto → R PV} {e e1 : Envr} {st st1 : Sto}
theorem then_app (ss : Ss) : ∀ (a : Ss) (e : Envr) (st : Sto), (exSs c a e st).then (fun e1 s1 => exSs c ss e1 s1) = exSs c (a.app ss) e st
  | .nil, e, st => rfl
  | .cons s a, e, st => by
    show ((exS c s e st).then fun e1 s1 => exSs c a e1 s1).then (fun e1 s1 => exSs c ss e1 s1) = (exS c s e st).then fun e1 s1 => exSs c (a.app ss) e1 s1
    cases h : exS c s e st with
    | nx e1 s1 => exact then_app ss a e1 s1
    | br _ _ => rfl
    | ct _ _ => rfl
    | rt _ _ => rfl
    | ex _ _ _ _ => rfl
    | bad => rfl
def Rt (v : PV) (s : Sto) (r : RS) : Prop := runB r = .ok v s
def NxP (Q : Envr → Sto → Prop) (r : RS) : Prop := ∃ e s, r = .nx e s ∧ Q e s
def OutP (Q : σ → Envr → Sto → Prop) (w : ρ → PV) (ws : ρ → Sto) : Out ρ σ → RS → Prop
  | .nx s, r => ∃ e st, r = .nx e st ∧ Q s e st
  | .br s, r => ∃ e st, r = .br e st ∧ Q s e st
  | .ct s, r => ∃ e st, r = .ct e st ∧ Q s e st
  | .rt v, r => r = .rt (w v) (ws v)
/-! ### steps -/
variable {P : RS → Prop} {ss : Ss} {a b d : E} {x y z : PV} {s1 s2 s3 : Sto} {u w : PyData}
theorem p_set {own : Bool} {i : Nat} (h : evE c a e st = .ok x s1) (hp : putC own i x e = some e1) (hk : P (exSs c ss e1 s1)) : P (exSs c (.cons (.set own i (.e a)) ss) e st) := by
  rw [x_cons, s_set, evA, h]
  show P ((match putC own i x e with
    | some e1 => RS.nx e1 s1
    | none => .bad).then fun e1 s1 => exSs c ss e1 s1)
  rw [hp]; exact hk
theorem p_par2 {o1 o2 : Bool} {i1 i2 : Nat} (ha : evE c a e st = .ok x s1) (hb : evE c b e s1 = .ok y s2) (hp : ((putC o1 i1 x e).bind fun e1 => putC o2 i2 y e1) = some e1) (hk : P (exSs c ss e1 s2)) : P (exSs c (.cons (.par2 o1 i1 o2 i2 a b) ss) e st) := by
  rw [x_cons, s_par2, ha]
  show P ((RS.ofR e (evE c b e s1) _).then _)
  rw [hb]
  show P ((match (putC o1 i1 x e).bind fun e1 => putC o2 i2 y e1 with
    | some e1 => RS.nx e1 s2
    | none => .bad).then fun e1 s1 => exSs c ss e1 s1)
  rw [hp]; exact hk
theorem p_par3 {o1 o2 o3 : Bool} {i1 i2 i3 : Nat} (ha : evE c a e st = .ok x s1) (hb : evE c b e s1 = .ok y s2) (hd : evE c d e s2 = .ok z s3) (hp : (((putC o1 i1 x e).bind fun e1 => putC o2 i2 y e1).bind fun e2 => putC o3 i3 z e2) = some e1) (hk : P (exSs c ss e1 s3)) : P (exSs c (.cons (.par3 o1 i1 o2 i2 o3 i3 a b d) ss) e st) := by
  rw [x_cons, s_par3, ha]
  show P ((RS.ofR e (evE c b e s1) _).then _)
  rw [hb]
  show P ((RS.ofR e (evE c d e s2) _).then _)
  rw [hd]
  show P ((match ((putC o1 i1 x e).bind fun e1 => putC o2 i2 y e1).bind fun e2 => putC o3 i3 z e2 with
    | some e1 => RS.nx e1 s3
    | none => .bad).then fun e1 s1 => exSs c ss e1 s1)
  rw [hp]; exact hk
theorem p_asg {g : G} (h : evE c a e st = .ok x s1) (hp : ((asD x).bind fun d => asg e g d) = some e1) (hk : P (exSs c ss e1 s1)) : P (exSs c (.cons (.asg g a) ss) e st) := by
  rw [x_cons, s_asg, h]
  show P ((match (asD x).bind fun d => asg e g d with
    | some e1 => RS.nx e1 s1
    | none => .bad).then fun e1 s1 => exSs c ss e1 s1)
  rw [hp]; exact hk
theorem p_app {f : α → PyData} {i : Nat} {l m : List α} {t : α} (h : evE c a e st = .ok x s1) (hx : asD x = some (f t)) (he : e[i]? = some (.own (eL f l))) (hl : pushO l t = some m) (hp : e.set i (.own (eL f m)) = e1) (hk : P (exSs c ss e1 s1)) : P (exSs c (.cons (.app i (.e a)) ss) e st) := by
  rw [x_cons, s_app, evA, h]
  show P ((match asD x, e[i]? with
    | some d, some (.own (.list ds)) => if ds.length < sizeLine then RS.nx (e.set i (.own (.list (ds ++ [d])))) s1 else .bad
    | _, _ => .bad).then fun e1 s1 => exSs c ss e1 s1)
  rw [hx, he]
  show P ((if (l.map f).length < sizeLine then RS.nx (e.set i (.own (.list (l.map f ++ [f t])))) s1 else .bad).then fun e1 s1 => exSs c ss e1 s1)
  rw [List.length_map]
  unfold pushO at hl
  split at hl
  case isFalse => cases hl
  case isTrue q =>
  rw [if_pos q]
  cases hl
  rw [eL, List.map_append] at hp
  subst hp
  exact hk
theorem p_ext {f : α → PyData} {i : Nat} {l m n : List α} (h : evE c a e st = .ok (.fre (eL f m)) s1) (he : e[i]? = some (.own (eL f l))) (hl : appO l m = some n) (hp : e.set i (.own (eL f n)) = e1) (hk : P (exSs c ss e1 s1)) : P (exSs c (.cons (.ext i a) ss) e st) := by
  rw [x_cons, s_ext, h]
  show P ((match e[i]?, PV.fre (eL f m) with
    | some (.own (.list xs)), .fre (.list ys) => if xs.length + ys.length ≤ sizeLine then RS.nx (e.set i (.own (.list (xs ++ ys)))) s1 else .bad
    | _, _ => .bad).then fun e1 s1 => exSs c ss e1 s1)
  rw [he]
  show P ((if (l.map f).length + (m.map f).length ≤ sizeLine then RS.nx (e.set i (.own (.list (l.map f ++ m.map f)))) s1 else .bad).then fun e1 s1 => exSs c ss e1 s1)
  rw [List.length_map, List.length_map]
  unfold appO at hl
  split at hl
  case isFalse => cases hl
  case isTrue q =>
  rw [if_pos q]
  cases hl
  rw [eL, List.map_append] at hp
  subst hp
  exact hk
theorem setD_L {f : α → PyData} {l m : List α} {i : Int} {t : α} (h : setO l i t = some m) : setD (eL f l) (.int i) (f t) = some (eL f m) := by
  show (ixN (l.map f).length i).map (fun n => PyData.list ((l.map f).set n (f t))) = _
  unfold setO at h
  rw [List.length_map]
  obtain ⟨n, hn, rfl⟩ := Option.map_eq_some_iff.mp h
  rw [hn, Option.map_some, eL, List.map_set]
theorem p_setO {i : Nat} {v v1 d1 : PyData} (h : evE c b e st = .ok x s1) (hb : evE c a e s1 = .ok y s2) (he : e[i]? = some (.own v)) (hx : asD x = some d1) (hy : rd y s2 = some w) (hs : setD v w d1 = some v1) (hp : e.set i (.own v1) = e1) (hk : P (exSs c ss e1 s2)) : P (exSs c (.cons (.setO i a b) ss) e st) := by
  rw [x_cons, s_setO, h]
  show P ((RS.ofR e (evE c a e s1) _).then _)
  rw [hb]
  show P ((match e[i]?, asD x, rd y s2 with
    | some (.own x), some d, some w => match setD x w d with
      | some x' => RS.nx (e.set i (.own x')) s2
      | none => .bad
    | _, _, _ => .bad).then fun e1 s1 => exSs c ss e1 s1)
  rw [he, hx, hy]
  show P ((match setD v w d1 with
      | some x' => RS.nx (e.set i (.own x')) s2
      | none => .bad).then fun e1 s1 => exSs c ss e1 s1)
  rw [hs]
  subst hp
  exact hk
theorem p_augO {i : Nat} {o : Op2} {v v1 z1 r u1 : PyData} (h : evE c a e st = .ok (.d w) s1) (he : e[i]? = some (.own v)) (hz : ixD v w = some z1) (hb : evE c b e s1 = .ok x s2) (hx : rd x s2 = some u1) (hr : augD o z1 u1 = some r) (hs : setD v w r = some v1) (hp : e.set i (.own v1) = e1) (hk : P (exSs c ss e1 s2)) : P (exSs c (.cons (.augO i a o b) ss) e st) := by
  rw [x_cons, s_augO, h]
  show P ((match e[i]?, PV.d w with
    | some (.own x), .d w => match ixD x w with
      | some z => RS.ofR e (evE c b e s1) fun v s2 => match (rd v s2).bind fun u => augD o z u with
        | some r => match setD x w r with
          | some x' => .nx (e.set i (.own x')) s2
          | none => .bad
        | none => .bad
      | none => .bad
    | _, _ => .bad).then fun e1 s1 => exSs c ss e1 s1)
  rw [he]
  show P ((match ixD v w with
      | some z => RS.ofR e (evE c b e s1) fun v2 s2 => match (rd v2 s2).bind fun u => augD o z u with
        | some r => match setD v w r with
          | some x' => .nx (e.set i (.own x')) s2
          | none => .bad
        | none => .bad
      | none => .bad).then fun e1 s1 => exSs c ss e1 s1)
  rw [hz]
  show P ((RS.ofR e (evE c b e s1) _).then _)
  rw [hb]
  show P ((match (rd x s2).bind fun u => augD o z1 u with
        | some r => match setD v w r with
          | some x' => RS.nx (e.set i (.own x')) s2
          | none => .bad
        | none => .bad).then fun e1 s1 => exSs c ss e1 s1)
  rw [hx]
  show P ((match augD o z1 u1 with
        | some r => match setD v w r with
          | some x' => RS.nx (e.set i (.own x')) s2
          | none => .bad
        | none => .bad).then fun e1 s1 => exSs c ss e1 s1)
  rw [hr]
  show P ((match setD v w r with
          | some x' => RS.nx (e.set i (.own x')) s2
          | none => .bad).then fun e1 s1 => exSs c ss e1 s1)
  rw [hs]
  subst hp
  exact hk
theorem p_aug {i : Nat} {o : Op2} {v r u1 : PyData} (he : e[i]? = some (.v (.d v))) (hb : evE c b e st = .ok x s2) (hx : rd x s2 = some u1) (hr : augD o v u1 = some r) (hp : e.set i (.v (.d r)) = e1) (hk : P (exSs c ss e1 s2)) : P (exSs c (.cons (.aug i o b) ss) e st) := by
  rw [x_cons, s_aug, he]
  show P ((RS.ofR e (evE c b e st) _).then _)
  rw [hb]
  show P ((match (rd x s2).bind fun u => augD o v u with
      | some r => RS.nx (e.set i (.v (.d r))) s2
      | none => .bad).then fun e1 s1 => exSs c ss e1 s1)
  rw [hx]
  show P ((match augD o v u1 with
      | some r => RS.nx (e.set i (.v (.d r))) s2
      | none => .bad).then fun e1 s1 => exSs c ss e1 s1)
  rw [hr]
  subst hp
  exact hk
theorem a_mul {i j k : Int} (h : mulO i j = some k) : augD .mul (.int i) (.int j) = some (.int k) := by
  unfold mulO at h
  show (if mulOk i j = true then some (PyData.int (i * j)) else none) = _
  split at h
  · rw [if_pos (by assumption), Option.some.inj h]
  · cases h
theorem p_frz {i : Nat} {v : PyData} (he : e[i]? = some (.own v)) (hp : e.set i (.v (.d v)) = e1) (hk : P (exSs c ss e1 st)) : P (exSs c (.cons (.frz i) ss) e st) := by
  rw [x_cons, s_frz, he]
  subst hp
  exact hk
theorem p_ret (h : evE c a e st = .ok x s1) (hx : asR x = some y) (hk : P (.rt y s1)) : P (exSs c (.cons (.ret a) ss) e st) := by
  rw [x_cons, s_ret, h]
  show P ((match asR x with
    | some y => RS.rt y s1
    | none => .bad).then fun e1 s1 => exSs c ss e1 s1)
  rw [hx]; exact hk
theorem p_retN (hk : P (.rt (.d .none) st)) : P (exSs c (.cons .retN ss) e st) := hk
theorem p_nil (hk : P (.nx e st)) : P (exSs c .nil e st) := hk
theorem p_brk (hk : P (.br e st)) : P (exSs c (.cons .brk ss) e st) := hk
theorem p_cont (hk : P (.ct e st)) : P (exSs c (.cons .cont ss) e st) := hk
theorem p_do (h : evE c a e st = .ok x s1) (hk : P (exSs c ss e s1)) : P (exSs c (.cons (.ex (.e a)) ss) e st) := by
  rw [x_cons, s_ex, evA, h]
  exact hk
theorem p_if {A B : Ss} {t : Bool} (h : evE c a e st = .ok (.d (.bool t)) s1) (ht : t = true → P (exSs c (A.app ss) e s1)) (hf : t = false → P (exSs c (B.app ss) e s1)) : P (exSs c (.cons (.ife a A B) ss) e st) := by
  rw [x_cons, s_ife, h]
  cases t with
  | true =>
    show P ((exSs c A e s1).then fun e1 s1 => exSs c ss e1 s1)
    rw [then_app]; exact ht rfl
  | false =>
    show P ((exSs c B e s1).then fun e1 s1 => exSs c ss e1 s1)
    rw [then_app]; exact hf rfl
theorem p_step {Q : Envr → Sto → Prop} {s : S} (h : NxP Q (exS c s e st)) (hk : ∀ e1 s1, Q e1 s1 → P (exSs c ss e1 s1)) : P (exSs c (.cons s ss) e st) := by
  obtain ⟨e1, s1, h1, h2⟩ := h
  rw [x_cons, h1]
  exact hk e1 s1 h2
theorem n_if {Q : Envr → Sto → Prop} {A B : Ss} {t : Bool} (h : evE c a e st = .ok (.d (.bool t)) s1) (ht : t = true → NxP Q (exSs c A e s1)) (hf : t = false → NxP Q (exSs c B e s1)) : NxP Q (exS c (.ife a A B) e st) := by
  rw [s_ife, h]
  cases t with
  | true => exact ht rfl
  | false => exact hf rfl
theorem n_nx {Q : Envr → Sto → Prop} (h : Q e st) : NxP Q (.nx e st) := ⟨e, st, rfl, h⟩
/-! ### loops -/
def foldO (F : σ → α → Option σ) : List α → σ → Option σ
  | [], s => some s
  | a :: l, s => (F s a).bind (foldO F l)
def forO (F : σ → α → Option (Out ρ σ)) : List α → σ → Option (ρ ⊕ σ)
  | [], s => some (.inr s)
  | a :: l, s => (F s a).bind fun o => match o with
    | .nx s => forO F l s
    | .ct s => forO F l s
    | .br s => some (.inr s)
    | .rt v => some (.inl v)
def whlO (C : σ → Option Bool) (F : σ → Option σ) : Nat → σ → Option σ
  | 0, _ => none
  | n + 1, s => (C s).bind fun t => if t = true then (F s).bind (whlO C F n) else some s
def whlX (C : σ → Option Bool) (F : σ → Option (Out ρ σ)) : Nat → σ → Option (ρ ⊕ σ)
  | 0, _ => none
  | n + 1, s => (C s).bind fun t => if t = true then (F s).bind fun o => match o with
    | .nx s => whlX C F n s
    | .ct s => whlX C F n s
    | .br s => some (.inr s)
    | .rt v => some (.inl v) else some (.inr s)
variable {g : G} {it : It} {B : Ss} {enc : α → PyData} {Q : σ → Envr → Sto → Prop}
theorem forL_fold {F : σ → α → Option σ} {b : Envr → Sto → RS} (h : ∀ s a e st s', Q s e st → F s a = some s' → ∃ e1, asg e g (enc a) = some e1 ∧ NxP (Q s') (b e1 st)) :
    ∀ (l : List α) (s : σ) (e : Envr) (st : Sto) (s' : σ), Q s e st → foldO F l s = some s' → NxP (Q s') (forL b g (l.map enc) e st)
  | [], s, e, st, s', hq, hf => by
    cases hf
    exact ⟨e, st, rfl, hq⟩
  | a :: l, s, e, st, s', hq, hf => by
    rw [foldO] at hf
    obtain ⟨s1, h1, hf⟩ := ob hf
    obtain ⟨e1, h2, e2, st2, h3, h4⟩ := h s a e st s1 hq h1
    rw [List.map_cons, forL, h2]
    show NxP (Q s') (match b e1 st with
      | .nx e2 s2 => forL b g (l.map enc) e2 s2
      | .ct e2 s2 => forL b g (l.map enc) e2 s2
      | .br e2 s2 => .nx e2 s2
      | r => r)
    rw [h3]
    exact forL_fold h l s1 e2 st2 s' h4 hf
theorem n_for {F : σ → α → Option σ} {l : List α} {s s' : σ} (hI : evI c it false e st = .ok (l.map enc) s1) (hf : foldO F l s = some s') (h0 : Q s e s1) (h : ∀ s a e st s', Q s e st → F s a = some s' → ∃ e1, asg e g (enc a) = some e1 ∧ NxP (Q s') (exSs c B e1 st)) : NxP (Q s') (exS c (.for_ g it B) e st) := by
  rw [s_for, hI]
  exact forL_fold h l s e s1 s' h0 hf
def EndP (Q : σ → Envr → Sto → Prop) (w : ρ → PV) (ws : ρ → Sto) : ρ ⊕ σ → RS → Prop
  | .inr s, r => ∃ e st, r = .nx e st ∧ Q s e st
  | .inl v, r => r = .rt (w v) (ws v)
theorem forL_out {F : σ → α → Option (Out ρ σ)} {w : ρ → PV} {ws : ρ → Sto} {b : Envr → Sto → RS} (h : ∀ s a e st o, Q s e st → F s a = some o → ∃ e1, asg e g (enc a) = some e1 ∧ OutP Q w ws o (b e1 st)) :
    ∀ (l : List α) (s : σ) (e : Envr) (st : Sto) (r : ρ ⊕ σ), Q s e st → forO F l s = some r → EndP Q w ws r (forL b g (l.map enc) e st)
  | [], s, e, st, r, hq, hf => by
    cases hf
    exact ⟨e, st, rfl, hq⟩
  | a :: l, s, e, st, r, hq, hf => by
    rw [forO] at hf
    obtain ⟨o, h1, hf⟩ := ob hf
    obtain ⟨e1, h2, h3⟩ := h s a e st o hq h1
    rw [List.map_cons, forL, h2]
    show EndP Q w ws r (match b e1 st with
      | .nx e2 s2 => forL b g (l.map enc) e2 s2
      | .ct e2 s2 => forL b g (l.map enc) e2 s2
      | .br e2 s2 => .nx e2 s2
      | r => r)
    cases o with
    | nx s1 =>
      obtain ⟨e2, st2, h4, h5⟩ := h3
      rw [h4]
      exact forL_out h l s1 e2 st2 r h5 hf
    | ct s1 =>
      obtain ⟨e2, st2, h4, h5⟩ := h3
      rw [h4]
      exact forL_out h l s1 e2 st2 r h5 hf
    | br s1 =>
      obtain ⟨e2, st2, h4, h5⟩ := h3
      rw [h4]
      cases hf
      exact ⟨e2, st2, rfl, h5⟩
    | rt v =>
      have h4 : b e1 st = .rt (w v) (ws v) := h3
      rw [h4]
      cases hf
      rfl
theorem p_end {w : ρ → PV} {ws : ρ → Sto} {s : S} {r : ρ ⊕ σ} (h : EndP Q w ws r (exS c s e st)) (hr : ∀ v, r = .inl v → P (.rt (w v) (ws v))) (hk : ∀ s', r = .inr s' → ∀ e1 s1, Q s' e1 s1 → P (exSs c ss e1 s1)) : P (exSs c (.cons s ss) e st) := by
  cases r with
  | inl v =>
    have h4 : exS c s e st = .rt (w v) (ws v) := h
    rw [x_cons, h4]
    exact hr v rfl
  | inr s' =>
    obtain ⟨e1, s1, h1, h2⟩ := h
    rw [x_cons, h1]
    exact hk s' rfl e1 s1 h2
theorem e_for {F : σ → α → Option (Out ρ σ)} {w : ρ → PV} {ws : ρ → Sto} {l : List α} {s : σ} {r : ρ ⊕ σ} (hI : evI c it false e st = .ok (l.map enc) s1) (hf : forO F l s = some r) (h0 : Q s e s1) (h : ∀ s a e st o, Q s e st → F s a = some o → ∃ e1, asg e g (enc a) = some e1 ∧ OutP Q w ws o (exSs c B e1 st)) : EndP Q w ws r (exS c (.for_ g it B) e st) := by
  rw [s_for, hI]
  exact forL_out h l s e s1 r h0 hf
theorem n_whl {C : σ → Option Bool} {F : σ → Option σ} {t : E} (hC : ∀ s e st k, Q s e st → C s = some k → ∃ st1, evE c t e st = .ok (.d (.bool k)) st1 ∧ Q s e st1) (hB : ∀ s e st s', Q s e st → F s = some s' → NxP (Q s') (exSs c B e st)) :
    ∀ (n : Nat) (s : σ) (e : Envr) (st : Sto) (s' : σ), Q s e st → whlO C F n s = some s' → NxP (Q s') (exS c (.whl n t B) e st)
  | 0, s, e, st, s', _, hf => by cases hf
  | n + 1, s, e, st, s', hq, hf => by
    rw [whlO] at hf
    obtain ⟨k, h1, hf⟩ := ob hf
    obtain ⟨st1, h2, h3⟩ := hC s e st k hq h1
    rw [s_whl, whlL, h2]
    cases k with
    | false =>
      rw [if_neg (by simp)] at hf
      cases hf
      exact ⟨e, st1, rfl, h3⟩
    | true =>
      rw [if_pos rfl] at hf
      obtain ⟨s2, h4, hf⟩ := ob hf
      obtain ⟨e2, st2, h5, h6⟩ := hB s e st1 s2 h3 h4
      have ih := n_whl hC hB n s2 e2 st2 s' h6 hf
      rw [s_whl] at ih
      show NxP (Q s') (match exSs c B e st1 with
        | .nx e2 s2 => whlL (evE c t) (exSs c B) n e2 s2
        | .ct e2 s2 => whlL (evE c t) (exSs c B) n e2 s2
        | .br e2 s2 => .nx e2 s2
        | r => r)
      rw [h5]
      exact ih
theorem e_whl {C : σ → Option Bool} {F : σ → Option (Out ρ σ)} {w : ρ → PV} {ws : ρ → Sto} {t : E} (hC : ∀ s e st k, Q s e st → C s = some k → ∃ st1, evE c t e st = .ok (.d (.bool k)) st1 ∧ Q s e st1) (hB : ∀ s e st o, Q s e st → F s = some o → OutP Q w ws o (exSs c B e st)) :
    ∀ (n : Nat) (s : σ) (e : Envr) (st : Sto) (r : ρ ⊕ σ), Q s e st → whlX C F n s = some r → EndP Q w ws r (exS c (.whl n t B) e st)
  | 0, s, e, st, r, _, hf => by cases hf
  | n + 1, s, e, st, r, hq, hf => by
    rw [whlX] at hf
    obtain ⟨k, h1, hf⟩ := ob hf
    obtain ⟨st1, h2, h3⟩ := hC s e st k hq h1
    rw [s_whl, whlL, h2]
    cases k with
    | false =>
      rw [if_neg (by simp)] at hf
      cases hf
      exact ⟨e, st1, rfl, h3⟩
    | true =>
      rw [if_pos rfl] at hf
      obtain ⟨o, h4, hf⟩ := ob hf
      have h5 := hB s e st1 o h3 h4
      show EndP Q w ws r (match exSs c B e st1 with
        | .nx e2 s2 => whlL (evE c t) (exSs c B) n e2 s2
        | .ct e2 s2 => whlL (evE c t) (exSs c B) n e2 s2
        | .br e2 s2 => .nx e2 s2
        | r => r)
      cases o with
      | nx s2 =>
        obtain ⟨e2, st2, h6, h7⟩ := h5
        have ih := e_whl hC hB n s2 e2 st2 r h7 hf
        rw [s_whl] at ih
        rw [h6]
        exact ih
      | ct s2 =>
        obtain ⟨e2, st2, h6, h7⟩ := h5
        have ih := e_whl hC hB n s2 e2 st2 r h7 hf
        rw [s_whl] at ih
        rw [h6]
        exact ih
      | br s2 =>
        obtain ⟨e2, st2, h6, h7⟩ := h5
        rw [h6]
        cases hf
        exact ⟨e2, st2, rfl, h7⟩
      | rt v =>
        have h6 : exSs c B e st1 = .rt (w v) (ws v) := h5
        rw [h6]
        cases hf
        rfl
theorem c_run {ds : List Fd} {k n np : Nat} {nm : Str} {sm : Stmt} {N : List Str} {b : Ss} {args : List PV} {v : PV} {s : Sto} (h : ds[n]? = some ⟨nm, sm, N, np, b⟩) (hl : args.length = np) (hr : Rt v s (exSs (callL ds k) b (inC N.length args) st)) : callL ds (k + 1) n args st = .ok v s := by
  rw [callL_at h hl]
  exact hr
end
end Ev

set_option maxRecDepth 100000
/-! Sh5: dicts. -/
namespace Ev
open PySem PySem.W L2
section
variable {α β γ κ τ : Type} {c : Nat → List PV → Sto → R PV} {e : Envr} {st s1 s2 s3 : Sto} {a b d : E} {x y z r : PV} {u w : PyData}
/-- a dict's key -/
class Kc {κ : Type} (f : κ → PyData) where
  key : κ → DKey
  dk : ∀ a, dKey (f a) = some (key a)
  inj : ∀ a b, key a = key b → a = b
  tp : Bool
  tup : ∀ a, (key a).tup = tp
instance : Kc eI where
  key i := .k (.inl i)
  dk _ := rfl
  inj a b h := by injection h with h; injection h
  tp := false
  tup _ := rfl
instance : Kc eS where
  key i := .k (.inr i)
  dk _ := rfl
  inj a b h := by injection h with h; injection h
  tp := false
  tup _ := rfl
/-- a plain key -/
class Kq {κ : Type} (f : κ → PyData) where
  key : κ → Key
  dk : ∀ a, toKey (f a) = some (key a)
  inj : ∀ a b, key a = key b → a = b
instance : Kq eI where
  key i := .inl i
  dk _ := rfl
  inj a b h := by injection h
instance : Kq eS where
  key i := .inr i
  dk _ := rfl
  inj a b h := by injection h
theorem toKeys_q {f : κ → PyData} [Kq f] : ∀ l : List κ, toKeys (l.map f) = some (l.map (Kq.key f))
  | [] => rfl
  | a :: l => by rw [List.map_cons, toKeys, Kq.dk, Option.bind_some, toKeys_q l]; rfl
theorem map_inj {f : κ → τ} (h : ∀ a b, f a = f b → a = b) : ∀ l m : List κ, l.map f = m.map f → l = m
  | [], [], _ => rfl
  | [], _ :: _, q => by cases q
  | _ :: _, [], q => by cases q
  | a :: l, b :: m, q => by
    rw [List.map_cons, List.map_cons] at q
    injection q with q1 q2
    rw [h a b q1, map_inj h l m q2]
instance {f : κ → PyData} [Kq f] : Kc (eT f) where
  key l := .t (l.map (Kq.key f))
  dk l := by
    show (toKeys (l.map f)).map DKey.t = _
    rw [toKeys_q]; rfl
  inj a b h := by injection h with h; exact map_inj Kq.inj a b h
  tp := true
  tup _ := rfl
instance {f : α → PyData} {g : β → PyData} [Kq f] [Kq g] : Kc (eP f g) where
  key p := .t [Kq.key f p.1, Kq.key g p.2]
  dk p := by
    show (toKeys [f p.1, g p.2]).map DKey.t = _
    rw [toKeys, Kq.dk, Option.bind_some, toKeys, Kq.dk]; rfl
  inj a b h := by
    injection h with h
    injection h with h1 h2
    injection h2 with h2
    exact Prod.ext (Kq.inj _ _ h1) (Kq.inj _ _ h2)
  tp := true
  tup _ := rfl
variable [DecidableEq κ]
def dgetT (l : List (κ × τ)) (k : κ) : Option τ := (l.find? fun p => decide (p.1 = k)).map (·.2)
def dhas (l : List (κ × τ)) (k : κ) : Bool := l.any fun p => decide (p.1 = k)
def dputT (l : List (κ × τ)) (k : κ) (v : τ) : List (κ × τ) := if dhas l k = true then l.map fun p => if p.1 = k then (p.1, v) else p else l ++ [(k, v)]
def dputO (l : List (κ × τ)) (k : κ) (v : τ) : Option (List (κ × τ)) := if l.length < sizeLine then some (dputT l k v) else none
variable {f : κ → PyData} {g : τ → PyData}
theorem kEq_T [Kc f] (k j : κ) : kEq (Kc.key f k) (f j) = decide (j = k) := by
  unfold kEq
  rw [Kc.dk]
  exact decide_eq_decide.mpr ⟨fun h => Kc.inj (f := f) _ _ (Option.some.inj h), fun h => by rw [h]⟩
theorem kOk_T [Kc f] (k : κ) (l : List (κ × τ)) : kOk (Kc.key f k) (l.map fun p => (f p.1, g p.2)) = true := by
  unfold kOk
  rw [List.all_eq_true]
  intro p hp
  obtain ⟨q, _, rfl⟩ := List.mem_map.mp hp
  dsimp only
  rw [Kc.dk]
  show ((Kc.key f q.1).tup == (Kc.key f k).tup) = true
  rw [Kc.tup, Kc.tup]
  exact beq_self_eq_true _
theorem getD_T [Kc f] (k : κ) : ∀ l : List (κ × τ), getD? (Kc.key f k) (l.map fun p => (f p.1, g p.2)) = (dgetT l k).map g
  | [] => rfl
  | p :: l => by
    have ih := getD_T k l
    unfold getD? dgetT at ih ⊢
    rw [List.map_cons, List.find?_cons, List.find?_cons]
    dsimp only
    rw [kEq_T]
    cases decide (p.1 = k) with
    | true => rfl
    | false => exact ih
theorem has_T [Kc f] (g : τ → PyData) (k : κ) : ∀ l : List (κ × τ), ((l.map fun p => (f p.1, g p.2)).any fun p => kEq (Kc.key f k) p.1) = dhas l k
  | [] => rfl
  | p :: l => by
    have ih := has_T g k l
    unfold dhas at ih ⊢
    rw [List.map_cons, List.any_cons, List.any_cons, ih]
    dsimp only
    rw [kEq_T]
theorem put_T [Kc f] (k : κ) (v : τ) (l : List (κ × τ)) : putD (Kc.key f k) (f k) (g v) (l.map fun p => (f p.1, g p.2)) = (dputT l k v).map fun p => (f p.1, g p.2) := by
  unfold putD dputT
  rw [has_T]
  split
  · rw [List.map_map, List.map_map]
    apply List.map_congr_left
    intro p _
    simp only [Function.comp_def]
    rw [kEq_T]
    by_cases h : p.1 = k
    · rw [decide_eq_true h, if_pos rfl, if_pos h]
    · rw [decide_eq_false h, if_neg (by simp), if_neg h]
  · rw [List.map_append]; rfl
theorem i_atD [Kc f] {l : List (κ × τ)} {k : κ} {v : τ} (h : dgetT l k = some v) : ixD (eD f g l) (f k) = some (g v) := by
  show (dKey (f k)).bind (fun k => if kOk k (l.map fun p => (f p.1, g p.2)) = true then getD? k (l.map fun p => (f p.1, g p.2)) else none) = _
  rw [Kc.dk, Option.bind_some, kOk_T, if_pos rfl, getD_T, h]; rfl
theorem setD_D [Kc f] {l m : List (κ × τ)} {k : κ} {v : τ} (h : dputO l k v = some m) : setD (eD f g l) (f k) (g v) = some (eD f g m) := by
  show (dKey (f k)).bind (fun j => if (kOk j (l.map fun p => (f p.1, g p.2)) && decide ((l.map fun p => (f p.1, g p.2)).length < sizeLine)) = true then some (PyData.dict (putD j (f k) (g v) (l.map fun p => (f p.1, g p.2)))) else none) = _
  unfold dputO at h
  split at h
  case isFalse => cases h
  case isTrue q =>
  rw [Kc.dk, Option.bind_some, kOk_T, List.length_map, decide_eq_true q, if_pos (by rfl), put_T, Option.some.inj h]; rfl
theorem c_inD [Kc f] (k : κ) (l : List (κ × τ)) : cmpD .in_ (f k) (eD f g l) = some (dhas l k) := by
  show (dKey (f k)).bind (fun j => if kOk j (l.map fun p => (f p.1, g p.2)) = true then some ((l.map fun p => (f p.1, g p.2)).any fun p => kEq j p.1) else none) = _
  rw [Kc.dk, Option.bind_some, kOk_T, if_pos rfl, has_T]
theorem c_notinD [Kc f] (k : κ) (l : List (κ × τ)) : cmpD .notin (f k) (eD f g l) = some (!dhas l k) := by
  show (inD (f k) (eD f g l)).map not = _
  have := c_inD (f := f) (g := g) k l
  rw [show cmpD .in_ (f k) (eD f g l) = inD (f k) (eD f g l) from rfl] at this
  rw [this]; rfl
theorem getDD_T [Kc f] (k : κ) (l : List (κ × τ)) (v : τ) : getDD (eD f g l) (f k) (g v) = some (g ((dgetT l k).getD v)) := by
  show (dKey (f k)).bind (fun j => if kOk j (l.map fun p => (f p.1, g p.2)) = true then some ((getD? j (l.map fun p => (f p.1, g p.2))).getD (g v)) else none) = _
  rw [Kc.dk, Option.bind_some, kOk_T, if_pos rfl, getD_T]
  cases dgetT l k <;> rfl
theorem getDD_N [Kc f] (k : κ) (l : List (κ × τ)) : getDD (eD f g l) (f k) .none = some (eO g (dgetT l k)) := by
  show (dKey (f k)).bind (fun j => if kOk j (l.map fun p => (f p.1, g p.2)) = true then some ((getD? j (l.map fun p => (f p.1, g p.2))).getD .none) else none) = _
  rw [Kc.dk, Option.bind_some, kOk_T, if_pos rfl, getD_T]
  cases dgetT l k <;> rfl
theorem v_get2 [Kc f] {l : List (κ × τ)} {k : κ} {v : τ} (ha : evE c a e st = .ok x s1) (hx : rd x s1 = some (eD f g l)) (hb : evE c b e s1 = .ok y s1) (hd : evE c d e s1 = .ok z s1) (hy : rd y s1 = some (f k)) (hz : asD z = some (g v)) : evE c (.get2 a b d) e st = .ok (.d (g ((dgetT l k).getD v))) s1 := by
  rw [e_get2, ha]
  show (if isTab (rd x s1) = true then (evE c b e s1).bind fun y s2 => (evE c d e s2).bind fun v s3 => match asD v with
    | some b => R.opt ((rd x s3).bind fun u => (rd y s3).bind fun w => (getDD u w b).map PV.d) s3
    | none => .bad else .bad) = _
  have hT : isTab (rd x s1) = true := by rw [hx]; rfl
  rw [if_pos hT, hb]
  show R.bind (evE c d e s1) _ = _
  rw [hd]
  show (match asD z with
    | some b => R.opt ((rd x s1).bind fun u => (rd y s1).bind fun w => (getDD u w b).map PV.d) s1
    | none => .bad) = _
  rw [hz, hx, hy]
  show R.opt ((getDD (eD f g l) (f k) (g v)).map PV.d) s1 = _
  rw [getDD_T]; rfl
theorem v_get1 [Kc f] {l : List (κ × τ)} {k : κ} (ha : evE c a e st = .ok x s1) (hx : rd x s1 = some (eD f g l)) (hb : evE c b e s1 = .ok y s1) (hy : rd y s1 = some (f k)) : evE c (.get1 a b) e st = .ok (.d (eO g (dgetT l k))) s1 := by
  rw [e_get1, ha]
  show (if isTab (rd x s1) = true then (evE c b e s1).bind fun y s2 => R.opt ((rd x s2).bind fun u => (rd y s2).bind fun w => (getDD u w .none).map PV.d) s2 else .bad) = _
  have hT : isTab (rd x s1) = true := by rw [hx]; rfl
  rw [if_pos hT, hb]
  show R.opt ((rd x s1).bind fun u => (rd y s1).bind fun w => (getDD u w .none).map PV.d) s1 = _
  rw [hx, hy]
  show R.opt ((getDD (eD f g l) (f k) .none).map PV.d) s1 = _
  rw [getDD_N]; rfl
/-- {key: value}, the key a tuple -/
theorem v_dsp [Kc f] {k : κ} {v : τ} (ha : evE c a e st = .ok x s1) (hb : evE c b e s1 = .ok y s2) (hx : asD x = some (f k)) (hy : asD y = some (g v)) (ht : Kc.tp f = true) : evE c (.dsp true a b) e st = .ok (.fre (eD f g [(k, v)])) s2 := by
  rw [e_dsp, ha]
  show R.bind (evE c b e s1) _ = _
  rw [hb]
  show (match asD x, asD y with
    | some a, some b => match dKey a with
      | some j => if j.tup = true then R.ok (PV.fre (.dict [(a, b)])) s2 else .bad
      | none => .bad
    | _, _ => .bad) = _
  rw [hx, hy]
  show (match dKey (f k) with
      | some j => if j.tup = true then R.ok (PV.fre (.dict [(f k, g v)])) s2 else .bad
      | none => .bad) = _
  rw [Kc.dk]
  show (if (Kc.key f k).tup = true then R.ok (PV.fre (.dict [(f k, g v)])) s2 else .bad) = _
  rw [Kc.tup, if_pos ht]; rfl
theorem v_keep (ha : evE c a e st = .ok (.fre (eD f g l)) s1) : evE c (.keep a) e st = .ok (.d (eD f g l)) s1 := by
  rw [e_keep, ha]; rfl
/-! ### comprehensions of a dict -/
def dpF (c : Nat → List PV → Sto → R PV) (e : Envr) (own : List Nat) (g : G) (ts : Es) (k y : E) : PyData → Sto → R (Option (PyData × PyData)) := fun x s => match asg (wipeC e own) g x with
        | some e1 => (noEx (evTs c ts e1 s)).bind fun b s2 => if b then (noEx (evE c k e1 s2)).bind fun u s3 => (noEx (evE c y e1 s3)).bind fun v s4 => match asD u, asD v with
          | some a, some b => .ok (some (a, b)) s4
          | _, _ => .bad
          else .ok none s2
        | none => .bad
theorem v_dcR {own : List Nat} {gt : G} {it : It} {ts : Es} {k y : E} {xs : List PyData} {ys : Tb} (hn : own.all (notOwn e) = true) (hI : evI c it true e st = .ok xs s1) (h : dpL (dpF c e own gt ts k y) xs s1 [] = .ok ys s2) : evE c (.dcp own gt it ts k y) e st = .ok (.fre (.dict ys)) s2 := by
  rw [e_dcp, if_pos hn, hI]
  show R.bind (dpL (dpF c e own gt ts k y) xs s1 []) _ = _
  rw [h]
  rfl
/-- a dict that is made, item by item -/
def dcO (T : α → Option Bool) (Y : α → Option (κ × τ)) : List α → List (κ × τ) → Option (List (κ × τ))
  | [], acc => some acc
  | a :: l, acc => (T a).bind fun t => if t = true then (Y a).bind fun p => (dputO acc p.1 p.2).bind (dcO T Y l) else dcO T Y l acc
theorem Kp_Kc [Kq f] [Kc f] (k : κ) : toKey (f k) = some (Kq.key f k) := Kq.dk k
theorem dpL_T {h : α → PyData} {F : PyData → Sto → R (Option (PyData × PyData))} [Kq f] [Kc f] (hk : ∀ k, Kc.key f k = .k (Kq.key f k)) {T : α → Option Bool} {Y : α → Option (κ × τ)} : ∀ {l : List α} {acc m : List (κ × τ)}, (∀ a t, T a = some t → (t = false → F (h a) st = .ok none st) ∧ (t = true → ∀ v, Y a = some v → F (h a) st = .ok (some (f v.1, g v.2)) st)) → dcO T Y l acc = some m → dpL F (l.map h) st (acc.map fun p => (f p.1, g p.2)) = .ok (m.map fun p => (f p.1, g p.2)) st
  | [], acc, m, _, q => by cases q; rfl
  | a :: l, acc, m, hF, q => by
    rw [dcO] at q
    obtain ⟨t, ht, q⟩ := ob q
    obtain ⟨h1, h2⟩ := hF a t ht
    rw [List.map_cons, dpL]
    cases t with
    | false =>
      rw [if_neg (by simp)] at q
      rw [h1 rfl]
      exact dpL_T hk hF q
    | true =>
      rw [if_pos rfl] at q
      obtain ⟨v, hv, q⟩ := ob q
      obtain ⟨m', hm, q⟩ := ob q
      rw [h2 rfl v hv]
      show (match toKey (f v.1) with
      | some k => if (acc.map fun p : κ × τ => (f p.1, g p.2)).length < sizeLine then dpL F (l.map h) st (putD (.k k) (f v.1) (g v.2) (acc.map fun p : κ × τ => (f p.1, g p.2))) else .bad
      | none => .bad) = _
      rw [Kq.dk]
      show (if (acc.map fun p => (f p.1, g p.2)).length < sizeLine then dpL F (l.map h) st (putD (.k (Kq.key f v.1)) (f v.1) (g v.2) (acc.map fun p => (f p.1, g p.2))) else .bad) = _
      unfold dputO at hm
      split at hm
      case isFalse => cases hm
      case isTrue hz =>
      cases hm
      rw [List.length_map, if_pos hz, ← hk, put_T]
      exact dpL_T hk hF q
/-- what a comprehension's step is to be -/
theorem v_dcO {h : α → PyData} [Kq f] [Kc f] (hk : ∀ k, Kc.key f k = .k (Kq.key f k)) {own : List Nat} {gt : G} {it : It} {ts : Es} {k y : E} {l : List α} {T : α → Option Bool} {Y : α → Option (κ × τ)} {E : α → Envr} {m : List (κ × τ)} (hn : own.all (notOwn e) = true) (hI : evI c it true e st = .ok (l.map h) s1) (hg : ∀ a, asg (wipeC e own) gt (h a) = some (E a))
    (hT : ∀ a t, T a = some t → evTs c ts (E a) s1 = .ok t s1) (hY : ∀ a v, Y a = some v → ∃ z1 z2, evE c k (E a) s1 = .ok z1 s1 ∧ asD z1 = some (f v.1) ∧ evE c y (E a) s1 = .ok z2 s1 ∧ asD z2 = some (g v.2)) (hm : dcO T Y l [] = some m) : evE c (.dcp own gt it ts k y) e st = .ok (.fre (eD f g m)) s1 := by
  refine v_dcR hn hI (dpL_T (h := h) (f := f) (g := g) (T := T) (Y := Y) (acc := []) hk (fun a t ht => ⟨fun q => ?_, fun q v hv => ?_⟩) hm)
  · subst q
    unfold dpF
    rw [hg]
    show R.bind (noEx (evTs c ts (E a) s1)) _ = _
    rw [hT a _ ht]; rfl
  · subst q
    obtain ⟨z1, z2, h1, h2, h3, h4⟩ := hY a v hv
    unfold dpF
    rw [hg]
    show R.bind (noEx (evTs c ts (E a) s1)) _ = _
    rw [hT a _ ht]
    show R.bind (noEx (evE c k (E a) s1)) _ = _
    rw [h1]
    show R.bind (noEx (evE c y (E a) s1)) _ = _
    rw [h3]
    show (match asD z1, asD z2 with
          | some a, some b => R.ok (some (a, b)) s1
          | _, _ => .bad) = _
    rw [h2, h4]
/-! ### two fors -/
def dpF2 (c : Nat → List PV → Sto → R PV) (e : Envr) (own : List Nat) (g : G) (ts : Es) (v1 : List Nat) (g1 : G) (it1 : It) (ts1 : Es) (k y : E) : PyData → Sto → Tb → R Tb := fun x s acc => match asg (wipeC e own) g x with
        | some e1 => (noEx (evTs c ts e1 s)).bind fun b s2 => if b then (noEx (evI c it1 true e1 s2)).bind fun xs1 s3 => dpL (dpF c e1 v1 g1 ts1 k y) xs1 s3 acc
          else .ok acc s2
        | none => .bad
theorem v_dc2R {own : List Nat} {gt : G} {it : It} {ts : Es} {v1 : List Nat} {g1 : G} {it1 : It} {ts1 : Es} {k y : E} {xs : List PyData} {ys : Tb} (hn : own.all (notOwn e) = true) (hv : v1.all (fun i => decide (i ∈ own)) = true) (hI : evI c it true e st = .ok xs s1) (h : outL (dpF2 c e own gt ts v1 g1 it1 ts1 k y) xs s1 [] = .ok ys s2) : evE c (.dcp2 own gt it ts v1 g1 it1 ts1 k y) e st = .ok (.fre (.dict ys)) s2 := by
  rw [e_dcp2, if_pos (by rw [hn, hv]; rfl), hI]
  show R.bind (outL (dpF2 c e own gt ts v1 g1 it1 ts1 k y) xs s1 []) _ = _
  rw [h]
  rfl
def lcF2 (c : Nat → List PV → Sto → R PV) (e : Envr) (own : List Nat) (g : G) (ts : Es) (v1 : List Nat) (g1 : G) (it1 : It) (ts1 : Es) (y : E) : PyData → Sto → List PyData → R (List PyData) := fun x s acc => match asg (wipeC e own) g x with
        | some e1 => (noEx (evTs c ts e1 s)).bind fun b s2 => if b then (noEx (evI c it1 true e1 s2)).bind fun xs1 s3 => lcL (lcF c e1 v1 g1 ts1 y) xs1 s3 acc
          else .ok acc s2
        | none => .bad
theorem v_lc2R {own : List Nat} {gt : G} {it : It} {ts : Es} {v1 : List Nat} {g1 : G} {it1 : It} {ts1 : Es} {y : E} {xs ys : List PyData} (hn : own.all (notOwn e) = true) (hv : v1.all (fun i => decide (i ∈ own)) = true) (hI : evI c it true e st = .ok xs s1) (h : outL (lcF2 c e own gt ts v1 g1 it1 ts1 y) xs s1 [] = .ok ys s2) : evE c (.lc2 own gt it ts v1 g1 it1 ts1 y) e st = .ok (.fre (.list ys)) s2 := by
  rw [e_lc2, if_pos (by rw [hn, hv]; rfl), hI]
  show R.bind (outL (lcF2 c e own gt ts v1 g1 it1 ts1 y) xs s1 []) _ = _
  rw [h]
  rfl
def dc2O (T : α → Option Bool) (I : α → Option (List β)) (T1 : α → β → Option Bool) (Y : α → β → Option (κ × τ)) : List α → List (κ × τ) → Option (List (κ × τ))
  | [], acc => some acc
  | a :: l, acc => (T a).bind fun t => if t = true then (I a).bind fun m => (dcO (T1 a) (Y a) m acc).bind (dc2O T I T1 Y l) else dc2O T I T1 Y l acc
theorem v_dc2O {h : α → PyData} {h1 : β → PyData} [Kq f] [Kc f] (hk : ∀ k, Kc.key f k = .k (Kq.key f k)) {own : List Nat} {gt : G} {it : It} {ts : Es} {v1 : List Nat} {g1 : G} {it1 : It} {ts1 : Es} {k y : E} {l : List α} {T : α → Option Bool} {I : α → Option (List β)} {T1 : α → β → Option Bool} {Y : α → β → Option (κ × τ)} {E : α → Envr} {E1 : α → β → Envr} {m : List (κ × τ)} (hn : own.all (notOwn e) = true) (hv : v1.all (fun i => decide (i ∈ own)) = true) (hI : evI c it true e st = .ok (l.map h) s1) (hg : ∀ a, asg (wipeC e own) gt (h a) = some (E a))
    (hT : ∀ a t, T a = some t → evTs c ts (E a) s1 = .ok t s1) (hI1 : ∀ a m, I a = some m → evI c it1 true (E a) s1 = .ok (m.map h1) s1) (hg1 : ∀ a b, asg (wipeC (E a) v1) g1 (h1 b) = some (E1 a b)) (hT1 : ∀ a b t, T1 a b = some t → evTs c ts1 (E1 a b) s1 = .ok t s1)
    (hY : ∀ a b v, Y a b = some v → ∃ z1 z2, evE c k (E1 a b) s1 = .ok z1 s1 ∧ asD z1 = some (f v.1) ∧ evE c y (E1 a b) s1 = .ok z2 s1 ∧ asD z2 = some (g v.2)) (hm : dc2O T I T1 Y l [] = some m) : evE c (.dcp2 own gt it ts v1 g1 it1 ts1 k y) e st = .ok (.fre (eD f g m)) s1 := by
  refine v_dc2R hn hv hI ?_
  have key : ∀ (l : List α) (acc m : List (κ × τ)), dc2O T I T1 Y l acc = some m → outL (dpF2 c e own gt ts v1 g1 it1 ts1 k y) (l.map h) s1 (acc.map fun p => (f p.1, g p.2)) = .ok (m.map fun p => (f p.1, g p.2)) s1 := by
    intro l
    induction l with
    | nil => intro acc m q; cases q; rfl
    | cons a l ih =>
      intro acc m q
      rw [dc2O] at q
      obtain ⟨t, ht, q⟩ := ob q
      rw [List.map_cons, outL]
      have e1 : dpF2 c e own gt ts v1 g1 it1 ts1 k y (h a) s1 (acc.map fun p => (f p.1, g p.2)) = if t = true then (noEx (evI c it1 true (E a) s1)).bind fun xs1 s3 => dpL (dpF c (E a) v1 g1 ts1 k y) xs1 s3 (acc.map fun p => (f p.1, g p.2)) else .ok (acc.map fun p => (f p.1, g p.2)) s1 := by
        unfold dpF2
        rw [hg]
        show R.bind (noEx (evTs c ts (E a) s1)) _ = _
        rw [hT a t ht]; rfl
      rw [e1]
      cases t with
      | false =>
        rw [if_neg (by simp)] at q
        exact ih acc m q
      | true =>
        rw [if_pos rfl] at q
        obtain ⟨m1, h2, q⟩ := ob q
        obtain ⟨m2, h3, q⟩ := ob q
        rw [if_pos rfl, hI1 a m1 h2]
        show R.bind (dpL (dpF c (E a) v1 g1 ts1 k y) (m1.map h1) s1 (acc.map fun p => (f p.1, g p.2))) _ = _
        rw [dpL_T (h := h1) (f := f) (g := g) (T := T1 a) (Y := Y a) (acc := acc) (m := m2) hk (fun b t ht => ⟨fun q => ?_, fun q v hv => ?_⟩) h3]
        · exact ih m2 m q
        · subst q
          unfold dpF
          rw [hg1]
          show R.bind (noEx (evTs c ts1 (E1 a b) s1)) _ = _
          rw [hT1 a b _ ht]; rfl
        · subst q
          obtain ⟨z1, z2, h1, h2, h3, h4⟩ := hY a b v hv
          unfold dpF
          rw [hg1]
          show R.bind (noEx (evTs c ts1 (E1 a b) s1)) _ = _
          rw [hT1 a b _ ht]
          show R.bind (noEx (evE c k (E1 a b) s1)) _ = _
          rw [h1]
          show R.bind (noEx (evE c y (E1 a b) s1)) _ = _
          rw [h3]
          show (match asD z1, asD z2 with
                | some a, some b => R.ok (some (a, b)) s1
                | _, _ => .bad) = _
          rw [h2, h4]
  exact key l [] m hm
def lc2O (T : α → Option Bool) (I : α → Option (List β)) (T1 : α → β → Option Bool) (Y : α → β → Option τ) : List α → Option (List τ)
  | [] => some []
  | a :: l => (T a).bind fun t => if t = true then (I a).bind fun m => (lcO (T1 a) (Y a) m).bind fun x => (lc2O T I T1 Y l).map (x ++ ·) else lc2O T I T1 Y l
theorem v_lc2O {h : α → PyData} {h1 : β → PyData} {own : List Nat} {gt : G} {it : It} {ts : Es} {v1 : List Nat} {g1 : G} {it1 : It} {ts1 : Es} {y : E} {l : List α} {T : α → Option Bool} {I : α → Option (List β)} {T1 : α → β → Option Bool} {Y : α → β → Option τ} {E : α → Envr} {E1 : α → β → Envr} {m : List τ} (hn : own.all (notOwn e) = true) (hv : v1.all (fun i => decide (i ∈ own)) = true) (hI : evI c it true e st = .ok (l.map h) s1) (hg : ∀ a, asg (wipeC e own) gt (h a) = some (E a))
    (hT : ∀ a t, T a = some t → evTs c ts (E a) s1 = .ok t s1) (hI1 : ∀ a m, I a = some m → evI c it1 true (E a) s1 = .ok (m.map h1) s1) (hg1 : ∀ a b, asg (wipeC (E a) v1) g1 (h1 b) = some (E1 a b)) (hT1 : ∀ a b t, T1 a b = some t → evTs c ts1 (E1 a b) s1 = .ok t s1)
    (hY : ∀ a b v, Y a b = some v → ∃ z, evE c y (E1 a b) s1 = .ok z s1 ∧ asD z = some (g v)) (hm : (lc2O T I T1 Y l).bind szO = some m) : evE c (.lc2 own gt it ts v1 g1 it1 ts1 y) e st = .ok (.fre (eL g m)) s1 := by
  obtain ⟨m', hm1, hm2⟩ := ob hm
  obtain ⟨hm3, hz⟩ := szO_eq hm2
  subst hm3
  refine v_lc2R hn hv hI ?_
  have key : ∀ (l : List α) (acc : List PyData) (m : List τ), lc2O T I T1 Y l = some m → acc.length + m.length ≤ sizeLine → outL (lcF2 c e own gt ts v1 g1 it1 ts1 y) (l.map h) s1 acc = .ok (acc ++ m.map g) s1 := by
    intro l
    induction l with
    | nil => intro acc m q _; cases q; rw [List.map_nil, List.map_nil, List.append_nil]; rfl
    | cons a l ih =>
      intro acc m q hz
      rw [lc2O] at q
      obtain ⟨t, ht, q⟩ := ob q
      rw [List.map_cons, outL]
      have e1 : lcF2 c e own gt ts v1 g1 it1 ts1 y (h a) s1 acc = if t = true then (noEx (evI c it1 true (E a) s1)).bind fun xs1 s3 => lcL (lcF c (E a) v1 g1 ts1 y) xs1 s3 acc else .ok acc s1 := by
        unfold lcF2
        rw [hg]
        show R.bind (noEx (evTs c ts (E a) s1)) _ = _
        rw [hT a t ht]; rfl
      rw [e1]
      cases t with
      | false =>
        rw [if_neg (by simp)] at q
        exact ih acc m q hz
      | true =>
        rw [if_pos rfl] at q
        obtain ⟨m1, h2, q⟩ := ob q
        obtain ⟨m2, h3, q⟩ := ob q
        obtain ⟨m3, h4, rfl⟩ := Option.map_eq_some_iff.mp q
        rw [List.length_append] at hz
        rw [if_pos rfl, hI1 a m1 h2]
        show R.bind (lcL (lcF c (E a) v1 g1 ts1 y) (m1.map h1) s1 acc) _ = _
        rw [lcL_app (f := h1) (g := g) (T := T1 a) (Y := Y a) (acc := acc) (fun b t ht => ⟨fun q => ?_, fun q v hv => ?_⟩) h3 (by omega)]
        · show outL (lcF2 c e own gt ts v1 g1 it1 ts1 y) (l.map h) s1 (acc ++ m2.map g) = _
          rw [ih (acc ++ m2.map g) m3 h4 (by rw [List.length_append, List.length_map]; omega), List.map_append, List.append_assoc]
        · subst q
          unfold lcF
          rw [hg1]
          show R.bind (noEx (evTs c ts1 (E1 a b) s1)) _ = _
          rw [hT1 a b _ ht]; rfl
        · subst q
          obtain ⟨z, hz1, hz2⟩ := hY a b v hv
          unfold lcF
          rw [hg1]
          show R.bind (noEx (evTs c ts1 (E1 a b) s1)) _ = _
          rw [hT1 a b _ ht]
          show R.bind (noEx (evE c y (E1 a b) s1)) _ = _
          rw [hz1]
          show R.opt ((asD z).map some) s1 = _
          rw [hz2]; rfl
  have := key l [] _ hm1 (by rw [List.length_nil]; omega)
  rwa [List.nil_append] at this
end
end Ev

set_option maxRecDepth 100000
/-! Sh6: types told, the bag, effects. -/
namespace Ev
open PySem PySem.W L2
section
variable {α β γ σ ρ : Type} {c : Nat → List PV → Sto → R PV} {e : Envr} {st s1 s2 s3 : Sto} {a b d : E} {x y z r : PV} {u w : PyData} {f : α → PyData} {g : β → PyData}
theorem si {m n : α} (h : some m = some n) : m = n := Option.some.inj h
theorem lz {l : List α} (n : Nat) (h : l.length = n) (hn : n ≤ 100) : l.length ≤ sizeLine := h ▸ Nat.le_trans hn (by decide)
theorem as_d (f : α → PyData) (m : α) (h : evE c a e st = .ok (.d (f m)) s1) : evE c a e st = .ok (.d (f m)) s1 := h
theorem as_f (f : α → PyData) (m : α) (h : evE c a e st = .ok (.fre (f m)) s1) : evE c a e st = .ok (.fre (f m)) s1 := h
theorem isa_int (x : PyData) : isaD "int" x = some (PyData.isInt x) := rfl
theorem isa_bool (x : PyData) : isaD "bool" x = some (PyData.isBool x) := by
  unfold isaD
  rw [if_neg (by decide), if_pos rfl]
theorem isa_str (x : PyData) : isaD "str" x = some (PyData.isStr x) := by
  unfold isaD
  rw [if_neg (by decide), if_neg (by decide), if_pos rfl]
theorem isa_tuple (x : PyData) : isaD "tuple" x = some (PyData.isTuple x) := by
  unfold isaD
  rw [if_neg (by decide), if_neg (by decide), if_neg (by decide), if_pos rfl]
theorem isa_list (x : PyData) : isaD "list" x = some (PyData.isList x) := by
  unfold isaD
  rw [if_neg (by decide), if_neg (by decide), if_neg (by decide), if_neg (by decide), if_pos rfl]
class Fl {α : Type} (f : α → PyData) : Prop where
  fl : ∀ a, flatD (f a) = true
instance : Fl eI := ⟨fun _ => rfl⟩
instance : Fl eB := ⟨fun _ => rfl⟩
instance : Fl eS := ⟨fun _ => rfl⟩
instance : Fl eU := ⟨fun _ => rfl⟩
theorem flats_map [Fl f] : ∀ l : List α, flatDs (l.map f) = true
  | [] => rfl
  | a :: l => by rw [List.map_cons, flatDs, Fl.fl, flats_map l]; rfl
instance [Fl f] : Fl (eT f) := ⟨fun l => by rw [eT, flatD, flats_map]⟩
instance [Fl f] : Fl (eL f) := ⟨fun l => by rw [eL, flatD, flats_map]⟩
instance [Fl f] [Fl g] : Fl (eP f g) := ⟨fun p => by rw [eP, flatD, flatDs, flatDs, flatDs, Fl.fl, Fl.fl]; rfl⟩
instance {k : γ → PyData} [Fl f] [Fl g] [Fl k] : Fl (eP3 f g k) := ⟨fun p => by rw [eP3, flatD, flatDs, flatDs, flatDs, flatDs, Fl.fl, Fl.fl, Fl.fl]; rfl⟩
instance [Fl f] : Fl (eO f) := ⟨fun o => by cases o with
  | none => rfl
  | some a => exact Fl.fl a⟩
theorem v_isaN {n : String} {t : Bool} {y : String} {ty : Str} (f : α → PyData) (m : α) [Fl f] (ha : evE c a e st = .ok x s1) (hx : rd x s1 = some (f m)) (h : isaD n (f m) = some t) : evE c (.bi .isinst (.cons a (.cons (.ty ty n) .nil))) e st = .ok (.d (.bool t)) s1 := v_isa (y := y) ha hx (Fl.fl m) h
def brO (r : ρ ⊕ σ) (f : ρ → γ) (g : σ → γ) : γ := match r with
  | .inl v => f v
  | .inr s => g s
/-! ### the bag -/
structure Bag where
  gs : List Int
  a : Int
  b : Int
  n : Int
def bst (s : Bag) : Sto := bagS s.gs s.a s.b s.n
def pickT (many : Int) (s : Bag) : Option (Int × Bag) := if 0 < many ∧ many < 100 ∧ s.gs.length ≤ 1000 then (if s.b = 0 then some (0, s) else match s.gs with
  | [] => some (nu2 s.a s.n / 16 % many, ⟨[], (s.a + nu2 s.a s.n) % 2147483629, s.b, s.n + 1⟩)
  | g :: gs => some (g % many, ⟨gNext g many gs, s.a, s.b, s.n⟩)) else none
theorem pickT_ok {ds : List Fd} {at_ : Nat} {nm : Str} {sm : Stmt} (hd : ds[at_]? = some ⟨nm, sm, ["bag", "many", "number"], 2, pickB⟩) (m : Nat) {many : Int} {s : Bag} {r : Int × Bag} (h : pickT many s = some r) : callL ds (m + 1) at_ [.ref 1, .d (.int many)] (bst s) = .ok (.d (.int r.1)) (bst r.2) := by
  unfold pickT at h
  split at h
  case isFalse => cases h
  case isTrue q =>
  obtain ⟨h1, h2, h3⟩ := q
  obtain ⟨gs, a, b, n⟩ := s
  by_cases hb : b = 0
  · subst hb
    rw [if_pos rfl] at h
    cases h
    exact pick0 hd m gs a n many
  · rw [if_neg hb] at h
    cases gs with
    | nil =>
      cases h
      exact pickN hd m a b n many hb h1 h2
    | cons g gs =>
      cases h
      rw [List.length_cons] at h3
      exact pickG hd m g gs a b n many hb h1 h2 (by omega)
/-- the bag is as it should be -/
def Bag.ok (s : Bag) : Prop := s.gs.length ≤ 100
theorem pickT_is {s : Bag} (hs : s.ok) {many : Int} (h1 : 0 < many) (h2 : many < 100) : ∃ p s', pickT many s = some (p, s') ∧ s'.ok ∧ 0 ≤ p ∧ p < many := by
  obtain ⟨gs, a, b, n⟩ := s
  have hs : gs.length ≤ 100 := hs
  unfold pickT
  rw [if_pos ⟨h1, h2, by show gs.length ≤ 1000; omega⟩]
  by_cases hb : b = 0
  · exact ⟨0, _, if_pos hb, hs, Int.le_refl _, h1⟩
  · rw [if_neg hb]
    cases gs with
    | nil => exact ⟨_, _, rfl, hs, Int.emod_nonneg _ (by omega), Int.emod_lt_of_pos _ h1⟩
    | cons g gs =>
      rw [List.length_cons] at hs
      refine ⟨_, _, rfl, ?_, Int.emod_nonneg _ (by omega), Int.emod_lt_of_pos _ h1⟩
      show (gNext g many gs).length ≤ 100
      unfold gNext
      split
      · omega
      · rw [List.length_cons]; omega
theorem lawBagT {ds : List Fd} {at_ : Nat} {nm : Str} {sm : Stmt} {seed : Int} (hd : ds[at_]? = some ⟨nm, sm, ["script", "great", "seed", "cell"], 1, bagB seed⟩) (m : Nat) (ns : List Int) (h : ns.length ≤ 63) : ∃ s : Bag, s.ok ∧ callL ds (m + 1) at_ [.d (.list (ns.map .int))] [] = .ok (.ref 1) (bst s) := by
  obtain ⟨st', h1, h2⟩ := lawBag hd m ns h
  obtain ⟨gs, a, b, n, rfl, hg⟩ := h2.ex
  exact ⟨⟨gs, a, b, n⟩, hg, h1⟩
/-! ### comprehensions with effects -/
def lcS (F : α → σ → Option (Option β × σ)) : List α → σ → Option (List β × σ)
  | [], s => some ([], s)
  | a :: l, s => (F a s).bind fun r => (lcS F l r.2).bind fun q => some (match r.1 with
    | some y => (y :: q.1, q.2)
    | none => q)
def szS (r : List β × σ) : Option (List β × σ) := if r.1.length ≤ sizeLine then some r else none
theorem lcL_S {F : α → σ → Option (Option β × σ)} {G : PyData → Sto → R (Option PyData)} {S : σ → Sto} (h : ∀ a s o, F a s = some o → G (f a) (S s) = .ok (o.1.map g) (S o.2)) : ∀ (l : List α) (s : σ) (acc : List PyData) (r : List β × σ), lcS F l s = some r → acc.length + r.1.length ≤ sizeLine → lcL G (l.map f) (S s) acc = .ok (acc ++ r.1.map g) (S r.2)
  | [], s, acc, r, q, _ => by
    cases q
    rw [List.map_nil, List.map_nil, List.append_nil]; rfl
  | a :: l, s, acc, r, q, hz => by
    rw [lcS] at q
    obtain ⟨o, h1, q⟩ := ob q
    obtain ⟨t, h2, q⟩ := ob q
    cases q
    rw [List.map_cons, lcL, h a s o h1]
    cases ho : o.1 with
    | none =>
      rw [ho] at hz
      exact lcL_S h l o.2 acc t h2 hz
    | some y =>
      rw [ho] at hz
      have hz : acc.length + (t.1.length + 1) ≤ sizeLine := hz
      show (if acc.length < sizeLine then lcL G (l.map f) (S o.2) (acc ++ [g y]) else .bad) = _
      rw [if_pos (by omega), lcL_S h l o.2 (acc ++ [g y]) t h2 (by rw [List.length_append, List.length_singleton]; omega)]
      simp
theorem lcF_no {own : List Nat} {gt : G} {ts : Es} {t : PyData} {E : Envr} {yy : Ev.E} (hg : asg (wipeC e own) gt t = some E) (hT : evTs c ts E st = .ok false s1) : lcF c e own gt ts yy t st = .ok none s1 := by
  unfold lcF
  rw [hg]
  show R.bind (noEx (evTs c ts E st)) _ = _
  rw [hT]; rfl
theorem lcF_yes {own : List Nat} {gt : G} {ts : Es} {t : PyData} {E : Envr} {yy : Ev.E} (hg : asg (wipeC e own) gt t = some E) (hT : evTs c ts E st = .ok true s1) (hY : evE c yy E s1 = .ok z s2) (hz : asD z = some w) : lcF c e own gt ts yy t st = .ok (some w) s2 := by
  unfold lcF
  rw [hg]
  show R.bind (noEx (evTs c ts E st)) _ = _
  rw [hT]
  show R.bind (noEx (evE c yy E s1)) _ = _
  rw [hY]
  show R.opt ((asD z).map some) s2 = _
  rw [hz]; rfl
theorem v_lcS {own : List Nat} {gt : G} {it : It} {ts : Es} {yy : Ev.E} {l : List α} {F : α → σ → Option (Option β × σ)} {S : σ → Sto} {s : σ} {r : List β × σ} (hn : own.all (notOwn e) = true) (hI : evI c it true e st = .ok (l.map f) (S s)) (hF : ∀ a s o, F a s = some o → lcF c e own gt ts yy (f a) (S s) = .ok (o.1.map g) (S o.2)) (h : (lcS F l s).bind szS = some r) : evE c (.lc own gt it ts yy) e st = .ok (.fre (eL g r.1)) (S r.2) := by
  obtain ⟨r', h1, h2⟩ := ob h
  unfold szS at h2
  split at h2
  case isFalse => cases h2
  case isTrue q =>
  cases h2
  refine v_lcR hn hI ?_
  have := lcL_S (f := f) (g := g) hF l s [] _ h1 (by rw [List.length_nil]; omega)
  rwa [List.nil_append] at this
/-! ### items taken off -/
theorem erase_map (f : α → β) : ∀ (l : List α) (k : Nat), (l.map f).eraseIdx k = (l.eraseIdx k).map f
  | [], _ => rfl
  | _ :: _, 0 => rfl
  | a :: l, k + 1 => by rw [List.map_cons, List.eraseIdx_cons_succ, List.eraseIdx_cons_succ, erase_map f l k]; rfl
theorem a_popAt {f : α → PyData} {j : Nat} {l l' : List α} {n : Int} {t : α} (h : evE c a e st = .ok (.d (.int n)) s1) (hj : e[j]? = some (.own (eL f l))) (hp : popAtO l n = some (t, l')) : evA c (.popAt j a) e st = .ok (.d (f t), e.set j (.own (eL f l'))) s1 := by
  rw [evA, h]
  show (match e[j]? with
      | some (.own (.list ds)) => match seqIndex? n ds.length with
        | some k => match ds[k]? with
          | some y => if fits n = true then R.ok (PV.d y, e.set j (.own (.list (ds.eraseIdx k)))) s1 else .bad
          | none => .bad
        | none => .bad
      | _ => .bad) = _
  rw [hj]
  show (match seqIndex? n (l.map f).length with
        | some k => match (l.map f)[k]? with
          | some y => if fits n = true then R.ok (PV.d y, e.set j (.own (.list ((l.map f).eraseIdx k)))) s1 else .bad
          | none => .bad
        | none => .bad) = _
  unfold popAtO at hp
  obtain ⟨k, h1, hp⟩ := ob hp
  obtain ⟨y, h2, hp⟩ := ob hp
  split at hp
  case isFalse => cases hp
  case isTrue q =>
  cases hp
  rw [List.length_map, h1]
  show (match (l.map f)[k]? with
          | some y => if fits n = true then R.ok (PV.d y, e.set j (.own (.list ((l.map f).eraseIdx k)))) s1 else .bad
          | none => .bad) = _
  rw [List.getElem?_map, h2]
  show (if fits n = true then R.ok (PV.d (f t), e.set j (.own (.list ((l.map f).eraseIdx k)))) s1 else .bad) = _
  rw [if_pos q, eL, ← erase_map]
theorem a_pop {f : α → PyData} {j : Nat} {l l' : List α} {t : α} (hj : e[j]? = some (.own (eL f l))) (hp : popO l = some (t, l')) : evA c (.pop j) e st = .ok (.d (f t), e.set j (.own (eL f l'))) st := by
  rw [evA, hj]
  show (match (l.map f)[(l.map f).length - 1]? with
      | some x => R.ok (PV.d x, e.set j (.own (.list (l.map f).dropLast))) st
      | none => .bad) = _
  unfold popO at hp
  obtain ⟨y, h1, h2⟩ := Option.map_eq_some_iff.mp hp
  cases h2
  rw [List.length_map, List.getElem?_map, h1]
  show R.ok (PV.d (f t), e.set j (.own (.list (l.map f).dropLast))) st = _
  rw [← List.map_dropLast]; rfl
variable {P : RS → Prop} {ss : Ss} {A : A} {e1 e2 : Envr}
theorem p_setA {own : Bool} {i : Nat} (h : evA c A e st = .ok (x, e2) s1) (hp : putC own i x e2 = some e1) (hk : P (exSs c ss e1 s1)) : P (exSs c (.cons (.set own i A) ss) e st) := by
  rw [x_cons, s_set, h]
  show P ((match putC own i x e2 with
    | some e1 => RS.nx e1 s1
    | none => .bad).then fun e1 s1 => exSs c ss e1 s1)
  rw [hp]; exact hk
theorem p_doA (h : evA c A e st = .ok (x, e1) s1) (hk : P (exSs c ss e1 s1)) : P (exSs c (.cons (.ex A) ss) e st) := by
  rw [x_cons, s_ex, h]
  exact hk
theorem p_appA {f : α → PyData} {i : Nat} {l m : List α} {t : α} (h : evA c A e st = .ok (x, e2) s1) (hx : asD x = some (f t)) (he : e2[i]? = some (.own (eL f l))) (hl : pushO l t = some m) (hp : e2.set i (.own (eL f m)) = e1) (hk : P (exSs c ss e1 s1)) : P (exSs c (.cons (.app i A) ss) e st) := by
  rw [x_cons, s_app, h]
  show P ((match asD x, e2[i]? with
    | some d, some (.own (.list ds)) => if ds.length < sizeLine then RS.nx (e2.set i (.own (.list (ds ++ [d])))) s1 else .bad
    | _, _ => .bad).then fun e1 s1 => exSs c ss e1 s1)
  rw [hx, he]
  show P ((if (l.map f).length < sizeLine then RS.nx (e2.set i (.own (.list (l.map f ++ [f t])))) s1 else .bad).then fun e1 s1 => exSs c ss e1 s1)
  rw [List.length_map]
  unfold pushO at hl
  split at hl
  case isFalse => cases hl
  case isTrue q =>
  rw [if_pos q]
  cases hl
  rw [eL, List.map_append] at hp
  subst hp
  exact hk
/-! ### dict(zip(..)) -/
def dzT {κ τ : Type} [DecidableEq κ] : List κ → List τ → List (κ × τ) → List (κ × τ)
  | x :: xs, y :: ys, acc => dzT xs ys (dputT acc x y)
  | _, _, acc => acc
theorem dzD_T {κ τ : Type} [DecidableEq κ] {h : κ → PyData} {k : τ → PyData} [Kq h] [Kc h] (hk : ∀ j, Kc.key h j = .k (Kq.key h j)) : ∀ (xs : List κ) (ys : List τ) (acc : List (κ × τ)), dzD (xs.map h) (ys.map k) (acc.map fun p => (h p.1, k p.2)) = some ((dzT xs ys acc).map fun p => (h p.1, k p.2))
  | [], ys, acc => by rw [List.map_nil, dzD, dzT]; exact fun _ _ _ _ q => nomatch q
  | x :: xs, [], acc => by
    have ih := dzD_T hk (k := k) xs [] acc
    rw [List.map_nil] at ih
    rw [List.map_cons, List.map_nil, dzD, Kq.dk, Option.bind_some, ih]
    cases xs <;> rfl
  | x :: xs, y :: ys, acc => by
    rw [List.map_cons, List.map_cons, dzD, Kq.dk, Option.bind_some, ← hk, put_T, dzD_T hk xs ys, dzT]
theorem v_dz {κ τ : Type} [DecidableEq κ] {h : κ → PyData} {k : τ → PyData} [Kq h] [Kc h] {es : Es} {xs : List κ} {ys : List τ} (hk : ∀ j, Kc.key h j = .k (Kq.key h j)) (ha : evDs c es e st = .ok [eT h xs, eT k ys] s1) : evE c (.dzip es) e st = .ok (.fre (eD h k (dzT xs ys []))) s1 := by
  rw [e_dzip, ha]
  show R.opt ((dzD (xs.map h) (ys.map k) []).map fun pd => PV.fre (.dict pd)) s1 = _
  have := dzD_T (k := k) hk xs ys ([] : List (κ × τ))
  rw [List.map_nil] at this
  rw [this]; rfl
end
end Ev

set_option maxRecDepth 100000
/-! Sh7: sorted, max, min with a key lambda; sorted(set(..)). -/
namespace Ev
open PySem L2 PySem.W PyProof.Rows PySem.SeqAt

class NL {α : Type} (f : α → PyData) : Prop where
  nl : ∀ a, noLD (f a) = true
instance : NL eI := ⟨fun _ => rfl⟩
instance : NL eB := ⟨fun _ => rfl⟩
instance : NL eS := ⟨fun _ => rfl⟩
theorem noLDs_map {α : Type} {f : α → PyData} [NL f] : ∀ l : List α, noLDs (l.map f) = true
  | [] => rfl
  | a :: l => by rw [List.map_cons, noLDs, NL.nl, noLDs_map l]; rfl
instance {α : Type} {f : α → PyData} [NL f] : NL (eT f) := ⟨fun l => by show noLDs (l.map f) = true; exact noLDs_map l⟩
instance {α β : Type} {f : α → PyData} {g : β → PyData} [NL f] [NL g] : NL (eP f g) := ⟨fun p => by show (noLD (f p.1) && (noLD (g p.2) && true)) = true; rw [NL.nl, NL.nl]; rfl⟩
section
variable {α β γ κ : Type}
theorem lk_p {f : α → PyData} {a : α} : lkD .p (f a) = some (f a) := rfl
theorem lk_len {f : α → PyData} {k : LK} {x : PyData} {l : List α} (h : lkD k x = some (eT f l)) (hz : l.length ≤ sizeLine) : lkD (.len k) x = some (eI l.length) := by
  rw [lkD, h]
  show (if (l.map f).length ≤ sizeLine then some (PyData.int (l.map f).length) else none) = _
  rw [List.length_map, if_pos hz]
theorem lk_ix0 {f : α → PyData} {g : β → PyData} {k : LK} {x : PyData} {p : α × β} (h : lkD k x = some (eP f g p)) : lkD (.ix k 0) x = some (f p.1) := by rw [lkD, h]; rfl
theorem lk_ix1 {f : α → PyData} {g : β → PyData} {k : LK} {x : PyData} {p : α × β} (h : lkD k x = some (eP f g p)) : lkD (.ix k 1) x = some (g p.2) := by rw [lkD, h]; rfl
theorem lk_neg {k : LK} {x : PyData} {i : Int} (h : lkD k x = some (eI i)) : lkD (.neg k) x = some (eI (-i)) := by
  have h : lkD k x = some (.int i) := h
  rw [lkD, h]
theorem lk_tup2 {f : α → PyData} {g : β → PyData} {k1 k2 : LK} {x : PyData} {a : α} {b : β} (h1 : lkD k1 x = some (f a)) (h2 : lkD k2 x = some (g b)) : lkD (.tup (.cons k1 (.cons k2 .nil))) x = some (eP f g (a, b)) := by
  rw [lkD, lkDs, h1, lkDs, h2, lkDs]
  rfl
def sortKT (kf : α → κ) (lt : κ → κ → Bool) (l : List α) : List α := l.mergeSort fun a b => !lt (kf b) (kf a)
def keyG (okb : α → Bool) (l : List α) : Bool := l.all okb && decide (l.length ≤ sizeLine)
def sortKO (okb : α → Bool) (kf : α → κ) (lt : κ → κ → Bool) (l : List α) : Option (List α) := if keyG okb l = true then some (sortKT kf lt l) else none
def maxKO (okb : α → Bool) (kf : α → κ) (lt : κ → κ → Bool) (l : List α) : Option α := if keyG okb l = true then (match l with
  | [] => none
  | a :: l => some (l.foldl (fun a y => if lt (kf a) (kf y) = true then y else a) a)) else none
def minKO (okb : α → Bool) (kf : α → κ) (lt : κ → κ → Bool) (l : List α) : Option α := if keyG okb l = true then (match l with
  | [] => none
  | a :: l => some (l.foldl (fun a y => if lt (kf y) (kf a) = true then y else a) a)) else none
variable [DecidableEq κ] {f : α → PyData} {gk : κ → PyData} {kf : α → κ} {lt : κ → κ → Bool} [Lc gk lt] [Nc gk] [Nn gk] [NL gk] [Fl f] {okb : α → Bool} {k : LK}
theorem keyF_eq {a : α} (h : lkD k (f a) = some (gk (kf a))) : keyF k (f a) = gk (kf a) := by unfold keyF; rw [h]; rfl
theorem keyG_spec {l : List α} (h : keyG okb l = true) : (∀ a ∈ l, okb a = true) ∧ l.length ≤ sizeLine := by
  unfold keyG at h
  rw [Bool.and_eq_true, List.all_eq_true, decide_eq_true_eq] at h
  exact h
theorem keys_map (hk : ∀ a, okb a = true → lkD k (f a) = some (gk (kf a))) {l : List α} (h : ∀ a ∈ l, okb a = true) : (l.map f).map (keyF k) = (l.map kf).map gk := by
  rw [List.map_map, List.map_map]
  exact List.map_congr_left fun a ha => keyF_eq (hk a (h a ha))
theorem keyOk_map {lt : κ → κ → Bool} [Lc gk lt] (hd : decide (Nc.d gk ≤ 60) = true) (hk : ∀ a, okb a = true → lkD k (f a) = some (gk (kf a))) {l : List α} (h : ∀ a ∈ l, okb a = true) : keyOk k (l.map f) = true := by
  unfold keyOk
  rw [keys_map hk h, alikeAll_lc hd, Bool.and_true, Bool.and_eq_true, List.all_eq_true, List.all_eq_true]
  constructor
  · intro d hd
    obtain ⟨a, ha, rfl⟩ := List.mem_map.mp hd
    rw [hk a (h a ha)]; rfl
  · intro d hd
    obtain ⟨a, _, rfl⟩ := List.mem_map.mp hd
    exact NL.nl a
theorem foldl_map_eq {F : PyData → PyData → PyData} {G : α → α → α} : ∀ (l : List α) (a : α), (∀ x y, okb x = true → okb y = true → F (f x) (f y) = f (G x y) ∧ okb (G x y) = true) → okb a = true → (∀ b ∈ l, okb b = true) → (l.map f).foldl F (f a) = f (l.foldl G a)
  | [], _, _, _, _ => rfl
  | b :: l, a, h, ha, hl => by
    obtain ⟨e, o⟩ := h a b ha (hl b List.mem_cons_self)
    rw [List.map_cons, List.foldl_cons, List.foldl_cons, e]
    exact foldl_map_eq l (G a b) h o fun c hc => hl c (List.mem_cons_of_mem _ hc)
variable {c : Nat → List PV → Sto → R PV} {e : Envr} {st s1 : Sto} {a : E} {x : PV} {u : PyData} {n P : Nat} {q : Str}
theorem v_srtS [Nt gk] {l m : List α} (hd : decide (Nc.d gk ≤ 60) = true) (ht : isTb s1 n P q = true) (ha : evE c a e st = .ok x s1) (hx : rd x s1 = some u) (hi : itemsD u = some (l.map f)) (hk : ∀ a, okb a = true → lkD k (f a) = some (gk (kf a))) (h : sortKO okb kf lt l = some m) :
    evE c (.srtk .sorted n P q k a) e st = .ok (.fre (eL f m)) s1 := by
  unfold sortKO at h
  split at h
  case isFalse => cases h
  case isTrue g =>
  cases h
  obtain ⟨g1, g2⟩ := keyG_spec g
  rw [e_srtk, ha]
  show (if isTb s1 n P q = true then R.opt ((rd x s1).bind (srtkD .sorted k)) s1 else .bad) = _
  rw [if_pos ht, hx]
  show R.opt (srtkD .sorted k u) s1 = _
  unfold srtkD
  rw [hi]
  show R.opt (if (keyOk k (l.map f) && flatDs (l.map f) && decide ((l.map f).length ≤ sizeLine)) = true then (if sortableB ((l.map f).map (keyF k)) = true then some (PV.fre (.list (sortK k (l.map f)))) else none) else none) s1 = _
  rw [keyOk_map (lt := lt) hd hk g1, flats_map, List.length_map, decide_eq_true g2, if_pos (show (true && true && true) = true from rfl), keys_map hk g1, sortable_nt, if_pos rfl, sortK_eq]
  have : (l.map f).mergeSort (dataLe false (keyF k)) = (sortKT kf lt l).map f := by
    unfold sortKT
    refine (List.map_mergeSort (fun a ha b hb => ?_)).symm
    rw [dataLe_eq]
    show (!lt (kf b) (kf a)) = (!dataLt (keyF k (f b)) (keyF k (f a)))
    rw [keyF_eq (hk a (g1 a ha)), keyF_eq (hk b (g1 b hb)), Lc.lt]
  rw [this]
  rfl
theorem v_srtMax {l : List α} {m : α} (hd : decide (Nc.d gk ≤ 60) = true) (ht : isTb s1 n P q = true) (ha : evE c a e st = .ok x s1) (hx : rd x s1 = some u) (hi : itemsD u = some (l.map f)) (hk : ∀ a, okb a = true → lkD k (f a) = some (gk (kf a))) (h : maxKO okb kf lt l = some m) :
    evE c (.srtk .max n P q k a) e st = .ok (.d (f m)) s1 := by
  unfold maxKO at h
  split at h
  case isFalse => cases h
  case isTrue g =>
  obtain ⟨g1, g2⟩ := keyG_spec g
  cases l with
  | nil => cases h
  | cons b l =>
    cases h
    rw [e_srtk, ha]
    show (if isTb s1 n P q = true then R.opt ((rd x s1).bind (srtkD .max k)) s1 else .bad) = _
    rw [if_pos ht, hx]
    show R.opt (srtkD .max k u) s1 = _
    unfold srtkD
    rw [hi]
    show R.opt (if (keyOk k ((b :: l).map f) && flatDs ((b :: l).map f) && decide (((b :: l).map f).length ≤ sizeLine)) = true then some (PV.d (maxK (keyF k) (f b) (l.map f))) else none) s1 = _
    rw [keyOk_map (lt := lt) hd hk g1, flats_map, List.length_map, decide_eq_true g2, if_pos (show (true && true && true) = true from rfl)]
    unfold maxK
    rw [foldl_map_eq (okb := okb) (f := f) (G := fun a y => if lt (kf a) (kf y) = true then y else a) l b (fun x y hx hy => by
      rw [keyF_eq (hk x hx), keyF_eq (hk y hy), Lc.lt]
      cases lt (kf x) (kf y) with
      | true => exact ⟨rfl, hy⟩
      | false => exact ⟨rfl, hx⟩) (g1 b List.mem_cons_self) fun c hc => g1 c (List.mem_cons_of_mem _ hc)]
    rfl
theorem v_srtMin {l : List α} {m : α} (hd : decide (Nc.d gk ≤ 60) = true) (ht : isTb s1 n P q = true) (ha : evE c a e st = .ok x s1) (hx : rd x s1 = some u) (hi : itemsD u = some (l.map f)) (hk : ∀ a, okb a = true → lkD k (f a) = some (gk (kf a))) (h : minKO okb kf lt l = some m) :
    evE c (.srtk .min n P q k a) e st = .ok (.d (f m)) s1 := by
  unfold minKO at h
  split at h
  case isFalse => cases h
  case isTrue g =>
  obtain ⟨g1, g2⟩ := keyG_spec g
  cases l with
  | nil => cases h
  | cons b l =>
    cases h
    rw [e_srtk, ha]
    show (if isTb s1 n P q = true then R.opt ((rd x s1).bind (srtkD .min k)) s1 else .bad) = _
    rw [if_pos ht, hx]
    show R.opt (srtkD .min k u) s1 = _
    unfold srtkD
    rw [hi]
    show R.opt (if (keyOk k ((b :: l).map f) && flatDs ((b :: l).map f) && decide (((b :: l).map f).length ≤ sizeLine)) = true then some (PV.d (minK (keyF k) (f b) (l.map f))) else none) s1 = _
    rw [keyOk_map (lt := lt) hd hk g1, flats_map, List.length_map, decide_eq_true g2, if_pos (show (true && true && true) = true from rfl)]
    unfold minK
    rw [foldl_map_eq (okb := okb) (f := f) (G := fun a y => if lt (kf y) (kf a) = true then y else a) l b (fun x y hx hy => by
      rw [keyF_eq (hk x hx), keyF_eq (hk y hy), Lc.lt]
      cases lt (kf y) (kf x) with
      | true => exact ⟨rfl, hy⟩
      | false => exact ⟨rfl, hx⟩) (g1 b List.mem_cons_self) fun c hc => g1 c (List.mem_cons_of_mem _ hc)]
    rfl
/-- len(set(..)) -/
def lsetO (l : List Int) : Option Int := if (decide l.Nodup && decide (l.length ≤ 4000)) = true then some l.length else none
theorem v_lset {l : List Int} {m : Int} (ha : evE c a e st = .ok x s1) (hx : rd x s1 = some (eL eI l)) (h : lsetO l = some m) : evE c (.lset a) e st = .ok (.d (eI m)) s1 := by
  unfold lsetO at h
  split at h
  case isFalse => cases h
  case isTrue g =>
  cases h
  rw [e_lset, ha]
  show R.opt ((rd x s1).bind lsetD) s1 = _
  rw [hx]
  show R.opt ((allInts (l.map PyData.int)).bind fun ns => if (decide ns.Nodup && decide (ns.length ≤ 4000)) = true then some (PV.d (.int ns.length)) else none) s1 = _
  rw [allInts_map]
  show R.opt (if (decide (l.map id).Nodup && decide ((l.map id).length ≤ 4000)) = true then some (PV.d (.int (l.map id).length)) else none) s1 = _
  rw [List.map_id, if_pos g]
  rfl
/-- sorted(set(..)) -/
def ssetO (l : List Int) : Option (List Int) := if (decide (l.Pairwise (· < ·)) && decide (l.length < 63)) = true then some l else none
theorem v_sset {l m : List Int} (ha : evE c a e st = .ok x s1) (hx : rd x s1 = some (eT eI l)) (h : ssetO l = some m) : evE c (.sset a) e st = .ok (.fre (eL eI m)) s1 := by
  unfold ssetO at h
  split at h
  case isFalse => cases h
  case isTrue g =>
  cases h
  rw [e_sset, ha]
  show R.opt ((rd x s1).bind ssetD) s1 = _
  rw [hx]
  show R.opt ((allInts (l.map PyData.int)).bind fun ns => if (decide (ns.Pairwise (· < ·)) && decide (ns.length < 63)) = true then some (PV.fre (.list (l.map .int))) else none) s1 = _
  rw [allInts_map, show (l.map fun a => a) = l from List.map_id' l]
  show R.opt (if (decide (l.Pairwise (· < ·)) && decide (l.length < 63)) = true then some (PV.fre (.list (l.map .int))) else none) s1 = _
  rw [if_pos g]
  rfl
end
end Ev

set_option maxRecDepth 100000
/-! Shm: plain facts about what may fail. -/
namespace Ev
open PySem
section
variable {α β γ σ ρ : Type}
theorem foldO_inv {F : σ → α → Option σ} {I : σ → Prop} : ∀ {l : List α} {s : σ}, (∀ s a, a ∈ l → I s → ∃ s', F s a = some s' ∧ I s') → I s → ∃ s', foldO F l s = some s' ∧ I s'
  | [], s, _, h => ⟨s, rfl, h⟩
  | a :: l, s, hF, h => by
    obtain ⟨s1, h1, h2⟩ := hF s a List.mem_cons_self h
    obtain ⟨s2, h3, h4⟩ := foldO_inv (l := l) (fun s b hb => hF s b (List.mem_cons_of_mem _ hb)) h2
    exact ⟨s2, by rw [foldO, h1, Option.bind_some, h3], h4⟩
theorem foldO_eq {F : σ → α → Option σ} {g : σ → α → σ} : ∀ {l : List α} {s : σ}, (∀ s a, a ∈ l → F s a = some (g s a)) → foldO F l s = some (l.foldl g s)
  | [], s, _ => rfl
  | a :: l, s, hF => by
    rw [foldO, hF s a List.mem_cons_self, Option.bind_some, foldO_eq (fun s b hb => hF s b (List.mem_cons_of_mem _ hb))]; rfl
/-- the whole list is known at each turn -/
theorem foldO_pre {F : σ → α → Option σ} {I : List α → σ → Prop} (l : List α) (hF : ∀ (p : List α) (a : α) (q : List α) (s : σ), l = p ++ a :: q → I p s → ∃ s', F s a = some s' ∧ I (p ++ [a]) s') {s : σ} (h : I [] s) : ∃ s', foldO F l s = some s' ∧ I l s' := by
  have key : ∀ (q p : List α) (s : σ), l = p ++ q → I p s → ∃ s', foldO F q s = some s' ∧ I l s' := by
    intro q
    induction q with
    | nil => intro p s e h; rw [List.append_nil] at e; subst e; exact ⟨s, rfl, h⟩
    | cons a q ih =>
      intro p s e h
      obtain ⟨s1, h1, h2⟩ := hF p a q s e h
      obtain ⟨s2, h3, h4⟩ := ih (p ++ [a]) s1 (by rw [e, List.append_assoc]; rfl) h2
      exact ⟨s2, by rw [foldO, h1, Option.bind_some, h3], h4⟩
  exact key l [] s rfl h
theorem forO_nx {F : σ → α → Option (Out ρ σ)} {I : σ → Prop} : ∀ {l : List α} {s : σ}, (∀ s a, a ∈ l → I s → ∃ s', F s a = some (.nx s') ∧ I s') → I s → ∃ s', forO F l s = some (.inr s') ∧ I s'
  | [], s, _, h => ⟨s, rfl, h⟩
  | a :: l, s, hF, h => by
    obtain ⟨s1, h1, h2⟩ := hF s a List.mem_cons_self h
    obtain ⟨s2, h3, h4⟩ := forO_nx (l := l) (fun s b hb => hF s b (List.mem_cons_of_mem _ hb)) h2
    exact ⟨s2, by rw [forO, h1]; exact h3, h4⟩
theorem whlO_run {C : σ → Option Bool} {F : σ → Option σ} {I : σ → Prop} {c : σ → Bool} {μ : σ → Nat} (hC : ∀ s, I s → C s = some (c s)) (hF : ∀ s, I s → c s = true → ∃ s', F s = some s' ∧ I s' ∧ μ s' < μ s) : ∀ (n : Nat) (s : σ), I s → μ s < n → ∃ s', whlO C F n s = some s' ∧ I s' ∧ c s' = false
  | 0, s, _, h => absurd h (Nat.not_lt_zero _)
  | n + 1, s, hi, hm => by
    rw [whlO, hC s hi, Option.bind_some]
    cases hc : c s with
    | false => exact ⟨s, by rw [if_neg (by simp)], hi, hc⟩
    | true =>
      obtain ⟨s1, h1, h2, h3⟩ := hF s hi hc
      obtain ⟨s2, h4, h5, h6⟩ := whlO_run hC hF n s1 h2 (by omega)
      exact ⟨s2, by rw [if_pos rfl, h1, Option.bind_some, h4], h5, h6⟩
theorem lcS_run {F : α → σ → Option (Option β × σ)} {I : σ → Prop} {P : β → Prop} : ∀ {l : List α} {s : σ}, (∀ a s, a ∈ l → I s → ∃ o s', F a s = some (o, s') ∧ I s' ∧ ∀ b, o = some b → P b) → I s → ∃ m s', lcS F l s = some (m, s') ∧ I s' ∧ (∀ b ∈ m, P b) ∧ m.length ≤ l.length
  | [], s, _, h => ⟨[], s, rfl, h, fun _ q => absurd q List.not_mem_nil, Nat.le_refl _⟩
  | a :: l, s, hF, h => by
    obtain ⟨o, s1, h1, h2, h3⟩ := hF a s List.mem_cons_self h
    obtain ⟨m, s2, h4, h5, h6, h7⟩ := lcS_run (l := l) (fun b s hb => hF b s (List.mem_cons_of_mem _ hb)) h2
    rw [lcS, h1, Option.bind_some]
    dsimp only
    rw [h4, Option.bind_some]
    cases o with
    | none => exact ⟨m, s2, rfl, h5, h6, by rw [List.length_cons]; omega⟩
    | some b =>
      refine ⟨b :: m, s2, rfl, h5, fun c hc => ?_, by rw [List.length_cons, List.length_cons]; omega⟩
      rcases List.mem_cons.mp hc with rfl | hc
      · exact h3 _ rfl
      · exact h6 c hc
/-- all items are kept: what is made, in the same order -/
theorem lcS_all {F : α → σ → Option (Option β × σ)} {I : σ → Prop} {P : α → β → Prop} : ∀ {l : List α} {s : σ}, (∀ a s, a ∈ l → I s → ∃ b s', F a s = some (some b, s') ∧ I s' ∧ P a b) → I s → ∃ m s', lcS F l s = some (m, s') ∧ I s' ∧ m.length = l.length ∧ ∀ b ∈ m, ∃ a ∈ l, P a b
  | [], s, _, h => ⟨[], s, rfl, h, rfl, fun _ q => absurd q List.not_mem_nil⟩
  | a :: l, s, hF, h => by
    obtain ⟨o, s1, h1, h2, h3⟩ := hF a s List.mem_cons_self h
    obtain ⟨m, s2, h4, h5, h6, h7⟩ := lcS_all (l := l) (fun b s hb => hF b s (List.mem_cons_of_mem _ hb)) h2
    rw [lcS, h1, Option.bind_some]
    dsimp only
    rw [h4, Option.bind_some]
    refine ⟨o :: m, s2, rfl, h5, by rw [List.length_cons, List.length_cons, h6], fun c hc => ?_⟩
    rcases List.mem_cons.mp hc with rfl | hc
    · exact ⟨a, List.mem_cons_self, h3⟩
    · obtain ⟨b, hb, hp⟩ := h7 c hc
      exact ⟨b, List.mem_cons_of_mem _ hb, hp⟩
/-! ### numbers, rows of numbers -/
def iR (n : Nat) : List Int := (List.range n).map fun (i : Nat) => (i : Int)
theorem iR_len (n : Nat) : (iR n).length = n := by unfold iR; rw [List.length_map, List.length_range]
theorem mem_iR {n : Nat} {i : Int} : i ∈ iR n ↔ 0 ≤ i ∧ i < n := by
  unfold iR
  rw [List.mem_map]
  constructor
  · rintro ⟨k, hk, rfl⟩
    have := List.mem_range.mp hk
    omega
  · rintro ⟨h1, h2⟩
    exact ⟨i.toNat, List.mem_range.mpr (by omega), by omega⟩
theorem iR_nodup (n : Nat) : (iR n).Nodup := by
  unfold iR
  exact List.Pairwise.map _ (fun a b h => by omega) List.nodup_range
theorem rgT_iR (n : Nat) : rgT 0 (n : Int) = iR n := by
  unfold rgT iR
  rw [show ((n : Int) - 0).toNat = n by omega]
  apply List.map_congr_left
  intro i _
  omega
theorem small_nat {n : Nat} (h : n < 1000000000) : smallI (n : Int) = true := by
  unfold smallI
  exact decide_eq_true (by omega)
theorem rngO_n {n : Nat} (h : n < 1000000000) : rngO 0 (n : Int) = some (iR n) := by
  unfold rngO
  rw [show smallI 0 = true from rfl, small_nat h, rgT_iR]; rfl
theorem lrgO_n {n : Nat} (h : n ≤ 1000000) : lrgO 0 (n : Int) = some (iR n) := by
  unfold lrgO
  rw [show smallI 0 = true from rfl, small_nat (by omega), rgT_iR, decide_eq_true (by
    have : (1000000 : Nat) ≤ sizeLine := by decide
    omega)]; rfl
theorem atO_nat {l : List α} {i : Nat} (h : i < l.length) : atO l (i : Int) = some l[i] := by
  unfold atO L2.atI
  have e : L2.ixN l.length (i : Int) = some i := by
    unfold L2.ixN
    rw [if_pos (by omega), if_pos (by omega)]
    rfl
  rw [e]
  exact List.getElem?_eq_getElem h
theorem atO_int {l : List α} {i : Int} (h0 : 0 ≤ i) (h : i < l.length) : atO l i = some (l[i.toNat]'(by omega)) := by
  have e : i = ((i.toNat : Nat) : Int) := by omega
  have := atO_nat (l := l) (i := i.toNat) (by omega)
  rwa [← e] at this
theorem atO_last {l : List α} (h : l ≠ []) : atO l (-1) = some (l.getLast h) := by
  unfold atO L2.atI
  have hp := List.length_pos_iff.mpr h
  have e : L2.ixN l.length (-1) = some (l.length - 1) := by
    unfold L2.ixN
    rw [if_neg (by omega), if_pos (by omega)]
    congr 1
    omega
  rw [e]
  show l[l.length - 1]? = _
  rw [List.getElem?_eq_getElem (by omega), List.getLast_eq_getElem]
theorem atO_zero {l : List α} (h : l ≠ []) : atO l 0 = some (l.head h) := by
  have hp := List.length_pos_iff.mpr h
  have := atO_nat (l := l) (i := 0) hp
  rw [show ((0 : Nat) : Int) = 0 from rfl] at this
  rw [this, List.head_eq_getElem]
theorem szO_le {l : List α} {n : Nat} (h : l.length ≤ n) (hn : n ≤ 16777216) : szO l = some l := szO_of (Nat.le_trans h hn)
theorem szS_le {r : List β × σ} (h : r.1.length ≤ 16777216) : szS r = some r := if_pos (by simpa [sizeLine] using h)
theorem appO_le {l m : List α} (h : l.length + m.length ≤ 16777216) : appO l m = some (l ++ m) := if_pos (by simpa [sizeLine] using h)
theorem pushO_lt {l : List α} {a : α} (h : l.length < 16777216) : pushO l a = some (l ++ [a]) := if_pos (by simpa [sizeLine] using h)
theorem mulO_of {i j : Int} (h : i.natAbs < 2 ^ 64) : mulO i j = some (i * j) := if_pos (by unfold mulOk; rw [Bool.or_eq_true]; exact .inl (decide_eq_true h))
theorem sortO_le {lt : α → α → Bool} {l : List α} (h : l.length ≤ 16777216) : sortO lt l = some (sortT lt l) := szO_of (by rw [sortT, List.length_mergeSort]; exact h)
theorem cut_from1 (a : α) (l : List α) : cutL (a :: l) (some 1) none = l := by
  unfold cutL
  have h1 : HT.sIx (a :: l).length 0 (some 1) = 1 := by
    have := HT.sIx_nat (a :: l).length 0 1
    rw [show ((1 : Nat) : Int) = 1 from rfl] at this
    rw [this, List.length_cons]
    omega
  have h2 : HT.sIx (a :: l).length (a :: l).length none = (a :: l).length := rfl
  rw [h1, h2]
  simp
theorem all_id_map {p : α → Bool} {l : List α} (h : ∀ a ∈ l, p a = true) : (l.map p).all id = true := by
  rw [List.all_map, List.all_eq_true]
  exact h
end
end Ev

set_option maxRecDepth 100000
/-! Shd: dicts, cuts, keyed orders: plain facts. -/
namespace Ev
open PySem
section
variable {κ τ : Type} [DecidableEq κ]
theorem dputT_len (l : List (κ × τ)) (k : κ) (v : τ) : (dputT l k v).length ≤ l.length + 1 := by
  unfold dputT
  split
  · rw [List.length_map]; omega
  · rw [List.length_append]; simp
theorem dgetT_put (l : List (κ × τ)) (k j : κ) (v : τ) : dgetT (dputT l k v) j = if k = j then some v else dgetT l j := by
  unfold dputT
  by_cases h : dhas l k = true
  · rw [if_pos h]
    have key : ∀ l : List (κ × τ), dgetT (l.map fun p => if p.1 = k then (p.1, v) else p) j = if k = j then (if dhas l k = true then some v else none) else dgetT l j := by
      intro l
      induction l with
      | nil => unfold dgetT dhas; simp
      | cons p l ih =>
        unfold dgetT dhas at ih ⊢
        rw [List.map_cons, List.find?_cons, List.find?_cons, List.any_cons]
        by_cases h1 : p.1 = k
        · rw [if_pos h1]
          by_cases h2 : k = j
          · simp [h1, h2]
          · have h3 : ¬ p.1 = j := fun e => h2 (h1 ▸ e)
            simp only [h3, decide_false, if_neg h2]
            rw [if_neg h2] at ih
            exact ih
        · rw [if_neg h1]
          by_cases h2 : p.1 = j
          · have h3 : ¬ k = j := fun e => h1 (h2.trans e.symm)
            simp [h2, h3]
          · simp only [h2, decide_false, h1, Bool.false_or]
            exact ih
    rw [key l, h, if_pos rfl]
  · rw [if_neg h]
    unfold dgetT
    rw [List.find?_append]
    by_cases h2 : k = j
    · subst h2
      have : l.find? (fun p => decide (p.1 = k)) = none := by
        rw [List.find?_eq_none]
        intro p hp hq
        exact h (by unfold dhas; rw [List.any_eq_true]; exact ⟨p, hp, hq⟩)
      rw [this]
      simp
    · have : [(k, v)].find? (fun p => decide (p.1 = j)) = none := by simp [h2]
      rw [this, if_neg h2, Option.or_none]
theorem dhas_get (l : List (κ × τ)) (k : κ) : dhas l k = (dgetT l k).isSome := by
  unfold dhas dgetT
  rw [Option.isSome_map, Bool.eq_iff_iff, List.any_eq_true, List.find?_isSome]
theorem dhas_put (l : List (κ × τ)) (k j : κ) (v : τ) : dhas (dputT l k v) j = (decide (k = j) || dhas l j) := by
  rw [dhas_get, dgetT_put, dhas_get]
  by_cases h : k = j <;> simp [h]
theorem dputO_lt {l : List (κ × τ)} {k : κ} {v : τ} (h : l.length < 16777216) : dputO l k v = some (dputT l k v) := if_pos (by simpa [PySem.sizeLine] using h)
end
theorem cut_to {α : Type} (l : List α) (n : Nat) : cutL l none (some (n : Int)) = l.take n := by
  have h := HT.sIx_nat l.length l.length n
  unfold cutL
  rw [h]
  show ((l.drop 0).take (min n l.length - 0)) = _
  rw [List.drop_zero, Nat.sub_zero]
  by_cases hn : n ≤ l.length
  · rw [Nat.min_eq_left hn]
  · rw [Nat.min_eq_right (by omega), List.take_length, List.take_of_length_le (by omega)]
theorem cut_from {α : Type} (l : List α) (n : Nat) : cutL l (some (n : Int)) none = l.drop n := by
  have h := HT.sIx_nat l.length 0 n
  unfold cutL
  rw [h]
  show ((l.drop (min n l.length)).take (l.length - min n l.length)) = _
  by_cases hn : n ≤ l.length
  · rw [Nat.min_eq_left hn]
    exact List.take_of_length_le (by rw [List.length_drop]; exact Nat.le_refl _)
  · rw [Nat.min_eq_right (by omega), List.drop_length, List.drop_of_length_le (by omega)]
    simp
section
variable {α κ : Type}
theorem sortKT_perm (kf : α → κ) (lt : κ → κ → Bool) (l : List α) : (sortKT kf lt l).Perm l := List.mergeSort_perm _ _
theorem sortKT_pw [DecidableEq κ] (kf : α → κ) {lt : κ → κ → Bool} [Lo lt] (l : List α) : (sortKT kf lt l).Pairwise fun a b => lt (kf b) (kf a) = false := by
  have h := List.pairwise_mergeSort (le := fun a b => !lt (kf b) (kf a)) (fun a b c h1 h2 => by
    simp only [Bool.not_eq_true'] at h1 h2 ⊢
    cases q : lt (kf c) (kf a) with
    | false => rfl
    | true =>
      cases r : lt (kf a) (kf b) with
      | true => rw [Lo.tr _ _ _ q r] at h2; cases h2
      | false => rw [Lo.tot _ _ r h1] at q; rw [q] at h2; cases h2) (fun a b => by
    cases q : lt (kf b) (kf a) with
    | false => rfl
    | true => simp [Lo.asym q]) l
  exact h.imp fun h => by simpa using h
theorem keyG_of {okb : α → Bool} {l : List α} (h : ∀ a ∈ l, okb a = true) (hl : l.length ≤ 16777216) : keyG okb l = true := by
  unfold keyG
  rw [Bool.and_eq_true, List.all_eq_true, decide_eq_true_eq]
  exact ⟨h, by simpa [PySem.sizeLine] using hl⟩
theorem maxK_fold (kf : α → Int) : ∀ (l : List α) (a : α), (l.foldl (fun a y => if ltI (kf a) (kf y) = true then y else a) a = a ∨ l.foldl (fun a y => if ltI (kf a) (kf y) = true then y else a) a ∈ l) ∧ kf a ≤ kf (l.foldl (fun a y => if ltI (kf a) (kf y) = true then y else a) a) ∧ ∀ x ∈ l, kf x ≤ kf (l.foldl (fun a y => if ltI (kf a) (kf y) = true then y else a) a)
  | [], a => ⟨.inl rfl, Int.le_refl _, fun x h => (nomatch h)⟩
  | b :: l, a => by
    rw [List.foldl_cons]
    by_cases h : ltI (kf a) (kf b) = true
    · rw [if_pos h]
      obtain ⟨h1, h2, h3⟩ := maxK_fold kf l b
      have : kf a < kf b := by simpa [ltI] using h
      refine ⟨.inr ?_, by omega, fun x hx => ?_⟩
      · rcases h1 with e | e
        · rw [e]; exact List.mem_cons_self
        · exact List.mem_cons_of_mem _ e
      · rcases List.mem_cons.mp hx with q | q
        · rw [q]; exact h2
        · exact h3 x q
    · rw [if_neg h]
      obtain ⟨h1, h2, h3⟩ := maxK_fold kf l a
      have : ¬ kf a < kf b := by simpa [ltI] using h
      refine ⟨?_, h2, fun x hx => ?_⟩
      · rcases h1 with e | e
        · exact .inl e
        · exact .inr (List.mem_cons_of_mem _ e)
      · rcases List.mem_cons.mp hx with q | q
        · rw [q]; omega
        · exact h3 x q
theorem maxKO_is {okb : α → Bool} {kf : α → Int} {l : List α} (h0 : l ≠ []) (h : ∀ a ∈ l, okb a = true) (hl : l.length ≤ 16777216) : ∃ m, maxKO okb kf ltI l = some m ∧ m ∈ l ∧ ∀ x ∈ l, kf x ≤ kf m := by
  unfold maxKO
  rw [if_pos (keyG_of h hl)]
  cases l with
  | nil => exact absurd rfl h0
  | cons a l =>
    obtain ⟨h1, h2, h3⟩ := maxK_fold kf l a
    refine ⟨_, rfl, ?_, fun x hx => ?_⟩
    · rcases h1 with e | e
      · rw [e]; exact List.mem_cons_self
      · exact List.mem_cons_of_mem _ e
    · rcases List.mem_cons.mp hx with q | q
      · rw [q]; exact h2
      · exact h3 x q
theorem maxO_is {l : List Int} (h0 : l ≠ []) : ∃ m, maxO ltI l = some m ∧ m ∈ l ∧ ∀ x ∈ l, x ≤ m := by
  cases l with
  | nil => exact absurd rfl h0
  | cons a l =>
    obtain ⟨h1, h2, h3⟩ := maxK_fold id l a
    refine ⟨_, rfl, ?_, fun x hx => ?_⟩
    · rcases h1 with e | e
      · show l.foldl _ a ∈ _; simp only [id] at e; rw [e]; exact List.mem_cons_self
      · exact List.mem_cons_of_mem _ e
    · rcases List.mem_cons.mp hx with q | q
      · rw [q]; exact h2
      · exact h3 x q
end
end Ev

set_option maxRecDepth 100000
/-! Eh: the other drawn state (a hand). -/
namespace Ev
open PySem L2 PySem.W PyProof.Rows PySem.SeqAt

local macro_rules | `(tactic| trivial) => `(tactic| simp [↓bind_I, ↓then_I, ↓ofR_I, x_nil, x_cons, then_nx, then_rt, ofR_ok, bind_ok, opt_some, noEx_ok, runB_rt, runB_nx, s_set, s_par2, s_par3, s_asg, s_app, s_ex, s_frz, s_ret, s_retN, s_ife, s_for, s_whl, s_brk, s_cont, s_setR, s_popR, s_setO, s_augO, s_aug, s_ext, s_swp, e_var, e_lit, e_con, e_ty, e_op, e_neg, e_cmp, e_chn, e_andd, e_orr, e_nott, e_ife, e_tup, e_lst, e_lstR, e_box, e_ix, e_sl, e_rev, e_call, e_bi, e_lrng, e_lc, e_lc2, e_dcp, e_dcp2, e_dnew, e_dsp, e_keep, e_get1, e_get2, e_lset, evRs, evAs, evDs, evTs, evI, evP, evA, biV, biD, rd, inC, asB, asR, asD, cmpD, opD, ltD, augD, isNone, List.replicate, I, L, srcV, srcL, itsV, vlsV, wipeC, asg, setAll, putC, notOwn, isaD, flatD, flat_ints, PyData.isInt, PyData.isBool, PyData.isTuple, allBools_map, allInts_map, List.all_map, Function.comp_def, ixD, allT, slD, itemsD, itemsK, ai_cons, l0, l1, l2, l3, l4, eq_int, eq_bool, sortD_eq, *])
def drawB : Ss := (.cons (.ife (.andd (.cmp .eq (.ix (.var 0) (.lit (.int 2))) (.lit (.int 0))) (.cmp .lt (.ix (.var 0) (.lit (.int 1))) (.bi .len (.cons (.ix (.var 0) (.lit (.int 0))) .nil)))) (.cons (.set false 2 (.e (.ix (.ix (.var 0) (.lit (.int 0))) (.ix (.var 0) (.lit (.int 1)))))) (.cons (.setR (.var 0) (.lit (.int 1)) (.op .add (.ix (.var 0) (.lit (.int 1))) (.lit (.int 1)))) (.cons (.setR (.var 0) (.lit (.int 3)) (.op .mod (.bi .int (.cons (.op .add (.op .add (.op .mul (.ix (.var 0) (.lit (.int 3))) (.lit (.int 69621))) (.op .mul (.var 2) (.lit (.int 48271)))) (.lit (.int 17))) .nil)) (.lit (.int 2147483629)))) (.cons (.ife (.cmp .ge (.var 2) (.op .pow (.lit (.int 10)) (.lit (.int 18)))) (.cons (.setR (.var 0) (.lit (.int 2)) (.var 2)) .nil) .nil) .nil)))) .nil) (.cons (.ife (.cmp .gt (.ix (.var 0) (.lit (.int 2))) (.lit (.int 0))) (.cons (.set false 3 (.e (.op .mod (.bi .int (.cons (.ix (.var 0) (.lit (.int 2))) .nil)) (.var 1)))) (.cons (.setR (.var 0) (.lit (.int 2)) (.op .fdiv (.ix (.var 0) (.lit (.int 2))) (.var 1))) (.cons (.ret (.var 3)) .nil))) .nil) (.cons (.setR (.var 0) (.lit (.int 4)) (.op .add (.ix (.var 0) (.lit (.int 4))) (.lit (.int 1)))) (.cons (.set false 4 (.e (.op .mod (.bi .int (.cons (.op .mul (.bi .int (.cons (.op .add (.ix (.var 0) (.lit (.int 3))) (.op .mul (.lit (.int 7919)) (.ix (.var 0) (.lit (.int 4))))) .nil)) (.lit (.int 40692))) .nil)) (.lit (.int 2147483647))))) (.cons (.set false 4 (.e (.op .mod (.bi .int (.cons (.op .mul (.var 4) (.op .add (.op .fdiv (.var 4) (.lit (.int 1009))) (.lit (.int 69621)))) .nil)) (.lit (.int 2147483647))))) (.cons (.set false 4 (.e (.op .mod (.bi .int (.cons (.op .mul (.var 4) (.op .add (.op .fdiv (.var 4) (.lit (.int 2003))) (.lit (.int 40014)))) .nil)) (.lit (.int 2147483563))))) (.cons (.ret (.op .mod (.bi .int (.cons (.op .fdiv (.var 4) (.lit (.int 16))) .nil)) (.var 1))) .nil)))))))
def handB (c0 c1 : Int) : Ss := (.cons (.set false 1 (.e (.lc [2] (.nm 2) (.sq (.sl (.var 0) .no (.ex (.lit (.int 63))))) .nil (.bi .abs (.cons (.bi .int (.cons (.var 2) .nil)) .nil))))) (.cons (.ret (.lstR (.cons (.var 1) (.cons (.lit (.int 0)) (.cons (.lit (.int 0)) (.cons (.op .add (.lit (.int c0)) (.op .mul (.lit (.int c1)) (.bi .len (.cons (.var 1) .nil)))) (.cons (.lit (.int 0)) .nil))))))) .nil))
/-- cells, place, great number, seed, count -/
structure Hnd where
  cs : List Int
  i : Int
  b : Int
  s : Int
  n : Int
def Hnd.ob (h : Hnd) : Ob := .lst [.d (.list (h.cs.map .int)), .d (.int h.i), .d (.int h.b), .d (.int h.s), .d (.int h.n)]
def hdS (pre : Sto) (h : Hnd) : Sto := pre ++ [h.ob]
/-- a cell is taken -/
def Hnd.take (h : Hnd) : Hnd := if h.b = 0 ∧ h.i < h.cs.length then (match L2.atI h.cs h.i with
  | some c => ⟨h.cs, h.i + 1, if 10 ^ 18 ≤ c then c else h.b, (h.s * 69621 + c * 48271 + 17) % 2147483629, h.n⟩
  | none => h) else h
def nh1 (s n : Int) : Int := ((s + 7919 * (n + 1)) * 40692) % 2147483647
def nh2 (s n : Int) : Int := (nh1 s n * (nh1 s n / 1009 + 69621)) % 2147483647
def nh3 (s n : Int) : Int := (nh2 s n * (nh2 s n / 2003 + 40014)) % 2147483563
def Hnd.num (h : Hnd) (many : Int) : Int × Hnd := if 0 < h.b then (h.b % many, ⟨h.cs, h.i, h.b / many, h.s, h.n⟩) else (nh3 h.s h.n / 16 % many, ⟨h.cs, h.i, h.b, h.s, h.n + 1⟩)
def Hnd.ok (h : Hnd) : Prop := 0 ≤ h.i ∧ 0 ≤ h.b
def drawT (many : Int) (h : Hnd) : Option (Int × Hnd) := if 0 < many ∧ many < 1073741824 ∧ 0 ≤ h.i ∧ 0 ≤ h.b then some (h.take.num many) else none
theorem pre_get (pre : Sto) (x : Ob) : (pre ++ [x])[pre.length]? = some x := by simp
theorem pre_set (pre : Sto) (x y : Ob) : (pre ++ [x]).set pre.length y = pre ++ [y] := by simp
section
variable {ds : List Fd} {at_ : Nat} {nm : Str} {sm : Stmt}
theorem draw_run (hd : ds[at_]? = some ⟨nm, sm, ["hand", "many", "cell", "digit", "number"], 2, drawB⟩) (m : Nat) (pre : Sto) (h : Hnd) (many : Int) (h1 : 0 < many) (h2 : many < 1073741824) (h3 : 0 ≤ h.i) (h4 : 0 ≤ h.b) :
    callL ds (m + 1) at_ [.ref pre.length, .d (.int many)] (hdS pre h) = .ok (.d (.int (h.take.num many).1)) (hdS pre (h.take.num many).2) := by
  rw [callL_at hd rfl, drawB]
  clear hd
  obtain ⟨cs, i, b, s, n⟩ := h
  have h3 : 0 ≤ i := h3
  have h4 : 0 ≤ b := h4
  unfold hdS Hnd.ob
  dsimp only
  have i0 : ∀ (x y z w v : PV), L2.atI [x, y, z, w, v] 0 = some x := fun _ _ _ _ _ => rfl
  have i1 : ∀ (x y z w v : PV), L2.atI [x, y, z, w, v] 1 = some y := fun _ _ _ _ _ => rfl
  have i2 : ∀ (x y z w v : PV), L2.atI [x, y, z, w, v] 2 = some z := fun _ _ _ _ _ => rfl
  have i3 : ∀ (x y z w v : PV), L2.atI [x, y, z, w, v] 3 = some w := fun _ _ _ _ _ => rfl
  have i4 : ∀ (x y z w v : PV), L2.atI [x, y, z, w, v] 4 = some v := fun _ _ _ _ _ => rfl
  have j1 : L2.ixN 5 1 = some 1 := rfl
  have j2 : L2.ixN 5 2 = some 2 := rfl
  have j3 : L2.ixN 5 3 = some 3 := rfl
  have j4 : L2.ixN 5 4 = some 4 := rfl
  have m1 : ∀ x, mulOk 7919 x = true := fun x => by unfold mulOk; rw [Bool.or_eq_true]; exact .inl (decide_eq_true (by decide))
  have m2 : ∀ x, mulOk x 48271 = true := fun x => by unfold mulOk; rw [Bool.or_eq_true]; exact .inr (decide_eq_true (by decide))
  have m3 : ∀ x, mulOk x 69621 = true := fun x => by unfold mulOk; rw [Bool.or_eq_true]; exact .inr (decide_eq_true (by decide))
  have m4 : ∀ x, mulOk x 40692 = true := fun x => by unfold mulOk; rw [Bool.or_eq_true]; exact .inr (decide_eq_true (by decide))
  have m5 : ∀ x y, mulOk (x % 2147483647) y = true := fun x y => by
    unfold mulOk
    rw [Bool.or_eq_true]
    exact .inl (decide_eq_true (by omega))
  have g0 := pre_get pre
  have s0 := pre_set pre
  have e18 : (10 : Int) ^ 18 = 1000000000000000000 := rfl
  have at1 : L2.atI (List.map PyData.int cs) i = (L2.atI cs i).map PyData.int := atI_map
  by_cases hb : b = 0
  · subst hb
    by_cases hi : i < cs.length
    · obtain ⟨c, hc⟩ : ∃ c, L2.atI cs i = some c := by
        obtain ⟨j, rfl⟩ := Int.eq_ofNat_of_zero_le h3
        exact ⟨_, L2.atI_nat (List.getElem?_eq_getElem (by omega))⟩
      rw [hc] at at1
      have e1 : Hnd.take ⟨cs, i, 0, s, n⟩ = ⟨cs, i + 1, if 10 ^ 18 ≤ c then c else 0, (s * 69621 + c * 48271 + 17) % 2147483629, n⟩ := by
        unfold Hnd.take
        rw [if_pos ⟨rfl, hi⟩]
        show (match L2.atI cs i with | some c => _ | none => _) = _
        rw [hc]
      rw [e1]
      by_cases hg : 10 ^ 18 ≤ c
      · rw [if_pos hg]
        rw [e18] at hg
        have hp : 0 < c := by omega
        unfold Hnd.num
        rw [if_pos hp]
        trivial
      · rw [if_neg hg]
        rw [e18] at hg
        unfold Hnd.num nh3 nh2 nh1
        rw [if_neg (Int.lt_irrefl 0)]
        trivial
    · have e1 : Hnd.take ⟨cs, i, 0, s, n⟩ = ⟨cs, i, 0, s, n⟩ := by
        unfold Hnd.take
        rw [if_neg (fun q => hi q.2)]
      rw [e1]
      unfold Hnd.num nh3 nh2 nh1
      rw [if_neg (Int.lt_irrefl 0)]
      trivial
  · have e1 : Hnd.take ⟨cs, i, b, s, n⟩ = ⟨cs, i, b, s, n⟩ := by
      unfold Hnd.take
      rw [if_neg (fun q => hb q.1)]
    have hp : 0 < b := by omega
    rw [e1]
    unfold Hnd.num
    rw [if_pos hp]
    trivial
theorem drawT_ok (hd : ds[at_]? = some ⟨nm, sm, ["hand", "many", "cell", "digit", "number"], 2, drawB⟩) (m : Nat) (pre : Sto) {many : Int} {h : Hnd} {r : Int × Hnd} (q : drawT many h = some r) : callL ds (m + 1) at_ [.ref pre.length, .d (.int many)] (hdS pre h) = .ok (.d (.int r.1)) (hdS pre r.2) := by
  unfold drawT at q
  split at q
  case isFalse => cases q
  case isTrue g =>
  cases q
  exact draw_run hd m pre h many g.1 g.2.1 g.2.2.1 g.2.2.2
theorem drawT_is {h : Hnd} (hk : h.ok) {many : Int} (h1 : 0 < many) (h2 : many < 1073741824) : ∃ p h', drawT many h = some (p, h') ∧ h'.ok ∧ 0 ≤ p ∧ p < many := by
  obtain ⟨a, b⟩ := hk
  have tk : h.take.ok := by
    unfold Hnd.take
    split
    · split
      · refine ⟨by show (0 : Int) ≤ h.i + 1; omega, ?_⟩
        show (0 : Int) ≤ if _ then _ else _
        split
        · have : (10 : Int) ^ 18 = 1000000000000000000 := rfl
          omega
        · exact b
      · exact ⟨a, b⟩
    · exact ⟨a, b⟩
  refine ⟨(h.take.num many).1, (h.take.num many).2, by unfold drawT; rw [if_pos ⟨h1, h2, a, b⟩], ?_, ?_, ?_⟩
  · unfold Hnd.num
    split
    · exact ⟨tk.1, Int.ediv_nonneg tk.2 (by omega)⟩
    · exact tk
  · unfold Hnd.num
    split <;> exact Int.emod_nonneg _ (by omega)
  · unfold Hnd.num
    split <;> exact Int.emod_lt_of_pos _ h1
theorem hand_run {c0 c1 : Int} (hd : ds[at_]? = some ⟨nm, sm, ["script", "cells", "cell"], 1, handB c0 c1⟩) (hc : c1.natAbs < 1000) (m : Nat) (pre : Sto) (ns : List Int) (h : ns.length ≤ 63) : ∃ s : Hnd, s.ok ∧ callL ds (m + 1) at_ [.d (.list (ns.map .int))] pre = .ok (.ref pre.length) (hdS pre s) := by
  have c1' := cut63 (ns.map PyData.int) (by rw [List.length_map]; exact h)
  have m1 : ∀ x, mulOk c1 x = true := fun x => by unfold mulOk; rw [Bool.or_eq_true]; exact .inl (decide_eq_true (by omega))
  refine ⟨⟨ns.map ab, 0, 0, c0 + c1 * ns.length, 0⟩, ⟨Int.le_refl _, Int.le_refl _⟩, ?_⟩
  rw [callL_at hd rfl, handB]
  clear hd
  trivial
  rw [lcL_map (enc := .int) (g := fun x => .int (ab x))]
  · have l5 : (5 ≤ sizeLine) = True := eq_true (by decide)
    trivial
    unfold hdS Hnd.ob
    trivial
  · intro x hx
    unfold ab
    by_cases h1 : x < 0 <;> trivial
  · exact sz (by simp; omega)
end
end Ev

set_option maxRecDepth 100000
/-! the defs of K79 in the small syntax -/
namespace K79
open PySem Ev

def top (i : Nat) : Stmt := PySem.Challenge.pw_curtainrise_k79_whole_quiet_lots.main.body.getD i (.Pass ⟨0, 0, 0, 0⟩)
def T : Tab := ⟨["abs", "all", "bool", "int", "isinstance", "len", "list", "max", "range", "set", "sorted", "sum", "tuple"], [(("PEOPLE" : Str), ((.int 10) : PyData)), (("MOST_AMOUNT" : Str), ((.int 10000) : PyData)), (("MOST_DEBTS" : Str), ((.int 60) : PyData))], [(("is_integer" : Str), (1 : Nat)), (("is_within" : Str), (3 : Nat)), (("is_tuple_of" : Str), (2 : Nat)), (("is_triple" : Str), (1 : Nat)), (("is_debt" : Str), (1 : Nat)), (("check_debts" : Str), (1 : Nat)), (("raw_balances" : Str), (1 : Nat)), (("balances" : Str), (1 : Nat)), (("open_people" : Str), (1 : Nat)), (("lots_of" : Str), (1 : Nat)), (("without_lot" : Str), (2 : Nat)), (("quiet_with_first" : Str), (2 : Nat)), (("raw_quiet_lots" : Str), (1 : Nat)), (("quiet_lots" : Str), (1 : Nat)), (("fewest_payments" : Str), (1 : Nat)), (("_law_hand" : Str), (1 : Nat)), (("_law_draw" : Str), (2 : Nat)), (("_law_any" : Str), (2 : Nat)), (("_law_debts" : Str), (3 : Nat)), (("_law_balances" : Str), (1 : Nat)), (("_law_most_quiet" : Str), (1 : Nat)), (("law" : Str), (1 : Nat))], [(("raw_quiet_lots" : Str), (115 : Nat), (113 : Nat)), (("_law_most_quiet" : Str), (167 : Nat), (165 : Nat))], none⟩
/-- is_integer -/
def d0 : Fd := ⟨"is_integer", top 1, ["thing"], 1, (.cons (.ret (.andd (.bi .isinst (.cons (.var 0) (.cons (.ty "int" "int") .nil))) (.nott (.bi .isinst (.cons (.var 0) (.cons (.ty "bool" "bool") .nil)))))) .nil)⟩
/-- is_within -/
def d1 : Fd := ⟨"is_within", top 2, ["thing", "least", "most"], 3, (.cons (.ret (.andd (.call 0 (.cons (.var 0) .nil)) (.chn .le .le (.var 1) (.var 0) (.var 2)))) .nil)⟩
/-- is_tuple_of -/
def d2 : Fd := ⟨"is_tuple_of", top 3, ["thing", "size"], 2, (.cons (.ret (.andd (.bi .isinst (.cons (.var 0) (.cons (.ty "tuple" "tuple") .nil))) (.cmp .eq (.bi .len (.cons (.var 0) .nil)) (.var 1)))) .nil)⟩
/-- is_triple -/
def d3 : Fd := ⟨"is_triple", top 11, ["thing", "person"], 1, (.cons (.ife (.orr (.nott (.call 2 (.cons (.var 0) (.cons (.lit (.int 3)) .nil)))) (.nott (.bi .all (.cons (.lc [1] (.nm 1) (.sq (.sl (.var 0) .no (.ex (.lit (.int 2))))) .nil (.call 1 (.cons (.var 1) (.cons (.lit (.int 0)) (.cons (.op .sub (.con "PEOPLE" (.int 10)) (.lit (.int 1))) .nil))))) .nil)))) (.cons (.ret (.lit (.bool false))) .nil) .nil) (.cons (.ret (.cmp .ne (.ix (.var 0) (.lit (.int 0))) (.ix (.var 0) (.lit (.int 1))))) .nil))⟩
/-- is_debt -/
def d4 : Fd := ⟨"is_debt", top 12, ["thing"], 1, (.cons (.ret (.andd (.call 3 (.cons (.var 0) .nil)) (.call 1 (.cons (.ix (.var 0) (.lit (.int 2))) (.cons (.lit (.int 1)) (.cons (.con "MOST_AMOUNT" (.int 10000)) .nil)))))) .nil)⟩
/-- check_debts -/
def d5 : Fd := ⟨"check_debts", top 13, ["debts", "debt"], 1, (.cons (.ife (.orr (.nott (.bi .isinst (.cons (.var 0) (.cons (.ty "tuple" "tuple") .nil)))) (.orr (.cmp .gt (.bi .len (.cons (.var 0) .nil)) (.con "MOST_DEBTS" (.int 60))) (.nott (.bi .all (.cons (.lc [1] (.nm 1) (.sq (.var 0)) .nil (.call 4 (.cons (.var 1) .nil))) .nil))))) (.cons (.dead) .nil) .nil) .nil)⟩
/-- raw_balances -/
def d6 : Fd := ⟨"raw_balances", top 14, ["debts", "found", "one", "other", "amount"], 1, (.cons (.set true 1 (.e (.op .mul (.lst (.cons (.lit (.int 0)) .nil)) (.con "PEOPLE" (.int 10))))) (.cons (.for_ (.tp [2, 3, 4]) (.sq (.var 0)) (.cons (.augO 1 (.var 2) .sub (.var 4)) (.cons (.augO 1 (.var 3) .add (.var 4)) .nil))) (.cons (.frz 1) (.cons (.ret (.var 1)) .nil))))⟩
/-- balances -/
def d7 : Fd := ⟨"balances", top 15, ["debts"], 1, (.cons (.ex (.e (.call 5 (.cons (.var 0) .nil)))) (.cons (.ret (.bi .tuple (.cons (.call 6 (.cons (.var 0) .nil)) .nil))) .nil))⟩
/-- open_people -/
def d8 : Fd := ⟨"open_people", top 16, ["told", "person"], 1, (.cons (.ret (.lc [1] (.nm 1) (.r1 (.con "PEOPLE" (.int 10))) (.cons (.cmp .ne (.ix (.var 0) (.var 1)) (.lit (.int 0))) .nil) (.var 1))) .nil)⟩
/-- lots_of -/
def d9 : Fd := ⟨"lots_of", top 17, ["people", "found", "person", "lot"], 1, (.cons (.set false 1 (.e (.lst (.cons (.tup .nil) .nil)))) (.cons (.for_ (.nm 2) (.sq (.var 0)) (.cons (.set false 1 (.e (.op .add (.var 1) (.lc [3] (.nm 3) (.sq (.var 1)) .nil (.op .add (.var 3) (.tup (.cons (.var 2) .nil))))))) .nil)) (.cons (.ret (.var 1)) .nil)))⟩
/-- without_lot -/
def d10 : Fd := ⟨"without_lot", top 18, ["people", "lot", "person"], 2, (.cons (.ret (.bi .tuple (.cons (.lc [2] (.nm 2) (.sq (.var 0)) (.cons (.cmp .notin (.var 2) (.var 1)) .nil) (.var 2)) .nil))) .nil)⟩
/-- quiet_with_first -/
def d11 : Fd := ⟨"quiet_with_first", top 19, ["told", "people", "some", "lot", "person"], 2, (.cons (.set false 2 (.e (.lc [3] (.nm 3) (.sq (.call 9 (.cons (.sl (.var 1) (.ex (.lit (.int 1))) .no) .nil))) .nil (.op .add (.sl (.var 1) .no (.ex (.lit (.int 1)))) (.var 3))))) (.cons (.ret (.lc [3] (.nm 3) (.sq (.var 2)) (.cons (.cmp .eq (.bi .sum (.cons (.lc [4] (.nm 4) (.sq (.var 3)) .nil (.ix (.var 0) (.var 4))) .nil)) (.lit (.int 0))) .nil) (.var 3))) .nil))⟩
/-- raw_quiet_lots -/
def d12 : Fd := ⟨"raw_quiet_lots", top 20, ["told", "best", "people", "some", "lot", "person"], 1, (.cons (.set true 1 (.e (.dsp true (.tup .nil) (.tup .nil)))) (.cons (.for_ (.nm 2) (.sq (.srtk .sorted 0 113 "raw_quiet_lots.<locals>.<lambda>" (.tup (.cons (.len .p) (.cons .p .nil))) (.call 9 (.cons (.call 8 (.cons (.var 0) .nil)) .nil)))) (.cons (.ife (.andd (.cmp .gt (.bi .len (.cons (.var 2) .nil)) (.lit (.int 0))) (.cmp .eq (.bi .sum (.cons (.lc [5] (.nm 5) (.sq (.var 2)) .nil (.ix (.var 0) (.var 5))) .nil)) (.lit (.int 0)))) (.cons (.set false 3 (.e (.lc [4] (.nm 4) (.sq (.call 11 (.cons (.var 0) (.cons (.var 2) .nil)))) .nil (.op .add (.tup (.cons (.var 4) .nil)) (.ix (.var 1) (.call 10 (.cons (.var 2) (.cons (.var 4) .nil)))))))) (.cons (.setO 1 (.var 2) (.srtk .max 0 113 "raw_quiet_lots.<locals>.<lambda>" (.len .p) (.var 3))) .nil)) .nil) .nil)) (.cons (.ret (.ix (.var 1) (.bi .tuple (.cons (.call 8 (.cons (.var 0) .nil)) .nil)))) .nil)))⟩
/-- quiet_lots -/
def d13 : Fd := ⟨"quiet_lots", top 21, ["debts"], 1, (.cons (.ex (.e (.call 5 (.cons (.var 0) .nil)))) (.cons (.ret (.call 12 (.cons (.call 6 (.cons (.var 0) .nil)) .nil))) .nil))⟩
/-- fewest_payments -/
def d14 : Fd := ⟨"fewest_payments", top 22, ["debts", "told"], 1, (.cons (.ex (.e (.call 5 (.cons (.var 0) .nil)))) (.cons (.set false 1 (.e (.call 6 (.cons (.var 0) .nil)))) (.cons (.ret (.op .sub (.bi .len (.cons (.call 8 (.cons (.var 1) .nil)) .nil)) (.bi .len (.cons (.call 12 (.cons (.var 1) .nil)) .nil)))) .nil)))⟩
/-- _law_hand -/
def d15 : Fd := ⟨"_law_hand", top 24, ["script", "cells", "cell"], 1, (.cons (.set false 1 (.e (.lc [2] (.nm 2) (.sq (.sl (.var 0) .no (.ex (.lit (.int 63))))) .nil (.bi .abs (.cons (.bi .int (.cons (.var 2) .nil)) .nil))))) (.cons (.ret (.lstR (.cons (.var 1) (.cons (.lit (.int 0)) (.cons (.lit (.int 0)) (.cons (.op .add (.lit (.int 283)) (.op .mul (.lit (.int 179)) (.bi .len (.cons (.var 1) .nil)))) (.cons (.lit (.int 0)) .nil))))))) .nil))⟩
/-- _law_draw -/
def d16 : Fd := ⟨"_law_draw", top 25, ["hand", "many", "cell", "digit", "number"], 2, (.cons (.ife (.andd (.cmp .eq (.ix (.var 0) (.lit (.int 2))) (.lit (.int 0))) (.cmp .lt (.ix (.var 0) (.lit (.int 1))) (.bi .len (.cons (.ix (.var 0) (.lit (.int 0))) .nil)))) (.cons (.set false 2 (.e (.ix (.ix (.var 0) (.lit (.int 0))) (.ix (.var 0) (.lit (.int 1)))))) (.cons (.setR (.var 0) (.lit (.int 1)) (.op .add (.ix (.var 0) (.lit (.int 1))) (.lit (.int 1)))) (.cons (.setR (.var 0) (.lit (.int 3)) (.op .mod (.bi .int (.cons (.op .add (.op .add (.op .mul (.ix (.var 0) (.lit (.int 3))) (.lit (.int 69621))) (.op .mul (.var 2) (.lit (.int 48271)))) (.lit (.int 17))) .nil)) (.lit (.int 2147483629)))) (.cons (.ife (.cmp .ge (.var 2) (.op .pow (.lit (.int 10)) (.lit (.int 18)))) (.cons (.setR (.var 0) (.lit (.int 2)) (.var 2)) .nil) .nil) .nil)))) .nil) (.cons (.ife (.cmp .gt (.ix (.var 0) (.lit (.int 2))) (.lit (.int 0))) (.cons (.set false 3 (.e (.op .mod (.bi .int (.cons (.ix (.var 0) (.lit (.int 2))) .nil)) (.var 1)))) (.cons (.setR (.var 0) (.lit (.int 2)) (.op .fdiv (.ix (.var 0) (.lit (.int 2))) (.var 1))) (.cons (.ret (.var 3)) .nil))) .nil) (.cons (.setR (.var 0) (.lit (.int 4)) (.op .add (.ix (.var 0) (.lit (.int 4))) (.lit (.int 1)))) (.cons (.set false 4 (.e (.op .mod (.bi .int (.cons (.op .mul (.bi .int (.cons (.op .add (.ix (.var 0) (.lit (.int 3))) (.op .mul (.lit (.int 7919)) (.ix (.var 0) (.lit (.int 4))))) .nil)) (.lit (.int 40692))) .nil)) (.lit (.int 2147483647))))) (.cons (.set false 4 (.e (.op .mod (.bi .int (.cons (.op .mul (.var 4) (.op .add (.op .fdiv (.var 4) (.lit (.int 1009))) (.lit (.int 69621)))) .nil)) (.lit (.int 2147483647))))) (.cons (.set false 4 (.e (.op .mod (.bi .int (.cons (.op .mul (.var 4) (.op .add (.op .fdiv (.var 4) (.lit (.int 2003))) (.lit (.int 40014)))) .nil)) (.lit (.int 2147483563))))) (.cons (.ret (.op .mod (.bi .int (.cons (.op .fdiv (.var 4) (.lit (.int 16))) .nil)) (.var 1))) .nil)))))))⟩
/-- _law_any -/
def d17 : Fd := ⟨"_law_any", top 26, ["hand", "some"], 2, (.cons (.ret (.ix (.var 1) (.call 16 (.cons (.var 0) (.cons (.bi .len (.cons (.var 1) .nil)) .nil))))) .nil)⟩
/-- _law_debts -/
def d18 : Fd := ⟨"_law_debts", top 27, ["hand", "people", "most", "found", "turn", "one", "other"], 3, (.cons (.set true 3 (.e (.lst .nil))) (.cons (.for_ (.nm 4) (.r1 (.call 16 (.cons (.var 0) (.cons (.op .add (.var 2) (.lit (.int 1))) .nil)))) (.cons (.par2 false 5 false 6 (.call 16 (.cons (.var 0) (.cons (.var 1) .nil))) (.call 16 (.cons (.var 0) (.cons (.op .sub (.var 1) (.lit (.int 1))) .nil)))) (.cons (.app 3 (.e (.tup (.cons (.var 5) (.cons (.op .add (.var 6) (.bi .int (.cons (.cmp .ge (.var 6) (.var 5)) .nil))) (.cons (.op .add (.lit (.int 1)) (.call 16 (.cons (.var 0) (.cons (.call 17 (.cons (.var 0) (.cons (.lst (.cons (.lit (.int 3)) (.cons (.lit (.int 6)) (.cons (.lit (.int 10000)) .nil)))) .nil))) .nil)))) .nil)))))) .nil))) (.cons (.ret (.bi .tuple (.cons (.var 3) .nil))) .nil)))⟩
/-- _law_balances -/
def d19 : Fd := ⟨"_law_balances", top 28, ["some", "found", "one", "other", "amount"], 1, (.cons (.set true 1 (.e (.op .mul (.lst (.cons (.lit (.int 0)) .nil)) (.lit (.int 10))))) (.cons (.for_ (.tp [2, 3, 4]) (.sq (.var 0)) (.cons (.setO 1 (.var 2) (.op .sub (.ix (.var 1) (.var 2)) (.var 4))) (.cons (.setO 1 (.var 3) (.op .add (.ix (.var 1) (.var 3)) (.var 4))) .nil))) (.cons (.frz 1) (.cons (.ret (.var 1)) .nil))))⟩
/-- _law_most_quiet -/
def d20 : Fd := ⟨"_law_most_quiet", top 29, ["balances_here", "people", "lots", "person", "best", "lot", "total", "less", "at"], 1, (.cons (.set false 1 (.e (.lc [3] (.nm 3) (.r1 (.lit (.int 10))) (.cons (.cmp .ne (.ix (.var 0) (.var 3)) (.lit (.int 0))) .nil) (.var 3)))) (.cons (.set false 2 (.e (.lst (.cons (.tup (.cons (.tup .nil) (.cons (.lit (.int 0)) .nil))) .nil)))) (.cons (.for_ (.nm 3) (.sq (.var 1)) (.cons (.set false 2 (.e (.op .add (.var 2) (.lc [5, 6] (.tp [5, 6]) (.sq (.var 2)) .nil (.tup (.cons (.op .add (.var 5) (.tup (.cons (.var 3) .nil))) (.cons (.op .add (.var 6) (.ix (.var 0) (.var 3))) .nil))))))) .nil)) (.cons (.set true 4 (.e .dnew)) (.cons (.for_ (.tp [5, 6]) (.sq (.srtk .sorted 1 165 "_law_most_quiet.<locals>.<lambda>" (.tup (.cons (.len (.ix .p 0)) (.cons (.ix .p 0) .nil))) (.var 2))) (.cons (.ife (.cmp .eq (.var 5) (.tup .nil)) (.cons (.setO 4 (.var 5) (.lit (.int 0))) .nil) (.cons (.set false 7 (.e (.lc [8] (.nm 8) (.r1 (.bi .len (.cons (.var 5) .nil))) .nil (.ix (.var 4) (.op .add (.sl (.var 5) .no (.ex (.var 8))) (.sl (.var 5) (.ex (.op .add (.var 8) (.lit (.int 1)))) .no)))))) (.cons (.setO 4 (.var 5) (.op .add (.bi .max (.cons (.var 7) .nil)) (.bi .int (.cons (.cmp .eq (.var 6) (.lit (.int 0))) .nil)))) .nil))) .nil)) (.cons (.ret (.ix (.var 4) (.bi .tuple (.cons (.var 1) .nil)))) .nil))))))⟩
/-- law -/
def d21 : Fd := ⟨"law", top 30, ["script", "hand", "turn", "some", "due", "told", "met", "lot", "one", "other", "amount", "person"], 1, (.cons (.set false 1 (.e (.call 15 (.cons (.var 0) .nil)))) (.cons (.for_ (.nm 2) (.r1 (.lit (.int 4))) (.cons (.set false 3 (.e (.call 18 (.cons (.var 1) (.cons (.op .add (.lit (.int 2)) (.call 16 (.cons (.var 1) (.cons (.lit (.int 7)) .nil)))) (.cons (.lit (.int 9)) .nil)))))) (.cons (.set false 3 (.e (.bi .tuple (.cons (.lc [8, 9, 10] (.tp [8, 9, 10]) (.sq (.var 3)) .nil (.tup (.cons (.var 8) (.cons (.var 9) (.cons (.op .add (.lit (.int 1)) (.op .mod (.bi .int (.cons (.var 10) .nil)) (.lit (.int 3)))) .nil))))) .nil)))) (.cons (.par2 false 4 false 5 (.call 19 (.cons (.var 3) .nil)) (.call 13 (.cons (.var 3) .nil))) (.cons (.ife (.orr (.nott (.bi .isinst (.cons (.var 5) (.cons (.ty "tuple" "tuple") .nil)))) (.cmp .ne (.bi .len (.cons (.var 5) .nil)) (.call 20 (.cons (.var 4) .nil)))) (.cons (.ret (.lit (.bool false))) .nil) .nil) (.cons (.set true 6 (.e (.lst .nil))) (.cons (.for_ (.nm 7) (.sq (.var 5)) (.cons (.ife (.orr (.nott (.bi .isinst (.cons (.var 7) (.cons (.ty "tuple" "tuple") .nil)))) (.orr (.cmp .eq (.var 7) (.tup .nil)) (.cmp .ne (.bi .list (.cons (.var 7) .nil)) (.sset (.var 7))))) (.cons (.ret (.lit (.bool false))) .nil) .nil) (.cons (.ife (.orr (.cmp .ne (.bi .sum (.cons (.lc [11] (.nm 11) (.sq (.var 7)) .nil (.ix (.var 4) (.var 11))) .nil)) (.lit (.int 0))) (.nott (.bi .all (.cons (.lc [11] (.nm 11) (.sq (.var 7)) .nil (.cmp .ne (.ix (.var 4) (.var 11)) (.lit (.int 0)))) .nil)))) (.cons (.ret (.lit (.bool false))) .nil) .nil) (.cons (.ext 6 (.bi .list (.cons (.var 7) .nil))) .nil)))) (.cons (.ife (.orr (.cmp .ne (.bi .len (.cons (.var 6) .nil)) (.lset (.var 6))) (.cmp .ne (.bi .sorted (.cons (.var 6) .nil)) (.lc [11] (.nm 11) (.r1 (.lit (.int 10))) (.cons (.cmp .ne (.ix (.var 4) (.var 11)) (.lit (.int 0))) .nil) (.var 11)))) (.cons (.ret (.lit (.bool false))) .nil) .nil) (.cons (.ife (.orr (.cmp .ne (.call 14 (.cons (.var 3) .nil)) (.op .sub (.bi .len (.cons (.var 6) .nil)) (.bi .len (.cons (.var 5) .nil)))) (.cmp .ne (.call 7 (.cons (.var 3) .nil)) (.bi .tuple (.cons (.var 4) .nil)))) (.cons (.ret (.lit (.bool false))) .nil) .nil) (.cons (.ife (.orr (.cmp .ne (.bi .len (.cons (.call 13 (.cons (.op .add (.var 3) (.var 3)) .nil)) .nil)) (.bi .len (.cons (.var 5) .nil))) (.cmp .ne (.call 13 (.cons (.tup .nil) .nil)) (.tup .nil))) (.cons (.ret (.lit (.bool false))) .nil) .nil) .nil)))))))))) (.cons (.ret (.lit (.bool true))) .nil)))⟩
def ds : List Fd := [d0, d1, d2, d3, d4, d5, d6, d7, d8, d9, d10, d11, d12, d13, d14, d15, d16, d17, d18, d19, d20, d21]
theorem ck0 : ckDef T d0 = true := by decide +kernel
theorem ck1 : ckDef T d1 = true := by decide +kernel
theorem ck2 : ckDef T d2 = true := by decide +kernel
theorem ck3 : ckDef T d3 = true := by decide +kernel
theorem ck4 : ckDef T d4 = true := by decide +kernel
theorem ck5 : ckDef T d5 = true := by decide +kernel
theorem ck6 : ckDef T d6 = true := by decide +kernel
theorem ck7 : ckDef T d7 = true := by decide +kernel
theorem ck8 : ckDef T d8 = true := by decide +kernel
theorem ck9 : ckDef T d9 = true := by decide +kernel
theorem ck10 : ckDef T d10 = true := by decide +kernel
theorem ck11 : ckDef T d11 = true := by decide +kernel
theorem ck12 : ckDef T d12 = true := by decide +kernel
theorem ck13 : ckDef T d13 = true := by decide +kernel
theorem ck14 : ckDef T d14 = true := by decide +kernel
theorem ck15 : ckDef T d15 = true := by decide +kernel
theorem ck16 : ckDef T d16 = true := by decide +kernel
theorem ck17 : ckDef T d17 = true := by decide +kernel
theorem ck18 : ckDef T d18 = true := by decide +kernel
theorem ck19 : ckDef T d19 = true := by decide +kernel
theorem ck20 : ckDef T d20 = true := by decide +kernel
theorem ck21 : ckDef T d21 = true := by decide +kernel
theorem ckAll : ∀ d ∈ ds, ckDef T d = true := by
  intro d hd
  simp only [ds, List.mem_cons, List.not_mem_nil, or_false] at hd
  rcases hd with rfl | rfl | rfl | rfl | rfl | rfl | rfl | rfl | rfl | rfl | rfl | rfl | rfl | rfl | rfl | rfl | rfl | rfl | rfl | rfl | rfl | rfl
  · exact ck0
  · exact ck1
  · exact ck2
  · exact ck3
  · exact ck4
  · exact ck5
  · exact ck6
  · exact ck7
  · exact ck8
  · exact ck9
  · exact ck10
  · exact ck11
  · exact ck12
  · exact ck13
  · exact ck14
  · exact ck15
  · exact ck16
  · exact ck17
  · exact ck18
  · exact ck19
  · exact ck20
  · exact ck21
end K79

set_option maxRecDepth 100000
/-! typed plain functions, and that the interpreter computes them: printed by shal.py -/
namespace K79
open PySem Ev
def TB (st : Sto) : Prop := ∃ r, st = T.st0 ++ r
theorem tb_0 {st : Sto} (h : TB st) : isTb st 0 113 "raw_quiet_lots.<locals>.<lambda>" = true := by obtain ⟨r, rfl⟩ := h; rfl
theorem tb_1 {st : Sto} (h : TB st) : isTb st 1 165 "_law_most_quiet.<locals>.<lambda>" = true := by obtain ⟨r, rfl⟩ := h; rfl
def hst (h : Hnd) : Sto := hdS T.st0 h
theorem tb_st (h : Hnd) : TB (hst h) := ⟨_, rfl⟩
theorem drawH (m : Nat) {many : Int} {s : Hnd} {r : Int × Hnd} (h : drawT many s = some r) : callL ds (m + 1) 16 [.ref 2, .d (.int many)] (hst s) = .ok (.d (.int r.1)) (hst r.2) := drawT_ok (ds := ds) (at_ := 16) rfl m T.st0 h
/-- _law_any -/
def f_law_any (some_ : (List Int)) (s : Hnd) : Option (Int × Hnd) :=
  (drawT (some_.length : Int) s).bind fun r1 =>
  (atO some_ r1.1).bind fun x2 =>
  some (x2, r1.2)
theorem ok_law_any (m : Nat) {some_ : (List Int)} {s : Hnd} {r : Int × Hnd} (h : f_law_any some_ s = some r) : callL ds (m + 2) 17 [.ref 2, .d ((eL eI) some_)] (hst s) = .ok (.d (eI r.1)) (hst r.2) := by
  unfold f_law_any at h
  refine c_run (k := m + 1) (b := d17.body) rfl rfl ?_
  obtain ⟨r1, hr1, h⟩ := ob h
  obtain ⟨x2, hx2, h⟩ := ob h
  have hh := si h
  subst hh
  exact p_ret (v_ixD rfl (v_call (rs_cons rfl rfl (rs_cons (v_bi1 (o := .len) rfl rfl (b_lenL (f := eI) some_)) rfl (rs_nil))) (drawH (m + 0) hr1)) rfl (i_atL (f := eI) hx2)) rfl rfl
/-- _law_debts -/
def f_law_debts (people : Int) (most : Int) (s : Hnd) : Option ((List (Int × Int × Int)) × Hnd) :=
  (drawT (most + 1) s).bind fun r1 =>
  (rngO 0 r1.1).bind fun ls2 =>
  (foldO (fun (s7 : (List (Int × Int × Int)) × Hnd) (a8 : Int) =>
    (drawT people s7.2).bind fun r16 =>
    (drawT (people - 1) r16.2).bind fun r17 =>
    (f_law_any [3, 6, 10000] r17.2).bind fun r19 =>
    (drawT r19.1 r19.2).bind fun r20 =>
    (pushO s7.1 (r16.1, (r17.1 + (if (decide (r17.1 ≥ r16.1)) = true then 1 else 0)), (1 + r20.1))).bind fun found18 =>
    some (found18, r20.2)) ls2 (([] : (List (Int × Int × Int))), r1.2)).bind fun s9 =>
  some (s9.1, s9.2)
theorem ok_law_debts (m : Nat) {people : Int} {most : Int} {s : Hnd} {r : (List (Int × Int × Int)) × Hnd} (h : f_law_debts people most s = some r) : callL ds (m + 3) 18 [.ref 2, .d (eI people), .d (eI most)] (hst s) = .ok (.d ((eT (eP3 eI eI eI)) r.1)) (hst r.2) := by
  unfold f_law_debts at h
  refine c_run (k := m + 2) (b := d18.body) rfl rfl ?_
  refine p_set (e1 := [.v (.ref 2), .v (.d (eI people)), .v (.d (eI most)), .own ((eL (eP3 eI eI eI)) ([] : (List (Int × Int × Int)))), .no, .no, .no]) (as_f (eL (eP3 eI eI eI)) ([] : (List (Int × Int × Int))) (v_lst (ds_nil) (lz 0 rfl (by decide)))) rfl ?_
  obtain ⟨r1, hr1, h⟩ := ob h
  obtain ⟨ls2, hls2, h⟩ := ob h
  obtain ⟨s9, hs9, h⟩ := ob h
  refine p_step (n_for (Q := (fun s3 ee ss => ∃ j4 j5 j6 : Cell, nv j4 ∧ nv j5 ∧ nv j6 ∧ ee = [.v (.ref 2), .v (.d (eI people)), .v (.d (eI most)), .own ((eL (eP3 eI eI eI)) s3.1), j6, j4, j5] ∧ hst s3.2 = ss)) (enc := eI) (i_r1 (v_call (rs_cons rfl rfl (rs_cons (v_op rfl rfl rfl rfl rfl) rfl (rs_nil))) (drawH (m + 1) hr1)) hls2) hs9 ⟨.no, .no, .no, nv_no, nv_no, nv_no, rfl, rfl⟩ ?_) ?_
  · clear h
    rintro s7 a8 e21 t22 _ ⟨j10, j11, j12, n13, n14, n15, rfl, rfl⟩ h
    refine ⟨[.v (.ref 2), .v (.d (eI people)), .v (.d (eI most)), .own ((eL (eP3 eI eI eI)) s7.1), .v (.d (eI a8)), j10, j11], rfl, ?_⟩
    obtain ⟨r16, hr16, h⟩ := ob h
    obtain ⟨r17, hr17, h⟩ := ob h
    refine p_par2 (e1 := [.v (.ref 2), .v (.d (eI people)), .v (.d (eI most)), .own ((eL (eP3 eI eI eI)) s7.1), .v (.d (eI a8)), .v (.d (eI r16.1)), .v (.d (eI r17.1))]) (v_call (rs_cons rfl rfl (rs_cons rfl rfl (rs_nil))) (drawH (m + 1) hr16)) (v_call (rs_cons rfl rfl (rs_cons (v_op rfl rfl rfl rfl rfl) rfl (rs_nil))) (drawH (m + 1) hr17)) rfl ?_
    obtain ⟨r19, hr19, h⟩ := ob h
    obtain ⟨r20, hr20, h⟩ := ob h
    obtain ⟨found18, hfound18, h⟩ := ob h
    refine p_app (f := (eP3 eI eI eI)) (l := s7.1) (t := (r16.1, (r17.1 + (if (decide (r17.1 ≥ r16.1)) = true then 1 else 0)), (1 + r20.1))) (e1 := [.v (.ref 2), .v (.d (eI people)), .v (.d (eI most)), .own ((eL (eP3 eI eI eI)) found18), .v (.d (eI a8)), .v (.d (eI r16.1)), .v (.d (eI r17.1))]) (as_d (eP3 eI eI eI) (r16.1, (r17.1 + (if (decide (r17.1 ≥ r16.1)) = true then 1 else 0)), (1 + r20.1)) (v_tup (ds_cons rfl rfl (ds_cons (v_op rfl (v_bi1 (o := .int) (v_cmpG rfl rfl rfl rfl rfl) rfl (b_intB _)) rfl rfl rfl) rfl (ds_cons (v_op rfl (v_call (rs_cons rfl rfl (rs_cons (v_call (rs_cons rfl rfl (rs_cons (as_f (eL eI) [3, 6, 10000] (v_lst (ds_cons rfl rfl (ds_cons rfl rfl (ds_cons rfl rfl (ds_nil)))) (lz 3 rfl (by decide)))) rfl (rs_nil))) (ok_law_any (m + 0) hr19)) rfl (rs_nil))) (drawH (m + 1) hr20)) rfl rfl rfl) rfl (ds_nil)))) (lz 3 rfl (by decide)))) rfl rfl hfound18 rfl ?_
    have hh := si h
    subst hh
    exact p_nil ⟨_, _, rfl, ⟨.v (.d (eI r16.1)), .v (.d (eI r17.1)), .v (.d (eI a8)), nv_v, nv_v, nv_v, rfl, rfl⟩⟩
  · rintro e1 s1 ⟨j23, j24, j25, n26, n27, n28, rfl, rfl⟩
    have hh := si h
    subst hh
    exact p_ret (v_bi1 (o := .tuple) rfl rfl (b_tupL (f := (eP3 eI eI eI)) s9.1)) rfl rfl
/-- _law_balances -/
def f_law_balances (some_ : (List (Int × Int × Int))) : Option (List Int) :=
  (repO [0] 10).bind fun ls1 =>
  (foldO (fun (s6 : (List Int)) (a7 : (Int × Int × Int)) =>
    (atO s6 a7.1).bind fun x15 =>
    (setO s6 a7.1 (x15 - a7.2.2)).bind fun found16 =>
    (atO found16 a7.2.1).bind fun x17 =>
    (setO found16 a7.2.1 (x17 + a7.2.2)).bind fun found18 =>
    some found18) some_ ls1).bind fun s8 =>
  some s8
theorem ok_law_balances (m : Nat) (st : Sto) {some_ : (List (Int × Int × Int))} {r : (List Int)} (h : f_law_balances some_ = some r) : callL ds (m + 1) 19 [.d ((eT (eP3 eI eI eI)) some_)] st = .ok (.d ((eL eI) r)) st := by
  unfold f_law_balances at h
  refine c_run (k := m + 0) (b := d19.body) rfl rfl ?_
  obtain ⟨ls1, hls1, h⟩ := ob h
  refine p_set (e1 := [.v (.d ((eT (eP3 eI eI eI)) some_)), .own ((eL eI) ls1), .no, .no, .no]) (v_op (as_f (eL eI) [0] (v_lst (ds_cons rfl rfl (ds_nil)) (lz 1 rfl (by decide)))) rfl rfl rfl (o_repL (f := eI) (l := [0]) hls1)) rfl ?_
  obtain ⟨s8, hs8, h⟩ := ob h
  refine p_step (n_for (Q := (fun s2 ee ss => ∃ j3 j4 j5 : Cell, nv j3 ∧ nv j4 ∧ nv j5 ∧ ee = [.v (.d ((eT (eP3 eI eI eI)) some_)), .own ((eL eI) s2), j3, j4, j5] ∧ st = ss)) (enc := (eP3 eI eI eI)) (i_sq rfl rfl) hs8 ⟨.no, .no, .no, nv_no, nv_no, nv_no, rfl, rfl⟩ ?_) ?_
  · clear h
    rintro s6 a7 e19 t20 _ ⟨j9, j10, j11, n12, n13, n14, rfl, rfl⟩ h
    refine ⟨[.v (.d ((eT (eP3 eI eI eI)) some_)), .own ((eL eI) s6), .v (.d (eI a7.1)), .v (.d (eI a7.2.1)), .v (.d (eI a7.2.2))], rfl, ?_⟩
    obtain ⟨x15, hx15, h⟩ := ob h
    obtain ⟨found16, hfound16, h⟩ := ob h
    refine p_setO (e1 := [.v (.d ((eT (eP3 eI eI eI)) some_)), .own ((eL eI) found16), .v (.d (eI a7.1)), .v (.d (eI a7.2.1)), .v (.d (eI a7.2.2))]) (v_op (v_ixB rfl rfl rfl (i_atL (f := eI) hx15)) rfl rfl rfl rfl) rfl rfl rfl rfl (setD_L (f := eI) (t := (x15 - a7.2.2)) hfound16) rfl ?_
    obtain ⟨x17, hx17, h⟩ := ob h
    obtain ⟨found18, hfound18, h⟩ := ob h
    refine p_setO (e1 := [.v (.d ((eT (eP3 eI eI eI)) some_)), .own ((eL eI) found18), .v (.d (eI a7.1)), .v (.d (eI a7.2.1)), .v (.d (eI a7.2.2))]) (v_op (v_ixB rfl rfl rfl (i_atL (f := eI) hx17)) rfl rfl rfl rfl) rfl rfl rfl rfl (setD_L (f := eI) (t := (x17 + a7.2.2)) hfound18) rfl ?_
    have hh := si h
    subst hh
    exact p_nil ⟨_, _, rfl, ⟨.v (.d (eI a7.1)), .v (.d (eI a7.2.1)), .v (.d (eI a7.2.2)), nv_v, nv_v, nv_v, rfl, rfl⟩⟩
  · rintro e1 s1 ⟨j21, j22, j23, n24, n25, n26, rfl, rfl⟩
    refine p_frz (e1 := [.v (.d ((eT (eP3 eI eI eI)) some_)), .v (.d ((eL eI) s8)), j21, j22, j23]) rfl rfl ?_
    have hh := si h
    subst hh
    exact p_ret rfl rfl rfl
/-- is_tuple_of -/
def f_is_tuple_of (thing : (Int × Int × Int)) (size : Int) : Bool := (true && (decide (3 = size)))
theorem ok_is_tuple_of (m : Nat) (st : Sto) (thing : (Int × Int × Int)) (size : Int) : callL ds (m + 1) 2 [.d ((eP3 eI eI eI) thing), .d (eI size)] st = .ok (.d (eB (f_is_tuple_of thing size))) st :=
  c_run (k := m + 0) (b := d2.body) rfl rfl (p_ret (v_andB (v_isaN (t := true) (y := "tuple") (eP3 eI eI eI) thing rfl rfl (isa_tuple _)) (v_cmpG (v_bi1 (o := .len) rfl rfl (rfl)) rfl rfl rfl (c_eqN (f := eI) rfl 3 size))) rfl rfl)
/-- is_integer -/
def f_is_integer (thing : Int) : Bool := (true && (!false))
theorem ok_is_integer (m : Nat) (st : Sto) (thing : Int) : callL ds (m + 1) 0 [.d (eI thing)] st = .ok (.d (eB (f_is_integer thing))) st :=
  c_run (k := m + 0) (b := d0.body) rfl rfl (p_ret (v_andB (v_isaN (t := true) (y := "int") eI thing rfl rfl (isa_int _)) (v_not (v_isaN (t := false) (y := "bool") eI thing rfl rfl (isa_bool _)))) rfl rfl)
/-- is_within -/
def f_is_within (thing : Int) (least : Int) (most : Int) : Bool := ((f_is_integer thing) && (decide (least ≤ thing) && decide (thing ≤ most)))
theorem ok_is_within (m : Nat) (st : Sto) (thing : Int) (least : Int) (most : Int) : callL ds (m + 2) 1 [.d (eI thing), .d (eI least), .d (eI most)] st = .ok (.d (eB (f_is_within thing least most))) st :=
  c_run (k := m + 1) (b := d1.body) rfl rfl (p_ret (v_andB (v_call (rs_cons rfl rfl (rs_nil)) (ok_is_integer (m + 0) st thing)) (v_chnI rfl rfl rfl rfl rfl)) rfl rfl)
/-- is_triple -/
def f_is_triple (thing : (Int × Int × Int)) : Option Bool :=
  (if (!(f_is_tuple_of thing 3)) = true then some true else ((szO ((cutL [thing.1, thing.2.1, thing.2.2] none (some 2)).map (fun (a1 : Int) => (f_is_within a1 0 (10 - 1))))).bind fun ls2 => some (!(ls2.all id)))).bind fun b3 =>
  if b3 = true then
    some false
  else
    some (!decide (thing.1 = thing.2.1))
theorem ok_is_triple (m : Nat) (st : Sto) {thing : (Int × Int × Int)} {r : Bool} (h : f_is_triple thing = some r) : callL ds (m + 3) 3 [.d ((eP3 eI eI eI) thing)] st = .ok (.d (eB r)) st := by
  unfold f_is_triple at h
  refine c_run (k := m + 2) (b := d3.body) rfl rfl ?_
  obtain ⟨b3, hb3, h⟩ := ob h
  refine p_if (v_orO (v_not (v_call (rs_cons rfl rfl (rs_cons rfl rfl (rs_nil))) (ok_is_tuple_of (m + 1) st thing 3))) hb3 (fun t4 y5 => by obtain ⟨ls2, hls2, y5⟩ := ob y5; have hh := si y5; subst hh; exact v_not (v_bi1 (o := .all) (v_lcBM (Y := (fun (a1 : Int) => (f_is_within a1 0 (10 - 1)))) (f := eI) (g := eB) (E := (fun a1 => [.v (.d ((eP3 eI eI eI) thing)), .v (.d (eI a1))])) (no_cons (no_nv (by rfl) nv_no) (no_nil)) (i_sq (v_sl rfl p_no (p_ex rfl) rfl (s_T (f := eI) [thing.1, thing.2.1, thing.2.2] _ _)) rfl) (fun _ => rfl) (fun a1 => ⟨_, v_call (rs_cons rfl rfl (rs_cons rfl rfl (rs_cons (v_op rfl rfl rfl rfl rfl) rfl (rs_nil)))) (ok_is_within (m + 0) st a1 0 (10 - 1)), rfl⟩) hls2) rfl (b_all _)))) (fun ht6 => ?_) (fun ht6 => ?_)
  · rw [if_pos ht6] at h
    have hh := si h
    subst hh
    exact p_ret rfl rfl rfl
  · rw [if_neg (by rw [ht6]; exact Bool.false_ne_true)] at h
    have hh := si h
    subst hh
    exact p_ret (v_cmpG (as_d eI thing.1 (v_ixD rfl rfl rfl rfl)) (as_d eI thing.2.1 (v_ixD rfl rfl rfl rfl)) rfl rfl (c_neN (f := eI) rfl thing.1 thing.2.1)) rfl rfl
/-- is_debt -/
def f_is_debt (thing : (Int × Int × Int)) : Option Bool :=
  (f_is_triple thing).bind fun x2 =>
  some (x2 && (f_is_within thing.2.2 1 10000))
theorem ok_is_debt (m : Nat) (st : Sto) {thing : (Int × Int × Int)} {r : Bool} (h : f_is_debt thing = some r) : callL ds (m + 4) 4 [.d ((eP3 eI eI eI) thing)] st = .ok (.d (eB r)) st := by
  unfold f_is_debt at h
  refine c_run (k := m + 3) (b := d4.body) rfl rfl ?_
  obtain ⟨x2, hx2, h⟩ := ob h
  have hh := si h
  subst hh
  exact p_ret (v_andB (v_call (rs_cons rfl rfl (rs_nil)) (ok_is_triple (m + 0) st hx2)) (v_call (rs_cons (as_d eI thing.2.2 (v_ixD rfl rfl rfl rfl)) rfl (rs_cons rfl rfl (rs_cons rfl rfl (rs_nil)))) (ok_is_within (m + 1) st thing.2.2 1 10000))) rfl rfl
/-- check_debts -/
def f_check_debts (debts : (List (Int × Int × Int))) : Option Unit :=
  (if (!true) = true then some true else ((if (decide ((debts.length : Int) > 60)) = true then some true else (((mapO (fun (a1 : (Int × Int × Int)) => (f_is_debt a1).bind fun x2 => some x2) debts).bind szO).bind fun ls5 => some (!(ls5.all id)))).bind fun b6 => some b6)).bind fun b9 =>
  if b9 = true then
    none
  else
    some ()
theorem ok_check_debts (m : Nat) (st : Sto) {debts : (List (Int × Int × Int))} {r : Unit} (h : f_check_debts debts = some r) : callL ds (m + 5) 5 [.d ((eT (eP3 eI eI eI)) debts)] st = .ok (.d (eU r)) st := by
  unfold f_check_debts at h
  refine c_run (k := m + 4) (b := d5.body) rfl rfl ?_
  obtain ⟨b9, hb9, h⟩ := ob h
  refine p_if (v_orO (v_not (v_isaN (t := true) (y := "tuple") (eT (eP3 eI eI eI)) debts rfl rfl (isa_tuple _))) hb9 (fun t10 y11 => by obtain ⟨b6, hb6, y11⟩ := ob y11; have hh := si y11; subst hh; exact v_orO (v_cmpG (v_bi1 (o := .len) rfl rfl (b_lenT (f := (eP3 eI eI eI)) debts)) rfl rfl rfl rfl) hb6 (fun t7 y8 => by obtain ⟨ls5, hls5, y8⟩ := ob y8; have hh := si y8; subst hh; exact v_not (v_bi1 (o := .all) (v_lcM (Y := (fun (a1 : (Int × Int × Int)) => (f_is_debt a1).bind fun x2 => some x2)) (f := (eP3 eI eI eI)) (g := eB) (E := (fun a1 => [.v (.d ((eT (eP3 eI eI eI)) debts)), .v (.d ((eP3 eI eI eI) a1))])) (no_cons (no_nv (by rfl) nv_no) (no_nil)) (i_sq rfl rfl) (fun _ => rfl) (fun a1 t4 y3 => by obtain ⟨x2, hx2, y3⟩ := ob y3; have hh := si y3; subst hh; exact ⟨_, v_call (rs_cons rfl rfl (rs_nil)) (ok_is_debt (m + 0) st hx2), rfl⟩) hls5) rfl (b_all _))))) (fun ht12 => ?_) (fun ht12 => ?_)
  · rw [if_pos ht12] at h
    cases h
  · rw [if_neg (by rw [ht12]; exact Bool.false_ne_true)] at h
    have hh := si h
    subst hh
    exact p_nil rfl
/-- raw_balances -/
def f_raw_balances (debts : (List (Int × Int × Int))) : Option (List Int) :=
  (repO [0] 10).bind fun ls1 =>
  (foldO (fun (s6 : (List Int)) (a7 : (Int × Int × Int)) =>
    (atO s6 a7.1).bind fun z15 =>
    (setO s6 a7.1 (z15 - a7.2.2)).bind fun found16 =>
    (atO found16 a7.2.1).bind fun z17 =>
    (setO found16 a7.2.1 (z17 + a7.2.2)).bind fun found18 =>
    some found18) debts ls1).bind fun s8 =>
  some s8
theorem ok_raw_balances (m : Nat) (st : Sto) {debts : (List (Int × Int × Int))} {r : (List Int)} (h : f_raw_balances debts = some r) : callL ds (m + 1) 6 [.d ((eT (eP3 eI eI eI)) debts)] st = .ok (.d ((eL eI) r)) st := by
  unfold f_raw_balances at h
  refine c_run (k := m + 0) (b := d6.body) rfl rfl ?_
  obtain ⟨ls1, hls1, h⟩ := ob h
  refine p_set (e1 := [.v (.d ((eT (eP3 eI eI eI)) debts)), .own ((eL eI) ls1), .no, .no, .no]) (v_op (as_f (eL eI) [0] (v_lst (ds_cons rfl rfl (ds_nil)) (lz 1 rfl (by decide)))) rfl rfl rfl (o_repL (f := eI) (l := [0]) hls1)) rfl ?_
  obtain ⟨s8, hs8, h⟩ := ob h
  refine p_step (n_for (Q := (fun s2 ee ss => ∃ j3 j4 j5 : Cell, nv j3 ∧ nv j4 ∧ nv j5 ∧ ee = [.v (.d ((eT (eP3 eI eI eI)) debts)), .own ((eL eI) s2), j3, j4, j5] ∧ st = ss)) (enc := (eP3 eI eI eI)) (i_sq rfl rfl) hs8 ⟨.no, .no, .no, nv_no, nv_no, nv_no, rfl, rfl⟩ ?_) ?_
  · clear h
    rintro s6 a7 e19 t20 _ ⟨j9, j10, j11, n12, n13, n14, rfl, rfl⟩ h
    refine ⟨[.v (.d ((eT (eP3 eI eI eI)) debts)), .own ((eL eI) s6), .v (.d (eI a7.1)), .v (.d (eI a7.2.1)), .v (.d (eI a7.2.2))], rfl, ?_⟩
    obtain ⟨z15, hz15, h⟩ := ob h
    obtain ⟨found16, hfound16, h⟩ := ob h
    refine p_augO (e1 := [.v (.d ((eT (eP3 eI eI eI)) debts)), .own ((eL eI) found16), .v (.d (eI a7.1)), .v (.d (eI a7.2.1)), .v (.d (eI a7.2.2))]) rfl rfl (i_atL (f := eI) hz15) rfl rfl rfl (setD_L (f := eI) (t := (z15 - a7.2.2)) hfound16) rfl ?_
    obtain ⟨z17, hz17, h⟩ := ob h
    obtain ⟨found18, hfound18, h⟩ := ob h
    refine p_augO (e1 := [.v (.d ((eT (eP3 eI eI eI)) debts)), .own ((eL eI) found18), .v (.d (eI a7.1)), .v (.d (eI a7.2.1)), .v (.d (eI a7.2.2))]) rfl rfl (i_atL (f := eI) hz17) rfl rfl rfl (setD_L (f := eI) (t := (z17 + a7.2.2)) hfound18) rfl ?_
    have hh := si h
    subst hh
    exact p_nil ⟨_, _, rfl, ⟨.v (.d (eI a7.1)), .v (.d (eI a7.2.1)), .v (.d (eI a7.2.2)), nv_v, nv_v, nv_v, rfl, rfl⟩⟩
  · rintro e1 s1 ⟨j21, j22, j23, n24, n25, n26, rfl, rfl⟩
    refine p_frz (e1 := [.v (.d ((eT (eP3 eI eI eI)) debts)), .v (.d ((eL eI) s8)), j21, j22, j23]) rfl rfl ?_
    have hh := si h
    subst hh
    exact p_ret rfl rfl rfl
/-- open_people -/
def f_open_people (told : (List Int)) : Option (List Int) :=
  (rngO 0 10).bind fun ls7 =>
  ((lcO (fun (a8 : Int) => (atO told a8).bind fun x9 => some (!decide (x9 = 0))) (fun (a8 : Int) => some a8) ls7).bind szO).bind fun ls12 =>
  some ls12
theorem ok_open_people (m : Nat) (st : Sto) {told : (List Int)} {r : (List Int)} (h : f_open_people told = some r) : callL ds (m + 1) 8 [.d ((eL eI) told)] st = .ok (.d ((eL eI) r)) st := by
  unfold f_open_people at h
  refine c_run (k := m + 0) (b := d8.body) rfl rfl ?_
  obtain ⟨ls7, hls7, h⟩ := ob h
  obtain ⟨ls12, hls12, h⟩ := ob h
  have hh := si h
  subst hh
  exact p_ret (v_lcO (T := (fun (a8 : Int) => (atO told a8).bind fun x9 => some (!decide (x9 = 0)))) (Y := (fun (a8 : Int) => some a8)) (f := eI) (g := eI) (E := (fun a8 => [.v (.d ((eL eI) told)), .v (.d (eI a8))])) (no_cons (no_nv (by rfl) nv_no) (no_nil)) (i_r1 rfl hls7) (fun _ => rfl) (fun a8 t11 y10 => by obtain ⟨x9, hx9, y10⟩ := ob y10; have hh := si y10; subst hh; exact ts_one (v_cmpG (v_ixD rfl rfl rfl (i_atL (f := eI) hx9)) rfl rfl rfl (c_neN (f := eI) rfl x9 0))) (fun a8 t11 y10 => by have hh := si y10; subst hh; exact ⟨_, rfl, rfl⟩) hls12) rfl rfl
/-- lots_of -/
def f_lots_of (people : (List Int)) : Option (List (List Int)) :=
  (foldO (fun (s3 : (List (List Int))) (a4 : Int) =>
    ((mapO (fun (a8 : (List Int)) => (appO a8 [a4]).bind fun ls9 => some ls9) s3).bind szO).bind fun ls12 =>
    (appO s3 ls12).bind fun ls13 =>
    some ls13) people [([] : (List Int))]).bind fun s5 =>
  some s5
theorem ok_lots_of (m : Nat) (st : Sto) {people : (List Int)} {r : (List (List Int))} (h : f_lots_of people = some r) : callL ds (m + 1) 9 [.d ((eL eI) people)] st = .ok (.d ((eL (eT eI)) r)) st := by
  unfold f_lots_of at h
  refine c_run (k := m + 0) (b := d9.body) rfl rfl ?_
  refine p_set (e1 := [.v (.d ((eL eI) people)), .v (.d ((eL (eT eI)) [([] : (List Int))])), .no, .no]) (as_f (eL (eT eI)) [([] : (List Int))] (v_lst (ds_cons (as_d (eT eI) ([] : (List Int)) (v_tup (ds_nil) (lz 0 rfl (by decide)))) rfl (ds_nil)) (lz 1 rfl (by decide)))) rfl ?_
  obtain ⟨s5, hs5, h⟩ := ob h
  refine p_step (n_for (Q := (fun s1 ee ss => ∃ j2 : Cell, nv j2 ∧ ee = [.v (.d ((eL eI) people)), .v (.d ((eL (eT eI)) s1)), j2, .no] ∧ st = ss)) (enc := eI) (i_sq rfl rfl) hs5 ⟨.no, nv_no, rfl, rfl⟩ ?_) ?_
  · clear h
    rintro s3 a4 e14 t15 _ ⟨j6, n7, rfl, rfl⟩ h
    refine ⟨[.v (.d ((eL eI) people)), .v (.d ((eL (eT eI)) s3)), .v (.d (eI a4)), .no], rfl, ?_⟩
    obtain ⟨ls12, hls12, h⟩ := ob h
    obtain ⟨ls13, hls13, h⟩ := ob h
    refine p_set (e1 := [.v (.d ((eL eI) people)), .v (.d ((eL (eT eI)) ls13)), .v (.d (eI a4)), .no]) (v_op rfl (v_lcM (Y := (fun (a8 : (List Int)) => (appO a8 [a4]).bind fun ls9 => some ls9)) (f := (eT eI)) (g := (eT eI)) (E := (fun a8 => [.v (.d ((eL eI) people)), .v (.d ((eL (eT eI)) s3)), .v (.d (eI a4)), .v (.d ((eT eI) a8))])) (no_cons (no_nv (by rfl) nv_no) (no_nil)) (i_sq rfl rfl) (fun _ => rfl) (fun a8 t11 y10 => by obtain ⟨ls9, hls9, y10⟩ := ob y10; have hh := si y10; subst hh; exact ⟨_, v_op rfl (as_d (eT eI) [a4] (v_tup (ds_cons rfl rfl (ds_nil)) (lz 1 rfl (by decide)))) rfl rfl (o_appT (f := eI) (l := a8) (m := [a4]) hls9), rfl⟩) hls12) rfl rfl (o_appL (f := (eT eI)) (l := s3) (m := ls12) hls13)) rfl ?_
    have hh := si h
    subst hh
    exact p_nil ⟨_, _, rfl, ⟨.v (.d (eI a4)), nv_v, rfl, rfl⟩⟩
  · rintro e1 s1 ⟨j16, n17, rfl, rfl⟩
    have hh := si h
    subst hh
    exact p_ret rfl rfl rfl
/-- lots_of -/
def f_lots_of2 (people : (List Int)) : Option (List (List Int)) :=
  (foldO (fun (s3 : (List (List Int))) (a4 : Int) =>
    ((mapO (fun (a8 : (List Int)) => (appO a8 [a4]).bind fun ls9 => some ls9) s3).bind szO).bind fun ls12 =>
    (appO s3 ls12).bind fun ls13 =>
    some ls13) people [([] : (List Int))]).bind fun s5 =>
  some s5
theorem ok_lots_of2 (m : Nat) (st : Sto) {people : (List Int)} {r : (List (List Int))} (h : f_lots_of2 people = some r) : callL ds (m + 1) 9 [.d ((eT eI) people)] st = .ok (.d ((eL (eT eI)) r)) st := by
  unfold f_lots_of2 at h
  refine c_run (k := m + 0) (b := d9.body) rfl rfl ?_
  refine p_set (e1 := [.v (.d ((eT eI) people)), .v (.d ((eL (eT eI)) [([] : (List Int))])), .no, .no]) (as_f (eL (eT eI)) [([] : (List Int))] (v_lst (ds_cons (as_d (eT eI) ([] : (List Int)) (v_tup (ds_nil) (lz 0 rfl (by decide)))) rfl (ds_nil)) (lz 1 rfl (by decide)))) rfl ?_
  obtain ⟨s5, hs5, h⟩ := ob h
  refine p_step (n_for (Q := (fun s1 ee ss => ∃ j2 : Cell, nv j2 ∧ ee = [.v (.d ((eT eI) people)), .v (.d ((eL (eT eI)) s1)), j2, .no] ∧ st = ss)) (enc := eI) (i_sq rfl rfl) hs5 ⟨.no, nv_no, rfl, rfl⟩ ?_) ?_
  · clear h
    rintro s3 a4 e14 t15 _ ⟨j6, n7, rfl, rfl⟩ h
    refine ⟨[.v (.d ((eT eI) people)), .v (.d ((eL (eT eI)) s3)), .v (.d (eI a4)), .no], rfl, ?_⟩
    obtain ⟨ls12, hls12, h⟩ := ob h
    obtain ⟨ls13, hls13, h⟩ := ob h
    refine p_set (e1 := [.v (.d ((eT eI) people)), .v (.d ((eL (eT eI)) ls13)), .v (.d (eI a4)), .no]) (v_op rfl (v_lcM (Y := (fun (a8 : (List Int)) => (appO a8 [a4]).bind fun ls9 => some ls9)) (f := (eT eI)) (g := (eT eI)) (E := (fun a8 => [.v (.d ((eT eI) people)), .v (.d ((eL (eT eI)) s3)), .v (.d (eI a4)), .v (.d ((eT eI) a8))])) (no_cons (no_nv (by rfl) nv_no) (no_nil)) (i_sq rfl rfl) (fun _ => rfl) (fun a8 t11 y10 => by obtain ⟨ls9, hls9, y10⟩ := ob y10; have hh := si y10; subst hh; exact ⟨_, v_op rfl (as_d (eT eI) [a4] (v_tup (ds_cons rfl rfl (ds_nil)) (lz 1 rfl (by decide)))) rfl rfl (o_appT (f := eI) (l := a8) (m := [a4]) hls9), rfl⟩) hls12) rfl rfl (o_appL (f := (eT eI)) (l := s3) (m := ls12) hls13)) rfl ?_
    have hh := si h
    subst hh
    exact p_nil ⟨_, _, rfl, ⟨.v (.d (eI a4)), nv_v, rfl, rfl⟩⟩
  · rintro e1 s1 ⟨j16, n17, rfl, rfl⟩
    have hh := si h
    subst hh
    exact p_ret rfl rfl rfl
/-- quiet_with_first -/
def f_quiet_with_first (told : (List Int)) (people : (List Int)) : Option (List (List Int)) :=
  (f_lots_of2 (cutL people (some 1) none)).bind fun x1 =>
  ((mapO (fun (a2 : (List Int)) => (appO (cutL people none (some 1)) a2).bind fun ls3 => some ls3) x1).bind szO).bind fun ls6 =>
  ((lcO (fun (a7 : (List Int)) => ((mapO (fun (a8 : Int) => (atO told a8).bind fun x9 => some x9) a7).bind szO).bind fun ls12 => some (decide (ls12.sum = 0))) (fun (a7 : (List Int)) => some a7) ls6).bind szO).bind fun ls15 =>
  some ls15
theorem ok_quiet_with_first (m : Nat) (st : Sto) {told : (List Int)} {people : (List Int)} {r : (List (List Int))} (h : f_quiet_with_first told people = some r) : callL ds (m + 2) 11 [.d ((eL eI) told), .d ((eT eI) people)] st = .ok (.d ((eL (eT eI)) r)) st := by
  unfold f_quiet_with_first at h
  refine c_run (k := m + 1) (b := d11.body) rfl rfl ?_
  obtain ⟨x1, hx1, h⟩ := ob h
  obtain ⟨ls6, hls6, h⟩ := ob h
  refine p_set (e1 := [.v (.d ((eL eI) told)), .v (.d ((eT eI) people)), .v (.d ((eL (eT eI)) ls6)), .no, .no]) (v_lcM (Y := (fun (a2 : (List Int)) => (appO (cutL people none (some 1)) a2).bind fun ls3 => some ls3)) (f := (eT eI)) (g := (eT eI)) (E := (fun a2 => [.v (.d ((eL eI) told)), .v (.d ((eT eI) people)), .no, .v (.d ((eT eI) a2)), .no])) (no_cons (no_nv (by rfl) nv_no) (no_nil)) (i_sq (v_call (rs_cons (v_sl rfl (p_ex rfl) p_no rfl (s_T (f := eI) people _ _)) rfl (rs_nil)) (ok_lots_of2 (m + 0) st hx1)) rfl) (fun _ => rfl) (fun a2 t5 y4 => by obtain ⟨ls3, hls3, y4⟩ := ob y4; have hh := si y4; subst hh; exact ⟨_, v_op (v_sl rfl p_no (p_ex rfl) rfl (s_T (f := eI) people _ _)) rfl rfl rfl (o_appT (f := eI) (l := cutL people none (some 1)) (m := a2) hls3), rfl⟩) hls6) rfl ?_
  obtain ⟨ls15, hls15, h⟩ := ob h
  have hh := si h
  subst hh
  exact p_ret (v_lcO (T := (fun (a7 : (List Int)) => ((mapO (fun (a8 : Int) => (atO told a8).bind fun x9 => some x9) a7).bind szO).bind fun ls12 => some (decide (ls12.sum = 0)))) (Y := (fun (a7 : (List Int)) => some a7)) (f := (eT eI)) (g := (eT eI)) (E := (fun a7 => [.v (.d ((eL eI) told)), .v (.d ((eT eI) people)), .v (.d ((eL (eT eI)) ls6)), .v (.d ((eT eI) a7)), .no])) (no_cons (no_nv (by rfl) nv_no) (no_nil)) (i_sq rfl rfl) (fun _ => rfl) (fun a7 t14 y13 => by obtain ⟨ls12, hls12, y13⟩ := ob y13; have hh := si y13; subst hh; exact ts_one (v_cmpG (v_bi1 (o := .sum) (v_lcM (Y := (fun (a8 : Int) => (atO told a8).bind fun x9 => some x9)) (f := eI) (g := eI) (E := (fun a8 => [.v (.d ((eL eI) told)), .v (.d ((eT eI) people)), .v (.d ((eL (eT eI)) ls6)), .v (.d ((eT eI) a7)), .v (.d (eI a8))])) (no_cons (no_nv (by rfl) nv_no) (no_nil)) (i_sq rfl rfl) (fun _ => rfl) (fun a8 t11 y10 => by obtain ⟨x9, hx9, y10⟩ := ob y10; have hh := si y10; subst hh; exact ⟨_, v_ixD rfl rfl rfl (i_atL (f := eI) hx9), rfl⟩) hls12) rfl (b_sumL _)) rfl rfl rfl (c_eqN (f := eI) rfl ls12.sum 0))) (fun a7 t14 y13 => by have hh := si y13; subst hh; exact ⟨_, rfl, rfl⟩) hls15) rfl rfl
/-- without_lot -/
def f_without_lot (people : (List Int)) (lot : (List Int)) : Option (List Int) :=
  (szO ((people.filter (fun (a3 : Int) => (!(decide (a3 ∈ lot))))).map (fun (a3 : Int) => a3))).bind fun ls4 =>
  some ls4
theorem ok_without_lot (m : Nat) (st : Sto) {people : (List Int)} {lot : (List Int)} {r : (List Int)} (h : f_without_lot people lot = some r) : callL ds (m + 1) 10 [.d ((eT eI) people), .d ((eT eI) lot)] st = .ok (.d ((eT eI) r)) st := by
  unfold f_without_lot at h
  refine c_run (k := m + 0) (b := d10.body) rfl rfl ?_
  obtain ⟨ls4, hls4, h⟩ := ob h
  have hh := si h
  subst hh
  exact p_ret (v_bi1 (o := .tuple) (v_lcB (T := (fun (a3 : Int) => (!(decide (a3 ∈ lot))))) (Y := (fun (a3 : Int) => a3)) (f := eI) (g := eI) (E := (fun a3 => [.v (.d ((eT eI) people)), .v (.d ((eT eI) lot)), .v (.d (eI a3))])) (no_cons (no_nv (by rfl) nv_no) (no_nil)) (i_sq rfl rfl) (fun _ => rfl) (fun a3 => ts_one (v_cmpG rfl rfl rfl rfl (c_notinT (f := eI) rfl a3 lot))) (fun a3 => ⟨_, rfl, rfl⟩) hls4) rfl (b_tupL (f := eI) ls4)) rfl rfl
/-- raw_quiet_lots -/
def f_raw_quiet_lots (told : (List Int)) : Option (List (List Int)) :=
  (f_open_people told).bind fun x1 =>
  (f_lots_of x1).bind fun x2 =>
  (sortKO (fun (a3 : (List Int)) => decide (a3.length ≤ sizeLine)) (fun (a3 : (List Int)) => ((a3.length : Int), a3)) (ltP ltI (ltS ltI)) x2).bind fun ls4 =>
  (foldO (fun (s8 : (List ((List Int) × (List (List Int))))) (a9 : (List Int)) =>
    (if (decide ((a9.length : Int) > 0)) = true then (((mapO (fun (a15 : Int) => (atO told a15).bind fun x16 => some x16) a9).bind szO).bind fun ls19 => some (decide (ls19.sum = 0))) else some false).bind fun b20 =>
    if b20 = true then
      (f_quiet_with_first told a9).bind fun x23 =>
      ((mapO (fun (a24 : (List Int)) => (f_without_lot a9 a24).bind fun x25 => (dgetT s8 x25).bind fun x26 => (appO [a24] x26).bind fun ls27 => some ls27) x23).bind szO).bind fun ls30 =>
      (maxKO (fun (a31 : (List (List Int))) => decide (a31.length ≤ sizeLine)) (fun (a31 : (List (List Int))) => (a31.length : Int)) ltI ls30).bind fun ls32 =>
      (dputO s8 a9 ls32).bind fun best33 =>
      some best33
    else
      some s8) ls4 [(([] : (List Int)), ([] : (List (List Int))))]).bind fun s10 =>
  (f_open_people told).bind fun x41 =>
  (dgetT s10 x41).bind fun x42 =>
  some x42
theorem ok_raw_quiet_lots (m : Nat) (st : Sto) (hT : TB st) {told : (List Int)} {r : (List (List Int))} (h : f_raw_quiet_lots told = some r) : callL ds (m + 3) 12 [.d ((eL eI) told)] st = .ok (.d ((eT (eT eI)) r)) st := by
  unfold f_raw_quiet_lots at h
  refine c_run (k := m + 2) (b := d12.body) rfl rfl ?_
  refine p_set (e1 := [.v (.d ((eL eI) told)), .own ((eD (eT eI) (eT (eT eI))) [(([] : (List Int)), ([] : (List (List Int))))]), .no, .no, .no, .no]) (v_dsp (f := (eT eI)) (g := (eT (eT eI))) (k := ([] : (List Int))) (v := ([] : (List (List Int)))) (as_d (eT eI) ([] : (List Int)) (v_tup (ds_nil) (lz 0 rfl (by decide)))) (as_d (eT (eT eI)) ([] : (List (List Int))) (v_tup (ds_nil) (lz 0 rfl (by decide)))) rfl rfl rfl) rfl ?_
  obtain ⟨x1, hx1, h⟩ := ob h
  obtain ⟨x2, hx2, h⟩ := ob h
  obtain ⟨ls4, hls4, h⟩ := ob h
  obtain ⟨s10, hs10, h⟩ := ob h
  refine p_step (n_for (Q := (fun s5 ee ss => ∃ j6 j7 : Cell, nv j6 ∧ nv j7 ∧ ee = [.v (.d ((eL eI) told)), .own ((eD (eT eI) (eT (eT eI))) s5), j7, j6, .no, .no] ∧ st = ss)) (enc := (eT eI)) (i_sq (v_srtS (f := (eT eI)) (gk := (eP eI (eT eI))) (kf := (fun (a3 : (List Int)) => ((a3.length : Int), a3))) (okb := (fun (a3 : (List Int)) => decide (a3.length ≤ sizeLine))) rfl (tb_0 hT) (v_call (rs_cons (v_call (rs_cons rfl rfl (rs_nil)) (ok_open_people (m + 1) st hx1)) rfl (rs_nil)) (ok_lots_of (m + 1) st hx2)) rfl rfl (fun a3 ho => by simp only [Bool.and_eq_true, decide_eq_true_eq] at ho; exact (lk_tup2 (f := eI) (g := (eT eI)) (a := (a3.length : Int)) (b := a3) (lk_len (f := eI) (l := a3) (lk_p (f := (eT eI)) (a := a3)) ho) (lk_p (f := (eT eI)) (a := a3)))) hls4) rfl) hs10 ⟨.no, .no, nv_no, nv_no, rfl, rfl⟩ ?_) ?_
  · clear h
    rintro s8 a9 e35 t36 _ ⟨j11, j12, n13, n14, rfl, rfl⟩ h
    refine ⟨[.v (.d ((eL eI) told)), .own ((eD (eT eI) (eT (eT eI))) s8), .v (.d ((eT eI) a9)), j11, .no, .no], rfl, ?_⟩
    obtain ⟨b20, hb20, h⟩ := ob h
    refine p_if (v_andO (v_cmpG (v_bi1 (o := .len) rfl rfl (b_lenT (f := eI) a9)) rfl rfl rfl rfl) hb20 (fun t21 y22 => by obtain ⟨ls19, hls19, y22⟩ := ob y22; have hh := si y22; subst hh; exact v_cmpG (v_bi1 (o := .sum) (v_lcM (Y := (fun (a15 : Int) => (atO told a15).bind fun x16 => some x16)) (f := eI) (g := eI) (E := (fun a15 => [.v (.d ((eL eI) told)), .own ((eD (eT eI) (eT (eT eI))) s8), .v (.d ((eT eI) a9)), j11, .no, .v (.d (eI a15))])) (no_cons (no_nv (by rfl) nv_no) (no_nil)) (i_sq rfl rfl) (fun _ => rfl) (fun a15 t18 y17 => by obtain ⟨x16, hx16, y17⟩ := ob y17; have hh := si y17; subst hh; exact ⟨_, v_ixD rfl rfl rfl (i_atL (f := eI) hx16), rfl⟩) hls19) rfl (b_sumL _)) rfl rfl rfl (c_eqN (f := eI) rfl ls19.sum 0))) (fun ht34 => ?_) (fun ht34 => ?_)
    · rw [if_pos ht34] at h
      obtain ⟨x23, hx23, h⟩ := ob h
      obtain ⟨ls30, hls30, h⟩ := ob h
      refine p_set (e1 := [.v (.d ((eL eI) told)), .own ((eD (eT eI) (eT (eT eI))) s8), .v (.d ((eT eI) a9)), .v (.d ((eL (eT (eT eI))) ls30)), .no, .no]) (v_lcM (Y := (fun (a24 : (List Int)) => (f_without_lot a9 a24).bind fun x25 => (dgetT s8 x25).bind fun x26 => (appO [a24] x26).bind fun ls27 => some ls27)) (f := (eT eI)) (g := (eT (eT eI))) (E := (fun a24 => [.v (.d ((eL eI) told)), .own ((eD (eT eI) (eT (eT eI))) s8), .v (.d ((eT eI) a9)), j11, .v (.d ((eT eI) a24)), .no])) (no_cons (no_nv (by rfl) nv_no) (no_nil)) (i_sq (v_call (rs_cons rfl rfl (rs_cons rfl rfl (rs_nil))) (ok_quiet_with_first (m + 0) st hx23)) rfl) (fun _ => rfl) (fun a24 t29 y28 => by obtain ⟨x25, hx25, y28⟩ := ob y28; obtain ⟨x26, hx26, y28⟩ := ob y28; obtain ⟨ls27, hls27, y28⟩ := ob y28; have hh := si y28; subst hh; exact ⟨_, v_op (as_d (eT (eT eI)) [a24] (v_tup (ds_cons rfl rfl (ds_nil)) (lz 1 rfl (by decide)))) (v_ixB rfl (v_call (rs_cons rfl rfl (rs_cons rfl rfl (rs_nil))) (ok_without_lot (m + 1) st hx25)) rfl (i_atD (f := (eT eI)) (g := (eT (eT eI))) (k := x25) hx26)) rfl rfl (o_appT (f := (eT eI)) (l := [a24]) (m := x26) hls27), rfl⟩) hls30) rfl ?_
      obtain ⟨ls32, hls32, h⟩ := ob h
      obtain ⟨best33, hbest33, h⟩ := ob h
      refine p_setO (e1 := [.v (.d ((eL eI) told)), .own ((eD (eT eI) (eT (eT eI))) best33), .v (.d ((eT eI) a9)), .v (.d ((eL (eT (eT eI))) ls30)), .no, .no]) (v_srtMax (f := (eT (eT eI))) (gk := eI) (kf := (fun (a31 : (List (List Int))) => (a31.length : Int))) (okb := (fun (a31 : (List (List Int))) => decide (a31.length ≤ sizeLine))) rfl (tb_0 hT) rfl rfl rfl (fun a31 ho => by simp only [Bool.and_eq_true, decide_eq_true_eq] at ho; exact (lk_len (f := (eT eI)) (l := a31) (lk_p (f := (eT (eT eI))) (a := a31)) ho)) hls32) rfl rfl rfl rfl (setD_D (f := (eT eI)) (g := (eT (eT eI))) (k := a9) (v := ls32) hbest33) rfl ?_
      have hh := si h
      subst hh
      exact p_nil ⟨_, _, rfl, ⟨.v (.d ((eL (eT (eT eI))) ls30)), .v (.d ((eT eI) a9)), nv_v, nv_v, rfl, rfl⟩⟩
    · rw [if_neg (by rw [ht34]; exact Bool.false_ne_true)] at h
      have hh := si h
      subst hh
      exact p_nil ⟨_, _, rfl, ⟨j11, .v (.d ((eT eI) a9)), n13, nv_v, rfl, rfl⟩⟩
  · rintro e1 s1 ⟨j37, j38, n39, n40, rfl, rfl⟩
    obtain ⟨x41, hx41, h⟩ := ob h
    obtain ⟨x42, hx42, h⟩ := ob h
    have hh := si h
    subst hh
    exact p_ret (v_ixB rfl (v_bi1 (o := .tuple) (v_call (rs_cons rfl rfl (rs_nil)) (ok_open_people (m + 1) st hx41)) rfl (b_tupL (f := eI) x41)) rfl (i_atD (f := (eT eI)) (g := (eT (eT eI))) (k := x41) hx42)) rfl rfl
/-- quiet_lots -/
def f_quiet_lots (debts : (List (Int × Int × Int))) : Option (List (List Int)) :=
  (f_check_debts debts).bind fun x1 =>
  (f_raw_balances debts).bind fun x2 =>
  (f_raw_quiet_lots x2).bind fun x3 =>
  some x3
theorem ok_quiet_lots (m : Nat) (st : Sto) (hT : TB st) {debts : (List (Int × Int × Int))} {r : (List (List Int))} (h : f_quiet_lots debts = some r) : callL ds (m + 6) 13 [.d ((eT (eP3 eI eI eI)) debts)] st = .ok (.d ((eT (eT eI)) r)) st := by
  unfold f_quiet_lots at h
  refine c_run (k := m + 5) (b := d13.body) rfl rfl ?_
  obtain ⟨x1, hx1, h⟩ := ob h
  refine p_do (v_call (rs_cons rfl rfl (rs_nil)) (ok_check_debts (m + 0) st hx1)) ?_
  obtain ⟨x2, hx2, h⟩ := ob h
  obtain ⟨x3, hx3, h⟩ := ob h
  have hh := si h
  subst hh
  exact p_ret (v_call (rs_cons (v_call (rs_cons rfl rfl (rs_nil)) (ok_raw_balances (m + 4) st hx2)) rfl (rs_nil)) (ok_raw_quiet_lots (m + 2) st hT hx3)) rfl rfl
/-- _law_most_quiet -/
def f_law_most_quiet (balances_here : (List Int)) : Option Int :=
  (rngO 0 10).bind fun ls1 =>
  ((lcO (fun (a2 : Int) => (atO balances_here a2).bind fun x3 => some (!decide (x3 = 0))) (fun (a2 : Int) => some a2) ls1).bind szO).bind fun ls6 =>
  (foldO (fun (s9 : (List ((List Int) × Int))) (a10 : Int) =>
    ((mapO (fun (a14 : ((List Int) × Int)) => (appO a14.1 [a10]).bind fun ls15 => (atO balances_here a10).bind fun x16 => some (ls15, (a14.2 + x16))) s9).bind szO).bind fun ls19 =>
    (appO s9 ls19).bind fun ls20 =>
    some ls20) ls6 [(([] : (List Int)), 0)]).bind fun s11 =>
  (sortKO (fun (a25 : ((List Int) × Int)) => decide (a25.1.length ≤ sizeLine)) (fun (a25 : ((List Int) × Int)) => ((a25.1.length : Int), a25.1)) (ltP ltI (ltS ltI)) s11).bind fun ls26 =>
  (foldO (fun (s31 : (List ((List Int) × Int))) (a32 : ((List Int) × Int)) =>
    if (decide (a32.1 = ([] : (List Int)))) = true then
      (dputO s31 a32.1 0).bind fun best40 =>
      some best40
    else
      (rngO 0 (a32.1.length : Int)).bind fun ls41 =>
      ((mapO (fun (a42 : Int) => (appO (cutL a32.1 none (some a42)) (cutL a32.1 (some (a42 + 1)) none)).bind fun ls43 => (dgetT s31 ls43).bind fun x44 => some x44) ls41).bind szO).bind fun ls47 =>
      (maxO ltI ls47).bind fun x48 =>
      (dputO s31 a32.1 (x48 + (if (decide (a32.2 = 0)) = true then 1 else 0))).bind fun best49 =>
      some best49) ls26 ([] : (List ((List Int) × Int)))).bind fun s33 =>
  (dgetT s33 ls6).bind fun x59 =>
  some x59
theorem ok_law_most_quiet (m : Nat) (st : Sto) (hT : TB st) {balances_here : (List Int)} {r : Int} (h : f_law_most_quiet balances_here = some r) : callL ds (m + 1) 20 [.d ((eL eI) balances_here)] st = .ok (.d (eI r)) st := by
  unfold f_law_most_quiet at h
  refine c_run (k := m + 0) (b := d20.body) rfl rfl ?_
  obtain ⟨ls1, hls1, h⟩ := ob h
  obtain ⟨ls6, hls6, h⟩ := ob h
  refine p_set (e1 := [.v (.d ((eL eI) balances_here)), .v (.d ((eL eI) ls6)), .no, .no, .no, .no, .no, .no, .no]) (v_lcO (T := (fun (a2 : Int) => (atO balances_here a2).bind fun x3 => some (!decide (x3 = 0)))) (Y := (fun (a2 : Int) => some a2)) (f := eI) (g := eI) (E := (fun a2 => [.v (.d ((eL eI) balances_here)), .no, .no, .v (.d (eI a2)), .no, .no, .no, .no, .no])) (no_cons (no_nv (by rfl) nv_no) (no_nil)) (i_r1 rfl hls1) (fun _ => rfl) (fun a2 t5 y4 => by obtain ⟨x3, hx3, y4⟩ := ob y4; have hh := si y4; subst hh; exact ts_one (v_cmpG (v_ixD rfl rfl rfl (i_atL (f := eI) hx3)) rfl rfl rfl (c_neN (f := eI) rfl x3 0))) (fun a2 t5 y4 => by have hh := si y4; subst hh; exact ⟨_, rfl, rfl⟩) hls6) rfl ?_
  refine p_set (e1 := [.v (.d ((eL eI) balances_here)), .v (.d ((eL eI) ls6)), .v (.d ((eL (eP (eT eI) eI)) [(([] : (List Int)), 0)])), .no, .no, .no, .no, .no, .no]) (as_f (eL (eP (eT eI) eI)) [(([] : (List Int)), 0)] (v_lst (ds_cons (as_d (eP (eT eI) eI) (([] : (List Int)), 0) (v_tup (ds_cons (as_d (eT eI) ([] : (List Int)) (v_tup (ds_nil) (lz 0 rfl (by decide)))) rfl (ds_cons rfl rfl (ds_nil))) (lz 2 rfl (by decide)))) rfl (ds_nil)) (lz 1 rfl (by decide)))) rfl ?_
  obtain ⟨s11, hs11, h⟩ := ob h
  refine p_step (n_for (Q := (fun s7 ee ss => ∃ j8 : Cell, nv j8 ∧ ee = [.v (.d ((eL eI) balances_here)), .v (.d ((eL eI) ls6)), .v (.d ((eL (eP (eT eI) eI)) s7)), j8, .no, .no, .no, .no, .no] ∧ st = ss)) (enc := eI) (i_sq rfl rfl) hs11 ⟨.no, nv_no, rfl, rfl⟩ ?_) ?_
  · clear h
    rintro s9 a10 e21 t22 _ ⟨j12, n13, rfl, rfl⟩ h
    refine ⟨[.v (.d ((eL eI) balances_here)), .v (.d ((eL eI) ls6)), .v (.d ((eL (eP (eT eI) eI)) s9)), .v (.d (eI a10)), .no, .no, .no, .no, .no], rfl, ?_⟩
    obtain ⟨ls19, hls19, h⟩ := ob h
    obtain ⟨ls20, hls20, h⟩ := ob h
    refine p_set (e1 := [.v (.d ((eL eI) balances_here)), .v (.d ((eL eI) ls6)), .v (.d ((eL (eP (eT eI) eI)) ls20)), .v (.d (eI a10)), .no, .no, .no, .no, .no]) (v_op rfl (v_lcM (Y := (fun (a14 : ((List Int) × Int)) => (appO a14.1 [a10]).bind fun ls15 => (atO balances_here a10).bind fun x16 => some (ls15, (a14.2 + x16)))) (f := (eP (eT eI) eI)) (g := (eP (eT eI) eI)) (E := (fun a14 => [.v (.d ((eL eI) balances_here)), .v (.d ((eL eI) ls6)), .v (.d ((eL (eP (eT eI) eI)) s9)), .v (.d (eI a10)), .no, .v (.d ((eT eI) a14.1)), .v (.d (eI a14.2)), .no, .no])) (no_cons (no_nv (by rfl) nv_no) (no_cons (no_nv (by rfl) nv_no) (no_nil))) (i_sq rfl rfl) (fun _ => rfl) (fun a14 t18 y17 => by obtain ⟨ls15, hls15, y17⟩ := ob y17; obtain ⟨x16, hx16, y17⟩ := ob y17; have hh := si y17; subst hh; exact ⟨_, as_d (eP (eT eI) eI) (ls15, (a14.2 + x16)) (v_tup (ds_cons (v_op rfl (as_d (eT eI) [a10] (v_tup (ds_cons rfl rfl (ds_nil)) (lz 1 rfl (by decide)))) rfl rfl (o_appT (f := eI) (l := a14.1) (m := [a10]) hls15)) rfl (ds_cons (v_op rfl (v_ixD rfl rfl rfl (i_atL (f := eI) hx16)) rfl rfl rfl) rfl (ds_nil))) (lz 2 rfl (by decide))), rfl⟩) hls19) rfl rfl (o_appL (f := (eP (eT eI) eI)) (l := s9) (m := ls19) hls20)) rfl ?_
    have hh := si h
    subst hh
    exact p_nil ⟨_, _, rfl, ⟨.v (.d (eI a10)), nv_v, rfl, rfl⟩⟩
  · rintro e1 s1 ⟨j23, n24, rfl, rfl⟩
    refine p_set (e1 := [.v (.d ((eL eI) balances_here)), .v (.d ((eL eI) ls6)), .v (.d ((eL (eP (eT eI) eI)) s11)), j23, .own ((eD (eT eI) eI) ([] : (List ((List Int) × Int)))), .no, .no, .no, .no]) (as_f (eD (eT eI) eI) [] rfl) rfl ?_
    obtain ⟨ls26, hls26, h⟩ := ob h
    obtain ⟨s33, hs33, h⟩ := ob h
    refine p_step (n_for (Q := (fun s27 ee ss => ∃ j28 j29 j30 : Cell, nv j28 ∧ nv j29 ∧ nv j30 ∧ ee = [.v (.d ((eL eI) balances_here)), .v (.d ((eL eI) ls6)), .v (.d ((eL (eP (eT eI) eI)) s11)), j23, .own ((eD (eT eI) eI) s27), j29, j30, j28, .no] ∧ st = ss)) (enc := (eP (eT eI) eI)) (i_sq (v_srtS (f := (eP (eT eI) eI)) (gk := (eP eI (eT eI))) (kf := (fun (a25 : ((List Int) × Int)) => ((a25.1.length : Int), a25.1))) (okb := (fun (a25 : ((List Int) × Int)) => decide (a25.1.length ≤ sizeLine))) rfl (tb_1 hT) rfl rfl rfl (fun a25 ho => by simp only [Bool.and_eq_true, decide_eq_true_eq] at ho; exact (lk_tup2 (f := eI) (g := (eT eI)) (a := (a25.1.length : Int)) (b := a25.1) (lk_len (f := eI) (l := a25.1) (lk_ix0 (f := (eT eI)) (g := eI) (p := a25) (lk_p (f := (eP (eT eI) eI)) (a := a25))) ho) (lk_ix0 (f := (eT eI)) (g := eI) (p := a25) (lk_p (f := (eP (eT eI) eI)) (a := a25))))) hls26) rfl) hs33 ⟨.no, .no, .no, nv_no, nv_no, nv_no, rfl, rfl⟩ ?_) ?_
    · clear h
      rintro s31 a32 e51 t52 _ ⟨j34, j35, j36, n37, n38, n39, rfl, rfl⟩ h
      refine ⟨[.v (.d ((eL eI) balances_here)), .v (.d ((eL eI) ls6)), .v (.d ((eL (eP (eT eI) eI)) s11)), j23, .own ((eD (eT eI) eI) s31), .v (.d ((eT eI) a32.1)), .v (.d (eI a32.2)), j34, .no], rfl, ?_⟩
      refine p_if (v_cmpG rfl (as_d (eT eI) ([] : (List Int)) (v_tup (ds_nil) (lz 0 rfl (by decide)))) rfl rfl (c_eqN (f := (eT eI)) rfl a32.1 ([] : (List Int)))) (fun ht50 => ?_) (fun ht50 => ?_)
      · rw [if_pos ht50] at h
        obtain ⟨best40, hbest40, h⟩ := ob h
        refine p_setO (e1 := [.v (.d ((eL eI) balances_here)), .v (.d ((eL eI) ls6)), .v (.d ((eL (eP (eT eI) eI)) s11)), j23, .own ((eD (eT eI) eI) best40), .v (.d ((eT eI) a32.1)), .v (.d (eI a32.2)), j34, .no]) rfl rfl rfl rfl rfl (setD_D (f := (eT eI)) (g := eI) (k := a32.1) (v := 0) hbest40) rfl ?_
        have hh := si h
        subst hh
        exact p_nil ⟨_, _, rfl, ⟨j34, .v (.d ((eT eI) a32.1)), .v (.d (eI a32.2)), n37, nv_v, nv_v, rfl, rfl⟩⟩
      · rw [if_neg (by rw [ht50]; exact Bool.false_ne_true)] at h
        obtain ⟨ls41, hls41, h⟩ := ob h
        obtain ⟨ls47, hls47, h⟩ := ob h
        refine p_set (e1 := [.v (.d ((eL eI) balances_here)), .v (.d ((eL eI) ls6)), .v (.d ((eL (eP (eT eI) eI)) s11)), j23, .own ((eD (eT eI) eI) s31), .v (.d ((eT eI) a32.1)), .v (.d (eI a32.2)), .v (.d ((eL eI) ls47)), .no]) (v_lcM (Y := (fun (a42 : Int) => (appO (cutL a32.1 none (some a42)) (cutL a32.1 (some (a42 + 1)) none)).bind fun ls43 => (dgetT s31 ls43).bind fun x44 => some x44)) (f := eI) (g := eI) (E := (fun a42 => [.v (.d ((eL eI) balances_here)), .v (.d ((eL eI) ls6)), .v (.d ((eL (eP (eT eI) eI)) s11)), j23, .own ((eD (eT eI) eI) s31), .v (.d ((eT eI) a32.1)), .v (.d (eI a32.2)), j34, .v (.d (eI a42))])) (no_cons (no_nv (by rfl) nv_no) (no_nil)) (i_r1 (v_bi1 (o := .len) rfl rfl (b_lenT (f := eI) a32.1)) hls41) (fun _ => rfl) (fun a42 t46 y45 => by obtain ⟨ls43, hls43, y45⟩ := ob y45; obtain ⟨x44, hx44, y45⟩ := ob y45; have hh := si y45; subst hh; exact ⟨_, v_ixB rfl (v_op (v_sl rfl p_no (p_ex rfl) rfl (s_T (f := eI) a32.1 _ _)) (v_sl rfl (p_ex (v_op rfl rfl rfl rfl rfl)) p_no rfl (s_T (f := eI) a32.1 _ _)) rfl rfl (o_appT (f := eI) (l := cutL a32.1 none (some a42)) (m := cutL a32.1 (some (a42 + 1)) none) hls43)) rfl (i_atD (f := (eT eI)) (g := eI) (k := ls43) hx44), rfl⟩) hls47) rfl ?_
        obtain ⟨x48, hx48, h⟩ := ob h
        obtain ⟨best49, hbest49, h⟩ := ob h
        refine p_setO (e1 := [.v (.d ((eL eI) balances_here)), .v (.d ((eL eI) ls6)), .v (.d ((eL (eP (eT eI) eI)) s11)), j23, .own ((eD (eT eI) eI) best49), .v (.d ((eT eI) a32.1)), .v (.d (eI a32.2)), .v (.d ((eL eI) ls47)), .no]) (v_op (v_bi1 (o := .max) rfl rfl (b_maxIL hx48)) (v_bi1 (o := .int) (v_cmpG rfl rfl rfl rfl (c_eqN (f := eI) rfl a32.2 0)) rfl (b_intB _)) rfl rfl rfl) rfl rfl rfl rfl (setD_D (f := (eT eI)) (g := eI) (k := a32.1) (v := (x48 + (if (decide (a32.2 = 0)) = true then 1 else 0))) hbest49) rfl ?_
        have hh := si h
        subst hh
        exact p_nil ⟨_, _, rfl, ⟨.v (.d ((eL eI) ls47)), .v (.d ((eT eI) a32.1)), .v (.d (eI a32.2)), nv_v, nv_v, nv_v, rfl, rfl⟩⟩
    · rintro e1 s1 ⟨j53, j54, j55, n56, n57, n58, rfl, rfl⟩
      obtain ⟨x59, hx59, h⟩ := ob h
      have hh := si h
      subst hh
      exact p_ret (v_ixB rfl (v_bi1 (o := .tuple) rfl rfl (b_tupL (f := eI) ls6)) rfl (i_atD (f := (eT eI)) (g := eI) (k := ls6) hx59)) rfl rfl
/-- fewest_payments -/
def f_fewest_payments (debts : (List (Int × Int × Int))) : Option Int :=
  (f_check_debts debts).bind fun x1 =>
  (f_raw_balances debts).bind fun x2 =>
  (f_open_people x2).bind fun x3 =>
  (f_raw_quiet_lots x2).bind fun x4 =>
  some ((x3.length : Int) - (x4.length : Int))
theorem ok_fewest_payments (m : Nat) (st : Sto) (hT : TB st) {debts : (List (Int × Int × Int))} {r : Int} (h : f_fewest_payments debts = some r) : callL ds (m + 6) 14 [.d ((eT (eP3 eI eI eI)) debts)] st = .ok (.d (eI r)) st := by
  unfold f_fewest_payments at h
  refine c_run (k := m + 5) (b := d14.body) rfl rfl ?_
  obtain ⟨x1, hx1, h⟩ := ob h
  refine p_do (v_call (rs_cons rfl rfl (rs_nil)) (ok_check_debts (m + 0) st hx1)) ?_
  obtain ⟨x2, hx2, h⟩ := ob h
  refine p_set (e1 := [.v (.d ((eT (eP3 eI eI eI)) debts)), .v (.d ((eL eI) x2))]) (v_call (rs_cons rfl rfl (rs_nil)) (ok_raw_balances (m + 4) st hx2)) rfl ?_
  obtain ⟨x3, hx3, h⟩ := ob h
  obtain ⟨x4, hx4, h⟩ := ob h
  have hh := si h
  subst hh
  exact p_ret (v_op (v_bi1 (o := .len) (v_call (rs_cons rfl rfl (rs_nil)) (ok_open_people (m + 4) st hx3)) rfl (b_lenL (f := eI) x3)) (v_bi1 (o := .len) (v_call (rs_cons rfl rfl (rs_nil)) (ok_raw_quiet_lots (m + 2) st hT hx4)) rfl (b_lenT (f := (eT eI)) x4)) rfl rfl rfl) rfl rfl
/-- balances -/
def f_balances (debts : (List (Int × Int × Int))) : Option (List Int) :=
  (f_check_debts debts).bind fun x1 =>
  (f_raw_balances debts).bind fun x2 =>
  some x2
theorem ok_balances (m : Nat) (st : Sto) {debts : (List (Int × Int × Int))} {r : (List Int)} (h : f_balances debts = some r) : callL ds (m + 6) 7 [.d ((eT (eP3 eI eI eI)) debts)] st = .ok (.d ((eT eI) r)) st := by
  unfold f_balances at h
  refine c_run (k := m + 5) (b := d7.body) rfl rfl ?_
  obtain ⟨x1, hx1, h⟩ := ob h
  refine p_do (v_call (rs_cons rfl rfl (rs_nil)) (ok_check_debts (m + 0) st hx1)) ?_
  obtain ⟨x2, hx2, h⟩ := ob h
  have hh := si h
  subst hh
  exact p_ret (v_bi1 (o := .tuple) (v_call (rs_cons rfl rfl (rs_nil)) (ok_raw_balances (m + 4) st hx2)) rfl (b_tupL (f := eI) x2)) rfl rfl
/-- law -/
def f_law (script : (List Int)) (s : Hnd) : Option (Bool × Hnd) :=
  (rngO 0 4).bind fun ls1 =>
  (forO (ρ := Bool × Hnd) (fun (s9 : Hnd) (a10 : Int) =>
    (drawT 7 s9).bind fun r23 =>
    (f_law_debts (2 + r23.1) 9 r23.2).bind fun r24 =>
    ((mapO (fun (a25 : (Int × Int × Int)) => (modO a25.2.2 3).bind fun k26 => some (a25.1, a25.2.1, (1 + k26))) r24.1).bind szO).bind fun ls29 =>
    (f_law_balances ls29).bind fun x30 =>
    (f_quiet_lots ls29).bind fun x31 =>
    (if (!true) = true then some true else ((f_law_most_quiet x30).bind fun x32 => some (!decide ((x31.length : Int) = x32)))).bind fun b33 =>
    if b33 = true then
      some (.rt (false, r24.2))
    else
      (forO (ρ := Bool × Hnd) (fun (s38 : (List Int) × Hnd) (a39 : (List Int)) =>
        (if (!true) = true then some true else ((if (decide (a39 = ([] : (List Int)))) = true then some true else ((ssetO a39).bind fun ls43 => some (!decide (a39 = ls43)))).bind fun b44 => some b44)).bind fun b47 =>
        if b47 = true then
          some (.rt (false, s38.2))
        else
          ((mapO (fun (a50 : Int) => (atO x30 a50).bind fun x51 => some x51) a39).bind szO).bind fun ls54 =>
          (if (!decide (ls54.sum = 0)) = true then some true else (((mapO (fun (a55 : Int) => (atO x30 a55).bind fun x56 => some (!decide (x56 = 0))) a39).bind szO).bind fun ls59 => some (!(ls59.all id)))).bind fun b60 =>
          if b60 = true then
            some (.rt (false, s38.2))
          else
            (appO s38.1 a39).bind fun met63 =>
            some (.nx (met63, s38.2))) x31 (([] : (List Int)), r24.2)).bind fun r40 =>
      brO r40 (fun v69 => some (.rt v69)) fun s68 =>
      (lsetO s68.1).bind fun k72 =>
      (if (!decide ((s68.1.length : Int) = k72)) = true then some true else ((sortO ltI s68.1).bind fun ls73 => (rngO 0 10).bind fun ls74 => ((lcO (fun (a75 : Int) => (atO x30 a75).bind fun x76 => some (!decide (x76 = 0))) (fun (a75 : Int) => some a75) ls74).bind szO).bind fun ls79 => some (!decide (ls73 = ls79)))).bind fun b80 =>
      if b80 = true then
        some (.rt (false, s68.2))
      else
        (f_fewest_payments ls29).bind fun x83 =>
        (if (!decide (x83 = ((s68.1.length : Int) - (x31.length : Int)))) = true then some true else ((f_balances ls29).bind fun x84 => some (!decide (x84 = x30)))).bind fun b85 =>
        if b85 = true then
          some (.rt (false, s68.2))
        else
          (appO ls29 ls29).bind fun ls88 =>
          (f_quiet_lots ls88).bind fun x89 =>
          (if (!decide ((x89.length : Int) = (x31.length : Int))) = true then some true else ((f_quiet_lots ([] : (List (Int × Int × Int)))).bind fun x90 => some (!decide (x90 = ([] : (List (List Int))))))).bind fun b91 =>
          if b91 = true then
            some (.rt (false, s68.2))
          else
            some (.nx s68.2)) ls1 s).bind fun r11 =>
  brO r11 (fun v101 => some v101) fun s100 =>
  some (true, s100)
theorem ok_law (m : Nat) {script : (List Int)} {s : Hnd} {r : Bool × Hnd} (hbag : callL ds (m + 6) 15 [.d ((eL eI) script)] T.st0 = .ok (.ref 2) (hst s)) (h : f_law script s = some r) : callL ds (m + 7) 21 [.d ((eL eI) script)] T.st0 = .ok (.d (eB r.1)) (hst r.2) := by
  unfold f_law at h
  refine c_run (k := m + 6) (b := d21.body) rfl rfl ?_
  refine p_set (e1 := [.v (.d ((eL eI) script)), .v (.ref 2), .no, .no, .no, .no, .no, .no, .no, .no, .no, .no]) (v_call rfl hbag) rfl ?_
  obtain ⟨ls1, hls1, h⟩ := ob h
  obtain ⟨r11, hr11, h⟩ := ob h
  refine p_end (Q := (fun s2 ee ss => ∃ j3 j4 j5 j6 j7 j8 : Cell, nv j3 ∧ nv j4 ∧ nv j5 ∧ nv j7 ∧ nv j8 ∧ ee = [.v (.d ((eL eI) script)), .v (.ref 2), j8, j3, j4, j5, j6, j7, .no, .no, .no, .no] ∧ hst s2 = ss)) (w := (fun v => .d (eB v.1))) (ws := (fun v => hst v.2)) (e_for (enc := eI) (i_r1 rfl hls1) hr11 ⟨.no, .no, .no, .no, .no, .no, nv_no, nv_no, nv_no, nv_no, nv_no, rfl, rfl⟩ ?_) ?_ ?_
  · clear h
    rintro s9 a10 e98 t99 _ ⟨j12, j13, j14, j15, j16, j17, n18, n19, n20, n21, n22, rfl, rfl⟩ h
    refine ⟨[.v (.d ((eL eI) script)), .v (.ref 2), .v (.d (eI a10)), j12, j13, j14, j15, j16, .no, .no, .no, .no], rfl, ?_⟩
    obtain ⟨r23, hr23, h⟩ := ob h
    obtain ⟨r24, hr24, h⟩ := ob h
    refine p_set (e1 := [.v (.d ((eL eI) script)), .v (.ref 2), .v (.d (eI a10)), .v (.d ((eT (eP3 eI eI eI)) r24.1)), j13, j14, j15, j16, .no, .no, .no, .no]) (v_call (rs_cons rfl rfl (rs_cons (v_op rfl (v_call (rs_cons rfl rfl (rs_cons rfl rfl (rs_nil))) (drawH (m + 5) hr23)) rfl rfl rfl) rfl (rs_cons rfl rfl (rs_nil)))) (ok_law_debts (m + 3) hr24)) rfl ?_
    obtain ⟨ls29, hls29, h⟩ := ob h
    refine p_set (e1 := [.v (.d ((eL eI) script)), .v (.ref 2), .v (.d (eI a10)), .v (.d ((eT (eP3 eI eI eI)) ls29)), j13, j14, j15, j16, .no, .no, .no, .no]) (v_bi1 (o := .tuple) (v_lcM (Y := (fun (a25 : (Int × Int × Int)) => (modO a25.2.2 3).bind fun k26 => some (a25.1, a25.2.1, (1 + k26)))) (f := (eP3 eI eI eI)) (g := (eP3 eI eI eI)) (E := (fun a25 => [.v (.d ((eL eI) script)), .v (.ref 2), .v (.d (eI a10)), .v (.d ((eT (eP3 eI eI eI)) r24.1)), j13, j14, j15, j16, .v (.d (eI a25.1)), .v (.d (eI a25.2.1)), .v (.d (eI a25.2.2)), .no])) (no_cons (no_nv (by rfl) nv_no) (no_cons (no_nv (by rfl) nv_no) (no_cons (no_nv (by rfl) nv_no) (no_nil)))) (i_sq rfl rfl) (fun _ => rfl) (fun a25 t28 y27 => by obtain ⟨k26, hk26, y27⟩ := ob y27; have hh := si y27; subst hh; exact ⟨_, as_d (eP3 eI eI eI) (a25.1, a25.2.1, (1 + k26)) (v_tup (ds_cons rfl rfl (ds_cons rfl rfl (ds_cons (v_op rfl (v_op (v_bi1 (o := .int) rfl rfl (b_int _)) rfl rfl rfl (o_mod hk26)) rfl rfl rfl) rfl (ds_nil)))) (lz 3 rfl (by decide))), rfl⟩) hls29) rfl (b_tupL (f := (eP3 eI eI eI)) ls29)) rfl ?_
    obtain ⟨x30, hx30, h⟩ := ob h
    obtain ⟨x31, hx31, h⟩ := ob h
    refine p_par2 (e1 := [.v (.d ((eL eI) script)), .v (.ref 2), .v (.d (eI a10)), .v (.d ((eT (eP3 eI eI eI)) ls29)), .v (.d ((eL eI) x30)), .v (.d ((eT (eT eI)) x31)), j15, j16, .no, .no, .no, .no]) (v_call (rs_cons rfl rfl (rs_nil)) (ok_law_balances (m + 5) (hst r24.2) hx30)) (v_call (rs_cons rfl rfl (rs_nil)) (ok_quiet_lots (m + 0) (hst r24.2) (tb_st _) hx31)) rfl ?_
    obtain ⟨b33, hb33, h⟩ := ob h
    refine p_if (v_orO (v_not (v_isaN (t := true) (y := "tuple") (eT (eT eI)) x31 rfl rfl (isa_tuple _))) hb33 (fun t34 y35 => by obtain ⟨x32, hx32, y35⟩ := ob y35; have hh := si y35; subst hh; exact v_cmpG (v_bi1 (o := .len) rfl rfl (b_lenT (f := (eT eI)) x31)) (v_call (rs_cons rfl rfl (rs_nil)) (ok_law_most_quiet (m + 5) (hst r24.2) (tb_st _) hx32)) rfl rfl (c_neN (f := eI) rfl (x31.length : Int) x32))) (fun ht97 => ?_) (fun ht97 => ?_)
    · rw [if_pos ht97] at h
      have hh := si h
      subst hh
      exact p_ret rfl rfl rfl
    · rw [if_neg (by rw [ht97]; exact Bool.false_ne_true)] at h
      refine p_set (e1 := [.v (.d ((eL eI) script)), .v (.ref 2), .v (.d (eI a10)), .v (.d ((eT (eP3 eI eI eI)) ls29)), .v (.d ((eL eI) x30)), .v (.d ((eT (eT eI)) x31)), .own ((eL eI) ([] : (List Int))), j16, .no, .no, .no, .no]) (as_f (eL eI) ([] : (List Int)) (v_lst (ds_nil) (lz 0 rfl (by decide)))) rfl ?_
      obtain ⟨r40, hr40, h⟩ := ob h
      refine p_end (Q := (fun s36 ee ss => ∃ j37 : Cell, nv j37 ∧ ee = [.v (.d ((eL eI) script)), .v (.ref 2), .v (.d (eI a10)), .v (.d ((eT (eP3 eI eI eI)) ls29)), .v (.d ((eL eI) x30)), .v (.d ((eT (eT eI)) x31)), .own ((eL eI) s36.1), j37, .no, .no, .no, .no] ∧ hst s36.2 = ss)) (w := (fun v => .d (eB v.1))) (ws := (fun v => hst v.2)) (e_for (enc := (eT eI)) (i_sq rfl rfl) hr40 ⟨j16, n21, rfl, rfl⟩ ?_) ?_ ?_
      · clear h
        rintro s38 a39 e66 t67 _ ⟨j41, n42, rfl, rfl⟩ h
        refine ⟨[.v (.d ((eL eI) script)), .v (.ref 2), .v (.d (eI a10)), .v (.d ((eT (eP3 eI eI eI)) ls29)), .v (.d ((eL eI) x30)), .v (.d ((eT (eT eI)) x31)), .own ((eL eI) s38.1), .v (.d ((eT eI) a39)), .no, .no, .no, .no], rfl, ?_⟩
        obtain ⟨b47, hb47, h⟩ := ob h
        refine p_if (v_orO (v_not (v_isaN (t := true) (y := "tuple") (eT eI) a39 rfl rfl (isa_tuple _))) hb47 (fun t48 y49 => by obtain ⟨b44, hb44, y49⟩ := ob y49; have hh := si y49; subst hh; exact v_orO (v_cmpG rfl (as_d (eT eI) ([] : (List Int)) (v_tup (ds_nil) (lz 0 rfl (by decide)))) rfl rfl (c_eqN (f := (eT eI)) rfl a39 ([] : (List Int)))) hb44 (fun t45 y46 => by obtain ⟨ls43, hls43, y46⟩ := ob y46; have hh := si y46; subst hh; exact v_cmpG (v_bi1 (o := .list) rfl rfl (b_lstT (f := eI) a39)) (v_sset rfl rfl hls43) rfl rfl (c_neN (f := (eL eI)) rfl a39 ls43)))) (fun ht65 => ?_) (fun ht65 => ?_)
        · rw [if_pos ht65] at h
          have hh := si h
          subst hh
          exact p_ret rfl rfl rfl
        · rw [if_neg (by rw [ht65]; exact Bool.false_ne_true)] at h
          obtain ⟨ls54, hls54, h⟩ := ob h
          obtain ⟨b60, hb60, h⟩ := ob h
          refine p_if (v_orO (v_cmpG (v_bi1 (o := .sum) (v_lcM (Y := (fun (a50 : Int) => (atO x30 a50).bind fun x51 => some x51)) (f := eI) (g := eI) (E := (fun a50 => [.v (.d ((eL eI) script)), .v (.ref 2), .v (.d (eI a10)), .v (.d ((eT (eP3 eI eI eI)) ls29)), .v (.d ((eL eI) x30)), .v (.d ((eT (eT eI)) x31)), .own ((eL eI) s38.1), .v (.d ((eT eI) a39)), .no, .no, .no, .v (.d (eI a50))])) (no_cons (no_nv (by rfl) nv_no) (no_nil)) (i_sq rfl rfl) (fun _ => rfl) (fun a50 t53 y52 => by obtain ⟨x51, hx51, y52⟩ := ob y52; have hh := si y52; subst hh; exact ⟨_, v_ixD rfl rfl rfl (i_atL (f := eI) hx51), rfl⟩) hls54) rfl (b_sumL _)) rfl rfl rfl (c_neN (f := eI) rfl ls54.sum 0)) hb60 (fun t61 y62 => by obtain ⟨ls59, hls59, y62⟩ := ob y62; have hh := si y62; subst hh; exact v_not (v_bi1 (o := .all) (v_lcM (Y := (fun (a55 : Int) => (atO x30 a55).bind fun x56 => some (!decide (x56 = 0)))) (f := eI) (g := eB) (E := (fun a55 => [.v (.d ((eL eI) script)), .v (.ref 2), .v (.d (eI a10)), .v (.d ((eT (eP3 eI eI eI)) ls29)), .v (.d ((eL eI) x30)), .v (.d ((eT (eT eI)) x31)), .own ((eL eI) s38.1), .v (.d ((eT eI) a39)), .no, .no, .no, .v (.d (eI a55))])) (no_cons (no_nv (by rfl) nv_no) (no_nil)) (i_sq rfl rfl) (fun _ => rfl) (fun a55 t58 y57 => by obtain ⟨x56, hx56, y57⟩ := ob y57; have hh := si y57; subst hh; exact ⟨_, v_cmpG (v_ixD rfl rfl rfl (i_atL (f := eI) hx56)) rfl rfl rfl (c_neN (f := eI) rfl x56 0), rfl⟩) hls59) rfl (b_all _)))) (fun ht64 => ?_) (fun ht64 => ?_)
          · rw [if_pos ht64] at h
            have hh := si h
            subst hh
            exact p_ret rfl rfl rfl
          · rw [if_neg (by rw [ht64]; exact Bool.false_ne_true)] at h
            obtain ⟨met63, hmet63, h⟩ := ob h
            refine p_ext (f := eI) (l := s38.1) (m := a39) (e1 := [.v (.d ((eL eI) script)), .v (.ref 2), .v (.d (eI a10)), .v (.d ((eT (eP3 eI eI eI)) ls29)), .v (.d ((eL eI) x30)), .v (.d ((eT (eT eI)) x31)), .own ((eL eI) met63), .v (.d ((eT eI) a39)), .no, .no, .no, .no]) (v_bi1 (o := .list) rfl rfl (b_lstT (f := eI) a39)) rfl hmet63 rfl ?_
            have hh := si h
            subst hh
            exact p_nil ⟨_, _, rfl, ⟨.v (.d ((eT eI) a39)), nv_v, rfl, rfl⟩⟩
      · rintro v rfl
        cases h
        rfl
      · rintro s68 rfl e1 s1 ⟨j70, n71, rfl, rfl⟩
        dsimp only [brO] at h
        obtain ⟨k72, hk72, h⟩ := ob h
        obtain ⟨b80, hb80, h⟩ := ob h
        refine p_if (v_orO (v_cmpG (v_bi1 (o := .len) rfl rfl (b_lenL (f := eI) s68.1)) (v_lset rfl rfl hk72) rfl rfl (c_neN (f := eI) rfl (s68.1.length : Int) k72)) hb80 (fun t81 y82 => by obtain ⟨ls73, hls73, y82⟩ := ob y82; obtain ⟨ls74, hls74, y82⟩ := ob y82; obtain ⟨ls79, hls79, y82⟩ := ob y82; have hh := si y82; subst hh; exact v_cmpG (v_bi1 (o := .sorted) rfl rfl (b_sort (f := eI) rfl rfl hls73)) (v_lcO (T := (fun (a75 : Int) => (atO x30 a75).bind fun x76 => some (!decide (x76 = 0)))) (Y := (fun (a75 : Int) => some a75)) (f := eI) (g := eI) (E := (fun a75 => [.v (.d ((eL eI) script)), .v (.ref 2), .v (.d (eI a10)), .v (.d ((eT (eP3 eI eI eI)) ls29)), .v (.d ((eL eI) x30)), .v (.d ((eT (eT eI)) x31)), .own ((eL eI) s68.1), j70, .no, .no, .no, .v (.d (eI a75))])) (no_cons (no_nv (by rfl) nv_no) (no_nil)) (i_r1 rfl hls74) (fun _ => rfl) (fun a75 t78 y77 => by obtain ⟨x76, hx76, y77⟩ := ob y77; have hh := si y77; subst hh; exact ts_one (v_cmpG (v_ixD rfl rfl rfl (i_atL (f := eI) hx76)) rfl rfl rfl (c_neN (f := eI) rfl x76 0))) (fun a75 t78 y77 => by have hh := si y77; subst hh; exact ⟨_, rfl, rfl⟩) hls79) rfl rfl (c_neN (f := (eL eI)) rfl ls73 ls79))) (fun ht96 => ?_) (fun ht96 => ?_)
        · rw [if_pos ht96] at h
          have hh := si h
          subst hh
          exact p_ret rfl rfl rfl
        · rw [if_neg (by rw [ht96]; exact Bool.false_ne_true)] at h
          obtain ⟨x83, hx83, h⟩ := ob h
          obtain ⟨b85, hb85, h⟩ := ob h
          refine p_if (v_orO (v_cmpG (v_call (rs_cons rfl rfl (rs_nil)) (ok_fewest_payments (m + 0) (hst s68.2) (tb_st _) hx83)) (v_op (v_bi1 (o := .len) rfl rfl (b_lenL (f := eI) s68.1)) (v_bi1 (o := .len) rfl rfl (b_lenT (f := (eT eI)) x31)) rfl rfl rfl) rfl rfl (c_neN (f := eI) rfl x83 ((s68.1.length : Int) - (x31.length : Int)))) hb85 (fun t86 y87 => by obtain ⟨x84, hx84, y87⟩ := ob y87; have hh := si y87; subst hh; exact v_cmpG (v_call (rs_cons rfl rfl (rs_nil)) (ok_balances (m + 0) (hst s68.2) hx84)) (v_bi1 (o := .tuple) rfl rfl (b_tupL (f := eI) x30)) rfl rfl (c_neN (f := (eT eI)) rfl x84 x30))) (fun ht95 => ?_) (fun ht95 => ?_)
          · rw [if_pos ht95] at h
            have hh := si h
            subst hh
            exact p_ret rfl rfl rfl
          · rw [if_neg (by rw [ht95]; exact Bool.false_ne_true)] at h
            obtain ⟨ls88, hls88, h⟩ := ob h
            obtain ⟨x89, hx89, h⟩ := ob h
            obtain ⟨b91, hb91, h⟩ := ob h
            refine p_if (v_orO (v_cmpG (v_bi1 (o := .len) (v_call (rs_cons (v_op rfl rfl rfl rfl (o_appT (f := (eP3 eI eI eI)) (l := ls29) (m := ls29) hls88)) rfl (rs_nil)) (ok_quiet_lots (m + 0) (hst s68.2) (tb_st _) hx89)) rfl (b_lenT (f := (eT eI)) x89)) (v_bi1 (o := .len) rfl rfl (b_lenT (f := (eT eI)) x31)) rfl rfl (c_neN (f := eI) rfl (x89.length : Int) (x31.length : Int))) hb91 (fun t92 y93 => by obtain ⟨x90, hx90, y93⟩ := ob y93; have hh := si y93; subst hh; exact v_cmpG (v_call (rs_cons (as_d (eT (eP3 eI eI eI)) ([] : (List (Int × Int × Int))) (v_tup (ds_nil) (lz 0 rfl (by decide)))) rfl (rs_nil)) (ok_quiet_lots (m + 0) (hst s68.2) (tb_st _) hx90)) (as_d (eT (eT eI)) ([] : (List (List Int))) (v_tup (ds_nil) (lz 0 rfl (by decide)))) rfl rfl (c_neN (f := (eT (eT eI))) rfl x90 ([] : (List (List Int)))))) (fun ht94 => ?_) (fun ht94 => ?_)
            · rw [if_pos ht94] at h
              have hh := si h
              subst hh
              exact p_ret rfl rfl rfl
            · rw [if_neg (by rw [ht94]; exact Bool.false_ne_true)] at h
              have hh := si h
              subst hh
              exact p_nil ⟨_, _, rfl, ⟨.v (.d ((eT (eP3 eI eI eI)) ls29)), .v (.d ((eL eI) x30)), .v (.d ((eT (eT eI)) x31)), .own ((eL eI) s68.1), j70, .v (.d (eI a10)), nv_v, nv_v, nv_v, n71, nv_v, rfl, rfl⟩⟩
  · rintro v rfl
    cases h
    rfl
  · rintro s100 rfl e1 s1 ⟨j102, j103, j104, j105, j106, j107, n108, n109, n110, n111, n112, rfl, rfl⟩
    dsimp only [brO] at h
    have hh := si h
    subst hh
    exact p_ret rfl rfl rfl
end K79

set_option maxRecDepth 100000
/-! K79b: lots and families of lots. -/
namespace K79
open PySem Ev
def sm (w : Int → Int) (l : List Int) : Int := (l.map w).sum
theorem sm_app (w : Int → Int) (l m : List Int) : sm w (l ++ m) = sm w l + sm w m := by
  unfold sm
  rw [List.map_append, List.sum_append]
theorem sm_perm {w : Int → Int} {l m : List Int} (h : l.Perm m) : sm w l = sm w m := by
  induction h with
  | nil => rfl
  | cons a _ ih => unfold sm at ih ⊢; simp only [List.map_cons, List.sum_cons]; omega
  | swap a b l => unfold sm; simp only [List.map_cons, List.sum_cons]; omega
  | trans _ _ h1 h2 => exact h1.trans h2
theorem sm_zero {w : Int → Int} : ∀ {F : List (List Int)}, (∀ T ∈ F, sm w T = 0) → sm w F.flatten = 0
  | [], _ => rfl
  | T :: F, h => by rw [List.flatten_cons, sm_app, h T List.mem_cons_self, sm_zero fun U hU => h U (List.mem_cons_of_mem _ hU)]; rfl
def lotsG (acc : List (List Int)) (S : List Int) : List (List Int) := S.foldl (fun acc p => acc ++ acc.map (· ++ [p])) acc
def lotsF (S : List Int) : List (List Int) := lotsG [[]] S
theorem lotsG_len : ∀ (S : List Int) (acc : List (List Int)), (lotsG acc S).length = acc.length * 2 ^ S.length
  | [], acc => by simp [lotsG]
  | p :: S, acc => by
    show (lotsG (acc ++ acc.map (· ++ [p])) S).length = _
    rw [lotsG_len S, List.length_append, List.length_map, List.length_cons, Nat.pow_succ, Nat.add_mul, Nat.mul_comm (2 ^ S.length) 2, ← Nat.mul_assoc, Nat.mul_two, Nat.add_mul]
theorem lotsF_len (S : List Int) : (lotsF S).length = 2 ^ S.length := by unfold lotsF; rw [lotsG_len]; simp
theorem mem_lotsG : ∀ (S : List Int) (acc : List (List Int)) (l : List Int), l ∈ lotsG acc S ↔ ∃ a ∈ acc, ∃ t, t.Sublist S ∧ l = a ++ t
  | [], acc, l => by
    show l ∈ acc ↔ _
    constructor
    · intro h; exact ⟨l, h, [], List.Sublist.slnil, by simp⟩
    · rintro ⟨a, ha, t, ht, rfl⟩
      rw [List.sublist_nil.mp ht, List.append_nil]; exact ha
  | p :: S, acc, l => by
    show l ∈ lotsG (acc ++ acc.map (· ++ [p])) S ↔ _
    rw [mem_lotsG S]
    constructor
    · rintro ⟨a, ha, t, ht, rfl⟩
      rcases List.mem_append.mp ha with ha | ha
      · exact ⟨a, ha, t, ht.cons p, rfl⟩
      · obtain ⟨b, hb, rfl⟩ := List.mem_map.mp ha
        exact ⟨b, hb, p :: t, ht.cons₂ p, by simp⟩
    · rintro ⟨a, ha, t, ht, rfl⟩
      rcases List.sublist_cons_iff.mp ht with ht2 | ⟨r, e, ht2⟩
      · exact ⟨a, List.mem_append_left _ ha, t, ht2, rfl⟩
      · subst e; exact ⟨a ++ [p], List.mem_append_right _ (List.mem_map.mpr ⟨a, ha, rfl⟩), r, ht2, by simp⟩
theorem mem_lotsF {S l : List Int} : l ∈ lotsF S ↔ l.Sublist S := by
  unfold lotsF
  rw [mem_lotsG]
  constructor
  · rintro ⟨a, ha, t, ht, rfl⟩
    rw [List.mem_singleton.mp ha]; exact ht
  · intro h; exact ⟨[], List.mem_singleton.mpr rfl, l, h, rfl⟩
/-- the rest -/
def rest (S T : List Int) : List Int := S.filter fun a => !decide (a ∈ T)
theorem filter_in : ∀ {T S : List Int}, T.Sublist S → S.Nodup → S.filter (fun a => decide (a ∈ T)) = T := by
  intro T S h
  induction h with
  | slnil => intro _; rfl
  | cons a h ih =>
    rename_i T S
    intro nd
    rw [List.nodup_cons] at nd
    rw [List.filter_cons, if_neg (by simp only [decide_eq_true_eq]; exact fun q => nd.1 (h.subset q))]
    exact ih nd.2
  | cons_cons a h ih =>
    rename_i T S
    intro nd
    rw [List.nodup_cons] at nd
    rw [List.filter_cons, if_pos (by simp)]
    congr 1
    refine Eq.trans (List.filter_congr fun b hb => ?_) (ih nd.2)
    have : b ≠ a := fun q => nd.1 (by rw [← q]; exact hb)
    simp [this]
theorem rest_perm {T S : List Int} (h : T.Sublist S) (nd : S.Nodup) : (T ++ rest S T).Perm S := by
  have := List.filter_append_perm (fun a => decide (a ∈ T)) S
  rw [filter_in h nd] at this
  exact this
theorem rest_sub (S T : List Int) : (rest S T).Sublist S := List.filter_sublist
theorem sub_rest {U S T : List Int} (h : U.Sublist S) (d : ∀ u ∈ U, u ∉ T) : U.Sublist (rest S T) := by
  have e : U.filter (fun a => !decide (a ∈ T)) = U := List.filter_eq_self.mpr fun u hu => by simp [d u hu]
  rw [← e]
  exact h.filter _
theorem sm_rest {w : Int → Int} {T S : List Int} (h : T.Sublist S) (nd : S.Nodup) (h1 : sm w S = 0) (h2 : sm w T = 0) : sm w (rest S T) = 0 := by
  have := sm_perm (w := w) (rest_perm h nd)
  rw [sm_app] at this
  omega
variable {w : Int → Int}
def Each (w : Int → Int) (S : List Int) (F : List (List Int)) : Prop := ∀ T ∈ F, T ≠ [] ∧ T.Sublist S ∧ sm w T = 0
def Fam (w : Int → Int) (S : List Int) (F : List (List Int)) : Prop := Each w S F ∧ F.flatten.Perm S
def Opt (w : Int → Int) (S : List Int) (F : List (List Int)) : Prop := Fam w S F ∧ ∀ G, Fam w S G → G.length ≤ F.length
theorem each_nil {G : List (List Int)} (h : Each w [] G) : G = [] := by
  cases G with
  | nil => rfl
  | cons T G =>
    obtain ⟨h1, h2, _⟩ := h T List.mem_cons_self
    exact absurd (List.sublist_nil.mp h2) h1
theorem opt_nil : Opt w [] [] := ⟨⟨fun T h => (nomatch h), List.Perm.refl _⟩, fun G hG => by rw [each_nil hG.1]; exact Nat.le_refl _⟩
theorem flat_perm {F G : List (List Int)} (h : F.Perm G) : F.flatten.Perm G.flatten := by
  induction h with
  | nil => exact List.Perm.refl _
  | cons a _ ih => rw [List.flatten_cons, List.flatten_cons]; exact ih.append_left a
  | swap a b l =>
    simp only [List.flatten_cons, ← List.append_assoc]
    exact List.Perm.append_right _ List.perm_append_comm
  | trans _ _ h1 h2 => exact h1.trans h2
theorem opt_step {h : Int} {tl : List Int} (nd : (h :: tl).Nodup) {X : List (List Int)} (hX : ∀ T, T ∈ X ↔ (∃ t, T = h :: t ∧ t.Sublist tl) ∧ sm w T = 0) {val : List Int → List (List Int)} (hv : ∀ T ∈ X, ∃ F, val T = T :: F ∧ Opt w (rest (h :: tl) T) F)
    {R : List (List Int)} (hR : ∃ T ∈ X, R = val T) (hmax : ∀ T ∈ X, (val T).length ≤ R.length) : Opt w (h :: tl) R := by
  constructor
  · obtain ⟨T, hT, rfl⟩ := hR
    obtain ⟨F, e, ⟨f1, f2⟩, _⟩ := hv T hT
    obtain ⟨⟨t, rfl, ht⟩, hz⟩ := (hX T).mp hT
    have hs : (h :: t).Sublist (h :: tl) := ht.cons₂ h
    rw [e]
    refine ⟨fun U hU => ?_, ?_⟩
    · rcases List.mem_cons.mp hU with q | q
      · rw [q]; exact ⟨by simp, hs, hz⟩
      · obtain ⟨a, b, c⟩ := f1 U q
        exact ⟨a, b.trans (rest_sub _ _), c⟩
    · rw [List.flatten_cons]
      exact (f2.append_left _).trans (rest_perm hs nd)
  · intro G hG
    obtain ⟨g1, g2⟩ := hG
    obtain ⟨T, hT, hh⟩ := List.mem_flatten.mp (g2.mem_iff.mpr List.mem_cons_self : h ∈ G.flatten)
    obtain ⟨t1, t2, t3⟩ := g1 T hT
    have hTX : T ∈ X := by
      rw [hX]
      refine ⟨?_, t3⟩
      rcases List.sublist_cons_iff.mp t2 with q | ⟨r, e, q⟩
      · exact absurd (q.subset hh) (List.nodup_cons.mp nd).1
      · exact ⟨r, e, q⟩
    obtain ⟨F, e, _, f3⟩ := hv T hTX
    have p1 : G.Perm (T :: G.erase T) := List.perm_cons_erase hT
    have p2 : (T ++ (G.erase T).flatten).Perm (h :: tl) := by
      have := flat_perm p1
      rw [List.flatten_cons] at this
      exact this.symm.trans g2
    have p3 : (G.erase T).flatten.Perm (rest (h :: tl) T) := (List.perm_append_left_iff T).mp (p2.trans (rest_perm t2 nd).symm)
    have nd2 : (T ++ (G.erase T).flatten).Nodup := p2.nodup_iff.mpr nd
    have := f3 (G.erase T) ⟨fun U hU => ?_, p3⟩
    · have l1 := p1.length_eq
      rw [List.length_cons] at l1
      have l2 := hmax T hTX
      rw [e, List.length_cons] at l2
      omega
    · obtain ⟨a, b, c⟩ := g1 U (List.mem_of_mem_erase hU)
      refine ⟨a, sub_rest b fun u hu ht => ?_, c⟩
      exact (List.nodup_append.mp nd2).2.2 u ht u (List.mem_flatten.mpr ⟨U, hU, hu⟩) rfl
/-! ### packed -/
def Pack (w : Int → Int) (S : List Int) (F : List (List Int)) : Prop := Each w S F ∧ F.flatten.Nodup
def MaxP (w : Int → Int) (S : List Int) (n : Nat) : Prop := (∃ F, Pack w S F ∧ F.length = n) ∧ ∀ F, Pack w S F → F.length ≤ n
theorem max_nil : MaxP w [] 0 := ⟨⟨[], ⟨fun T h => (nomatch h), List.nodup_nil⟩, rfl⟩, fun G hG => by rw [each_nil hG.1]; exact Nat.le_refl _⟩
theorem flat_sub {S : List Int} : ∀ {F : List (List Int)}, Each w S F → ∀ x ∈ F.flatten, x ∈ S := fun {F} h x hx => by
  obtain ⟨T, hT, hx⟩ := List.mem_flatten.mp hx
  exact (h T hT).2.1.subset hx
/-- a family within, and the rest -/
theorem flat_rest {S : List Int} (nd : S.Nodup) {F : List (List Int)} (h : Pack w S F) : (F.flatten ++ rest S F.flatten).Perm S := by
  have n1 : (F.flatten ++ rest S F.flatten).Nodup := by
    refine List.nodup_append.mpr ⟨h.2, nd.sublist (rest_sub _ _), fun a ha b hb e => ?_⟩
    have := (List.mem_filter.mp hb).2
    rw [← e] at this
    simp [ha] at this
  refine (List.perm_ext_iff_of_nodup n1 nd).mpr fun a => ?_
  rw [List.mem_append]
  constructor
  · rintro (q | q)
    · exact flat_sub h.1 a q
    · exact (rest_sub _ _).subset q
  · intro q
    by_cases ha : a ∈ F.flatten
    · exact .inl ha
    · exact .inr (List.mem_filter.mpr ⟨q, by simp [ha]⟩)
theorem pack_fam {S : List Int} {F : List (List Int)} (nd : S.Nodup) (h : Fam w S F) : Pack w S F := ⟨h.1, h.2.nodup_iff.mpr nd⟩
theorem pack_more {S : List Int} {F : List (List Int)} (nd : S.Nodup) (hz : sm w S = 0) (h : Pack w S F) : (rest S F.flatten = [] ∧ Fam w S F) ∨ (rest S F.flatten ≠ [] ∧ Fam w S (rest S F.flatten :: F)) := by
  have p := flat_rest nd h
  by_cases hr : rest S F.flatten = []
  · left
    rw [hr, List.append_nil] at p
    exact ⟨hr, h.1, p⟩
  · right
    refine ⟨hr, fun T hT => ?_, ?_⟩
    · rcases List.mem_cons.mp hT with q | q
      · rw [q]
        refine ⟨hr, rest_sub _ _, ?_⟩
        have := sm_perm (w := w) p
        rw [sm_app, sm_zero fun T hT => (h.1 T hT).2.2] at this
        omega
      · exact h.1 T q
    · rw [List.flatten_cons]
      exact List.perm_append_comm.trans p
/-- the best family is as many as can be packed -/
theorem opt_max {S : List Int} {F : List (List Int)} {n : Nat} (nd : S.Nodup) (hz : sm w S = 0) (h : Opt w S F) (m : MaxP w S n) : F.length = n := by
  obtain ⟨⟨G, g1, g2⟩, m2⟩ := m
  have a := m2 F (pack_fam nd h.1)
  rcases pack_more nd hz g1 with ⟨_, q⟩ | ⟨_, q⟩
  · have := h.2 G q; omega
  · have := h.2 _ q; rw [List.length_cons] at this; omega
theorem opt_len {S : List Int} {F G : List (List Int)} (h : Opt w S F) (g : Opt w S G) : F.length = G.length := by
  have := h.2 G g.1
  have := g.2 F h.1
  omega
theorem each_mono {S S' : List Int} (h : S.Sublist S') {F : List (List Int)} (e : Each w S F) : Each w S' F := fun T hT => let ⟨a, b, c⟩ := e T hT; ⟨a, b.trans h, c⟩
theorem erase_sub {S T : List Int} {i : Nat} (h : T.Sublist S) (nd : S.Nodup) (hi : i < S.length) (hn : S[i] ∉ T) : T.Sublist (S.eraseIdx i) := by
  have e : rest S [S[i]] = S.eraseIdx i := by
    unfold rest
    have : ∀ (S : List Int) (i : Nat) (hi : i < S.length), S.Nodup → (S.filter fun a => !decide (a ∈ [S[i]])) = S.eraseIdx i := by
      intro S
      induction S with
      | nil => intro i hi; simp at hi
      | cons x S ih =>
        intro i hi nd
        rw [List.nodup_cons] at nd
        cases i with
        | zero =>
          rw [List.eraseIdx_cons_zero, List.filter_cons, if_neg (by simp)]
          exact List.filter_eq_self.mpr fun a ha => by
            have : a ≠ x := fun q => nd.1 (by rw [← q]; exact ha)
            simp [this]
        | succ i =>
          have hi' : i < S.length := by simpa using hi
          rw [List.eraseIdx_cons_succ, List.filter_cons, if_pos]
          · rw [← ih i hi' nd.2]; rfl
          · have : x ≠ S[i] := fun q => nd.1 (by rw [q]; exact List.getElem_mem hi')
            simp [this]
    exact this S i hi nd
  rw [← e]
  exact sub_rest h fun u hu q => by rw [List.mem_singleton.mp q] at hu; exact hn hu
theorem max_step {S : List Int} (hS : S ≠ []) (nd : S.Nodup) {v : Nat → Nat} (hv : ∀ i, i < S.length → MaxP w (S.eraseIdx i) (v i)) {M : Nat} (h1 : ∃ i, i < S.length ∧ M = v i) (h2 : ∀ i, i < S.length → v i ≤ M) : MaxP w S (M + if sm w S = 0 then 1 else 0) := by
  constructor
  · obtain ⟨i, hi, rfl⟩ := h1
    obtain ⟨⟨F, ⟨f1, f2⟩, f3⟩, _⟩ := hv i hi
    have f1' := each_mono (List.eraseIdx_sublist S i) f1
    by_cases hz : sm w S = 0
    · rw [if_pos hz]
      rcases pack_more nd hz ⟨f1', f2⟩ with ⟨_, q1, q2⟩ | ⟨_, q⟩
      · exfalso
        have hm : S[i] ∈ F.flatten := q2.mem_iff.mpr (List.getElem_mem hi)
        have hm2 := flat_sub f1 _ hm
        have : ∀ (S : List Int) (i : Nat) (hi : i < S.length), S.Nodup → S[i] ∉ S.eraseIdx i := by
          intro S
          induction S with
          | nil => intro i hi; simp at hi
          | cons x S ih =>
            intro i hi nd
            rw [List.nodup_cons] at nd
            cases i with
            | zero => rw [List.eraseIdx_cons_zero]; exact nd.1
            | succ i =>
              have hi' : i < S.length := by simpa using hi
              rw [List.eraseIdx_cons_succ]
              intro q
              rcases List.mem_cons.mp q with q | q
              · exact nd.1 (by rw [← q]; exact List.getElem_mem hi')
              · exact ih i hi' nd.2 q
        exact this S i hi nd hm2
      · exact ⟨_, pack_fam nd q, by rw [List.length_cons, f3]⟩
    · rw [if_neg hz]
      exact ⟨F, ⟨f1', f2⟩, f3⟩
  · intro G hG
    by_cases hz : sm w S = 0
    · rw [if_pos hz]
      cases G with
      | nil => exact Nat.zero_le _
      | cons T G =>
        obtain ⟨t1, t2, t3⟩ := hG.1 T List.mem_cons_self
        obtain ⟨y, ty⟩ := List.exists_mem_of_ne_nil T t1
        obtain ⟨i, hi, e⟩ := List.getElem_of_mem (t2.subset ty)
        have nd2 := hG.2
        rw [List.flatten_cons] at nd2
        obtain ⟨n1, n2, n3⟩ := List.nodup_append.mp nd2
        have := (hv i hi).2 G ⟨fun U hU => ?_, n2⟩
        · have := h2 i hi
          rw [List.length_cons]
          omega
        · obtain ⟨a, b, c⟩ := hG.1 U (List.mem_cons_of_mem _ hU)
          refine ⟨a, erase_sub b nd hi fun q => ?_, c⟩
          rw [e] at q
          exact n3 y ty y (List.mem_flatten.mpr ⟨U, hU, q⟩) rfl
    · rw [if_neg hz]
      have p := flat_rest nd hG
      have hr : rest S G.flatten ≠ [] := fun q => hz (by
        rw [q, List.append_nil] at p
        rw [← sm_perm p]
        exact sm_zero fun T hT => (hG.1 T hT).2.2)
      obtain ⟨y, hy⟩ := List.exists_mem_of_ne_nil _ hr
      obtain ⟨hy1, hy2⟩ := List.mem_filter.mp hy
      obtain ⟨i, hi, e⟩ := List.getElem_of_mem hy1
      have := (hv i hi).2 G ⟨fun U hU => ?_, hG.2⟩
      · have := h2 i hi
        omega
      · obtain ⟨a, b, c⟩ := hG.1 U hU
        refine ⟨a, erase_sub b nd hi fun q => ?_, c⟩
        rw [e] at q
        have : y ∈ G.flatten := List.mem_flatten.mpr ⟨U, hU, q⟩
        simp [this] at hy2
end K79

set_option maxRecDepth 100000
/-! K79c: the program's quiet lots. -/
namespace K79
open PySem Ev
def wt (B : List Int) (p : Int) : Int := B.getD p.toNat 0
theorem atO_wt {B : List Int} (hB : B.length = 10) {p : Int} (h : p ∈ iR 10) : atO B p = some (wt B p) := by
  obtain ⟨h0, h1⟩ := mem_iR.mp h
  have h1 : p < 10 := h1
  rw [atO_int h0 (by omega)]
  unfold wt
  rw [List.getD_eq_getElem?_getD, List.getElem?_eq_getElem (by omega)]
  rfl
def op (B : List Int) : List Int := (iR 10).filter fun a => !decide (wt B a = 0)
theorem op_sub (B : List Int) : (op B).Sublist (iR 10) := List.filter_sublist
theorem op_nodup (B : List Int) : (op B).Nodup := (iR_nodup 10).sublist (op_sub B)
theorem op_len (B : List Int) : (op B).length ≤ 10 := by
  have := (op_sub B).length_le
  rw [iR_len] at this
  exact this
theorem open_is {B : List Int} (hB : B.length = 10) : f_open_people B = some (op B) := by
  unfold f_open_people
  rw [show rngO 0 10 = some (iR 10) from rngO_n (n := 10) (by decide)]
  show ((lcO _ _ (iR 10)).bind szO).bind (fun ls12 => some ls12) = _
  rw [lcO_some (p := fun a => !decide (wt B a = 0)) (g := fun a => a) (fun a ha => by rw [atO_wt hB ha]; rfl) fun a _ _ => rfl, List.map_id']
  show (szO (op B)).bind _ = _
  rw [szO_le (op_len B) (by omega)]
  rfl
theorem lots_is {S : List Int} (h : S.length ≤ 10) : f_lots_of S = some (lotsF S) := by
  unfold f_lots_of
  have key := foldO_pre (F := fun (s3 : List (List Int)) (a4 : Int) => ((mapO (fun (a8 : (List Int)) => (appO a8 [a4]).bind fun ls9 => some ls9) s3).bind szO).bind fun ls12 => (appO s3 ls12).bind fun ls13 => some ls13)
    (I := fun p s => s = lotsF p) S (fun p a q s e hs => by
      subst hs
      have hp : p.length + 1 ≤ 10 := by rw [e, List.length_append, List.length_cons] at h; omega
      have h2 : 2 ^ p.length ≤ 2 ^ 9 := Nat.pow_le_pow_right (by omega) (by omega)
      rw [mapO_some (g := fun l => l ++ [a]) fun l hl => by
        have := (mem_lotsF.mp hl).length_le
        rw [appO_le (by simp only [List.length_cons, List.length_nil]; omega)]; rfl]
      show ∃ s', ((szO _).bind fun ls12 => (appO (lotsF p) ls12).bind fun ls13 => some ls13) = some s' ∧ _
      rw [szO_le (n := 512) (by rw [List.length_map, lotsF_len]; exact h2) (by omega)]
      show ∃ s', (appO (lotsF p) ((lotsF p).map (· ++ [a]))).bind _ = some s' ∧ _
      rw [appO_le (by rw [List.length_map, lotsF_len]; omega)]
      refine ⟨_, rfl, ?_⟩
      unfold lotsF lotsG
      rw [List.foldl_append]
      rfl) (s := [[]]) rfl
  obtain ⟨s', h1, h2⟩ := key
  rw [h1, h2]
  rfl
theorem lots2 : f_lots_of2 = f_lots_of := rfl
theorem fam_len {w : Int → Int} {S : List Int} {F : List (List Int)} (h : Fam w S F) : F.length ≤ S.length := by
  have := h.2.length_eq
  have key : ∀ {F : List (List Int)}, Each w S F → F.length ≤ F.flatten.length := by
    intro F
    induction F with
    | nil => intro _; simp
    | cons T F ih =>
      intro e
      have h1 := ih fun U hU => e U (List.mem_cons_of_mem _ hU)
      have h2 := List.length_pos_iff.mpr (e T List.mem_cons_self).1
      rw [List.flatten_cons, List.length_append, List.length_cons]
      omega
  have := key h.1
  omega
/-- the lots with the first that come to nothing -/
def qwf (B : List Int) (h : Int) (tl : List Int) : List (List Int) := ((lotsF tl).map (fun l => [h] ++ l)).filter fun T => decide (sm (wt B) T = 0)
theorem mem_qwf {B : List Int} {h : Int} {tl T : List Int} : T ∈ qwf B h tl ↔ (∃ t, T = h :: t ∧ t.Sublist tl) ∧ sm (wt B) T = 0 := by
  unfold qwf
  rw [List.mem_filter, List.mem_map, decide_eq_true_eq]
  constructor
  · rintro ⟨⟨t, ht, rfl⟩, hz⟩
    exact ⟨⟨t, rfl, mem_lotsF.mp ht⟩, hz⟩
  · rintro ⟨⟨t, rfl, ht⟩, hz⟩
    exact ⟨⟨t, mem_lotsF.mpr ht, rfl⟩, hz⟩
theorem qwf_len (B : List Int) (h : Int) {tl : List Int} (hl : tl.length ≤ 9) : (qwf B h tl).length ≤ 512 := by
  refine Nat.le_trans (List.length_filter_le _ _) ?_
  rw [List.length_map, lotsF_len]
  exact Nat.pow_le_pow_right (by omega) hl
theorem sum_is {B : List Int} (hB : B.length = 10) {T : List Int} (hT : T.Sublist (iR 10)) : (mapO (fun (a : Int) => (atO B a).bind fun x => some x) T).bind szO = some (T.map (wt B)) := by
  rw [mapO_some (g := wt B) fun a ha => by rw [atO_wt hB (hT.subset ha)]; rfl]
  have := hT.length_le
  rw [iR_len] at this
  exact szO_le (n := 10) (by rw [List.length_map]; exact this) (by omega)
theorem quiet_is {B : List Int} (hB : B.length = 10) {h : Int} {tl : List Int} (hS : (h :: tl).Sublist (iR 10)) : f_quiet_with_first B (h :: tl) = some (qwf B h tl) := by
  have hl : (h :: tl).length ≤ 10 := by have := hS.length_le; rw [iR_len] at this; exact this
  rw [List.length_cons] at hl
  unfold f_quiet_with_first
  rw [show cutL (h :: tl) (some 1) none = tl from cut_from (h :: tl) 1, lots2, lots_is (by omega), show cutL (h :: tl) none (some 1) = [h] from cut_to (h :: tl) 1]
  show ((mapO _ (lotsF tl)).bind szO).bind _ = _
  rw [mapO_some (g := fun l => [h] ++ l) fun l hl2 => by
    have := (mem_lotsF.mp hl2).length_le
    rw [appO_le (by simp only [List.length_cons, List.length_nil]; omega)]; rfl]
  show (szO _).bind _ = _
  have h2 : 2 ^ tl.length ≤ 2 ^ 9 := Nat.pow_le_pow_right (by omega) (by omega)
  rw [szO_le (n := 512) (by rw [List.length_map, lotsF_len]; exact h2) (by omega)]
  show ((lcO _ _ ((lotsF tl).map fun l => [h] ++ l)).bind szO).bind _ = _
  rw [lcO_some (p := fun T => decide (sm (wt B) T = 0)) (g := fun a => a) (fun T hT => by
    obtain ⟨t, ht, rfl⟩ := List.mem_map.mp hT
    rw [sum_is hB (T := [h] ++ t) (((mem_lotsF.mp ht).cons_cons h).trans hS)]
    rfl) fun a _ _ => rfl, List.map_id']
  show (szO (qwf B h tl)).bind _ = _
  rw [szO_le (qwf_len B h (by omega)) (by omega)]
  rfl
theorem without_is {S T : List Int} (h : S.length ≤ 10) : f_without_lot S T = some (rest S T) := by
  unfold f_without_lot
  rw [List.map_id']
  show (szO (rest S T)).bind _ = _
  rw [szO_le (n := 10) (Nat.le_trans (rest_sub S T).length_le h) (by omega)]
  rfl
def lkf (a : List Int) : Int × List Int := ((a.length : Int), a)
def allL (S : List Int) : List (List Int) := sortKT lkf (ltP ltI (ltS ltI)) (lotsF S)
theorem mem_allL {S T : List Int} : T ∈ allL S ↔ T.Sublist S := ((sortKT_perm _ _ _).mem_iff).trans mem_lotsF
theorem allL_len (S : List Int) : (allL S).length = 2 ^ S.length := by rw [← lotsF_len]; exact (sortKT_perm _ _ _).length_eq
theorem lt_len {T U : List Int} (h : ltP ltI (ltS ltI) (lkf U) (lkf T) = false) : T.length ≤ U.length := by
  unfold ltP lkf at h
  dsimp only at h
  split at h
  · rename_i e; omega
  · have : ¬ ((U.length : Int) < (T.length : Int)) := by simpa [ltI] using h
    omega
theorem allL_order {S : List Int} {p q : List (List Int)} {T U : List Int} (e : allL S = p ++ T :: q) (hU : U.Sublist S) (hl : U.length < T.length) : U ∈ p := by
  have hm := mem_allL.mpr hU
  have pw := sortKT_pw (lt := ltP ltI (ltS ltI)) lkf (lotsF S)
  rw [show sortKT lkf (ltP ltI (ltS ltI)) (lotsF S) = p ++ T :: q from e] at pw
  rw [e] at hm
  rcases List.mem_append.mp hm with h | h
  · exact h
  · rcases List.mem_cons.mp h with h | h
    · rw [h] at hl; omega
    · have := (List.pairwise_cons.mp (List.pairwise_append.mp pw).2.1).1 U h
      have := lt_len this
      omega
abbrev Dic := List (List Int × List (List Int))
/-- what is known when p has been gone through -/
def Inv (B : List Int) (p : List (List Int)) (D : Dic) : Prop := D.length ≤ p.length + 1 ∧ dgetT D [] = some [] ∧ ∀ T ∈ p, T ≠ [] → sm (wt B) T = 0 → ∃ F, dgetT D T = some F ∧ Opt (wt B) T F
theorem inv_skip {B : List Int} {p : List (List Int)} {D : Dic} (h : Inv B p D) {S : List Int} (hS : S = [] ∨ sm (wt B) S ≠ 0) : Inv B (p ++ [S]) D := by
  refine ⟨by rw [List.length_append]; have := h.1; omega, h.2.1, fun T hT h0 hz => ?_⟩
  rcases List.mem_append.mp hT with q | q
  · exact h.2.2 T q h0 hz
  · rw [List.mem_singleton.mp q] at h0 hz
    rcases hS with e | e
    · exact absurd e h0
    · exact absurd hz e
theorem raw_is {B : List Int} (hB : B.length = 10) (hz : sm (wt B) (op B) = 0) : ∃ F, f_raw_quiet_lots B = some F ∧ Opt (wt B) (op B) F := by
  have hop := op_len B
  have hpow : 2 ^ (op B).length ≤ 2 ^ 10 := Nat.pow_le_pow_right (by omega) hop
  unfold f_raw_quiet_lots
  rw [open_is hB]
  show ∃ F, ((f_lots_of (op B)).bind _) = some F ∧ _
  rw [lots_is hop]
  show ∃ F, ((sortKO _ _ _ (lotsF (op B))).bind _) = some F ∧ _
  have g : keyG (fun (a3 : List Int) => decide (a3.length ≤ PySem.sizeLine)) (lotsF (op B)) = true := keyG_of (fun a ha => by
    have := (mem_lotsF.mp ha).length_le
    rw [decide_eq_true_eq]
    show a.length ≤ 16777216
    omega) (by rw [lotsF_len]; omega)
  unfold sortKO
  rw [if_pos g]
  show ∃ F, ((foldO _ (allL (op B)) _).bind _) = some F ∧ _
  generalize hF : (fun (s8 : Dic) (a9 : List Int) => _) = Fn
  have key := foldO_pre (F := Fn) (I := Inv B) (allL (op B)) (fun p S q D e hI => by
    subst hF
    have hm : S ∈ allL (op B) := by rw [e]; exact List.mem_append_right _ List.mem_cons_self
    have hSo := mem_allL.mp hm
    have hS10 := hSo.trans (op_sub B)
    have hSl : S.length ≤ 10 := Nat.le_trans hSo.length_le hop
    have hp : p.length ≤ 1024 := by
      have := allL_len (op B)
      rw [e, List.length_append] at this
      omega
    dsimp only
    rw [sum_is hB hS10]
    cases S with
    | nil => exact ⟨D, rfl, inv_skip hI (.inl rfl)⟩
    | cons h tl =>
      rw [if_pos (by simp)]
      by_cases hz : sm (wt B) (h :: tl) = 0
      · have nd : (h :: tl).Nodup := (op_nodup B).sublist hSo
        show ∃ s', ((some (decide (sm (wt B) (h :: tl) = 0))).bind _) = some s' ∧ _
        rw [decide_eq_true hz]
        show ∃ s', ((f_quiet_with_first B (h :: tl)).bind _) = some s' ∧ _
        rw [quiet_is hB hS10]
        show ∃ s', (((mapO _ (qwf B h tl)).bind szO).bind _) = some s' ∧ _
        have look : ∀ T ∈ qwf B h tl, ∃ F, dgetT D (rest (h :: tl) T) = some F ∧ Opt (wt B) (rest (h :: tl) T) F := fun T hT => by
          obtain ⟨⟨t, rfl, ht⟩, hTz⟩ := mem_qwf.mp hT
          have hs := ht.cons_cons h
          by_cases h0 : rest (h :: tl) (h :: t) = []
          · rw [h0]; exact ⟨[], hI.2.1, opt_nil⟩
          · refine hI.2.2 _ (allL_order e ((rest_sub _ _).trans hSo) ?_) h0 (sm_rest hs nd hz hTz)
            have := (rest_perm hs nd).length_eq
            rw [List.length_append, List.length_cons] at this
            omega
        rw [mapO_some (g := fun T => T :: (dgetT D (rest (h :: tl) T)).getD []) fun T hT => by
          obtain ⟨F, e1, e2⟩ := look T hT
          rw [without_is hSl]
          show (dgetT D (rest (h :: tl) T)).bind _ = _
          rw [e1]
          show (appO [T] F).bind _ = _
          have := fam_len e2.1
          have := (rest_sub (h :: tl) T).length_le
          rw [appO_le (by simp only [List.length_cons, List.length_nil] at *; omega)]
          rfl]
        show ∃ s', ((szO _).bind _) = some s' ∧ _
        rw [List.length_cons] at hSl
        have hq := qwf_len B h (tl := tl) (by omega)
        rw [szO_le (n := 512) (by rw [List.length_map]; exact hq) (by omega)]
        show ∃ s', ((maxKO _ _ ltI ((qwf B h tl).map fun T => T :: (dgetT D (rest (h :: tl) T)).getD [])).bind _) = some s' ∧ _
        have hin : (h :: tl) ∈ qwf B h tl := mem_qwf.mpr ⟨⟨tl, rfl, List.Sublist.refl _⟩, hz⟩
        obtain ⟨R, r1, r2, r3⟩ := maxKO_is (okb := fun (a31 : List (List Int)) => decide (a31.length ≤ PySem.sizeLine)) (kf := fun (a31 : List (List Int)) => (a31.length : Int)) (l := (qwf B h tl).map fun T => T :: (dgetT D (rest (h :: tl) T)).getD []) (fun q => by
          rw [List.map_eq_nil_iff] at q
          rw [q] at hin; cases hin) (fun a ha => by
          obtain ⟨T, hT, rfl⟩ := List.mem_map.mp ha
          obtain ⟨F, e1, e2⟩ := look T hT
          have := fam_len e2.1
          have := (rest_sub (h :: tl) T).length_le
          rw [decide_eq_true_eq, e1]
          show (T :: F).length ≤ 16777216
          simp only [List.length_cons] at *
          omega) (by rw [List.length_map]; omega)
        rw [r1]
        show ∃ s', ((dputO D (h :: tl) R).bind _) = some s' ∧ _
        have hD := hI.1
        rw [dputO_lt (by omega)]
        refine ⟨_, rfl, ?_, ?_, ?_⟩
        · have := dputT_len D (h :: tl) R
          rw [List.length_append]
          simp only [List.length_cons, List.length_nil]
          omega
        · rw [dgetT_put, if_neg (by simp)]; exact hI.2.1
        · intro T hT h0 hTz
          rw [dgetT_put]
          by_cases hk : h :: tl = T
          · rw [if_pos hk, ← hk]
            refine ⟨R, rfl, opt_step nd (X := qwf B h tl) (fun T => mem_qwf) (val := fun T => T :: (dgetT D (rest (h :: tl) T)).getD []) (fun T hT => ?_) ?_ fun T hT => ?_⟩
            · obtain ⟨F, e1, e2⟩ := look T hT
              exact ⟨F, by rw [e1]; rfl, e2⟩
            · obtain ⟨T, hT, e⟩ := List.mem_map.mp r2
              exact ⟨T, hT, e.symm⟩
            · have := r3 _ (List.mem_map.mpr ⟨T, hT, rfl⟩)
              omega
          · rw [if_neg hk]
            rcases List.mem_append.mp hT with q | q
            · exact hI.2.2 T q h0 hTz
            · exact absurd (List.mem_singleton.mp q).symm hk
      · show ∃ s', ((some (decide (sm (wt B) (h :: tl) = 0))).bind _) = some s' ∧ _
        rw [decide_eq_false hz]
        exact ⟨D, rfl, inv_skip hI (.inr hz)⟩) (s := [([], [])]) ⟨by simp, rfl, fun T hT => (nomatch hT)⟩
  obtain ⟨D, d1, d2⟩ := key
  rw [d1]
  show ∃ F, ((dgetT D (op B)).bind _) = some F ∧ _
  by_cases h0 : op B = []
  · rw [h0, d2.2.1]; exact ⟨[], rfl, opt_nil⟩
  · obtain ⟨F, e1, e2⟩ := d2.2.2 (op B) (mem_allL.mpr (List.Sublist.refl _)) h0 hz
    rw [e1]
    exact ⟨F, rfl, e2⟩
end K79

set_option maxRecDepth 100000
/-! K79d: the law's own count. -/
namespace K79
open PySem Ev
def pr (w : Int → Int) (l : List Int) : List Int × Int := (l, sm w l)
theorem sm_snoc (w : Int → Int) (l : List Int) (a : Int) : sm w (l ++ [a]) = sm w l + w a := by
  rw [sm_app]; unfold sm; simp
theorem map_pr_snoc (w : Int → Int) (F : List (List Int)) (a : Int) : ((F.map (pr w)).map fun x => (x.1 ++ [a], x.2 + w a)) = (F.map (· ++ [a])).map (pr w) := by
  rw [List.map_map, List.map_map]
  refine List.map_congr_left fun l _ => ?_
  show (l ++ [a], sm w l + w a) = (l ++ [a], sm w (l ++ [a]))
  rw [sm_snoc]
abbrev Dn := List (List Int × Int)
def InvN (w : Int → Int) (p : List (List Int × Int)) (D : Dn) : Prop := D.length ≤ p.length ∧ ∀ x ∈ p, ∃ n : Nat, dgetT D x.1 = some (n : Int) ∧ MaxP w x.1 n
theorem eraseIdx_cut (T : List Int) (i : Nat) : cutL T none (some (i : Int)) ++ cutL T (some ((i : Int) + 1)) none = T.eraseIdx i := by
  rw [cut_to, show ((i : Int) + 1) = ((i + 1 : Nat) : Int) by omega, cut_from, List.eraseIdx_eq_take_drop_succ]
theorem put_inv {w : Int → Int} {p : List (List Int × Int)} {D : Dn} (hI : InvN w p D) {T : List Int} {t : Int} {n : Nat} (h : MaxP w T n) : InvN w (p ++ [(T, t)]) (dputT D T (n : Int)) := by
  refine ⟨?_, fun x hx => ?_⟩
  · have := dputT_len D T (n : Int)
    have := hI.1
    rw [List.length_append]
    simp only [List.length_cons, List.length_nil]
    omega
  · rw [dgetT_put]
    by_cases hk : T = x.1
    · rw [if_pos hk, ← hk]; exact ⟨n, rfl, h⟩
    · rw [if_neg hk]
      rcases List.mem_append.mp hx with q | q
      · exact hI.2 x q
      · rw [List.mem_singleton.mp q] at hk; exact absurd rfl hk
theorem most_is {B : List Int} (hB : B.length = 10) : ∃ n : Nat, f_law_most_quiet B = some (n : Int) ∧ MaxP (wt B) (op B) n := by
  have hop := op_len B
  have hpow : 2 ^ (op B).length ≤ 2 ^ 10 := Nat.pow_le_pow_right (by omega) hop
  unfold f_law_most_quiet
  rw [show rngO 0 10 = some (iR 10) from rngO_n (n := 10) (by decide)]
  show ∃ n : Nat, ((lcO _ _ (iR 10)).bind szO).bind _ = _ ∧ _
  rw [lcO_some (p := fun a => !decide (wt B a = 0)) (g := fun a => a) (fun a ha => by rw [atO_wt hB ha]; rfl) fun a _ _ => rfl, List.map_id']
  show ∃ n : Nat, (szO (op B)).bind _ = _ ∧ _
  rw [szO_le hop (by omega)]
  show ∃ n : Nat, (foldO _ (op B) _).bind _ = _ ∧ _
  have key := foldO_pre (F := fun (s9 : (List ((List Int) × Int))) (a10 : Int) =>
    ((mapO (fun (a14 : ((List Int) × Int)) => (appO a14.1 [a10]).bind fun ls15 => (atO B a10).bind fun x16 => some (ls15, (a14.2 + x16))) s9).bind szO).bind fun ls19 =>
    (appO s9 ls19).bind fun ls20 =>
    some ls20) (I := fun p s => s = (lotsF p).map (pr (wt B))) (op B) (fun p a q s e hs => by
      subst hs
      have hp : p.length + 1 ≤ 10 := by rw [e, List.length_append, List.length_cons] at hop; omega
      have h2 : 2 ^ p.length ≤ 2 ^ 9 := Nat.pow_le_pow_right (by omega) (by omega)
      have ha : a ∈ iR 10 := (op_sub B).subset (by rw [e]; exact List.mem_append_right _ List.mem_cons_self)
      rw [mapO_some (g := fun x => (x.1 ++ [a], x.2 + wt B a)) fun x hx => by
        obtain ⟨l, hl, rfl⟩ := List.mem_map.mp hx
        have := (mem_lotsF.mp hl).length_le
        rw [show (pr (wt B) l).1 = l from rfl, appO_le (by simp only [List.length_cons, List.length_nil]; omega), atO_wt hB ha]; rfl, map_pr_snoc]
      show ∃ s', ((szO _).bind _) = some s' ∧ _
      rw [szO_le (n := 512) (by rw [List.length_map, List.length_map, lotsF_len]; exact h2) (by omega)]
      show ∃ s', ((appO ((lotsF p).map (pr (wt B))) (((lotsF p).map (· ++ [a])).map (pr (wt B)))).bind _) = some s' ∧ _
      rw [appO_le (by rw [List.length_map, List.length_map, List.length_map, lotsF_len]; omega)]
      refine ⟨_, rfl, ?_⟩
      rw [← List.map_append]
      unfold lotsF lotsG
      rw [List.foldl_append]
      rfl) (s := [([], 0)]) rfl
  obtain ⟨s', h1, h2⟩ := key
  rw [h1, h2]
  clear h1 h2 s'
  show ∃ n : Nat, (sortKO _ _ _ ((lotsF (op B)).map (pr (wt B)))).bind _ = _ ∧ _
  have g : keyG (fun (a25 : (List Int) × Int) => decide (a25.1.length ≤ PySem.sizeLine)) ((lotsF (op B)).map (pr (wt B))) = true := keyG_of (fun a ha => by
    obtain ⟨l, hl, rfl⟩ := List.mem_map.mp ha
    have := (mem_lotsF.mp hl).length_le
    rw [decide_eq_true_eq]
    show l.length ≤ 16777216
    omega) (by rw [List.length_map, lotsF_len]; omega)
  unfold sortKO
  rw [if_pos g]
  generalize hL : sortKT (fun (a25 : (List Int) × Int) => ((a25.1.length : Int), a25.1)) (ltP ltI (ltS ltI)) ((lotsF (op B)).map (pr (wt B))) = L
  have perm : L.Perm ((lotsF (op B)).map (pr (wt B))) := by rw [← hL]; exact sortKT_perm _ _ _
  have pw := sortKT_pw (lt := ltP ltI (ltS ltI)) (fun (a25 : (List Int) × Int) => ((a25.1.length : Int), a25.1)) ((lotsF (op B)).map (pr (wt B)))
  rw [hL] at pw
  have mem : ∀ x, x ∈ L ↔ x.1.Sublist (op B) ∧ x.2 = sm (wt B) x.1 := fun x => by
    rw [perm.mem_iff, List.mem_map]
    constructor
    · rintro ⟨l, hl, rfl⟩; exact ⟨mem_lotsF.mp hl, rfl⟩
    · rintro ⟨a, b⟩; exact ⟨x.1, mem_lotsF.mpr a, by rw [pr, ← b]⟩
  have hlen : L.length ≤ 1024 := by rw [perm.length_eq, List.length_map, lotsF_len]; exact hpow
  show ∃ n : Nat, (foldO _ L []).bind _ = _ ∧ _
  generalize hF : (fun (s31 : Dn) (a32 : List Int × Int) => _) = Fn
  have key := foldO_pre (F := Fn) (I := InvN (wt B)) L (fun p x q D e hI => by
    subst hF
    obtain ⟨T, t⟩ := x
    have hm := (mem (T, t)).mp (by rw [e]; exact List.mem_append_right _ List.mem_cons_self)
    obtain ⟨hT, ht⟩ := hm
    have hT : T.Sublist (op B) := hT
    have ht : t = sm (wt B) T := ht
    have hTl : T.length ≤ 10 := Nat.le_trans hT.length_le hop
    have nd : T.Nodup := (op_nodup B).sublist hT
    have hp : p.length ≤ 1024 := by rw [e, List.length_append] at hlen; omega
    have hD := hI.1
    dsimp only
    by_cases h0 : T = []
    · rw [if_pos (decide_eq_true h0), dputO_lt (by omega)]
      subst h0
      exact ⟨_, rfl, put_inv (n := 0) hI max_nil⟩
    · rw [if_neg (by rw [decide_eq_false h0]; exact Bool.false_ne_true), rngO_n (by omega)]
      have look : ∀ i, i < T.length → ∃ n : Nat, dgetT D (T.eraseIdx i) = some (n : Int) ∧ MaxP (wt B) (T.eraseIdx i) n := fun i hi => by
        have hs : (T.eraseIdx i).Sublist (op B) := (List.eraseIdx_sublist T i).trans hT
        have hx : pr (wt B) (T.eraseIdx i) ∈ L := (mem _).mpr ⟨hs, rfl⟩
        have hl : (T.eraseIdx i).length < T.length := by rw [List.length_eraseIdx_of_lt hi]; omega
        have : pr (wt B) (T.eraseIdx i) ∈ p := by
          rw [e] at hx
          rcases List.mem_append.mp hx with h | h
          · exact h
          · rcases List.mem_cons.mp h with h | h
            · have : T.eraseIdx i = T := congrArg Prod.fst h
              rw [this] at hl; omega
            · have := pw
              rw [e] at this
              have := (List.pairwise_cons.mp (List.pairwise_append.mp this).2.1).1 _ h
              have : T.length ≤ (T.eraseIdx i).length := lt_len this
              omega
        exact hI.2 _ this
      show ∃ s', (((mapO _ (iR T.length)).bind szO).bind _) = some s' ∧ _
      rw [mapO_some (g := fun i => (dgetT D (T.eraseIdx i.toNat)).getD 0) fun i hi => by
        obtain ⟨i0, i1⟩ := mem_iR.mp hi
        obtain ⟨k, rfl⟩ := Int.eq_ofNat_of_zero_le i0
        have hk : k < T.length := by omega
        have ee := eraseIdx_cut T k
        have := congrArg List.length ee
        rw [List.length_append] at this
        have := (List.eraseIdx_sublist T k).length_le
        show (appO (cutL T none (some (k : Int))) (cutL T (some ((k : Int) + 1)) none)).bind _ = _
        rw [appO_le (by omega), ee]
        obtain ⟨n, n1, _⟩ := look k hk
        show (dgetT D (T.eraseIdx k)).bind _ = some ((dgetT D (T.eraseIdx k)).getD 0)
        rw [n1]; rfl]
      show ∃ s', ((szO _).bind _) = some s' ∧ _
      rw [szO_le (n := 10) (by rw [List.length_map, iR_len]; exact hTl) (by omega)]
      obtain ⟨M, m1, m2, m3⟩ := maxO_is (l := (iR T.length).map fun i => (dgetT D (T.eraseIdx i.toNat)).getD 0) (fun q => by
        have := congrArg List.length q
        rw [List.length_map, iR_len] at this
        exact h0 (List.length_eq_zero_iff.mp this))
      show ∃ s', ((maxO ltI _).bind _) = some s' ∧ _
      rw [m1]
      show ∃ s', ((dputO D T _).bind _) = some s' ∧ _
      rw [dputO_lt (by omega)]
      have vi : ∀ i, i < T.length → ((((dgetT D (T.eraseIdx i)).getD 0).toNat : Nat) : Int) = (dgetT D (T.eraseIdx i)).getD 0 ∧ MaxP (wt B) (T.eraseIdx i) ((dgetT D (T.eraseIdx i)).getD 0).toNat := fun i hi => by
        obtain ⟨n, n1, n2⟩ := look i hi
        rw [n1]
        exact ⟨by show ((n : Int).toNat : Int) = (n : Int); omega, n2⟩
      obtain ⟨i, hi, eM⟩ := List.mem_map.mp m2
      obtain ⟨i0, i1⟩ := mem_iR.mp hi
      have hM : ((M.toNat : Nat) : Int) = M := by
        have := (vi i.toNat (by omega)).1
        rw [eM] at this
        exact this
      have step := max_step h0 nd (w := wt B) (v := fun i => ((dgetT D (T.eraseIdx i)).getD 0).toNat) (fun i hi => (vi i hi).2) (M := M.toNat) ⟨i.toNat, by omega, by rw [← eM]⟩ fun k hk => by
        have a := m3 _ (List.mem_map.mpr ⟨(k : Int), mem_iR.mpr ⟨by omega, by omega⟩, rfl⟩)
        have b := (vi k hk).1
        have a : (dgetT D (T.eraseIdx k)).getD 0 ≤ M := a
        show ((dgetT D (T.eraseIdx k)).getD 0).toNat ≤ M.toNat
        omega
      refine ⟨_, rfl, ?_⟩
      have ev : (M + (if (decide (t = 0)) = true then 1 else 0)) = ((M.toNat + (if sm (wt B) T = 0 then 1 else 0) : Nat) : Int) := by
        rw [ht]
        by_cases hz : sm (wt B) T = 0
        · rw [if_pos (decide_eq_true hz), if_pos hz]; omega
        · rw [if_neg (by rw [decide_eq_false hz]; exact Bool.false_ne_true), if_neg hz]; omega
      rw [ev]
      exact put_inv hI step) (s := []) ⟨Nat.le_refl _, fun x hx => (nomatch hx)⟩
  obtain ⟨D, d1, d2⟩ := key
  rw [d1]
  obtain ⟨n, n1, n2⟩ := d2.2 _ ((mem (pr (wt B) (op B))).mpr ⟨List.Sublist.refl _, rfl⟩)
  refine ⟨n, ?_, n2⟩
  show (dgetT D (op B)).bind _ = _
  rw [show dgetT D (op B) = some (n : Int) from n1]
  rfl
end K79

set_option maxRecDepth 100000
/-! K79e: balances. -/
namespace K79
open PySem Ev
abbrev Dbt := Int × Int × Int
def ef (d : Dbt) (x : Int) : Int := (if d.2.1 = x then d.2.2 else 0) - (if d.1 = x then d.2.2 else 0)
def bal (l : List Dbt) (x : Int) : Int := (l.map fun d => ef d x).sum
def Vd (d : Dbt) : Prop := (0 ≤ d.1 ∧ d.1 < 10) ∧ (0 ≤ d.2.1 ∧ d.2.1 < 10) ∧ d.1 ≠ d.2.1 ∧ 1 ≤ d.2.2 ∧ d.2.2 ≤ 10000
theorem bal_snoc (l : List Dbt) (d : Dbt) (x : Int) : bal (l ++ [d]) x = bal l x + ef d x := by
  unfold bal
  rw [List.map_append, List.sum_append]
  simp
theorem bal_dbl (l : List Dbt) (x : Int) : bal (l ++ l) x = 2 * bal l x := by
  unfold bal
  rw [List.map_append, List.sum_append]
  omega
theorem setO_int {l : List Int} {i v : Int} (h0 : 0 ≤ i) (h : i < l.length) : setO l i v = some (l.set i.toNat v) := by
  unfold setO
  have e : L2.ixN l.length i = some i.toNat := by
    unfold L2.ixN
    rw [if_pos h0, if_pos (by omega)]
  rw [e]; rfl
theorem wt_set {l : List Int} {i v x : Int} (h0 : 0 ≤ i) (h : i < l.length) (hx : 0 ≤ x) : wt (l.set i.toNat v) x = if i = x then v else wt l x := by
  unfold wt
  rw [List.getD_eq_getElem?_getD, List.getD_eq_getElem?_getD]
  by_cases e : i = x
  · rw [if_pos e, ← e, List.getElem?_set_self (by omega)]
    rfl
  · rw [if_neg e, List.getElem?_set_ne (by omega)]
theorem raw_bal {l : List Dbt} (h : ∀ d ∈ l, Vd d) : ∃ B, f_raw_balances l = some B ∧ B.length = 10 ∧ ∀ x ∈ iR 10, wt B x = bal l x := by
  unfold f_raw_balances
  rw [show repO [(0 : Int)] 10 = some (List.replicate 10 0) from rfl]
  show ∃ B, ((foldO _ l (List.replicate 10 0)).bind _) = some B ∧ _
  have key := foldO_pre (F := fun (s6 : (List Int)) (a7 : (Int × Int × Int)) =>
    (atO s6 a7.1).bind fun z15 =>
    (setO s6 a7.1 (z15 - a7.2.2)).bind fun found16 =>
    (atO found16 a7.2.1).bind fun z17 =>
    (setO found16 a7.2.1 (z17 + a7.2.2)).bind fun found18 =>
    some found18) (I := fun p s => s.length = 10 ∧ ∀ x ∈ iR 10, wt s x = bal p x) l (fun p d q s e ⟨hl, hw⟩ => by
      obtain ⟨⟨a0, a1⟩, ⟨b0, b1⟩, hne, c0, c1⟩ := h d (by rw [e]; exact List.mem_append_right _ List.mem_cons_self)
      have ma : d.1 ∈ iR 10 := mem_iR.mpr ⟨a0, a1⟩
      have mb : d.2.1 ∈ iR 10 := mem_iR.mpr ⟨b0, b1⟩
      rw [atO_wt hl ma]
      show ∃ s', ((setO s d.1 (wt s d.1 - d.2.2)).bind _) = some s' ∧ _
      rw [setO_int a0 (by omega)]
      have l2 : (s.set d.1.toNat (wt s d.1 - d.2.2)).length = 10 := by rw [List.length_set]; exact hl
      show ∃ s', ((atO (s.set d.1.toNat (wt s d.1 - d.2.2)) d.2.1).bind _) = some s' ∧ _
      rw [atO_wt l2 mb]
      show ∃ s', ((setO (s.set d.1.toNat (wt s d.1 - d.2.2)) d.2.1 (wt (s.set d.1.toNat (wt s d.1 - d.2.2)) d.2.1 + d.2.2)).bind _) = some s' ∧ _
      rw [setO_int b0 (by omega)]
      refine ⟨_, rfl, by rw [List.length_set]; exact l2, fun x hx => ?_⟩
      obtain ⟨x0, x1⟩ := mem_iR.mp hx
      rw [wt_set b0 (by omega) x0, wt_set a0 (by omega) b0, wt_set a0 (by omega) x0, bal_snoc, ← hw x hx]
      unfold ef
      by_cases e1 : d.1 = x
      · have e2 : d.2.1 ≠ x := fun q => hne (e1.trans q.symm)
        rw [if_neg e2, if_pos e1, if_neg e2, if_pos e1, ← e1]
        omega
      · by_cases e2 : d.2.1 = x
        · rw [if_pos e2, if_neg (by rw [e2]; exact e1), if_pos e2, if_neg e1, e2]
          omega
        · rw [if_neg e2, if_neg e1, if_neg e2, if_neg e1]
          omega) (s := List.replicate 10 0) ⟨rfl, fun x hx => by
      obtain ⟨x0, x1⟩ := mem_iR.mp hx
      unfold wt bal
      rw [List.getD_eq_getElem?_getD, List.getElem?_replicate]
      split <;> rfl⟩
  obtain ⟨B, b1, b2, b3⟩ := key
  rw [b1]
  exact ⟨B, rfl, b2, b3⟩
theorem law_bal : f_law_balances = f_raw_balances := rfl
theorem sm_ind {k a : Int} : ∀ {l : List Int}, l.Nodup → k ∈ l → sm (fun x => if k = x then a else 0) l = a
  | [], _, h => nomatch h
  | x :: l, nd, h => by
    obtain ⟨n1, n2⟩ := List.nodup_cons.mp nd
    have e : sm (fun x => if k = x then a else 0) (x :: l) = (if k = x then a else 0) + sm (fun x => if k = x then a else 0) l := by unfold sm; simp
    rw [e]
    by_cases q : k = x
    · rw [if_pos q]
      have : ∀ {l : List Int}, k ∉ l → sm (fun x => if k = x then a else 0) l = 0 := by
        intro l
        induction l with
        | nil => intro _; rfl
        | cons y l ih =>
          intro hn
          have e : sm (fun x => if k = x then a else 0) (y :: l) = (if k = y then a else 0) + sm (fun x => if k = x then a else 0) l := by unfold sm; simp
          rw [e, if_neg (fun q => hn (by rw [q]; exact List.mem_cons_self)), ih fun q => hn (List.mem_cons_of_mem _ q)]
          rfl
      rw [this (by rw [q]; exact n1)]
      omega
    · rw [if_neg q, sm_ind n2 (by rcases List.mem_cons.mp h with h | h; exact absurd h q; exact h)]
      omega
theorem sm_add (u v : Int → Int) : ∀ l : List Int, sm (fun x => u x + v x) l = sm u l + sm v l
  | [] => rfl
  | x :: l => by
    have := sm_add u v l
    unfold sm at this ⊢
    simp only [List.map_cons, List.sum_cons]
    omega
theorem sm_sub (u v : Int → Int) : ∀ l : List Int, sm (fun x => u x - v x) l = sm u l - sm v l
  | [] => rfl
  | x :: l => by
    have := sm_sub u v l
    unfold sm at this ⊢
    simp only [List.map_cons, List.sum_cons]
    omega
theorem sm_congr {u v : Int → Int} {l : List Int} (h : ∀ x ∈ l, u x = v x) : sm u l = sm v l := by
  unfold sm
  rw [List.map_congr_left h]
theorem bal_zero : ∀ {l : List Dbt}, (∀ d ∈ l, Vd d) → sm (bal l) (iR 10) = 0
  | [], _ => by rfl
  | d :: l, h => by
    obtain ⟨⟨a0, a1⟩, ⟨b0, b1⟩, _⟩ := h d List.mem_cons_self
    have e : sm (bal (d :: l)) (iR 10) = sm (fun x => ef d x + bal l x) (iR 10) := sm_congr fun x _ => by unfold bal; simp
    rw [e, sm_add, bal_zero fun d hd => h d (List.mem_cons_of_mem _ hd)]
    unfold ef
    rw [sm_sub, sm_ind (iR_nodup 10) (mem_iR.mpr ⟨b0, b1⟩), sm_ind (iR_nodup 10) (mem_iR.mpr ⟨a0, a1⟩)]
    omega
theorem op_zero {B : List Int} {l : List Dbt} (h : ∀ d ∈ l, Vd d) (hw : ∀ x ∈ iR 10, wt B x = bal l x) : sm (wt B) (op B) = 0 := by
  have h1 := bal_zero h
  rw [← sm_congr hw] at h1
  have key : ∀ L : List Int, sm (wt B) (L.filter fun a => !decide (wt B a = 0)) = sm (wt B) L := by
    intro L
    induction L with
    | nil => rfl
    | cons x L ih =>
      rw [List.filter_cons]
      by_cases q : wt B x = 0
      · rw [if_neg (by simp [q]), ih]
        unfold sm; simp [q]
      · rw [if_pos (by simp [q])]
        unfold sm at ih ⊢
        simp only [List.map_cons, List.sum_cons]
        omega
  unfold op
  rw [key]
  exact h1
/-! ### the check -/
theorem within_is {x a b : Int} (h1 : a ≤ x) (h2 : x ≤ b) : f_is_within x a b = true := by
  unfold f_is_within f_is_integer
  rw [decide_eq_true h1, decide_eq_true h2]
  rfl
theorem debt_is {d : Dbt} (h : Vd d) : f_is_debt d = some true := by
  obtain ⟨⟨a0, a1⟩, ⟨b0, b1⟩, hne, c0, c1⟩ := h
  unfold f_is_debt f_is_triple
  rw [show f_is_tuple_of d 3 = true from rfl, show cutL [d.1, d.2.1, d.2.2] none (some 2) = [d.1, d.2.1] from cut_to _ 2]
  have e1 : f_is_within d.1 0 (10 - 1) = true := within_is a0 (by omega)
  have e2 : f_is_within d.2.1 0 (10 - 1) = true := within_is b0 (by omega)
  have e3 : f_is_within d.2.2 1 10000 = true := within_is c0 c1
  rw [List.map_cons, List.map_cons, List.map_nil, e1, e2, e3, szO_le (n := 2) (by simp) (by omega)]
  show (some (!decide (d.1 = d.2.1))).bind _ = _
  rw [decide_eq_false hne]
  rfl
theorem check_is {l : List Dbt} (h : ∀ d ∈ l, Vd d) (hl : l.length ≤ 60) : f_check_debts l = some () := by
  unfold f_check_debts
  rw [decide_eq_false (by omega), mapO_some (g := fun _ => true) fun d hd => by rw [debt_is (h d hd)]; rfl]
  show ((if (!true) = true then some true else ((if false = true then some true else ((szO (l.map fun _ => true)).bind _)).bind _)).bind _) = _
  rw [szO_le (n := 60) (by rw [List.length_map]; exact hl) (by omega)]
  show ((some (!((l.map fun _ => true).all id))).bind _) = _
  rw [all_id_map (p := fun _ => true) fun _ _ => rfl]
  rfl
/-- quiet lots of right debts -/
theorem quiet_debts {l : List Dbt} (h : ∀ d ∈ l, Vd d) (hl : l.length ≤ 60) : ∃ B F, f_raw_balances l = some B ∧ B.length = 10 ∧ (∀ x ∈ iR 10, wt B x = bal l x) ∧ f_raw_quiet_lots B = some F ∧ f_quiet_lots l = some F ∧ Opt (wt B) (op B) F := by
  obtain ⟨B, b1, b2, b3⟩ := raw_bal h
  obtain ⟨F, f1, f2⟩ := raw_is b2 (op_zero h b3)
  refine ⟨B, F, b1, b2, b3, f1, ?_, f2⟩
  unfold f_quiet_lots
  rw [check_is h hl, b1]
  show (f_raw_quiet_lots B).bind _ = _
  rw [f1]
  rfl
end K79

set_option maxRecDepth 100000
/-! K79f: the drawn debts; the law. -/
namespace K79
open PySem Ev
def Vp (d : Dbt) : Prop := (0 ≤ d.1 ∧ d.1 < 10) ∧ (0 ≤ d.2.1 ∧ d.2.1 < 10) ∧ d.1 ≠ d.2.1
theorem any_is {s : Hnd} (hs : s.ok) : ∃ v s', f_law_any [3, 6, 10000] s = some (v, s') ∧ s'.ok ∧ 3 ≤ v ∧ v ≤ 10000 := by
  obtain ⟨p, s', h1, h2, h3, h4⟩ := drawT_is hs (many := 3) (by omega) (by omega)
  unfold f_law_any
  rw [show (([3, 6, 10000] : List Int).length : Int) = 3 from rfl, h1]
  show ∃ v s'', ((atO [3, 6, 10000] p).bind fun x2 => some (x2, s')) = _ ∧ _
  have : p = 0 ∨ p = 1 ∨ p = 2 := by omega
  rcases this with rfl | rfl | rfl
  · exact ⟨3, s', rfl, h2, by omega, by omega⟩
  · exact ⟨6, s', rfl, h2, by omega, by omega⟩
  · exact ⟨10000, s', rfl, h2, by omega, by omega⟩
theorem drawn {people : Int} (hp1 : 2 ≤ people) (hp2 : people ≤ 8) {s : Hnd} (hs : s.ok) : ∃ l s', f_law_debts people 9 s = some (l, s') ∧ s'.ok ∧ l.length ≤ 9 ∧ ∀ d ∈ l, Vp d := by
  obtain ⟨p, s1, h1, h2, h3, h4⟩ := drawT_is hs (many := 9 + 1) (by omega) (by omega)
  obtain ⟨k, rfl⟩ := Int.eq_ofNat_of_zero_le h3
  unfold f_law_debts
  rw [h1]
  show ∃ l s', ((rngO 0 (k : Int)).bind _) = _ ∧ _
  rw [rngO_n (by omega)]
  show ∃ l s', ((foldO _ (iR k) ([], s1)).bind _) = _ ∧ _
  have key := foldO_pre (F := fun (s7 : (List (Int × Int × Int)) × Hnd) (a8 : Int) =>
    (drawT people s7.2).bind fun r16 =>
    (drawT (people - 1) r16.2).bind fun r17 =>
    (f_law_any [3, 6, 10000] r17.2).bind fun r19 =>
    (drawT r19.1 r19.2).bind fun r20 =>
    (pushO s7.1 (r16.1, (r17.1 + (if (decide (r17.1 ≥ r16.1)) = true then 1 else 0)), (1 + r20.1))).bind fun found18 =>
    some (found18, r20.2)) (I := fun q s => s.2.ok ∧ s.1.length = q.length ∧ ∀ d ∈ s.1, Vp d) (iR k) (fun q a r s e ⟨i1, i2, i3⟩ => by
      have hq : q.length ≤ k := by
        have := congrArg List.length e
        rw [iR_len, List.length_append] at this
        omega
      obtain ⟨a1, t1, e1, k1, b1, c1⟩ := drawT_is i1 (many := people) (by omega) (by omega)
      obtain ⟨a2, t2, e2, k2, b2, c2⟩ := drawT_is k1 (many := people - 1) (by omega) (by omega)
      obtain ⟨v, t3, e3, k3, b3, c3⟩ := any_is k2
      obtain ⟨a4, t4, e4, k4, b4, c4⟩ := drawT_is k3 (many := v) (by omega) (by omega)
      rw [e1]
      show ∃ s', ((drawT (people - 1) t1).bind _) = some s' ∧ _
      rw [e2]
      show ∃ s', ((f_law_any [3, 6, 10000] t2).bind _) = some s' ∧ _
      rw [e3]
      show ∃ s', ((drawT v t3).bind _) = some s' ∧ _
      rw [e4]
      show ∃ s', ((pushO s.1 (a1, (a2 + (if (decide (a2 ≥ a1)) = true then 1 else 0)), (1 + a4))).bind _) = some s' ∧ _
      rw [pushO_lt (by omega)]
      refine ⟨_, rfl, k4, by show (s.1 ++ _).length = _; rw [List.length_append, List.length_append, i2]; rfl, fun d hd => ?_⟩
      rcases List.mem_append.mp hd with h | h
      · exact i3 d h
      · rw [List.mem_singleton.mp h]
        by_cases hc : a2 ≥ a1
        · rw [if_pos (decide_eq_true hc)]
          exact ⟨⟨by show 0 ≤ a1; omega, by show a1 < 10; omega⟩, ⟨by show 0 ≤ a2 + 1; omega, by show a2 + 1 < 10; omega⟩, by show a1 ≠ a2 + 1; omega⟩
        · rw [if_neg (by rw [decide_eq_false hc]; exact Bool.false_ne_true)]
          exact ⟨⟨by show 0 ≤ a1; omega, by show a1 < 10; omega⟩, ⟨by show 0 ≤ a2 + 0; omega, by show a2 + 0 < 10; omega⟩, by show a1 ≠ a2 + 0; omega⟩) (s := ([], s1)) ⟨h2, rfl, fun d hd => (nomatch hd)⟩
  obtain ⟨s', g1, g2, g3, g4⟩ := key
  rw [g1]
  exact ⟨s'.1, s'.2, rfl, g2, by rw [g3, iR_len]; omega, g4⟩
theorem iR_pw (n : Nat) : (iR n).Pairwise (· < ·) := by
  unfold iR
  rw [List.pairwise_map]
  exact List.pairwise_lt_range.imp fun h => by omega
theorem forO_app {ρ : Type} {Fn : List Int × Hnd → List Int → Option (Out ρ (List Int × Hnd))} : ∀ (F : List (List Int)) (m : List Int) (h : Hnd), (∀ T ∈ F, ∀ m : List Int, m.length + T.length ≤ 100 → Fn (m, h) T = some (.nx (m ++ T, h))) → m.length + F.flatten.length ≤ 100 → forO Fn F (m, h) = some (.inr (m ++ F.flatten, h))
  | [], m, h, _, _ => by rw [List.flatten_nil, List.append_nil]; rfl
  | T :: F, m, h, st, hl => by
    rw [List.flatten_cons, List.length_append] at hl
    rw [forO, st T List.mem_cons_self m (by omega)]
    show forO Fn F (m ++ T, h) = _
    rw [forO_app F (m ++ T) h (fun U hU => st U (List.mem_cons_of_mem _ hU)) (by rw [List.length_append]; omega), List.flatten_cons, List.append_assoc]
theorem sort_asc {l S : List Int} (h : l.Perm S) (hS : S.Pairwise (· < ·)) : sortT ltI l = S := by
  have p : (sortT ltI l).Perm S := (List.mergeSort_perm _ _).trans h
  have pw := sortKT_pw (lt := ltI) (fun a : Int => a) l
  have pw : (sortT ltI l).Pairwise fun a b => ltI b a = false := pw
  have ndS : S.Nodup := hS.imp fun h => by omega
  have nd : (sortT ltI l).Nodup := p.nodup_iff.mpr ndS
  refine asc_eq ?_ hS fun k => p.mem_iff
  have both := pw.and nd
  exact both.imp fun {a b} ⟨h1, h2⟩ => by
    have : ¬ b < a := by simpa [ltI] using h1
    omega
theorem op_pw (B : List Int) : (op B).Pairwise (· < ·) := (iR_pw 10).sublist (op_sub B)
theorem mem_op {B : List Int} {a : Int} (h : a ∈ op B) : wt B a ≠ 0 := by
  have := (List.mem_filter.mp h).2
  simpa using this
/-- the people with open balances, as the law writes them -/
theorem open_at {B : List Int} (hB : B.length = 10) {β : Type} (K : List Int → Option β) : ((rngO 0 10).bind fun ls74 => ((lcO (fun (a75 : Int) => (atO B a75).bind fun x76 => some (!decide (x76 = 0))) (fun (a75 : Int) => some a75) ls74).bind szO).bind fun ls79 => K ls79) = K (op B) := by
  rw [show rngO 0 10 = some (iR 10) from rngO_n (n := 10) (by decide)]
  show ((lcO _ _ (iR 10)).bind szO).bind _ = _
  rw [lcO_some (p := fun a => !decide (wt B a = 0)) (g := fun a => a) (fun a ha => by rw [atO_wt hB ha]; rfl) fun a _ _ => rfl, List.map_id']
  show (szO (op B)).bind _ = _
  rw [szO_le (op_len B) (by omega)]
  rfl
theorem opt_two {w u : Int → Int} {S : List Int} {F : List (List Int)} (h : ∀ T : List Int, T.Sublist S → (sm w T = 0 ↔ sm u T = 0)) (o : Opt w S F) : Opt u S F := by
  have key : ∀ G, Fam w S G ↔ Fam u S G := fun G => by
    unfold Fam Each
    constructor
    · rintro ⟨a, b⟩; exact ⟨fun T hT => let ⟨x, y, z⟩ := a T hT; ⟨x, y, (h T y).mp z⟩, b⟩
    · rintro ⟨a, b⟩; exact ⟨fun T hT => let ⟨x, y, z⟩ := a T hT; ⟨x, y, (h T y).mpr z⟩, b⟩
  exact ⟨(key F).mp o.1, fun G hG => o.2 G ((key G).mpr hG)⟩
/-- debts twice over -/
theorem quiet_twice {l : List Dbt} (h : ∀ d ∈ l, Vd d) (hl : l.length ≤ 9) {B : List Int} {F : List (List Int)} (hw : ∀ x ∈ iR 10, wt B x = bal l x) (o : Opt (wt B) (op B) F) : ∃ F2, f_quiet_lots (l ++ l) = some F2 ∧ F2.length = F.length := by
  obtain ⟨B2, F2, _, _, b3, _, f1, f2⟩ := quiet_debts (l := l ++ l) (fun d hd => by rcases List.mem_append.mp hd with q | q <;> exact h d q) (by rw [List.length_append]; omega)
  have e : ∀ x ∈ iR 10, wt B2 x = 2 * wt B x := fun x hx => by rw [b3 x hx, bal_dbl, hw x hx]
  have eo : op B2 = op B := by
    unfold op
    refine List.filter_congr fun x hx => ?_
    rw [e x hx]
    congr 1
    by_cases q : wt B x = 0
    · rw [decide_eq_true q, decide_eq_true (by omega)]
    · rw [decide_eq_false q, decide_eq_false (by omega)]
  rw [eo] at f2
  refine ⟨F2, f1, opt_len (opt_two (fun T hT => ?_) f2) o⟩
  have : sm (wt B2) T = 2 * sm (wt B) T := by
    rw [sm_congr fun x hx => e x ((hT.trans (op_sub B)).subset hx)]
    have : ∀ L : List Int, sm (fun x => 2 * wt B x) L = 2 * sm (wt B) L := by
      intro L
      induction L with
      | nil => rfl
      | cons x L ih => unfold sm at ih ⊢; simp only [List.map_cons, List.sum_cons]; omega
    exact this T
  rw [this]
  omega
theorem quiet_none : f_quiet_lots [] = some [] := by
  obtain ⟨B, F, _, _, b3, _, f1, f2⟩ := quiet_debts (l := []) (fun d hd => nomatch hd) (by simp)
  have : op B = [] := by
    unfold op
    rw [List.filter_eq_nil_iff]
    intro x hx
    rw [b3 x hx]
    simp [bal]
  rw [this] at f2
  rw [f1, each_nil f2.1.1]
theorem few_is {l : List Dbt} (h : ∀ d ∈ l, Vd d) (hl : l.length ≤ 60) {B : List Int} {F : List (List Int)} (b1 : f_raw_balances l = some B) (b2 : B.length = 10) (f1 : f_raw_quiet_lots B = some F) : f_fewest_payments l = some (((op B).length : Int) - (F.length : Int)) := by
  unfold f_fewest_payments
  rw [check_is h hl, b1]
  show (f_open_people B).bind _ = _
  rw [open_is b2]
  show (f_raw_quiet_lots B).bind _ = _
  rw [f1]
  rfl
theorem bals_is {l : List Dbt} (h : ∀ d ∈ l, Vd d) (hl : l.length ≤ 60) {B : List Int} (b1 : f_raw_balances l = some B) : f_balances l = some B := by
  unfold f_balances
  rw [check_is h hl, b1]
  rfl
end K79

set_option maxRecDepth 100000
/-! K79g: the law. -/
namespace K79
open PySem Ev
theorem law_true (script : List Int) {s : Hnd} (hs : s.ok) : ∃ s', f_law script s = some (true, s') := by
  unfold f_law
  rw [show rngO 0 4 = some (iR 4) from rngO_n (n := 4) (by decide)]
  show ∃ s', ((forO (ρ := Bool × Hnd) _ (iR 4) s).bind _) = some (true, s')
  generalize hF : (fun (s9 : Hnd) (a10 : Int) => _) = Fn
  obtain ⟨s', h1, h2⟩ := forO_nx (ρ := Bool × Hnd) (F := Fn) (I := Hnd.ok) (l := iR 4) (s := s) (fun r a _ hr => by
    subst hF
    dsimp only
    obtain ⟨p, s1, d1, d2, d3, d4⟩ := drawT_is hr (many := 7) (by omega) (by omega)
    rw [d1]
    obtain ⟨l, s2, l1, l2, l3, l4⟩ := drawn (people := 2 + p) (by omega) (by omega) d2
    show ∃ s', ((f_law_debts (2 + p) 9 s1).bind _) = _ ∧ _
    rw [l1]
    show ∃ s', (((mapO _ l).bind szO).bind _) = _ ∧ _
    rw [mapO_some (g := fun d => (d.1, d.2.1, 1 + d.2.2 % 3)) fun d hd => by
      unfold modO
      rw [if_pos (by omega)]
      rfl]
    show ∃ s', ((szO _).bind _) = _ ∧ _
    rw [szO_le (n := 9) (by rw [List.length_map]; exact l3) (by omega)]
    generalize hD : l.map (fun d : Dbt => (d.1, d.2.1, 1 + d.2.2 % 3)) = D
    have vd : ∀ d ∈ D, Vd d := fun d hd => by
      rw [← hD] at hd
      obtain ⟨e, he, rfl⟩ := List.mem_map.mp hd
      obtain ⟨a1, a2, a3⟩ := l4 e he
      exact ⟨a1, a2, a3, by show 1 ≤ 1 + e.2.2 % 3; omega, by show 1 + e.2.2 % 3 ≤ 10000; omega⟩
    have dl : D.length ≤ 9 := by rw [← hD, List.length_map]; exact l3
    obtain ⟨B, F, b1, b2, b3, f1, f2, f3⟩ := quiet_debts vd (by omega)
    show ∃ s', ((f_law_balances D).bind _) = _ ∧ _
    rw [law_bal, b1]
    show ∃ s', ((f_quiet_lots D).bind _) = _ ∧ _
    rw [f2]
    obtain ⟨n, n1, n2⟩ := most_is b2
    have nd := op_nodup B
    have hz := op_zero vd b3
    have en := opt_max nd hz f3 n2
    show ∃ s', (((f_law_most_quiet B).bind _).bind _) = _ ∧ _
    rw [n1]
    show ∃ s', ((some (!decide ((F.length : Int) = (n : Int)))).bind _) = _ ∧ _
    rw [decide_eq_true (by rw [en])]
    show ∃ s', ((forO (ρ := Bool × Hnd) _ F ([], s2)).bind _) = _ ∧ _
    have flat := f3.1.2
    have fl := flat.length_eq
    have ol := op_len B
    rw [forO_app (ρ := Bool × Hnd) F [] s2 (fun T hT m hm => by
      obtain ⟨t1, t2, t3⟩ := f3.1.1 T hT
      have t4 := t2.trans (op_sub B)
      have tl := t4.length_le
      rw [iR_len] at tl
      have es : ssetO T = some T := by
        unfold ssetO
        rw [if_pos]
        rw [Bool.and_eq_true, decide_eq_true_eq, decide_eq_true_eq]
        exact ⟨(op_pw B).sublist t2, by omega⟩
      rw [decide_eq_false t1, es]
      show ((some (!decide (T = T))).bind _) = _
      rw [decide_eq_true rfl]
      show (((mapO _ T).bind szO).bind _) = _
      rw [sum_is b2 t4]
      show ((if (!decide (sm (wt B) T = 0)) = true then _ else (((mapO _ T).bind szO).bind _)).bind _) = _
      rw [decide_eq_true t3, mapO_some (g := fun a => !decide (wt B a = 0)) fun a ha => by rw [atO_wt b2 (t4.subset ha)]; rfl]
      show (((szO _).bind _).bind _) = _
      rw [szO_le (n := 10) (by rw [List.length_map]; exact tl) (by omega)]
      show ((some (!((T.map fun a => !decide (wt B a = 0)).all id))).bind _) = _
      rw [all_id_map (p := fun a => !decide (wt B a = 0)) fun a ha => by rw [decide_eq_false (mem_op (t2.subset ha))]; rfl]
      show ((appO m T).bind _) = _
      rw [appO_le (by omega)]
      rfl) (by simp only [List.length_nil]; omega), List.nil_append]
    show ∃ s', ((lsetO F.flatten).bind _) = _ ∧ _
    have el : lsetO F.flatten = some (F.flatten.length : Int) := by
      unfold lsetO
      rw [if_pos]
      rw [Bool.and_eq_true, decide_eq_true_eq, decide_eq_true_eq]
      exact ⟨flat.nodup_iff.mpr nd, by omega⟩
    rw [el]
    show ∃ s', ((if (!decide ((F.flatten.length : Int) = (F.flatten.length : Int))) = true then _ else ((sortO ltI F.flatten).bind _)).bind _) = _ ∧ _
    rw [decide_eq_true rfl, sortO_le (by omega), sort_asc flat (op_pw B)]
    show ∃ s', (((rngO 0 10).bind fun ls74 => ((lcO (fun (a75 : Int) => (atO B a75).bind fun x76 => some (!decide (x76 = 0))) (fun (a75 : Int) => some a75) ls74).bind szO).bind fun ls79 => some (!decide (op B = ls79))).bind _) = _ ∧ _
    rw [open_at b2 (fun ls79 => some (!decide (op B = ls79))), decide_eq_true rfl]
    show ∃ s', ((f_fewest_payments D).bind _) = _ ∧ _
    rw [few_is vd (by omega) b1 b2 f1]
    show ∃ s', ((if (!decide (((op B).length : Int) - (F.length : Int) = ((F.flatten.length : Int) - (F.length : Int)))) = true then _ else ((f_balances D).bind _)).bind _) = _ ∧ _
    rw [decide_eq_true (by rw [fl]), bals_is vd (by omega) b1]
    show ∃ s', ((some (!decide (B = B))).bind _) = _ ∧ _
    rw [decide_eq_true rfl]
    show ∃ s', ((appO D D).bind _) = _ ∧ _
    rw [appO_le (by omega)]
    obtain ⟨F2, g1, g2⟩ := quiet_twice vd dl b3 f3
    show ∃ s', ((f_quiet_lots (D ++ D)).bind _) = _ ∧ _
    rw [g1]
    show ∃ s', ((if (!decide ((F2.length : Int) = (F.length : Int))) = true then _ else ((f_quiet_lots []).bind _)).bind _) = _ ∧ _
    rw [decide_eq_true (by rw [g2]), quiet_none]
    exact ⟨s2, rfl, l2⟩) hs
  rw [h1]
  exact ⟨s', rfl⟩
theorem main : ∀ ns : List Int, ns.length ≤ 63 → ∃ st', callL ds 20 21 [.d (.list (ns.map .int))] T.st0 = .ok (.d (.bool true)) st' := by
  intro ns hn
  obtain ⟨s, hs, hb⟩ := hand_run (ds := ds) (at_ := 15) (c0 := 283) (c1 := 179) rfl (by decide) 18 T.st0 ns hn
  obtain ⟨s', h⟩ := law_true ns hs
  exact ⟨_, ok_law _ hb h⟩
end K79

open PySem PySem.W PyProof.Rows in
set_option maxRecDepth 100000 in
set_option maxHeartbeats 0 in
theorem PySem.Challenge.cw_curtainrise_k79_whole_quiet_lots_holds : PySem.Challenge.rw_curtainrise_k79_whole_quiet_lots.Holds := by
  w_on; o_law; k_head; (case hw => w_witness2)
  k_fill
  refine Ev.ev_walkT (l := PySem.Challenge.rw_curtainrise_k79_whole_quiet_lots) (x := "script") K79.T K79.ds 20 21 K79.d21 rfl rfl rfl rfl rfl rfl ⟨rfl, by decide, by decide⟩ (by decide) (fun w h Y => PySem.W.km_in_of Y) (fun w h Y KX => Ev.all_cons ⟨PySem.W.km_tabs_of Y 113 (by simp), by kernel_rfl, PySem.W.codeHd_of_K (c := 115) (P := 113) KX (by kernel_rfl)⟩ (Ev.all_cons ⟨PySem.W.km_tabs_of Y 165 (by simp), by kernel_rfl, PySem.W.codeHd_of_K (c := 167) (P := 165) KX (by kernel_rfl)⟩ (Ev.all_nil))) ?F (fun ns h _ => K79.main ns h)
  intro w mg h KX G
  refine ⟨K79.ckAll, rfl, ?_, ?_, ?_⟩
  · have h0 : Ev.HereOf KX mg K79.T K79.d0 := by
      refine' Ev.here_mk KX G ?b0 ?a0 ?l0 ?c0 ?k0 ?t0
      (case b0 => exact fun _ _ _ _ _ _ us hl => match us, hl with | [_], _ => rfl)
      (case a0 => k_is)
      (case l0 => k_is)
      (case c0 => k_is)
      (case k0 => k_is)
      (case t0 => exact .inl (by decide +kernel))
    have h1 : Ev.HereOf KX mg K79.T K79.d1 := by
      refine' Ev.here_mk KX G ?b1 ?a1 ?l1 ?c1 ?k1 ?t1
      (case b1 => exact fun _ _ _ _ _ _ us hl => match us, hl with | [_, _, _], _ => rfl)
      (case a1 => k_is)
      (case l1 => k_is)
      (case c1 => k_is)
      (case k1 => k_is)
      (case t1 => exact .inl (by decide +kernel))
    have h2 : Ev.HereOf KX mg K79.T K79.d2 := by
      refine' Ev.here_mk KX G ?b2 ?a2 ?l2 ?c2 ?k2 ?t2
      (case b2 => exact fun _ _ _ _ _ _ us hl => match us, hl with | [_, _], _ => rfl)
      (case a2 => k_is)
      (case l2 => k_is)
      (case c2 => k_is)
      (case k2 => k_is)
      (case t2 => exact .inl (by decide +kernel))
    have h3 : Ev.HereOf KX mg K79.T K79.d3 := by
      refine' Ev.here_mk KX G ?b3 ?a3 ?l3 ?c3 ?k3 ?t3
      (case b3 => exact fun _ _ _ _ _ _ us hl => match us, hl with | [_], _ => rfl)
      (case a3 => k_is)
      (case l3 => k_is)
      (case c3 => k_is)
      (case k3 => k_is)
      (case t3 => exact .inl (by decide +kernel))
    have h4 : Ev.HereOf KX mg K79.T K79.d4 := by
      refine' Ev.here_mk KX G ?b4 ?a4 ?l4 ?c4 ?k4 ?t4
      (case b4 => exact fun _ _ _ _ _ _ us hl => match us, hl with | [_], _ => rfl)
      (case a4 => k_is)
      (case l4 => k_is)
      (case c4 => k_is)
      (case k4 => k_is)
      (case t4 => exact .inl (by decide +kernel))
    have h5 : Ev.HereOf KX mg K79.T K79.d5 := by
      refine' Ev.here_mk KX G ?b5 ?a5 ?l5 ?c5 ?k5 ?t5
      (case b5 => exact fun _ _ _ _ _ _ us hl => match us, hl with | [_], _ => rfl)
      (case a5 => k_is)
      (case l5 => k_is)
      (case c5 => k_is)
      (case k5 => k_is)
      (case t5 => exact .inl (by decide +kernel))
    have h6 : Ev.HereOf KX mg K79.T K79.d6 := by
      refine' Ev.here_mk KX G ?b6 ?a6 ?l6 ?c6 ?k6 ?t6
      (case b6 => exact fun _ _ _ _ _ _ us hl => match us, hl with | [_], _ => rfl)
      (case a6 => k_is)
      (case l6 => k_is)
      (case c6 => k_is)
      (case k6 => k_is)
      (case t6 => exact .inl (by decide +kernel))
    have h7 : Ev.HereOf KX mg K79.T K79.d7 := by
      refine' Ev.here_mk KX G ?b7 ?a7 ?l7 ?c7 ?k7 ?t7
      (case b7 => exact fun _ _ _ _ _ _ us hl => match us, hl with | [_], _ => rfl)
      (case a7 => k_is)
      (case l7 => k_is)
      (case c7 => k_is)
      (case k7 => k_is)
      (case t7 => exact .inl (by decide +kernel))
    have h8 : Ev.HereOf KX mg K79.T K79.d8 := by
      refine' Ev.here_mk KX G ?b8 ?a8 ?l8 ?c8 ?k8 ?t8
      (case b8 => exact fun _ _ _ _ _ _ us hl => match us, hl with | [_], _ => rfl)
      (case a8 => k_is)
      (case l8 => k_is)
      (case c8 => k_is)
      (case k8 => k_is)
      (case t8 => exact .inl (by decide +kernel))
    have h9 : Ev.HereOf KX mg K79.T K79.d9 := by
      refine' Ev.here_mk KX G ?b9 ?a9 ?l9 ?c9 ?k9 ?t9
      (case b9 => exact fun _ _ _ _ _ _ us hl => match us, hl with | [_], _ => rfl)
      (case a9 => k_is)
      (case l9 => k_is)
      (case c9 => k_is)
      (case k9 => k_is)
      (case t9 => exact .inl (by decide +kernel))
    have h10 : Ev.HereOf KX mg K79.T K79.d10 := by
      refine' Ev.here_mk KX G ?b10 ?a10 ?l10 ?c10 ?k10 ?t10
      (case b10 => exact fun _ _ _ _ _ _ us hl => match us, hl with | [_, _], _ => rfl)
      (case a10 => k_is)
      (case l10 => k_is)
      (case c10 => k_is)
      (case k10 => k_is)
      (case t10 => exact .inl (by decide +kernel))
    have h11 : Ev.HereOf KX mg K79.T K79.d11 := by
      refine' Ev.here_mk KX G ?b11 ?a11 ?l11 ?c11 ?k11 ?t11
      (case b11 => exact fun _ _ _ _ _ _ us hl => match us, hl with | [_, _], _ => rfl)
      (case a11 => k_is)
      (case l11 => k_is)
      (case c11 => k_is)
      (case k11 => k_is)
      (case t11 => exact .inl (by decide +kernel))
    have h12 : Ev.HereOf KX mg K79.T K79.d12 := by
      refine' Ev.here_mk KX G ?b12 ?a12 ?l12 ?c12 ?k12 ?t12
      (case b12 => exact fun _ _ _ _ _ _ us hl => match us, hl with | [_], _ => rfl)
      (case a12 => k_is)
      (case l12 => k_is)
      (case c12 => k_is)
      (case k12 => k_is)
      (case t12 => exact .inr ⟨115, 113, by decide +kernel, rfl⟩)
    have h13 : Ev.HereOf KX mg K79.T K79.d13 := by
      refine' Ev.here_mk KX G ?b13 ?a13 ?l13 ?c13 ?k13 ?t13
      (case b13 => exact fun _ _ _ _ _ _ us hl => match us, hl with | [_], _ => rfl)
      (case a13 => k_is)
      (case l13 => k_is)
      (case c13 => k_is)
      (case k13 => k_is)
      (case t13 => exact .inl (by decide +kernel))
    have h14 : Ev.HereOf KX mg K79.T K79.d14 := by
      refine' Ev.here_mk KX G ?b14 ?a14 ?l14 ?c14 ?k14 ?t14
      (case b14 => exact fun _ _ _ _ _ _ us hl => match us, hl with | [_], _ => rfl)
      (case a14 => k_is)
      (case l14 => k_is)
      (case c14 => k_is)
      (case k14 => k_is)
      (case t14 => exact .inl (by decide +kernel))
    have h15 : Ev.HereOf KX mg K79.T K79.d15 := by
      refine' Ev.here_mk KX G ?b15 ?a15 ?l15 ?c15 ?k15 ?t15
      (case b15 => exact fun _ _ _ _ _ _ us hl => match us, hl with | [_], _ => rfl)
      (case a15 => k_is)
      (case l15 => k_is)
      (case c15 => k_is)
      (case k15 => k_is)
      (case t15 => exact .inl (by decide +kernel))
    have h16 : Ev.HereOf KX mg K79.T K79.d16 := by
      refine' Ev.here_mk KX G ?b16 ?a16 ?l16 ?c16 ?k16 ?t16
      (case b16 => exact fun _ _ _ _ _ _ us hl => match us, hl with | [_, _], _ => rfl)
      (case a16 => k_is)
      (case l16 => k_is)
      (case c16 => k_is)
      (case k16 => k_is)
      (case t16 => exact .inl (by decide +kernel))
    have h17 : Ev.HereOf KX mg K79.T K79.d17 := by
      refine' Ev.here_mk KX G ?b17 ?a17 ?l17 ?c17 ?k17 ?t17
      (case b17 => exact fun _ _ _ _ _ _ us hl => match us, hl with | [_, _], _ => rfl)
      (case a17 => k_is)
      (case l17 => k_is)
      (case c17 => k_is)
      (case k17 => k_is)
      (case t17 => exact .inl (by decide +kernel))
    have h18 : Ev.HereOf KX mg K79.T K79.d18 := by
      refine' Ev.here_mk KX G ?b18 ?a18 ?l18 ?c18 ?k18 ?t18
      (case b18 => exact fun _ _ _ _ _ _ us hl => match us, hl with | [_, _, _], _ => rfl)
      (case a18 => k_is)
      (case l18 => k_is)
      (case c18 => k_is)
      (case k18 => k_is)
      (case t18 => exact .inl (by decide +kernel))
    have h19 : Ev.HereOf KX mg K79.T K79.d19 := by
      refine' Ev.here_mk KX G ?b19 ?a19 ?l19 ?c19 ?k19 ?t19
      (case b19 => exact fun _ _ _ _ _ _ us hl => match us, hl with | [_], _ => rfl)
      (case a19 => k_is)
      (case l19 => k_is)
      (case c19 => k_is)
      (case k19 => k_is)
      (case t19 => exact .inl (by decide +kernel))
    have h20 : Ev.HereOf KX mg K79.T K79.d20 := by
      refine' Ev.here_mk KX G ?b20 ?a20 ?l20 ?c20 ?k20 ?t20
      (case b20 => exact fun _ _ _ _ _ _ us hl => match us, hl with | [_], _ => rfl)
      (case a20 => k_is)
      (case l20 => k_is)
      (case c20 => k_is)
      (case k20 => k_is)
      (case t20 => exact .inr ⟨167, 165, by decide +kernel, rfl⟩)
    have h21 : Ev.HereOf KX mg K79.T K79.d21 := by
      refine' Ev.here_mk KX G ?b21 ?a21 ?l21 ?c21 ?k21 ?t21
      (case b21 => exact fun _ _ _ _ _ _ us hl => match us, hl with | [_], _ => rfl)
      (case a21 => k_is)
      (case l21 => k_is)
      (case c21 => k_is)
      (case k21 => k_is)
      (case t21 => exact .inl (by decide +kernel))
    exact Ev.all_cons h0 (Ev.all_cons h1 (Ev.all_cons h2 (Ev.all_cons h3 (Ev.all_cons h4 (Ev.all_cons h5 (Ev.all_cons h6 (Ev.all_cons h7 (Ev.all_cons h8 (Ev.all_cons h9 (Ev.all_cons h10 (Ev.all_cons h11 (Ev.all_cons h12 (Ev.all_cons h13 (Ev.all_cons h14 (Ev.all_cons h15 (Ev.all_cons h16 (Ev.all_cons h17 (Ev.all_cons h18 (Ev.all_cons h19 (Ev.all_cons h20 (Ev.all_cons h21 (Ev.all_nil))))))))))))))))))))))
  · refine' Ev.all_cons (PySem.W.mg_none_of KX G ?y0) ?_
    · k_is
    refine' Ev.all_cons (PySem.W.mg_none_of KX G ?y1) ?_
    · k_is
    refine' Ev.all_cons (PySem.W.mg_none_of KX G ?y2) ?_
    · k_is
    refine' Ev.all_cons (PySem.W.mg_none_of KX G ?y3) ?_
    · k_is
    refine' Ev.all_cons (PySem.W.mg_none_of KX G ?y4) ?_
    · k_is
    refine' Ev.all_cons (PySem.W.mg_none_of KX G ?y5) ?_
    · k_is
    refine' Ev.all_cons (PySem.W.mg_none_of KX G ?y6) ?_
    · k_is
    refine' Ev.all_cons (PySem.W.mg_none_of KX G ?y7) ?_
    · k_is
    refine' Ev.all_cons (PySem.W.mg_none_of KX G ?y8) ?_
    · k_is
    refine' Ev.all_cons (PySem.W.mg_none_of KX G ?y9) ?_
    · k_is
    refine' Ev.all_cons (PySem.W.mg_none_of KX G ?y10) ?_
    · k_is
    refine' Ev.all_cons (PySem.W.mg_none_of KX G ?y11) ?_
    · k_is
    refine' Ev.all_cons (PySem.W.mg_none_of KX G ?y12) ?_
    · k_is
    exact Ev.all_nil
  · show ∀ x d, (x, d) ∈ K79.T.con → Ev.ConAt _ _ x d
    refine Ev.con_all ?_
    refine' Ev.all_cons (Ev.con_int KX G ?z0) ?w0
    (case z0 => k_is)
    refine' Ev.all_cons (Ev.con_int KX G ?z1) ?w1
    (case z1 => k_is)
    refine' Ev.all_cons (Ev.con_int KX G ?z2) ?w2
    (case z2 => k_is)
    exact Ev.all_nil
