import PyProof.Rows.All
import Wide.All
import OpenK.AllK
import Wide.FinOn
import HandS.ForMost
import HandS.ForExc
import HandS.Style
import HandS.TupAny
import HandS.TupMul
import HandS.TupLe
import HandS.Conv
import HandS.SortInts
import HandS.Rev
import HandS.Zip
import KE.DataMinMax
import KE.DataMinKey
import KE.DataEq
import KE.DataFind
import KE.DataIsa
import KE.DataCmp
import KE.SortData
import KE.GoesEnum
import KE.GoesMore
import KE.GoesZip
import HandS.Walk
import HandS.DictComp
import HandS.WordsDict
import HandS.SetFor
import HandS.EndBits
import PySem.Challenge.RW_curtainrise_k96_whole_heads_and_flats
set_option Elab.async false
set_option linter.all false
set_option maxRecDepth 100000
/-! Ev1: a small syntax with slots, and its interpreter in plain Lean. -/
namespace Ev
open PySem L2 PySem.W

inductive PV where
  | d (x : PyData) | fre (x : PyData) | bor (x : PyData) | ref (n : Nat) | ty (n : String) | fn (n : Nat)
inductive Ob where
  | lst (xs : List PV)
abbrev Sto := List Ob
inductive R (α : Type) where
  | ok (a : α) (s : Sto) | ex (c : Nat) (fs : List PV) (s : Sto) | bad
inductive Cell where
  | no | v (x : PV) | own (x : PyData)
abbrev Envr := List Cell
inductive RS where
  | nx (e : Envr) (s : Sto) | br (e : Envr) (s : Sto) | ct (e : Envr) (s : Sto) | rt (v : PV) (s : Sto) | ex (c : Nat) (fs : List PV) (e : Envr) (s : Sto) | bad

def R.bind {α β : Type} (r : R α) (f : α → Sto → R β) : R β := match r with
  | .ok a s => f a s
  | .ex c fs s => .ex c fs s
  | .bad => .bad
/-- an option, in a state -/
def R.opt {α : Type} (o : Option α) (s : Sto) : R α := match o with
  | some a => .ok a s
  | none => .bad

inductive Op2 where | add | sub | mul | fdiv | mod | pow
inductive Cm where | lt | le | gt | ge | eq | ne | is_ | isnt | in_ | notin
inductive Bi where
  | len | abs | int | sum | max | min | any | all | sorted | tuple | list | isinst | str

mutual
inductive E where
  | var (i : Nat) | lit (x : PyData) | con (x : Str) (v : PyData) | ty (x : Str) (n : String)
  | op (o : Op2) (a b : E) | neg (a : E)
  | cmp (c : Cm) (a b : E) | chn (c1 c2 : Cm) (a b c : E)
  | andd (a b : E) | orr (a b : E) | nott (a : E) | ife (t a b : E)
  | tup (es : Es) | lst (es : Es) | lstR (es : Es) | box (a : E)
  | ix (a i : E) | sl (a : E) (lo hi : P) | rev (a : E)
  | call (f : Nat) (es : Es) | bi (b : Bi) (es : Es) | lrng (tp : Bool) (a b : E) 
  | lc (own : List Nat) (g : G) (it : It) (ts : Es) (e : E)
  | dc (own : List Nat) (g : G) (it : It) (ts : Es) (k e : E)
inductive P where
  | no | ex (e : E)
inductive Es where
  | nil | cons (e : E) (es : Es)
inductive It where
  | sq (a : E) | r1 (a : E) | r2 (a b : E) | r3 (a b c : E) | zp (a b : E) | en (a : E)
inductive G where
  | nm (i : Nat) | tp (is : List Nat)
end

/-! ### values -/
def allD : List PV → Option (List PyData)
  | [] => some []
  | .d x :: r => (allD r).map (x :: ·)
  | _ :: _ => none
/-- read: a datum as it stands -/
def rd : PV → Sto → Option PyData
  | .d x, _ => some x
  | .fre x, _ => some x
  | .bor x, _ => some x
  | .ref n, st => match st[n]? with
    | some (.lst xs) => (allD xs).map .list
    | _ => none
  | _, _ => none
/-- kept: a datum that nobody changes any more -/
def asD : PV → Option PyData
  | .d x => some x
  | .fre x => some x
  | _ => none
/-- kept, or an object of the store -/
def asR : PV → Option PV
  | .d x => some (.d x)
  | .fre x => some (.d x)
  | .ref n => some (.ref n)
  | _ => none
/-- what a walk goes over: with bo, what a slot owns too -/
def srcV (bo : Bool) : PV → Option (List PyData)
  | .d (.list xs) => some xs
  | .d (.tuple xs) => some xs
  | .fre (.list xs) => some xs
  | .bor (.list xs) => if bo then some xs else none
  | _ => none
def asB : PV → Option Bool
  | .d (.bool b) => some b
  | _ => none

def mulOk (i j : Int) : Bool := decide (i.natAbs < 2 ^ 64) || decide (j.natAbs < 2 ^ 64)
def opD : Op2 → PyData → PyData → Option PV
  | .add, .int i, .int j => some (.d (.int (i + j)))
  | .add, .str x, .str y => if x.length + y.length ≤ sizeLine then some (.d (.str (x ++ y))) else none
  | .add, .list xs, .list ys => if xs.length + ys.length ≤ sizeLine then some (.fre (.list (xs ++ ys))) else none
  | .add, .tuple xs, .tuple ys => if xs.length + ys.length ≤ sizeLine then some (.d (.tuple (xs ++ ys))) else none
  | .sub, .int i, .int j => some (.d (.int (i - j)))
  | .mul, .int i, .int j => if mulOk i j then some (.d (.int (i * j))) else none
  | .mul, .list xs, .int k => if -(2 ^ 63) ≤ k ∧ k < 2 ^ 63 ∧ xs.length * k.toNat ≤ sizeLine then some (.fre (.list (List.replicate k.toNat xs).flatten)) else none
  | .fdiv, .int i, .int j => if 0 < j ∧ j < 1073741824 then some (.d (.int (i / j))) else none
  | .mod, .int i, .int j => if 0 < j then some (.d (.int (i % j))) else none
  | .pow, .int i, .int j => if 0 ≤ j ∧ j ≤ 1000000 ∧ i.natAbs < 2 ^ 64 then some (.d (.int (i ^ j.toNat))) else none
  | _, _, _ => none

/-- flat things -/
def eqD : PyData → PyData → Option Bool
  | .int i, .int j => some (decide (i = j))
  | .str x, .str y => some (decide (x = y))
  | .bool x, .bool y => some (decide (x = y))
  | .none, .none => some true
  | x, y => if x.plain && y.plain && decide (x.depth ≤ 60) then some (PyData.eqv x y) else none
def ltD : PyData → PyData → Option Bool
  | .int i, .int j => some (decide (i < j))
  | .none, _ => none
  | x, y => if alike x y && decide (x.depth ≤ 60) then some (dataLt x y) else none
def inD : PyData → PyData → Option Bool
  | x, .list ys => if x.plain && PyData.plainAll ys && decide (x.depth ≤ 60) then some (ys.any fun y => PyData.eqv y x) else none
  | x, .tuple ys => if x.plain && PyData.plainAll ys && decide (x.depth ≤ 60) then some (ys.any fun y => PyData.eqv y x) else none
  | _, _ => none
def isNone : PyData → Bool
  | .none => true
  | _ => false
def cmpD : Cm → PyData → PyData → Option Bool
  | .lt, x, y => ltD x y
  | .gt, x, y => ltD y x
  | .le, .int i, .int j => some (decide (i ≤ j))
  | .ge, .int i, .int j => some (decide (j ≤ i))
  | .eq, x, y => eqD x y
  | .ne, x, y => (eqD x y).map not
  | .is_, x, .none => some (isNone x)
  | .isnt, x, .none => some (!isNone x)
  | .is_, .bool x, .bool y => some (decide (x = y))
  | .isnt, .bool x, .bool y => some (decide (x ≠ y))
  | .in_, x, y => inD x y
  | .notin, x, y => (inD x y).map not
  | _, _, _ => none

def ixD : PyData → PyData → Option PyData
  | .list xs, .int i => atI xs i
  | .tuple xs, .int i => atI xs i
  | _, _ => none
def cutL {α : Type} (xs : List α) (lo hi : Option Int) : List α := (xs.drop (HT.sIx xs.length 0 lo)).take (HT.sIx xs.length xs.length hi - HT.sIx xs.length 0 lo)
def slD : PyData → Option Int → Option Int → Option PV
  | .list xs, lo, hi => some (.fre (.list (cutL xs lo hi)))
  | .tuple xs, lo, hi => some (.d (.tuple (cutL xs lo hi)))
  | _, _, _ => none

def allInts : List PyData → Option (List Int)
  | [] => some []
  | .int i :: r => (allInts r).map (i :: ·)
  | _ :: _ => none
def allBools : List PyData → Option (List Bool)
  | [] => some []
  | .bool i :: r => (allBools r).map (i :: ·)
  | _ :: _ => none
def itemsD : PyData → Option (List PyData)
  | .list xs => some xs
  | .tuple xs => some xs
  | _ => none
def isaD (n : String) : PyData → Option Bool
  | x => if n = "int" then some (PyData.isInt x) else if n = "bool" then some (PyData.isBool x) else if n = "str" then some (PyData.isStr x)
    else if n = "tuple" then some (PyData.isTuple x) else if n = "list" then some (PyData.isList x) else if n = "dict" then some (PyData.isDict x) else none
def alikeAllB (xs : List PyData) : Bool := xs.all (fun x => xs.all fun y => alike x y) && xs.all fun x => !isNone x && decide (x.depth ≤ 60)
def sortableB (xs : List PyData) : Bool := (xs.all fun x => match x with | .tuple (_ :: _) => true | _ => false) || (xs.all fun x => match x with | .tuple _ => false | .none => false | _ => true)
/-- builtins, by what they read; int lists first -/
def biD : Bi → List PyData → Option PV
  | .len, [.list xs] => some (.d (.int xs.length))
  | .len, [.tuple xs] => some (.d (.int xs.length))
  | .len, [.dict xs] => some (.d (.int xs.length))
  | .len, [.str x] => if x.length ≤ sizeLine then some (.d (.int x.length)) else none
  | .abs, [.int i] => some (.d (.int (if i < 0 then -i else i)))
  | .int, [.int i] => some (.d (.int i))
  | .int, [.bool b] => some (.d (.int (if b then 1 else 0)))
  | .sum, [x] => (itemsD x).bind fun xs => (allInts xs).map fun ns => .d (.int ns.sum)
  | .any, [.list xs] => (allBools xs).map fun bs => .d (.bool (bs.any id))
  | .all, [.list xs] => (allBools xs).map fun bs => .d (.bool (bs.all id))
  | .max, [.int i, .int j] => some (.d (.int (if j > i then j else i)))
  | .min, [.int i, .int j] => some (.d (.int (if j < i then j else i)))
  | .max, [x] => (itemsD x).bind fun xs => match xs with
    | [] => none
    | y :: r => match allInts (y :: r) with
      | some (n :: ns) => some (.d (.int (ns.foldl max n)))
      | _ => if alikeAllB (y :: r) then some (.d (maxD y r)) else none
  | .min, [x] => (itemsD x).bind fun xs => match xs with
    | [] => none
    | y :: r => match allInts (y :: r) with
      | some (n :: ns) => some (.d (.int (ns.foldl min n)))
      | _ => if alikeAllB (y :: r) then some (.d (minD y r)) else none
  | .tuple, [.list xs] => some (.d (.tuple xs))
  | .tuple, [.tuple xs] => some (.d (.tuple xs))
  | .list, [.list xs] => some (.fre (.list xs))
  | .list, [.tuple xs] => some (.fre (.list xs))
  | .sorted, [x] => (itemsD x).bind fun xs => if alikeAllB xs && sortableB xs && decide (xs.length ≤ sizeLine) then some (.fre (.list (xs.mergeSort (dataLe false id)))) else none
  | _, _ => none
def biV : Bi → List PV → Sto → Option PV
  | .isinst, [x, .ty n], st => (rd x st).bind fun y => (isaD n y).map fun b => .d (.bool b)
  | b, [x], st => (rd x st).bind fun y => biD b [y]
  | b, [x, y], st => (rd x st).bind fun u => (rd y st).bind fun w => biD b [u, w]
  | _, _, _ => none

def rgL (a b : Int) : List PyData := (List.range (b - a).toNat).map fun (i : Nat) => PyData.int (a + (i : Int))
def rgC (a c : Int) (n : Nat) : List PyData := (List.range n).map fun (i : Nat) => PyData.int (a + (i : Int) * c)
def smallI (i : Int) : Bool := decide (i.natAbs < 2 ^ 62)
def zipD : List PyData → List PyData → List PyData
  | x :: xs, y :: ys => .tuple [x, y] :: zipD xs ys
  | _, _ => []
def enD (i : Int) : List PyData → List PyData
  | x :: xs => .tuple [.int i, x] :: enD (i + 1) xs
  | [] => []

def setC (e : Envr) (i : Nat) (c : Cell) : Envr := e.set i c
def wipeC (e : Envr) : List Nat → Envr
  | [] => e
  | v :: vs => (wipeC e vs).set v .no
def setAll (e : Envr) : List Nat → List PyData → Option Envr
  | [], [] => some e
  | i :: is, x :: xs => setAll (e.set i (.v (.d x))) is xs
  | _, _ => none
/-- a target takes a datum -/
def asg (e : Envr) : G → PyData → Option Envr
  | .nm i, x => some (e.set i (.v (.d x)))
  | .tp is, .tuple xs => setAll e is xs
  | _, _ => none
def notOwn (e : Envr) (i : Nat) : Bool := match e[i]? with
  | some (.own _) => false
  | _ => true
def lcL (f : PyData → Sto → R (Option PyData)) : List PyData → Sto → List PyData → R (List PyData)
  | [], st, acc => .ok acc st
  | x :: xs, st, acc => (f x st).bind fun o st1 => match o with
    | some y => if acc.length < sizeLine then lcL f xs st1 (acc ++ [y]) else .bad
    | none => lcL f xs st1 acc
/-- the keys of a dict that is made, ints -/
def dcL (f : PyData → Sto → R (Option Int)) : List PyData → Sto → List Int → R (List Int)
  | [], st, acc => .ok acc st
  | x :: xs, st, acc => (f x st).bind fun o st1 => match o with
    | some k => if acc.length < sizeLine then dcL f xs st1 (if k ∈ acc then acc else acc ++ [k]) else .bad
    | none => dcL f xs st1 acc
def noEx {α : Type} : R α → R α
  | .ex _ _ _ => .bad
  | r => r

section
variable (c : Nat → List PV → Sto → R PV)
mutual
def evE : E → Envr → Sto → R PV
  | .var i, e, st => match e[i]? with
    | some (.v x) => .ok x st
    | some (.own x) => .ok (.bor x) st
    | _ => .bad
  | .lit x, _, st => .ok (.d x) st
  | .con _ x, _, st => .ok (.d x) st
  | .ty _ n, _, st => .ok (.ty n) st
  | .op o a b, e, st => (evE a e st).bind fun x s1 => (evE b e s1).bind fun y s2 => R.opt ((rd x s2).bind fun u => (rd y s2).bind fun w => opD o u w) s2
  | .neg a, e, st => (evE a e st).bind fun x s1 => match x with
    | .d (.int i) => .ok (.d (.int (-i))) s1
    | _ => .bad
  | .cmp o a b, e, st => (evE a e st).bind fun x s1 => (evE b e s1).bind fun y s2 => R.opt ((rd x s2).bind fun u => (rd y s2).bind fun w => (cmpD o u w).map fun b => .d (.bool b)) s2
  | .chn o o2 a b b2, e, st => (evE a e st).bind fun x s1 => (evE b e s1).bind fun y s2 =>
      match (rd x s2).bind fun u => (rd y s2).bind fun w => cmpD o u w with
      | some true => (evE b2 e s2).bind fun z s3 => R.opt ((rd y s3).bind fun u => (rd z s3).bind fun w => (cmpD o2 u w).map fun b => .d (.bool b)) s3
      | some false => .ok (.d (.bool false)) s2
      | none => .bad
  | .andd a b, e, st => (evE a e st).bind fun x s1 => match x with
    | .d (.bool true) => (evE b e s1).bind fun y s2 => R.opt ((asB y).map fun k => .d (.bool k)) s2
    | .d (.bool false) => .ok (.d (.bool false)) s1
    | _ => .bad
  | .orr a b, e, st => (evE a e st).bind fun x s1 => match x with
    | .d (.bool false) => (evE b e s1).bind fun y s2 => R.opt ((asB y).map fun k => .d (.bool k)) s2
    | .d (.bool true) => .ok (.d (.bool true)) s1
    | _ => .bad
  | .nott a, e, st => (evE a e st).bind fun x s1 => match x with
    | .d (.bool k) => .ok (.d (.bool (!k))) s1
    | _ => .bad
  | .ife t a b, e, st => (evE t e st).bind fun x s1 => match x with
    | .d (.bool true) => evE a e s1
    | .d (.bool false) => evE b e s1
    | _ => .bad
  | .tup es, e, st => (evDs es e st).bind fun xs s1 => if xs.length ≤ sizeLine then .ok (.d (.tuple xs)) s1 else .bad
  | .lst es, e, st => (evDs es e st).bind fun xs s1 => if xs.length ≤ sizeLine then .ok (.fre (.list xs)) s1 else .bad
  | .lstR es, e, st => (evRs es e st).bind fun xs s1 => if xs.length ≤ sizeLine then .ok (.ref s1.length) (s1 ++ [.lst xs]) else .bad
  | .box a, e, st => (evE a e st).bind fun x s1 => match x with
    | .fre (.list xs) => .ok (.ref s1.length) (s1 ++ [.lst (xs.map .d)])
    | _ => .bad
  | .ix a i, e, st => (evE a e st).bind fun x s1 => (evE i e s1).bind fun y s2 => match x, y with
    | .ref n, .d (.int j) => match s2[n]? with
      | some (.lst xs) => R.opt (atI xs j) s2
      | _ => .bad
    | _, _ => R.opt ((rd x s2).bind fun u => (rd y s2).bind fun w => (ixD u w).map .d) s2
  | .sl a lo hi, e, st => (evE a e st).bind fun x s1 => (evP lo e s1).bind fun i s2 => (evP hi e s2).bind fun j s3 => R.opt ((rd x s3).bind fun u => slD u i j) s3
  | .rev a, e, st => (evE a e st).bind fun x s1 => match rd x s1 with
    | some (.list xs) => .ok (.fre (.list xs.reverse)) s1
    | _ => .bad
  | .call f es, e, st => (evRs es e st).bind fun xs s1 => c f xs s1
  | .bi b es, e, st => (evAs es e st).bind fun xs s1 => R.opt (biV b xs s1) s1
  | .lrng tp a b, e, st => (evE a e st).bind fun x s1 => (evE b e s1).bind fun y s2 => match x, y with
    | .d (.int i), .d (.int j) => if smallI i && smallI j && decide ((j - i).toNat ≤ sizeLine) then .ok (cond tp (.d (.tuple (rgL i j))) (.fre (.list (rgL i j)))) s2 else .bad
    | _, _ => .bad
  | .lc own g it ts y, e, st => if own.all (notOwn e) then (evI it true e st).bind fun xs s1 =>
      (lcL (fun x s => match asg (wipeC e own) g x with
        | some e1 => (noEx (evTs ts e1 s)).bind fun b s2 => if b then (noEx (evE y e1 s2)).bind fun v s3 => R.opt ((asD v).map some) s3 else .ok none s2
        | none => .bad) xs s1 []).bind fun ys s2 => .ok (.fre (.list ys)) s2
    else .bad
  | .dc own g it ts k y, e, st => if own.all (notOwn e) then (evI it true e st).bind fun xs s1 =>
      (dcL (fun x s => match asg (wipeC e own) g x with
        | some e1 => (noEx (evTs ts e1 s)).bind fun b s2 => if b then (noEx (evE k e1 s2)).bind fun u s3 => (noEx (evE y e1 s3)).bind fun v s4 => match u, asD v with
          | .d (.int i), some _ => .ok (some i) s4
          | _, _ => .bad
          else .ok none s2
        | none => .bad) xs s1 []).bind fun ys s2 => .ok (.d (.int ys.length)) s2
    else .bad
/-- tests, all of which hold -/
def evTs : Es → Envr → Sto → R Bool
  | .nil, _, st => .ok true st
  | .cons t ts, e, st => (evE t e st).bind fun x s1 => match asB x with
    | some true => evTs ts e s1
    | some false => .ok false s1
    | none => .bad
def evDs : Es → Envr → Sto → R (List PyData)
  | .nil, _, st => .ok [] st
  | .cons a es, e, st => (evE a e st).bind fun x s1 => match asD x with
    | some u => (evDs es e s1).bind fun us s2 => .ok (u :: us) s2
    | none => .bad
def evRs : Es → Envr → Sto → R (List PV)
  | .nil, _, st => .ok [] st
  | .cons a es, e, st => (evE a e st).bind fun x s1 => match asR x with
    | some u => (evRs es e s1).bind fun us s2 => .ok (u :: us) s2
    | none => .bad
def evAs : Es → Envr → Sto → R (List PV)
  | .nil, _, st => .ok [] st
  | .cons a es, e, st => (evE a e st).bind fun x s1 => (evAs es e s1).bind fun us s2 => .ok (x :: us) s2
/-- a part of a slice -/
def evP : P → Envr → Sto → R (Option Int)
  | .no, _, st => .ok none st
  | .ex a, e, st => (evE a e st).bind fun x s1 => match x with
    | .d (.int i) => .ok (some i) s1
    | _ => .bad
def evI : It → Bool → Envr → Sto → R (List PyData)
  | .sq a, bo, e, st => (evE a e st).bind fun x s1 => R.opt (srcV bo x) s1
  | .r1 a, bo, e, st => (evE a e st).bind fun x s1 => match x with
    | .d (.int j) => if smallI j then .ok (rgL 0 j) s1 else .bad
    | _ => .bad
  | .r2 a b, bo, e, st => (evE a e st).bind fun x s1 => (evE b e s1).bind fun y s2 => match x, y with
    | .d (.int i), .d (.int j) => if smallI i && smallI j then .ok (rgL i j) s2 else .bad
    | _, _ => .bad
  | .r3 a b c3, bo, e, st => (evE a e st).bind fun x s1 => (evE b e s1).bind fun y s2 => (evE c3 e s2).bind fun z s3 => match x, y, z with
    | .d (.int i), .d (.int j), .d (.int k) => if k = -1 ∧ smallI i = true ∧ smallI j = true then .ok (rgC i (-1) (i - j).toNat) s3 else .bad
    | _, _, _ => .bad
  | .zp a b, bo, e, st => (evE a e st).bind fun x s1 => (evE b e s1).bind fun y s2 => R.opt ((srcV bo x).bind fun us => (srcV bo y).map fun ws => zipD us ws) s2
  | .en a, bo, e, st => (evE a e st).bind fun x s1 => R.opt ((srcV bo x).map (enD 0)) s1
end
end
end Ev

set_option maxRecDepth 100000
/-! Ev2: how data lie in the heap; the relation between the interpreter's state and the machine's. -/
namespace Ev
open PySem L2 PySem.W

def SqLK (K : PySem.W.Frag) (a : Addr) (xs : List V) : Prop :=
  ∃ (o : Obj) (its : Array Value) (n : Nat), K.lookup a = some o ∧ o.cls = .type "list" ∧ o.dict = none ∧ o.data = .seq its n ∧ its.size ≤ sizeLine ∧ Vals xs its.toList
mutual
inductive RD (K : PySem.W.Frag) (pr : Addr → Prop) (H : Hp) : V → PyData → Prop
  | non : RD K pr H .non .none
  | bl (b : Bool) : RD K pr H (.bl b) (.bool b)
  | int (i : Int) : RD K pr H (.int i) (.int i)
  | str (x : Str) : RD K pr H (.str x) (.str x)
  | tup {a : Addr} {xs : List V} {ds : List PyData} : SqT K H a xs → RDs K pr H xs ds → RD K pr H (.ref a) (.tuple ds)
  | lst {a : Addr} {xs : List V} {ds : List PyData} : Rd H a (.lst xs) → ¬ pr a → RDs K pr H xs ds → RD K pr H (.ref a) (.list ds)
  | lstK {a : Addr} {xs : List V} {ds : List PyData} : SqLK K a xs → RDs K pr H xs ds → RD K pr H (.ref a) (.list ds)
inductive RDs (K : PySem.W.Frag) (pr : Addr → Prop) (H : Hp) : List V → List PyData → Prop
  | nil : RDs K pr H [] []
  | cons {v : V} {vs : List V} {d : PyData} {ds : List PyData} : RD K pr H v d → RDs K pr H vs ds → RDs K pr H (v :: vs) (d :: ds)
end
abbrev nopr : Addr → Prop := fun _ => False
structure Keep (pr : Addr → Prop) (H : Hp) (pr' : Addr → Prop) (H' : Hp) : Prop where
  k : ∀ a o, H a = some o → ¬ pr a → H' a = some o ∧ ¬ pr' a
  t : ∀ a xs, Rd H a (.tup xs) → Rd H' a (.tup xs)
section
variable {K : PySem.W.Frag} {pr pr' : Addr → Prop} {H H' : Hp}
theorem Keep.rd (k : Keep pr H pr' H') {a : Addr} {u : HO} (h : Rd H a u) (n : ¬ pr a) : Rd H' a u ∧ ¬ pr' a := by
  rcases h with h | ⟨o, h⟩
  · exact ⟨.inl (k.k _ _ h n).1, (k.k _ _ h n).2⟩
  · exact ⟨.inr ⟨o, (k.k _ _ h n).1⟩, (k.k _ _ h n).2⟩
theorem Keep.tup (k : Keep pr H pr' H') {a : Addr} {xs : List V} (h : SqT K H a xs) : SqT K H' a xs := by
  rcases h with h | h
  · exact .inl (k.t _ _ h)
  · exact .inr h
mutual
theorem RD.keep (k : Keep pr H pr' H') : ∀ {v : V} {d : PyData}, RD K pr H v d → RD K pr' H' v d
  | _, _, .non => .non
  | _, _, .bl b => .bl b
  | _, _, .int i => .int i
  | _, _, .str x => .str x
  | _, _, .tup h r => .tup (k.tup h) (RDs.keep k r)
  | _, _, .lst h n r => .lst (k.rd h n).1 (k.rd h n).2 (RDs.keep k r)
  | _, _, .lstK h r => .lstK h (RDs.keep k r)
theorem RDs.keep (k : Keep pr H pr' H') : ∀ {v : List V} {d : List PyData}, RDs K pr H v d → RDs K pr' H' v d
  | _, _, .nil => .nil
  | _, _, .cons h r => .cons (RD.keep k h) (RDs.keep k r)
end
theorem Keep.anti (h : ∀ a, pr' a → pr a) : Keep pr H pr' H := ⟨fun a o e n => ⟨e, fun q => n (h a q)⟩, fun _ _ h => h⟩
theorem RD.q {v : V} {d : PyData} (h : RD K pr H v d) : RD K nopr H v d := h.keep (.anti fun _ q => q.elim)
theorem RDs.q {v : List V} {d : List PyData} (h : RDs K pr H v d) : RDs K nopr H v d := h.keep (.anti fun _ q => q.elim)
theorem RDs.length : ∀ {v : List V} {d : List PyData}, RDs K pr H v d → v.length = d.length
  | _, _, .nil => rfl
  | _, _, .cons _ r => by rw [List.length_cons, List.length_cons, RDs.length r]
theorem RDs.get : ∀ {v : List V} {d : List PyData} {i : Nat} {x : PyData}, RDs K pr H v d → d[i]? = some x → ∃ u, v[i]? = some u ∧ RD K pr H u x
  | _, _, _, _, .nil, e => by simp at e
  | _, _, 0, _, .cons h r, e => by simp at e; subst e; exact ⟨_, rfl, h⟩
  | _, _, i + 1, x, .cons h r, e => by
    obtain ⟨u, h1, h2⟩ := RDs.get (i := i) (x := x) r (by simpa using e)
    exact ⟨u, by simpa using h1, h2⟩
theorem RDs.get' : ∀ {v : List V} {d : List PyData} {i : Nat} {u : V}, RDs K pr H v d → v[i]? = some u → ∃ x, d[i]? = some x ∧ RD K pr H u x
  | _, _, _, _, .nil, e => by simp at e
  | _, _, 0, _, .cons h r, e => by simp at e; subst e; exact ⟨_, rfl, h⟩
  | _, _, i + 1, x, .cons h r, e => by
    obtain ⟨u, h1, h2⟩ := RDs.get' (i := i) (u := x) r (by simpa using e)
    exact ⟨u, by simpa using h1, h2⟩
theorem RDs.append : ∀ {v v' : List V} {d d' : List PyData}, RDs K pr H v d → RDs K pr H v' d' → RDs K pr H (v ++ v') (d ++ d')
  | _, _, _, _, .nil, h => h
  | _, _, _, _, .cons h r, h' => .cons h (RDs.append r h')
theorem RDs.take : ∀ {v : List V} {d : List PyData} (n : Nat), RDs K pr H v d → RDs K pr H (v.take n) (d.take n)
  | _, _, 0, _ => .nil
  | _, _, _ + 1, .nil => .nil
  | _, _, n + 1, .cons h r => .cons h (RDs.take n r)
theorem RDs.drop : ∀ {v : List V} {d : List PyData} (n : Nat), RDs K pr H v d → RDs K pr H (v.drop n) (d.drop n)
  | _, _, 0, h => h
  | _, _, _ + 1, .nil => .nil
  | _, _, n + 1, .cons h r => RDs.drop n r
theorem RDs.reverse {v : List V} {d : List PyData} (h : RDs K pr H v d) : RDs K pr H v.reverse d.reverse := by
  induction v generalizing d with
  | nil => cases h; exact .nil
  | cons a v ih =>
    cases h with
    | cons h r => rw [List.reverse_cons, List.reverse_cons]; exact (ih r).append (.cons h .nil)
theorem RDs.set {x : V} {u : PyData} (q : RD K pr H x u) : ∀ {v : List V} {d : List PyData} (n : Nat), RDs K pr H v d → RDs K pr H (v.set n x) (d.set n u)
  | _, _, _, .nil => .nil
  | _, _, 0, .cons h r => .cons q r
  | _, _, n + 1, .cons h r => .cons h (RDs.set q n r)
theorem RDs.eraseIdx : ∀ {v : List V} {d : List PyData} (n : Nat), RDs K pr H v d → RDs K pr H (v.eraseIdx n) (d.eraseIdx n)
  | _, _, _, .nil => .nil
  | _, _, 0, .cons h r => r
  | _, _, n + 1, .cons h r => .cons h (RDs.eraseIdx n r)
theorem RDs.dropLast {v : List V} {d : List PyData} (h : RDs K pr H v d) : RDs K pr H v.dropLast d.dropLast := by
  rw [List.dropLast_eq_take, List.dropLast_eq_take, h.length]
  exact h.take _
theorem RDs.rep : ∀ {v : List V} {d : List PyData} (n : Nat), RDs K pr H v d → RDs K pr H (List.replicate n v).flatten (List.replicate n d).flatten
  | _, _, 0, _ => .nil
  | _, _, n + 1, h => by rw [List.replicate_succ, List.replicate_succ, List.flatten_cons, List.flatten_cons]; exact h.append (RDs.rep n h)
theorem RDs.ints : ∀ (ns : List Int), RDs K pr H (ns.map V.int) (ns.map PyData.int)
  | [] => .nil
  | n :: ns => .cons (.int n) (RDs.ints ns)
theorem allInts_eq : ∀ {ds : List PyData} {ns : List Int}, allInts ds = some ns → ds = ns.map PyData.int
  | [], ns, h => by simp [allInts] at h; subst h; rfl
  | .int i :: r, ns, h => by
    simp only [allInts, Option.map_eq_some_iff] at h
    obtain ⟨ms, h1, rfl⟩ := h
    rw [allInts_eq h1]; rfl
  | .none :: _, _, h => by simp [allInts] at h
  | .bool _ :: _, _, h => by simp [allInts] at h
  | .str _ :: _, _, h => by simp [allInts] at h
  | .list _ :: _, _, h => by simp [allInts] at h
  | .tuple _ :: _, _, h => by simp [allInts] at h
  | .dict _ :: _, _, h => by simp [allInts] at h
theorem allBools_eq : ∀ {ds : List PyData} {ns : List Bool}, allBools ds = some ns → ds = ns.map PyData.bool
  | [], ns, h => by simp [allBools] at h; subst h; rfl
  | .bool i :: r, ns, h => by
    simp only [allBools, Option.map_eq_some_iff] at h
    obtain ⟨ms, h1, rfl⟩ := h
    rw [allBools_eq h1]; rfl
  | .none :: _, _, h => by simp [allBools] at h
  | .int _ :: _, _, h => by simp [allBools] at h
  | .str _ :: _, _, h => by simp [allBools] at h
  | .list _ :: _, _, h => by simp [allBools] at h
  | .tuple _ :: _, _, h => by simp [allBools] at h
  | .dict _ :: _, _, h => by simp [allBools] at h
theorem RDs.to_ints : ∀ {v : List V} {ns : List Int}, RDs K pr H v (ns.map PyData.int) → v = ns.map V.int
  | _, [], .nil => rfl
  | _, n :: ns, .cons h r => by cases h; rw [RDs.to_ints r]; rfl
theorem RDs.to_bools : ∀ {v : List V} {ns : List Bool}, RDs K pr H v (ns.map PyData.bool) → v = ns.map V.bl
  | _, [], .nil => rfl
  | _, n :: ns, .cons h r => by cases h; rw [RDs.to_bools r]; rfl
/-- .. as HandS reads data -/
theorem RD.sqL {a : Addr} {ds : List PyData} (h : RD K pr H (.ref a) (.list ds)) : ∃ xs, SqL K H a xs ∧ RDs K pr H xs ds := by
  cases h with
  | lst h n r => exact ⟨_, .inl h, r⟩
  | lstK h r => exact ⟨_, .inr h, r⟩
theorem RD.sqT {a : Addr} {ds : List PyData} (h : RD K pr H (.ref a) (.tuple ds)) : ∃ xs, SqT K H a xs ∧ RDs K pr H xs ds := by
  cases h with
  | tup h r => exact ⟨_, h, r⟩
theorem RD.isL {v : V} {ds : List PyData} (h : RD K pr H v (.list ds)) : ∃ a xs, v = .ref a ∧ SqL K H a xs ∧ RDs K pr H xs ds := by
  cases h with
  | lst h n r => exact ⟨_, _, rfl, .inl h, r⟩
  | lstK h r => exact ⟨_, _, rfl, .inr h, r⟩
theorem RD.isT {v : V} {ds : List PyData} (h : RD K pr H v (.tuple ds)) : ∃ a xs, v = .ref a ∧ SqT K H a xs ∧ RDs K pr H xs ds := by
  cases h with
  | tup h r => exact ⟨_, _, rfl, h, r⟩
mutual
theorem RD.dp : ∀ {v : V} {d : PyData}, RD K pr H v d → Dp K H v d
  | _, _, .non => .non
  | _, _, .bl b => .bl b
  | _, _, .int i => .int i
  | _, _, .str x => .str x
  | _, _, .tup h r => .tup h (RDs.dp r)
  | _, _, .lst h _ r => .lst (.inl h) (RDs.dp r)
  | _, _, .lstK h r => .lst (.inr h) (RDs.dp r)
theorem RDs.dp : ∀ {v : List V} {d : List PyData}, RDs K pr H v d → DpAll K H v d
  | _, _, .nil => .nil
  | _, _, .cons h r => .cons (RD.dp h) (RDs.dp r)
end
end

/-! ### the state -/
structure Gs where
  B : Addr → Prop
  H0 : Hp
  r0 : List Addr
  r : List Addr
  e : Envr
  s : St
def Gs.Pr (g : Gs) (a : Addr) : Prop := g.B a ∨ a ∈ g.r ∨ ∃ (i : Nat) (x : PyData), g.e[i]? = some (.own x) ∧ g.s[i]? = some (some (.ref a))
/-- a value that may be kept -/
def RepK (K : PySem.W.Frag) (g : Gs) (H : Hp) (v : V) : PV → Prop
  | .d x => RD K g.Pr H v x
  | .ref n => ∃ a, v = .ref a ∧ g.r[n]? = some a
  | .ty n => v = .ty n
  | _ => False
/-- what a slot or a temporary owns -/
def OwnAt (K : PySem.W.Frag) (g : Gs) (H : Hp) (a : Addr) : PyData → Prop
  | .list ds => ∃ vs, H a = some (.lst vs) ∧ RDs K g.Pr H vs ds
  | _ => False
def Rep (K : PySem.W.Frag) (g : Gs) (Bo : Addr → Prop) (H : Hp) (v : V) : PV → Prop
  | .fre x => ∃ a, v = .ref a ∧ OwnAt K g H a x ∧ g.B a ∧ ¬ Bo a ∧ g.H0 a = none
  | .bor x => ∃ (i : Nat) (a : Addr), v = .ref a ∧ g.e[i]? = some (.own x) ∧ g.s[i]? = some (some (.ref a))
  | x => RepK K g H v x
def ObAt (K : PySem.W.Frag) (g : Gs) (H : Hp) (a : Addr) : Ob → Prop
  | .lst xs => ∃ vs, H a = some (.lst vs) ∧ Paired (RepK K g H) vs xs
structure Sim (K : PySem.W.Frag) (g : Gs) (st : Sto) (H : Hp) : Prop where
  len : g.e.length = g.s.length
  val : ∀ (i : Nat) x, g.e[i]? = some (.v x) → ∃ v, g.s[i]? = some (some v) ∧ RepK K g H v x
  own : ∀ (i : Nat) x, g.e[i]? = some (.own x) → ∃ a, g.s[i]? = some (some (.ref a)) ∧ OwnAt K g H a x ∧ ¬ g.B a ∧ a ∉ g.r ∧ g.H0 a = none
  inj : ∀ (i j : Nat) x y (a : Addr), g.e[i]? = some (.own x) → g.e[j]? = some (.own y) → g.s[i]? = some (some (.ref a)) → g.s[j]? = some (some (.ref a)) → i = j
  slen : st.length = g.r.length
  sto : ∀ (n : Nat) o, st[n]? = some o → ∃ a, g.r[n]? = some a ∧ ObAt K g H a o
  rB : ∀ a ∈ g.r, ¬ g.B a
  nd : g.r.Nodup
  bt : ∀ a, g.B a → H a ≠ none
  pre : g.r0 <+: g.r
  new : ∀ a ∈ g.r, a ∈ g.r0 ∨ g.H0 a = none
  fr : ∀ a o, g.H0 a = some o → a ∉ g.r0 → H a = some o
structure Nx (g g' : Gs) (H H' : Hp) : Prop where
  e : g'.e = g.e
  s : g'.s = g.s
  h0 : g'.H0 = g.H0
  r0 : g'.r0 = g.r0
  B : ∀ a, g.B a → g'.B a
  bn : ∀ a, g'.B a → g.B a ∨ H a = none
  pre : g.r <+: g'.r
  rn : ∀ a ∈ g'.r, a ∈ g.r ∨ H a = none
  fr : ∀ a o, H a = some o → a ∉ g.r → H' a = some o
section
variable {K : PySem.W.Frag} {g g' g1 g2 : Gs} {st st' st1 : Sto} {H H' H1 H2 : Hp}
theorem Sim.tr (S : Sim K g st H) {a : Addr} (h : a ∈ g.r) : ∃ vs, H a = some (.lst vs) := by
  obtain ⟨n, hn, e⟩ := List.mem_iff_getElem.mp h
  have hs : n < st.length := by rw [S.slen]; exact hn
  obtain ⟨b, hb, ob⟩ := S.sto n st[n] (List.getElem?_eq_getElem hs)
  rw [List.getElem?_eq_getElem hn] at hb
  have hb := Option.some.inj hb
  rw [e] at hb
  subst hb
  cases hq : st[n] with
  | lst xs => rw [hq] at ob; obtain ⟨vs, h1, _⟩ := ob; exact ⟨vs, h1⟩
theorem OwnAt.is {a : Addr} {x : PyData} (h : OwnAt K g H a x) : ∃ ds vs, x = .list ds ∧ H a = some (.lst vs) ∧ RDs K g.Pr H vs ds := by
  cases x with
  | list ds => obtain ⟨vs, h⟩ := h; exact ⟨ds, vs, rfl, h⟩
  | _ => exact h.elim
theorem Sim.prt (S : Sim K g st H) {a : Addr} (h : g.Pr a) : H a ≠ none := by
  rcases h with h | h | ⟨i, x, h1, h2⟩
  · exact S.bt a h
  · obtain ⟨vs, e⟩ := S.tr h; rw [e]; exact fun q => nomatch q
  · obtain ⟨b, hb, o, _⟩ := S.own i x h1
    rw [h2] at hb; cases hb
    obtain ⟨_, vs, _, e, _⟩ := o.is
    rw [e]; exact fun q => nomatch q
theorem Nx.refl : Nx g g H H := ⟨rfl, rfl, rfl, rfl, fun _ h => h, fun _ h => .inl h, List.prefix_refl _, fun _ h => .inl h, fun _ _ h _ => h⟩
theorem Nx.trk (n : Nx g g' H H') (S' : Sim K g' st' H') {a : Addr} (h : H' a = none) : H a = none := by
  cases q : H a with
  | none => rfl
  | some o =>
    by_cases hr : a ∈ g.r
    · obtain ⟨vs, e⟩ := S'.tr (n.pre.subset hr); rw [e] at h; cases h
    · rw [n.fr a o q hr] at h; cases h
theorem Nx.trans (n1 : Nx g g1 H H1) (S1 : Sim K g1 st1 H1) (n2 : Nx g1 g2 H1 H2) : Nx g g2 H H2 where
  e := n2.e.trans n1.e
  s := n2.s.trans n1.s
  h0 := n2.h0.trans n1.h0
  r0 := n2.r0.trans n1.r0
  B := fun a h => n2.B a (n1.B a h)
  bn := fun a h => by
    rcases n2.bn a h with h | h
    · exact n1.bn a h
    · exact .inr (n1.trk S1 h)
  pre := n1.pre.trans n2.pre
  rn := fun a h => by
    rcases n2.rn a h with h | h
    · exact n1.rn a h
    · exact .inr (n1.trk S1 h)
  fr := fun a o e hr => n2.fr a o (n1.fr a o e hr) fun h => by
    rcases n1.rn a h with h | h
    · exact hr h
    · rw [e] at h; cases h
theorem Nx.pr (n : Nx g g' H H') {a : Addr} (h : g'.Pr a) : g.Pr a ∨ H a = none := by
  rcases h with h | h | ⟨i, x, h1, h2⟩
  · exact (n.bn a h).imp .inl id
  · exact (n.rn a h).imp (fun h => .inr (.inl h)) id
  · rw [n.e] at h1; rw [n.s] at h2; exact .inl (.inr (.inr ⟨i, x, h1, h2⟩))
theorem Nx.keep (n : Nx g g' H H') (S : Sim K g st H) : Keep g.Pr H g'.Pr H' where
  k := fun a o e h => ⟨n.fr a o e fun q => h (.inr (.inl q)), fun q => by
    rcases n.pr q with q | q
    · exact h q
    · rw [e] at q; cases q⟩
  t := fun a xs h => by
    have hr : a ∉ g.r := fun q => by
      obtain ⟨vs, e⟩ := S.tr q
      rcases h with h | ⟨o, h⟩
      · rw [e] at h; cases h
      · rw [e] at h; cases h
    rcases h with h | ⟨o, h⟩
    · exact .inl (n.fr a _ h hr)
    · exact .inr ⟨o, n.fr a _ h hr⟩
theorem RepK.keep (n : Nx g g' H H') (S : Sim K g st H) {v : V} {x : PV} (h : RepK K g H v x) : RepK K g' H' v x := by
  cases x with
  | d x => exact RD.keep (n.keep S) h
  | ref k =>
    obtain ⟨a, e, q⟩ := h
    refine ⟨a, e, ?_⟩
    obtain ⟨t, ht⟩ := n.pre
    rw [← ht, List.getElem?_append_left (List.getElem?_eq_some_iff.mp q).1]
    exact q
  | ty k => exact h
  | fre _ => exact h
  | bor _ => exact h
  | fn _ => exact h
theorem Rep.keep (n : Nx g g' H H') (S : Sim K g st H) {Bo : Addr → Prop} {v : V} {x : PV} (h : Rep K g Bo H v x) : Rep K g' Bo H' v x := by
  cases x with
  | fre x =>
    obtain ⟨a, e, o, hb, hn, h0⟩ := h
    obtain ⟨ds, vs, rfl, o1, o2⟩ := o.is
    exact ⟨a, e, ⟨vs, n.fr a _ o1 fun q => S.rB a q hb, o2.keep (n.keep S)⟩, n.B a hb, hn, by rw [n.h0]; exact h0⟩
  | bor x =>
    obtain ⟨i, a, e, h1, h2⟩ := h
    exact ⟨i, a, e, by rw [n.e]; exact h1, by rw [n.s]; exact h2⟩
  | d x => exact RepK.keep n S (x := .d x) h
  | ref k => exact RepK.keep n S (x := .ref k) h
  | ty k => exact RepK.keep n S (x := .ty k) h
  | fn _ => exact h
theorem Rep.mono {Bo Bo' : Addr → Prop} (hb : ∀ a, Bo' a → Bo a) {v : V} {x : PV} (h : Rep K g Bo H v x) : Rep K g Bo' H v x := by
  cases x with
  | fre x => obtain ⟨a, e, o, h1, h2, h3⟩ := h; exact ⟨a, e, o, h1, fun q => h2 (hb a q), h3⟩
  | bor x => exact h
  | d x => exact h
  | ref k => exact h
  | ty k => exact h
  | fn _ => exact h
/-- fewer private addresses -/
def Gs.wB (g : Gs) (B : Addr → Prop) : Gs := { g with B := B }
theorem Gs.wB_pr {B : Addr → Prop} (hb : ∀ a, B a → g.B a) {a : Addr} (h : (g.wB B).Pr a) : g.Pr a := by
  rcases h with h | h
  · exact .inl (hb a h)
  · exact .inr h
theorem RepK.weak {B : Addr → Prop} (hb : ∀ a, B a → g.B a) {v : V} {x : PV} (h : RepK K g H v x) : RepK K (g.wB B) H v x := by
  cases x with
  | d x => exact RD.keep (.anti fun _ q => Gs.wB_pr hb q) h
  | ref k => exact h
  | ty k => exact h
  | fre _ => exact h
  | bor _ => exact h
  | fn _ => exact h
theorem OwnAt.weak {B : Addr → Prop} (hb : ∀ a, B a → g.B a) {a : Addr} {x : PyData} (h : OwnAt K g H a x) : OwnAt K (g.wB B) H a x := by
  obtain ⟨ds, vs, rfl, o1, o2⟩ := h.is
  exact ⟨vs, o1, o2.keep (.anti fun _ q => Gs.wB_pr hb q)⟩
theorem Paired.imp {α β : Type} {F G : α → β → Prop} (f : ∀ a b, F a b → G a b) : ∀ {l₁ : List α} {l₂ : List β}, Paired F l₁ l₂ → Paired G l₁ l₂
  | _, _, .nil => .nil
  | _, _, .cons r t => .cons (f _ _ r) (Paired.imp f t)
theorem ObAt.weak {B : Addr → Prop} (hb : ∀ a, B a → g.B a) {a : Addr} {o : Ob} (h : ObAt K g H a o) : ObAt K (g.wB B) H a o := by
  cases o with
  | lst xs => obtain ⟨vs, h1, h2⟩ := h; exact ⟨vs, h1, Paired.imp (fun _ _ q => RepK.weak hb q) h2⟩
theorem Sim.weak {B : Addr → Prop} (S : Sim K g st H) (hb : ∀ a, B a → g.B a) : Sim K (g.wB B) st H where
  len := S.len
  val := fun i x h => let ⟨v, h1, h2⟩ := S.val i x h; ⟨v, h1, h2.weak hb⟩
  own := fun i x h => let ⟨a, h1, h2, h3, h4, h5⟩ := S.own i x h; ⟨a, h1, h2.weak hb, fun q => h3 (hb a q), h4, h5⟩
  inj := S.inj
  slen := S.slen
  sto := fun n o h => let ⟨a, h1, h2⟩ := S.sto n o h; ⟨a, h1, h2.weak hb⟩
  rB := fun a h q => S.rB a h (hb a q)
  nd := S.nd
  bt := fun a h => S.bt a (hb a h)
  pre := S.pre
  new := S.new
  fr := S.fr
theorem Nx.weak (n : Nx g g' H H') : Nx g (g'.wB g.B) H H' := ⟨n.e, n.s, n.h0, n.r0, fun _ h => h, fun _ h => .inl h, n.pre, n.rn, n.fr⟩
/-- a new object is laid -/
theorem Keep.laid {pr : Addr → Prop} {p : Addr} {o : HO} (hp : H p = none) : Keep pr H pr (upd H p o) where
  k := fun a u e n => ⟨by rw [upd_ne (ne_of_none e hp)]; exact e, n⟩
  t := fun a xs h => by
    rcases h with h | ⟨u, h⟩
    · exact .inl (by rw [upd_ne (ne_of_none h hp)]; exact h)
    · exact .inr ⟨u, by rw [upd_ne (ne_of_none h hp)]; exact h⟩
theorem RepK.laid {p : Addr} {o : HO} (hp : H p = none) {v : V} {x : PV} (h : RepK K g H v x) : RepK K g (upd H p o) v x := by
  cases x with
  | d x => exact RD.keep (.laid hp) h
  | _ => exact h
theorem OwnAt.laid {p a : Addr} {o : HO} (hp : H p = none) {x : PyData} (h : OwnAt K g H a x) : OwnAt K g (upd H p o) a x := by
  obtain ⟨ds, vs, rfl, o1, o2⟩ := h.is
  exact ⟨vs, by rw [upd_ne (ne_of_none o1 hp)]; exact o1, o2.keep (.laid hp)⟩
theorem ObAt.laid {p a : Addr} {u : HO} (hp : H p = none) {o : Ob} (h : ObAt K g H a o) : ObAt K g (upd H p u) a o := by
  cases o with
  | lst xs => obtain ⟨vs, h1, h2⟩ := h; exact ⟨vs, by rw [upd_ne (ne_of_none h1 hp)]; exact h1, Paired.imp (fun _ _ q => RepK.laid hp q) h2⟩
theorem Sim.laid {p : Addr} {o : HO} (S : Sim K g st H) (hp : H p = none) : Sim K g st (upd H p o) where
  len := S.len
  val := fun i x h => let ⟨v, h1, h2⟩ := S.val i x h; ⟨v, h1, h2.laid hp⟩
  own := fun i x h => let ⟨a, h1, h2, h3⟩ := S.own i x h; ⟨a, h1, h2.laid hp, h3⟩
  inj := S.inj
  slen := S.slen
  sto := fun n o h => let ⟨a, h1, h2⟩ := S.sto n o h; ⟨a, h1, h2.laid hp⟩
  rB := S.rB
  nd := S.nd
  bt := fun a h q => S.bt a h (by
    unfold upd at q
    split at q
    · cases q
    · exact q)
  pre := S.pre
  new := S.new
  fr := fun a u e h => by
    have := S.fr a u e h
    rw [upd_ne (ne_of_none this hp)]; exact this
theorem Nx.laid {p : Addr} {o : HO} (n : Nx g g' H H') (S' : Sim K g' st' H') (hp : H' p = none) : Nx g g' H (upd H' p o) :=
  ⟨n.e, n.s, n.h0, n.r0, n.B, n.bn, n.pre, n.rn, fun a u e h => by
    have := n.fr a u e h
    rw [upd_ne (ne_of_none this hp)]; exact this⟩
/-- .. known to nobody -/
def Gs.aB (g : Gs) (p : Addr) : Gs := { g with B := fun a => g.B a ∨ a = p }
theorem Gs.aB_pr {p a : Addr} (h : (g.aB p).Pr a) : g.Pr a ∨ a = p := by
  rcases h with (h | h) | h
  · exact .inl (.inl h)
  · exact .inr h
  · exact .inl (.inr h)
theorem Keep.fresh {p : Addr} {o : HO} (hp : H p = none) : Keep g.Pr H (g.aB p).Pr (upd H p o) where
  k := fun a u e n => ⟨by rw [upd_ne (ne_of_none e hp)]; exact e, fun q => by
    rcases Gs.aB_pr q with q | q
    · exact n q
    · exact ne_of_none e hp q⟩
  t := (Keep.laid (pr := g.Pr) hp).t
theorem RepK.fresh {p : Addr} {o : HO} (hp : H p = none) {v : V} {x : PV} (h : RepK K g H v x) : RepK K (g.aB p) (upd H p o) v x := by
  cases x with
  | d x => exact RD.keep (.fresh hp) h
  | _ => exact h
theorem OwnAt.fresh {p a : Addr} {o : HO} (hp : H p = none) {x : PyData} (h : OwnAt K g H a x) : OwnAt K (g.aB p) (upd H p o) a x := by
  obtain ⟨ds, vs, rfl, o1, o2⟩ := h.is
  exact ⟨vs, by rw [upd_ne (ne_of_none o1 hp)]; exact o1, o2.keep (.fresh hp)⟩
theorem ObAt.fresh {p a : Addr} {u : HO} (hp : H p = none) {o : Ob} (h : ObAt K g H a o) : ObAt K (g.aB p) (upd H p u) a o := by
  cases o with
  | lst xs => obtain ⟨vs, h1, h2⟩ := h; exact ⟨vs, by rw [upd_ne (ne_of_none h1 hp)]; exact h1, Paired.imp (fun _ _ q => RepK.fresh hp q) h2⟩
theorem Sim.fresh {p : Addr} {o : HO} (S : Sim K g st H) (hp : H p = none) : Sim K (g.aB p) st (upd H p o) where
  len := S.len
  val := fun i x h => let ⟨v, h1, h2⟩ := S.val i x h; ⟨v, h1, h2.fresh hp⟩
  own := fun i x h => by
    obtain ⟨a, h1, h2, h3, h4⟩ := S.own i x h
    obtain ⟨_, vs, _, e, _⟩ := h2.is
    exact ⟨a, h1, h2.fresh hp, fun q => q.elim h3 fun q => ne_of_none e hp q, h4⟩
  inj := S.inj
  slen := S.slen
  sto := fun n o h => let ⟨a, h1, h2⟩ := S.sto n o h; ⟨a, h1, h2.fresh hp⟩
  rB := fun a h q => q.elim (S.rB a h) fun q => by
    obtain ⟨vs, e⟩ := S.tr h
    exact ne_of_none e hp q
  nd := S.nd
  bt := fun a h q => by
    unfold upd at q
    split at q
    · cases q
    · rename_i hne
      exact h.elim (fun h => S.bt a h q) fun h => hne h
  pre := S.pre
  new := S.new
  fr := (S.laid hp).fr
theorem Nx.fresh {p : Addr} {o : HO} (n : Nx g g' H H') (S' : Sim K g' st' H') (hp : H' p = none) : Nx g (g'.aB p) H (upd H' p o) :=
  ⟨n.e, n.s, n.h0, n.r0, fun a h => .inl (n.B a h), fun a h => h.elim (n.bn a) fun h => .inr (by subst h; exact n.trk S' hp), n.pre, n.rn, (n.laid S' hp).fr⟩
/-- an address that is free now was free at the entry -/
theorem Sim.h0 (S : Sim K g st H) {a : Addr} (h : H a = none) : g.H0 a = none := by
  cases q : g.H0 a with
  | none => rfl
  | some o =>
    by_cases hr : a ∈ g.r0
    · obtain ⟨vs, e⟩ := S.tr (S.pre.subset hr); rw [e] at h; cases h
    · rw [S.fr a o q hr] at h; cases h
/-- the values, read -/
theorem allD_eq : ∀ {xs : List PV} {ds : List PyData} {vs : List V}, allD xs = some ds → Paired (RepK K g H) vs xs → RDs K g.Pr H vs ds
  | [], ds, _, h, .nil => by simp [allD] at h; subst h; exact .nil
  | .d x :: r, ds, _, h, .cons p q => by
    simp only [allD, Option.map_eq_some_iff] at h
    obtain ⟨ms, h1, rfl⟩ := h
    exact .cons p (allD_eq h1 q)
  | .fre _ :: _, _, _, h, _ => by simp [allD] at h
  | .bor _ :: _, _, _, h, _ => by simp [allD] at h
  | .ref _ :: _, _, _, h, _ => by simp [allD] at h
  | .ty _ :: _, _, _, h, _ => by simp [allD] at h
  | .fn _ :: _, _, _, h, _ => by simp [allD] at h
/-- a datum read: the top as it stands, what lies within is kept -/
def RT (K : PySem.W.Frag) (pr : Addr → Prop) (H : Hp) (v : V) : PyData → Prop
  | .list ds => ∃ a xs, v = .ref a ∧ SqL K H a xs ∧ RDs K pr H xs ds
  | .tuple ds => ∃ a xs, v = .ref a ∧ SqT K H a xs ∧ RDs K pr H xs ds
  | x => RD K pr H v x
theorem RD.rt {pr : Addr → Prop} {v : V} {x : PyData} (h : RD K pr H v x) : RT K pr H v x := by
  cases x with
  | list ds => exact h.isL
  | tuple ds => exact h.isT
  | _ => exact h
theorem RT.q {pr : Addr → Prop} {v : V} {x : PyData} (h : RT K pr H v x) : RD K nopr H v x := by
  cases x with
  | list ds =>
    obtain ⟨a, xs, rfl, h | h, r⟩ := h
    · exact .lst h id r.q
    · exact .lstK h r.q
  | tuple ds =>
    obtain ⟨a, xs, rfl, h, r⟩ := h
    exact .tup h r.q
  | _ => exact RD.q h
theorem RT.keep {pr pr' : Addr → Prop} {v : V} {x : PyData} (hp : ∀ a, pr' a → pr a) (h : RT K pr H v x) : RT K pr' H v x := by
  cases x with
  | list ds => obtain ⟨a, xs, e, h, r⟩ := h; exact ⟨a, xs, e, h, r.keep (.anti hp)⟩
  | tuple ds => obtain ⟨a, xs, e, h, r⟩ := h; exact ⟨a, xs, e, h, r.keep (.anti hp)⟩
  | _ => exact RD.keep (.anti hp) h
theorem Rep.rt (S : Sim K g st H) {Bo : Addr → Prop} {v : V} {x : PV} {d : PyData} (h : Rep K g Bo H v x) (e : rd x st = some d) : RT K g.Pr H v d := by
  cases x with
  | d x => cases e; exact RD.rt h
  | fre x =>
    cases e
    obtain ⟨a, rfl, o, _⟩ := h
    obtain ⟨ds, vs, rfl, o1, o2⟩ := o.is
    exact ⟨a, vs, rfl, .inl (.inl o1), o2⟩
  | bor x =>
    cases e
    obtain ⟨i, a, rfl, h1, h2⟩ := h
    obtain ⟨b, h3, o, _⟩ := S.own i _ h1
    rw [h2] at h3; cases h3
    obtain ⟨ds, vs, rfl, o1, o2⟩ := o.is
    exact ⟨a, vs, rfl, .inl (.inl o1), o2⟩
  | ref n =>
    obtain ⟨a, rfl, hn⟩ := h
    simp only [Ev.rd] at e
    cases q : st[n]? with
    | none => rw [q] at e; cases e
    | some o =>
      rw [q] at e
      obtain ⟨b, hb, ob⟩ := S.sto n o q
      rw [hn] at hb; cases hb
      cases o with
      | lst xs =>
        obtain ⟨vs, h1, h2⟩ := ob
        simp only [Option.map_eq_some_iff] at e
        obtain ⟨ds, e1, rfl⟩ := e
        exact ⟨a, vs, rfl, .inl (.inl h1), allD_eq e1 h2⟩
  | ty n => cases e
  | fn n => cases e
/-- .. and kept -/
theorem Rep.asD (n : Nx g g' H H') {v : V} {x : PV} {d : PyData} (S' : Sim K g' st' H') (h : Rep K g' g.B H' v x) (e : asD x = some d) : RD K (g'.wB g.B).Pr H' v d := by
  cases x with
  | d x => cases e; exact RD.keep (.anti fun _ q => Gs.wB_pr n.B q) h
  | fre x =>
    cases e
    obtain ⟨a, rfl, o, hb, hn, h0⟩ := h
    obtain ⟨ds, vs, rfl, o1, o2⟩ := o.is
    refine .lst (.inl o1) ?_ (o2.keep (.anti fun _ q => Gs.wB_pr n.B q))
    rintro (q | q | ⟨i, x, q1, q2⟩)
    · exact hn q
    · exact S'.rB a q hb
    · obtain ⟨b, h1, _, h2, _⟩ := S'.own i x q1
      have q2 : g'.s[i]? = some (some (.ref a)) := q2
      rw [q2] at h1; cases h1
      exact h2 hb
  | bor x => cases e
  | ref n => cases e
  | ty n => cases e
  | fn n => cases e
theorem Rep.asR (n : Nx g g' H H') {v : V} {x y : PV} (S' : Sim K g' st' H') (h : Rep K g' g.B H' v x) (e : asR x = some y) : RepK K (g'.wB g.B) H' v y := by
  cases x with
  | d x => cases e; exact Rep.asD n S' (x := .d x) h rfl
  | fre x => cases e; exact Rep.asD n S' (x := .fre x) h rfl
  | bor x => cases e
  | ref n => cases e; exact h
  | ty n => cases e
  | fn n => cases e
end
end Ev

set_option maxRecDepth 100000
/-! Ev3: operators and builtins by values. -/
namespace Ev
open PySem L2 PySem.W PyProof.Rows PySem.SeqAt

/-- what is wanted of a value, from a state on -/
def Fin (K : PySem.W.Frag) (g : Gs) (st : Sto) (H : Hp) (v : PV) (Q : VK) : Prop := ∀ g' H' w, Nx g g' H H' → Sim K g' st H' → Rep K g' g.B H' w v → Q w H'
section
variable {K : PySem.W.Frag} {g : Gs} {st : Sto} {H : Hp} {Q : VK}
theorem Fin.val (F : Fin K g st H (.d x) Q) (S : Sim K g st H) {v : V} (h : RD K g.Pr H v x) : Q v H := F g H v Nx.refl S h
theorem Fin.int {i : Int} (F : Fin K g st H (.d (.int i)) Q) (S : Sim K g st H) : Q (.int i) H := F.val S (.int i)
theorem Fin.bl {i : Bool} (F : Fin K g st H (.d (.bool i)) Q) (S : Sim K g st H) : Q (.bl i) H := F.val S (.bl i)
theorem Fin.tup {ds : List PyData} {vs : List V} (F : Fin K g st H (.d (.tuple ds)) Q) (S : Sim K g st H) (r : RDs K g.Pr H vs ds) : ∀ p, H p = none → Q (.ref p) (upd H p (.tup vs)) := fun p hp =>
  F g _ _ (Nx.refl.laid S hp) (S.laid hp) (show RD _ _ _ _ _ from .tup (.inl (.inl upd_same)) (r.keep (.laid hp)))
theorem Fin.lst {ds : List PyData} {vs : List V} (F : Fin K g st H (.fre (.list ds)) Q) (S : Sim K g st H) (r : RDs K g.Pr H vs ds) : ∀ p, H p = none → Q (.ref p) (upd H p (.lst vs)) := fun p hp =>
  F _ _ _ (Nx.refl.fresh S hp) (S.fresh hp) ⟨p, rfl, ⟨vs, upd_same, r.keep (.fresh hp)⟩, .inr rfl, fun q => S.bt p q hp, S.h0 hp⟩
end

/-! ### more rules by values -/
section
variable {X : Cx}
theorem op_catG : OpR X (binaryOp .Add) (fun x y H Q => ∃ l b xs zs, x = .ref l ∧ y = .ref b ∧ SqL X.K H l xs ∧ SqL X.K H b zs ∧ xs.length + zs.length ≤ sizeLine ∧ ∀ p, H p = none → Q (.ref p) (upd H p (.lst (xs ++ zs)))) := by
  intro pins s σ H x y v u Q I rx ry h
  obtain ⟨l, b, xs, zs, rfl, rfl, hH, hB, hz, q⟩ := h
  cases rx
  cases ry
  obtain ⟨its, r, pl, z⟩ := I.list hH
  obtain ⟨its2, r2, pl2, z2⟩ := I.list hB
  obtain ⟨⟨cls, dd, data, sl⟩, ho, hc, n, hd⟩ := pl.isList
  obtain ⟨⟨cls2, dd2, data2, sl2⟩, ho2, hc2, n2, hd2⟩ := pl2.isList
  simp only at hc hd hc2 hd2
  subst hc hd hc2 hd2
  have e : its.toArray ++ its2.toArray = (its ++ its2).toArray := by simp
  have e1 := r.length
  have e2 := r2.length
  refine concat_meets ⟨_, ho, rfl⟩ ⟨_, ho2, rfl⟩ noFill_list_add seq_list_add PySem.F.slot_list_add PySem.F.entry_list_add (PySem.F.args_list_add_2 _ _) (list_addW l b its.toArray its2.toArray n n2 dd dd2 sl sl2 (by simp; omega)) ⟨ho, ho2, ?_⟩
  rw [e]
  exact ⟨.ref _, _, I.lnew (t' := s.toks) (r.append r2) (by rw [List.length_append]; omega), rfl, q _ I.fresh⟩
theorem op_repG : OpR X (binaryOp .Mult) (fun x y H Q => ∃ l k xs, x = .ref l ∧ y = .int k ∧ SqL X.K H l xs ∧ -(2 ^ 63) ≤ k ∧ k < 2 ^ 63 ∧ xs.length * k.toNat ≤ sizeLine ∧
    ∀ p, H p = none → Q (.ref p) (upd H p (.lst (List.replicate k.toNat xs).flatten))) := by
  intro pins s σ H x y v u Q I rx ry h
  obtain ⟨l, k, xs, rfl, rfl, hH, h1, h2, hz, q⟩ := h
  cases rx
  obtain ⟨t, rfl⟩ := ry
  obtain ⟨its, r, pl, z⟩ := I.list hH
  obtain ⟨⟨cls, dd, data, sl⟩, ho, hc, n, hd⟩ := pl.isList
  simp only at hc hd
  subst hc hd
  have e1 := r.length
  have hsz' : its.toArray.size * k.toNat ≤ 2 ^ 24 := by rw [List.size_toArray, ← e1]; exact hz
  refine wpAny_binaryOp_repeat_ref (T := "list") (U := "int") (by decide) ⟨_, ho, rfl⟩ (fun s' => typeIs_int s' k t) noFill_list_mul PySem.F.fills_int_mul PySem.F.slot_int_rmul repeat_list PySem.F.slot_int_index.lookup
    (call_meets PySem.F.slot_int_rmul (typeIs_int s k t) PySem.F.entry_int_rmul (PySem.F.args_int_rmul_2 _ _) (lm_int_rmul_list_any k t l its.toArray n dd sl)
      ⟨ho, rfl, ⟨_, ho, rfl⟩, call_meets PySem.F.slot_list_mul ⟨_, ho, rfl⟩ PySem.F.entry_list_mul (PySem.F.args_list_mul_2 _ _)
        (lm_list_mul_any l its.toArray n dd sl k t (by simp [Builtin.List.listFitsIndex]; omega) (by simp at hsz' ⊢; omega) (by simp [Builtin.List.listTooLong, sizeLine]; simp at hsz'; omega))
        ⟨ho, ?_⟩⟩)
  rw [show (List.foldl (fun x1 x2 => x1 ++ x2) #[] (List.replicate (if its.toArray.isEmpty = true then 0 else k.toNat) its.toArray)) = (List.replicate k.toNat its).flatten.toArray from listMul_foldl_if _ _]
  exact ⟨.ref _, _, I.lnew (t' := s.toks) (r.rep k.toNat) (by rw [PyProof.Rows.lm_len_rep_flat, Nat.mul_comm]; exact hz), rfl, q _ I.fresh⟩

/-- comparisons of data that are read -/
theorem op_dat {op : CmpOp} {f : PyData → PyData → Bool} {C : PyData → PyData → Prop}
    (rule : ∀ (prog : Program) (w : World) (A : Around) (E : Value → Shared → Prop) (s : Shared) (a b : Value) (da db : PyData) (as bs : List Addr) (Q : Value → Shared → Prop), A.units + 70 < cLine → C da db →
      Reads s.heap a da as → Reads s.heap b db bs → Q (.bool (f da db)) s → wpAny (model prog w) A (compareOp op a b) Q E s) (hu : X.A.units + 70 < cLine) :
    OpR X (compareOp op) (fun x y H Q => ∃ d e, RD X.K nopr H x d ∧ RD X.K nopr H y e ∧ C d e ∧ Q (.bl (f d e)) H) := by
  intro pins s σ H x y v u Q I rx ry h
  obtain ⟨d, e, h1, h2, hc, q⟩ := h
  obtain ⟨as, r1⟩ := Dp.reads I d x v h1.dp rx
  obtain ⟨bs, r2⟩ := Dp.reads I e y u h2.dp ry
  exact rule _ _ _ _ s v u d e as bs _ hu hc r1 r2 ⟨.bl _, H, I, rfl, q⟩
def CEq (d e : PyData) : Prop := d.plain = true ∧ e.plain = true ∧ d.depth ≤ 60
theorem op_eqP (hu : X.A.units + 70 < cLine) : OpR X (compareOp .Eq) (fun x y H Q => ∃ d e, RD X.K nopr H x d ∧ RD X.K nopr H y e ∧ CEq d e ∧ Q (.bl (PyData.eqv d e)) H) :=
  op_dat (fun _ _ A _ _ _ _ da db _ _ _ hu hc r1 r2 q => eq_plain r1 r2 hc.1 hc.2.1 (by have := hc.2.2; have := Nat.min_le_left da.depth db.depth; omega) q) hu
theorem op_neP (hu : X.A.units + 70 < cLine) : OpR X (compareOp .NotEq) (fun x y H Q => ∃ d e, RD X.K nopr H x d ∧ RD X.K nopr H y e ∧ CEq d e ∧ Q (.bl (!PyData.eqv d e)) H) :=
  op_dat (fun _ _ A _ _ _ _ da db _ _ _ hu hc r1 r2 q => ne_plain r1 r2 hc.1 hc.2.1 (by have := hc.2.2; have := Nat.min_le_left da.depth db.depth; omega) q) hu
def CLt (d e : PyData) : Prop := alike d e = true ∧ d ≠ .none ∧ d.depth ≤ 60
def CGt (d e : PyData) : Prop := alike d e = true ∧ d ≠ .none ∧ e.depth ≤ 60
theorem op_ltP (hu : X.A.units + 70 < cLine) : OpR X (compareOp .Lt) (fun x y H Q => ∃ d e, RD X.K nopr H x d ∧ RD X.K nopr H y e ∧ CLt d e ∧ Q (.bl (dataLt d e)) H) :=
  op_dat (fun _ _ A _ _ _ _ da db _ _ _ hu hc r1 r2 q => lt_data r1 r2 hc.1 hc.2.1 (by have := hc.2.2; have := Nat.min_le_left da.depth db.depth; omega) q) hu
theorem op_gtP (hu : X.A.units + 70 < cLine) : OpR X (compareOp .Gt) (fun x y H Q => ∃ d e, RD X.K nopr H x d ∧ RD X.K nopr H y e ∧ CGt d e ∧ Q (.bl (dataLt e d)) H) :=
  op_dat (fun _ _ A _ _ _ _ da db _ _ _ hu hc r1 r2 q => gt_data r1 r2 hc.1 hc.2.1 (by have := hc.2.2; have := Nat.min_le_right da.depth db.depth; omega) q) hu
def CIn (d e : PyData) : Prop := d.plain = true ∧ d.depth ≤ 60 ∧ ∃ ys, (e = .list ys ∨ e = .tuple ys) ∧ PyData.plainAll ys = true
def fIn (d e : PyData) : Bool := match e with
  | .list ys => ys.any fun y => PyData.eqv y d
  | .tuple ys => ys.any fun y => PyData.eqv y d
  | _ => false
theorem op_inP (hu : X.A.units + 70 < cLine) : OpR X (compareOp .In) (fun x y H Q => ∃ d e, RD X.K nopr H x d ∧ RD X.K nopr H y e ∧ CIn d e ∧ Q (.bl (fIn d e)) H) :=
  op_dat (fun _ _ A _ _ _ _ da db _ _ _ hu hc r1 r2 q => by
    obtain ⟨h1, h2, ys, rfl | rfl, h3⟩ := hc
    · exact in_list_data r2 r1 h3 h1 (by have := Nat.min_le_right (PyData.depthAll ys) da.depth; omega) q
    · exact in_tuple_data r2 r1 h3 h1 (by have := Nat.min_le_right (PyData.depthAll ys) da.depth; omega) q) hu
theorem op_notinP (hu : X.A.units + 70 < cLine) : OpR X (compareOp .NotIn) (fun x y H Q => ∃ d e, RD X.K nopr H x d ∧ RD X.K nopr H y e ∧ CIn d e ∧ Q (.bl (!fIn d e)) H) :=
  op_dat (f := fun d e => !fIn d e) (fun _ _ A _ _ _ _ da db _ _ _ hu hc r1 r2 q => by
    obtain ⟨h1, h2, ys, rfl | rfl, h3⟩ := hc
    · exact notIn_list_data r2 r1 h3 h1 (by have := Nat.min_le_right (PyData.depthAll ys) da.depth; omega) q
    · exact notIn_tuple_data r2 r1 h3 h1 (by have := Nat.min_le_right (PyData.depthAll ys) da.depth; omega) q) hu
theorem rel_none {v : V} {x : PyData} {H : Hp} {pr : Addr → Prop} {K : PySem.W.Frag} (h : RD K pr H v x) : decide (v = .non) = isNone x := by
  cases h <;> rfl
end
end Ev

set_option maxRecDepth 100000
/-! Ev4: builtins by values, over data. -/
namespace Ev
open PySem L2 PySem.W PyProof.Rows PySem.SeqAt

mutual
theorem alike_plain : ∀ d : PyData, alike d d = true → d.plain = true
  | .none, _ => rfl
  | .bool _, _ => rfl
  | .int _, _ => rfl
  | .str _, _ => rfl
  | .list xs, h => by rw [PyData.plain]; exact alikes_plain xs (by simpa [alike] using h)
  | .tuple xs, h => by rw [PyData.plain]; exact alikes_plain xs (by simpa [alike] using h)
  | .dict _, h => by simp [alike] at h
theorem alikes_plain : ∀ d : List PyData, alikeAll d d = true → PyData.plainAll d = true
  | [], _ => rfl
  | x :: xs, h => by
    have h' := alike_all_cons h
    rw [PyData.plainAll, alike_plain x h'.1, alikes_plain xs h'.2]; rfl
end
/-- iter over a tuple, collected -/
theorem collect_tuple {prog : Program} {w : World} {A : Around} {E : Value → Shared → Prop} {s : Shared} {l : Addr} {vs : List Value} {Q : List Value → Shared → Prop} (hl : s.heap.IsTuple l vs.toArray)
    (h : Q vs { s with heap := (s.heap.push (seqObj "list" #[] 0)).update s.heap.objs.size (Obj.mapSeq (· ++ vs.toArray)) }) (hsz : vs.length ≤ sizeLine) :
    wpAny (model prog w) A (collect (.ref l)) Q E s := by
  obtain ⟨o, ho, hc, n, hd⟩ := id hl
  unfold collect
  refine wpAny_bind (wpAny_runValue (codeAny_builtin entry_proto_collect' ?_))
  show wpAny _ _ (do again (.builtin "list.__iadd__" ⟨[← newList [], .ref l], []⟩)) _ _ s
  refine wpAny_bind (wpAny_newList (wpAny_pure ⟨Code.quiet_builtin _ (by decide +kernel), codeAny_builtin entry_list_iadd' ?_⟩))
  show wpAny _ _ (Builtin.List.listExtendWith (.ref s.heap.objs.size) (.ref l) (.ref s.heap.objs.size)) _ _ { s with heap := s.heap.push (seqObj "list" #[] 0) }
  unfold Builtin.List.listExtendWith
  have ho' : (s.heap.push (seqObj "list" #[] 0)).get? l = some o := Heap.get?_push_of_some _ ho
  refine wpAny_bind (wpAny_typeOf (T := "tuple") ⟨o, ho', hc⟩ ?_)
  have ht : (Value.type "tuple" == Value.type "tuple") = true := by rfl
  rw [if_pos (by rw [ht]; simp)]
  refine wpAny_bind (listItems_at ho' hd ?_)
  refine wpAny_bind (listItems_at (xs := #[]) (n := 0) (Heap.get?_push_size _ rfl) rfl ?_)
  rw [if_neg (by simp)]
  refine wpAny_bind (listUpdate_at (xs := #[]) (n := 0) (Heap.get?_push_size _ rfl) rfl ?_ (Nat.zero_le _) (by show (#[] ++ vs.toArray).size ≤ sizeLine + 1; simp only [Array.size_append, List.size_toArray, List.length_nil]; omega))
  refine wpAny_pure ?_
  show wpAny (model prog w) A (do
      let o ← load s.heap.objs.size
      match o.data with
      | .seq xs _ => pure xs.toList
      | _ => unsupported "internal:collect") Q E { s with heap := (s.heap.push (seqObj "list" #[] 0)).update s.heap.objs.size (Obj.mapSeq (· ++ vs.toArray)) }
  refine wpAny_bind (wpAny_load (get?_update_seq (Heap.get?_push_size _ rfl) _) ?_)
  show wpAny _ _ (pure ((#[] : Array Value) ++ vs.toArray).toList) Q E _
  rw [show ((#[] : Array Value) ++ vs.toArray).toList = vs by simp]
  exact wpAny_pure h
theorem sorted_of_sortT {prog : Program} {w : World} {A : Around} {E : Value → Shared → Prop} {s : Shared} {l : Addr} {vs : List Value} {kw : List (Str × Value)} {Q : Value → Shared → Prop} (hl : s.heap.IsTuple l vs.toArray) (hL : vs.length ≤ sizeLine) (ha1 : argsOk "sorted" ⟨[.ref l], kw⟩) (ha2 : ∀ x, argsOk "list.sort" ⟨[.ref x], kw⟩)
    (body : ∀ E' : Value → Shared → Prop, wpAny (model prog w) A.in1.in1 (Builtin.«list.sort» ⟨[.ref (s.heap.objs.size + 1)], kw⟩) (fun f s' => f = .done (.ret .none) ∧ Q (.ref (s.heap.objs.size + 1)) s') E' { s with heap := copyHeap s.heap vs }) :
    wpAny (model prog w) A (call (.builtin "sorted") [.ref l] kw) Q E s := by
  refine call_function_entry_kw kind_sorted plain_sorted entry_sorted ha1 ?_
  unfold Builtin.«sorted»
  refine wpAny_bind (m := checkCount "sorted" 1 1 _) (wpAny_pure ?_)
  refine wpAny_bind (collect_tuple hl ?_ hL)
  refine wpAny_bind (wpAny_newList ?_ hL)
  have hsz : ((s.heap.push (seqObj "list" #[] 0)).update s.heap.objs.size (Obj.mapSeq (· ++ vs.toArray))).objs.size = s.heap.objs.size + 1 := by
    rw [Heap.size_update, size_push']
  show wpAny _ _ _ _ _ { s with heap := copyHeap s.heap vs }
  rw [hsz]
  refine wpAny_bind (wpAny_holding (wpAny_call_entry_kw slot_list_sort ⟨_, copyHeap_at s.heap vs, rfl⟩ entry_list_sort ?body (ha2 _)))
  case body =>
    show wpAny (model prog w) A.in1.in1 (Builtin.«list.sort» ⟨[.ref (s.heap.objs.size + 1)], kw⟩) _ _ _
    refine wpAny_mono (body _) (fun f s' hf => ?_) fun _ _ e => e
    obtain ⟨rfl, hq⟩ := hf
    exact ⟨_, rfl, wpAny_pure ⟨_, rfl, hq⟩⟩
theorem sorted_dataT {prog : Program} {w : World} {A : Around} {E : Value → Shared → Prop} {s : Shared} {β : Type} {vs : List Value} {bs : List β} {enc : β → PyData} {R : Value → β → Prop} {l : Addr} {Q : Value → Shared → Prop} (hl : s.heap.IsTuple l vs.toArray) (e : EachIs R vs bs) (er : EachIs (fun v b => ∃ as, Reads s.heap v (enc b) as) vs bs) (hal : AllAlike (bs.map enc)) (hk : Sortable (bs.map enc)) (hL : bs.length ≤ sizeLine)
    (hu : ∀ b, b ∈ bs → A.units + 2 + (enc b).depth < cLine) (h : ∀ out, out.length = bs.length → EachIs R out (bs.mergeSort (dataLe false enc)) → Q (.ref (s.heap.objs.size + 1)) { s with heap := sortedAll s.heap vs (List.toArray out) }) :
    wpAny (model prog w) A (call (.builtin "sorted") [.ref l]) Q E s := by
  have er' : EachIs (fun v b => ∃ as, Reads (sortingHeap (copyHeap s.heap vs) (s.heap.objs.size + 1) vs) v (enc b) as) vs bs := er.mono fun _ _ ⟨as, r⟩ => ⟨as, PyProof.Rows.Reads.keeps (fun _ _ => sorting_copy_old) r⟩
  refine sorted_of_sortT hl (by rw [e.length]; exact hL) (args_sorted1 _) (fun _ => args_list_sort _) fun _ => list_sort_vals (s := { s with heap := copyHeap s.heap vs }) (copyHeap_at s.heap vs)
    (SortsAt.data (s := { s with heap := sortingHeap (copyHeap s.heap vs) (s.heap.objs.size + 1) vs }) (each_map (R := fun v d => ∃ as, Reads (sortingHeap (copyHeap s.heap vs) (s.heap.objs.size + 1) vs) v d as) enc er') hal hk (bound_map hu)) (by rw [e.length]; exact hL) ⟨rfl, ?_⟩
  exact h _ (by rw [sortVals_length false rfl]; exact e.length) (sortVals_data false e er' hal)

section
variable {X : Cx} {pins : List (Addr × Obj)} {σ : L2.St} {H : Hp} {s : Shared} {pr : Addr → Prop}
/-- a list or a tuple that is read -/
def RSeq (K : PySem.W.Frag) (pr : Addr → Prop) (H : Hp) (v : V) (ds : List PyData) : Prop := RT K pr H v (.list ds) ∨ RT K pr H v (.tuple ds)
theorem itemsD_seq {K : PySem.W.Frag} {v : V} {x : PyData} {ds : List PyData} (h : RT K pr H v x) (e : itemsD x = some ds) : RSeq K pr H v ds := by
  cases x with
  | list xs => cases e; exact .inl h
  | tuple xs => cases e; exact .inr h
  | _ => cases e
theorem seq_reads (I : L2.Inv X pins σ H s) {v : V} {u : Value} {ds : List PyData} (h : RSeq X.K pr H v ds) (r : RelV v u) : ∃ (a : Addr) (xs : List V) (its : List Value) (as : List Addr), u = .ref a ∧ RDs X.K pr H xs ds ∧ Vals xs its ∧ ReadsAll s.heap its ds as ∧ xs.length ≤ sizeLine ∧
    (s.heap.IsList a its.toArray ∨ s.heap.IsTuple a its.toArray) := by
  rcases h with ⟨a, xs, rfl, h, r1⟩ | ⟨a, xs, rfl, h, r1⟩
  · obtain ⟨its, rv, pl, z⟩ := I.list h
    obtain ⟨as, ra⟩ := Dp.readsAll I ds xs its r1.dp rv
    exact ⟨a, xs, its, as, r, r1, rv, ra, z, .inl pl.isList⟩
  · obtain ⟨its, rv, pl, z⟩ := I.tuple h
    obtain ⟨as, ra⟩ := Dp.readsAll I ds xs its r1.dp rv
    exact ⟨a, xs, its, as, r, r1, rv, ra, z, .inr pl⟩
theorem vals_get' : ∀ {xs : List V} {us : List Value} {i : Nat} {u : Value}, Vals xs us → us[i]? = some u → ∃ x, xs[i]? = some x ∧ RelV x u
  | _, _, _, _, .nil, e => by simp at e
  | _, _, 0, _, .cons r _, e => by simp at e; subst e; exact ⟨_, rfl, r⟩
  | _, _, i + 1, u, .cons _ t, e => by
    obtain ⟨x, h1, h2⟩ := vals_get' (i := i) (u := u) t (by simpa using e)
    exact ⟨x, by simpa using h1, h2⟩
theorem pick_data (I : L2.Inv X pins σ H s) {xs : List V} {its : List Value} {ds : List PyData} {bs : List Addr} {i : Nat} {v : Value} {m : PyData} {h' : Heap} (rv : Vals xs its) (r : RDs X.K pr H xs ds)
    (pl : ∀ d ∈ ds, d.plain = true) (hv : its[i]? = some v) (hr : Reads h' v m bs) (hk : ∀ b o, s.heap.get? b = some o → h'.get? b = some o) : ∃ y, RelV y v ∧ RD X.K pr H y m := by
  obtain ⟨y, hy, ry⟩ := vals_get' rv hv
  obtain ⟨d, hd, rd⟩ := r.get' hy
  obtain ⟨cs, rr⟩ := Dp.reads I d y v rd.dp ry
  have e := plain_unique d m v cs bs (pl d (List.mem_of_getElem? hd)) (PyProof.Rows.Reads.keeps hk rr) hr
  subst e
  exact ⟨y, ry, rd⟩
theorem depthAll_le : ∀ {ds : List PyData} {n : Nat}, (∀ d ∈ ds, d.depth ≤ n) → PyData.depthAll ds ≤ n
  | [], _, _ => Nat.zero_le _
  | d :: ds, n, h => by
    rw [PyData.depthAll]
    exact Nat.max_le.mpr ⟨h d List.mem_cons_self, depthAll_le fun e he => h e (List.mem_cons_of_mem _ he)⟩
theorem alikeAllB_spec {ds : List PyData} (h : alikeAllB ds = true) : AlikeAll ds ∧ AllAlike ds ∧ (∀ d ∈ ds, d.plain = true) ∧ (∀ d ∈ ds, d.depth ≤ 60) := by
  unfold alikeAllB at h
  simp only [Bool.and_eq_true, List.all_eq_true, decide_eq_true_eq, Bool.not_eq_true'] at h
  obtain ⟨h1, h2⟩ := h
  refine ⟨⟨fun x hx y hy => h1 x hx y hy, fun x hx e => ?_⟩, fun x hx y hy => h1 x hx y hy, fun d hd => alike_plain d (h1 d hd d hd), fun d hd => (h2 d hd).2⟩
  have := (h2 x hx).1
  rw [e] at this
  simp [isNone] at this
theorem call_maxD (hc : X.calm = true) (hu : X.A.units + 70 < cLine) : CallR X (.builtin "max") (fun vs H Q => ∃ pr x y ds, vs = [x] ∧ RSeq X.K pr H x (y :: ds) ∧ alikeAllB (y :: ds) = true ∧ ∀ v, RD X.K pr H v (maxD y ds) → Q v H) := by
  intro pins s σ H vs us Q I r h
  obtain ⟨pr, x, y, ds, rfl, hs, ha, q⟩ := h
  obtain ⟨u, rfl, rx⟩ := vals1 r
  obtain ⟨a, xs, its, as, rfl, r1, rv, ra, z, hl⟩ := seq_reads I hs rx
  obtain ⟨a1, a2, a3, a4⟩ := alikeAllB_spec ha
  have hd := depthAll_le a4
  have fin : ∀ (i : Nat) (v : Value) (h' : Heap) (tk : Nat) (bs : List Addr), its.toArray[i]? = some v → Reads h' v (maxD y ds) bs → (∀ b o, s.heap.get? b = some o → h'.get? b = some o) → EP X pins σ Q v { s with heap := h', toks := tk } := fun i v h' tk bs hv hr hk => by
    obtain ⟨w, rw', rd⟩ := pick_data I rv r1 a3 (by simpa using hv) hr hk
    exact ⟨w, H, I.kept hk, rw', q w rd⟩
  rcases hl with hl | hl
  · exact max_list_data (I.ok.hd hc) hl ra a1 (by omega) fin
  · exact max_tuple_data (I.ok.hd hc) hl ra a1 (by omega) fin
theorem call_minD (hc : X.calm = true) (hu : X.A.units + 70 < cLine) : CallR X (.builtin "min") (fun vs H Q => ∃ pr x y ds, vs = [x] ∧ RSeq X.K pr H x (y :: ds) ∧ alikeAllB (y :: ds) = true ∧ ∀ v, RD X.K pr H v (minD y ds) → Q v H) := by
  intro pins s σ H vs us Q I r h
  obtain ⟨pr, x, y, ds, rfl, hs, ha, q⟩ := h
  obtain ⟨u, rfl, rx⟩ := vals1 r
  obtain ⟨a, xs, its, as, rfl, r1, rv, ra, z, hl⟩ := seq_reads I hs rx
  obtain ⟨a1, a2, a3, a4⟩ := alikeAllB_spec ha
  have hd := depthAll_le a4
  have fin : ∀ (i : Nat) (v : Value) (h' : Heap) (tk : Nat) (bs : List Addr), its.toArray[i]? = some v → Reads h' v (minD y ds) bs → (∀ b o, s.heap.get? b = some o → h'.get? b = some o) → EP X pins σ Q v { s with heap := h', toks := tk } := fun i v h' tk bs hv hr hk => by
    obtain ⟨w, rw', rd⟩ := pick_data I rv r1 a3 (by simpa using hv) hr hk
    exact ⟨w, H, I.kept hk, rw', q w rd⟩
  rcases hl with hl | hl
  · exact min_list_data (I.ok.hd hc) hl ra a1 (by omega) fin
  · exact min_tuple_data (I.ok.hd hc) hl ra a1 (by omega) fin
theorem sortableB_spec {ds : List PyData} (h : sortableB ds = true) : Sortable ds := by
  unfold sortableB at h
  simp only [Bool.or_eq_true, List.all_eq_true] at h
  rcases h with h | h
  · refine .inl fun d hd => ?_
    have := h d hd
    split at this
    · exact ⟨_, _, rfl⟩
    · cases this
  · refine .inr fun d hd => ?_
    have := h d hd
    constructor
    · rintro rfl; cases this
    · rintro xs rfl; cases this
theorem rds_each : ∀ {xs : List V} {its : List Value} {ds : List PyData}, Vals xs its → RDs X.K pr H xs ds → EachIs (fun v d => ∃ x, RelV x v ∧ RD X.K pr H x d) its ds
  | _, _, _, .nil, .nil => .nil
  | _, _, _, .cons r rv, .cons h hs => .cons ⟨_, r, h⟩ (rds_each rv hs)
theorem each_rds : ∀ {its : List Value} {ds : List PyData}, EachIs (fun v d => ∃ x, RelV x v ∧ RD X.K pr H x d) its ds → ∃ xs, Vals xs its ∧ RDs X.K pr H xs ds
  | _, _, .nil => ⟨[], .nil, .nil⟩
  | _, _, .cons ⟨x, r, h⟩ t => by
    obtain ⟨xs, rv, hs⟩ := each_rds t
    exact ⟨x :: xs, .cons r rv, .cons h hs⟩
theorem call_sortedD (hu : X.A.units + 70 < cLine) : CallR X (.builtin "sorted") (fun vs H Q => ∃ pr x ds, vs = [x] ∧ RSeq X.K pr H x ds ∧ alikeAllB ds = true ∧ sortableB ds = true ∧ ∀ p ws, RDs X.K pr H ws (ds.mergeSort (dataLe false id)) → H p = none → Q (.ref p) (upd H p (.lst ws))) := by
  intro pins s σ H vs us Q I r h
  obtain ⟨pr, x, ds, rfl, hs, ha, hk, q⟩ := h
  obtain ⟨u, rfl, rx⟩ := vals1 r
  obtain ⟨a, xs, its, as, rfl, r1, rv, ra, z, hl⟩ := seq_reads I hs rx
  obtain ⟨a1, a2, a3, a4⟩ := alikeAllB_spec ha
  have e := rds_each (X := X) rv r1
  have er : EachIs (fun v (d : PyData) => ∃ as, Reads s.heap v (id d) as) its ds := e.mono fun v d ⟨y, ry, rd⟩ => Dp.reads I d y v rd.dp ry
  have hz : ds.length ≤ sizeLine := by rw [← r1.length]; exact z
  have fin : ∀ out : List Value, out.length = ds.length → EachIs (fun v d => ∃ x, RelV x v ∧ RD X.K pr H x d) out (ds.mergeSort (dataLe false id)) → EP X pins σ Q (.ref (s.heap.objs.size + 1)) { s with heap := sortedAll s.heap its (List.toArray out) } := fun out hl ho => by
    obtain ⟨ws, rw', hws⟩ := each_rds ho
    obtain ⟨ep, he'⟩ := PyProof.Rows.sortedAll_at s.heap its out.toArray
    have hlen : ws.length ≤ sizeLine := by rw [rw'.length, hl]; exact hz
    exact ⟨.ref _, upd H (s.heap.objs.size + 1) (.lst ws), I.laid (t' := s.toks) (fun _ _ => PyProof.Rows.sortedAll_old) (Nat.le_succ _) ⟨hlen, out, ep, rw', he'⟩, rfl, q _ _ hws (I.hok.fresh (Nat.le_succ _))⟩
  rcases hl with hl | hl
  · exact sorted_data hl e er (by rw [List.map_id]; exact a2) (by rw [List.map_id]; exact sortableB_spec hk) hz (fun b hb => by have := a4 b hb; show _ + b.depth < _; omega) fin
  · exact sorted_dataT hl e er (by rw [List.map_id]; exact a2) (by rw [List.map_id]; exact sortableB_spec hk) hz (fun b hb => by have := a4 b hb; show _ + b.depth < _; omega) fin
theorem sum_tup_raw {prog : Program} {w : World} {A : Around} {E : Value → Shared → Prop} {s : Shared} {l : Addr} {its : List Value} {ns : List Int} {Q : Value → Shared → Prop} (hh : A.handled = none) (hl : s.heap.IsTuple l its.toArray) (hi : IntsAre its ns)
    (h : ∀ h' tk t', (∀ b o, s.heap.get? b = some o → h'.get? b = some o) → Q (.int ns.sum t') { s with heap := h', toks := tk }) : wpAny (model prog w) A (call (.builtin "sum") [.ref l]) Q E s := by
  obtain ⟨xs, e⟩ := hi.allInts.items
  have hn : numsOf (intItems xs).toList = ns := by rw [← e]; exact hi.numsOf
  rw [nums_intItems] at hn
  rw [e] at hl
  have hlt : l < s.heap.objs.size := by obtain ⟨_, e, _⟩ := hl; exact Heap.lt_size e
  refine call_sum_walkG (wpAny_pyIter_tuple hl ?_)
  refine ⟨s.heap.objs.size, [s.heap.objs.size, l], [s.heap.objs.size], _, _, _, numAt xs, rfl, Walks.tuple (A := A.in1) hh _ l (Nat.ne_of_lt hlt) (intItems xs), ⟨⟨_, Heap.get?_push_size _ rfl, rfl, rfl⟩, hl.push _⟩, fun b hb => ?_, (fun _ _ => intItems_at), fun h' tk t' hk => ?_⟩
  · show b < (s.heap.push _).objs.size
    rw [Heap.size_push]
    rcases List.mem_cons.mp hb with rfl | hb
    · exact Nat.lt_succ_self _
    · rcases List.mem_cons.mp hb with rfl | hb
      · exact Nat.lt_succ_of_lt hlt
      · cases hb
  · have := h h' tk t' fun b o e => hk b o (fun hb => absurd (Heap.lt_size e) ((List.mem_singleton.mp hb) ▸ Nat.lt_irrefl _)) (Heap.get?_push_of_some _ e)
    rw [preSum_eq, List.take_of_length_le (by simp [intItems]), hn]; exact this
theorem call_sumD (hc : X.calm = true) : CallR X (.builtin "sum") (fun vs H Q => ∃ pr x, ∃ ns : List Int, vs = [x] ∧ RSeq X.K pr H x (ns.map PyData.int) ∧ Q (.int ns.sum) H) := by
  intro pins s σ H vs us Q I r h
  obtain ⟨pr, x, ns, rfl, hs, q⟩ := h
  obtain ⟨u, rfl, rx⟩ := vals1 r
  obtain ⟨a, xs, its, as, rfl, r1, rv, ra, z, hl⟩ := seq_reads I hs rx
  have e := r1.to_ints
  subst e
  rcases hl with hl | hl
  · exact sum_raw (I.ok.hd hc) hl rv.ints fun h' tk t' hk => ⟨.int _, H, I.kept hk, ⟨_, rfl⟩, q⟩
  · exact sum_tup_raw (I.ok.hd hc) hl rv.ints fun h' tk t' hk => ⟨.int _, H, I.kept hk, ⟨_, rfl⟩, q⟩
theorem call_isaD : CallR X (.builtin "isinstance") (fun vs H Q => ∃ x n d b, vs = [x, .ty n] ∧ RD X.K nopr H x d ∧ isaD n d = some b ∧ Q (.bl b) H) := by
  intro pins s σ H vs us Q I r h
  obtain ⟨x, n, d, b, rfl, hs, hb, q⟩ := h
  obtain ⟨u, u2, rfl, rx, ry⟩ : ∃ u u2, us = [u, u2] ∧ RelV x u ∧ RelV (.ty n) u2 := by
    cases r with
    | cons r1 r2 =>
      cases r2 with
      | cons r2 r3 => cases r3; exact ⟨_, _, rfl, r1, r2⟩
  cases ry
  obtain ⟨as, rr⟩ := Dp.reads I d x u hs.dp rx
  unfold isaD at hb
  split at hb
  · rename_i e; cases hb; subst e; exact isinstance_int_data rr fun tk _ => ⟨.bl _, H, I.tok tk, rfl, q⟩
  split at hb
  · rename_i e; cases hb; subst e; exact isinstance_bool_data rr fun tk _ => ⟨.bl _, H, I.tok tk, rfl, q⟩
  split at hb
  · rename_i e; cases hb; subst e; exact isinstance_str_data rr fun tk _ => ⟨.bl _, H, I.tok tk, rfl, q⟩
  split at hb
  · rename_i e; cases hb; subst e; exact isinstance_tuple_data rr fun tk _ => ⟨.bl _, H, I.tok tk, rfl, q⟩
  split at hb
  · rename_i e; cases hb; subst e; exact isinstance_list_data rr fun tk _ => ⟨.bl _, H, I.tok tk, rfl, q⟩
  split at hb
  · rename_i e; cases hb; subst e; exact isinstance_dict_data rr fun tk _ => ⟨.bl _, H, I.tok tk, rfl, q⟩
  · cases hb
end
end Ev

set_option maxRecDepth 100000
/-! Ev5: enumerate and zip over lists and tuples in any mix. -/
namespace Ev
open PySem L2 PySem.W PyProof.Rows PySem.SeqAt

def SqK (K : PySem.W.Frag) : Bool → Hp → Addr → List V → Prop
  | true => SqL K
  | false => SqT K
def IterAt (h : Heap) (it a : Addr) (i : Nat) : Bool → Prop
  | true => h.IsListIter it a i
  | false => h.IsTupleIter it a i
def SeqOf (h : Heap) (a : Addr) (its : Array Value) : Bool → Prop
  | true => h.IsList a its
  | false => h.IsTuple a its
def itO (a : Addr) : Bool → Obj
  | true => { cls := .type "list_iterator", data := .fields #[.ref a, .int 0 0] }
  | false => { cls := .type "tuple_iterator", data := .fields #[.ref a, .int 0 0] }
theorem drawsK {prog : Program} {w : World} {A : Around} (hh : A.handled = none) (it a : Addr) (hne : a ≠ it) (its : Array Value) (k : Bool) :
    Draws prog w A it [it, a] its.size (fun i v => its[i]? = some v) (fun i h => IterAt h it a i k ∧ SeqOf h a its k) := by
  cases k
  · exact Draws.tuple hh it a hne its
  · exact Draws.list hh it a hne its
theorem beginsK (a : Addr) (its : Array Value) (k : Bool) : Begins (.ref a) (itO a k) fun h => SeqOf h a its k := by
  cases k
  · exact begins_tuple a its
  · exact begins_list a its
theorem IterAt.mk {h : Heap} {it a : Addr} {k : Bool} (e : h.get? it = some (itO a k)) : IterAt h it a 0 k := by
  cases k
  · exact ⟨_, e, rfl, rfl⟩
  · exact ⟨_, e, rfl, rfl⟩
theorem IterAt.obj {h : Heap} {it a : Addr} {i : Nat} {k : Bool} (e : IterAt h it a i k) : ∃ o, h.get? it = some o ∧ ∀ v, o.data ≠ .cell v := by
  cases k
  · obtain ⟨o, e, _, d⟩ := e; exact ⟨o, e, fun v q => by rw [d] at q; cases q⟩
  · obtain ⟨o, e, _, d⟩ := e; exact ⟨o, e, fun v q => by rw [d] at q; cases q⟩
theorem IterAt.keep {h h' : Heap} {it a : Addr} {i : Nat} {k : Bool} (e : IterAt h it a i k) (hk : ∀ o, h.get? it = some o → h'.get? it = some o) : IterAt h' it a i k := by
  cases k
  · obtain ⟨o, e, r⟩ := e; exact ⟨o, hk _ e, r⟩
  · obtain ⟨o, e, r⟩ := e; exact ⟨o, hk _ e, r⟩
theorem IterAt.ne {h : Heap} {it a b : Addr} {i : Nat} {k j : Bool} {its : Array Value} (e : IterAt h it a i k) (s : SeqOf h b its j) : b ≠ it := by
  rintro rfl
  cases k <;> cases j <;> (obtain ⟨o, e1, e2, _⟩ := e; obtain ⟨o', s1, s2, _⟩ := s; rw [e1] at s1; cases s1; rw [e2] at s2; exact absurd (Value.type.inj s2) (by decide))
section
variable {X : Cx} {pins : List (Addr × Obj)} {σ : L2.St} {H : Hp} {s : Shared} {a : Addr} {xs ys : List V} {k : Bool}
theorem inv_seq (I : L2.Inv X pins σ H s) (h : SqK X.K k H a xs) : ∃ its : List Value, Vals xs its ∧ SeqOf s.heap a its.toArray k ∧ xs.length ≤ sizeLine := by
  cases k
  · obtain ⟨its, r, p, z⟩ := I.tuple h; exact ⟨its, r, p, z⟩
  · obtain ⟨its, r, p, z⟩ := I.list h; exact ⟨its, r, p.isList, z⟩
theorem inv_seq_inj (I : L2.Inv X pins σ H s) (h : SqK X.K k H a xs) (h' : SqK X.K k H a ys) : xs = ys := by
  cases k
  · exact I.tuple_inj h h'
  · exact I.list_inj h h'
end
set_option maxHeartbeats 1000000 in
theorem meets_enum1 {v : Value} {o : Obj} {H : Heap → Prop} (B : Begins v o H) :
    Meets (Builtin.«enumerate.__new__» ⟨[.type "enumerate", v], []⟩) (fun _ R s => H s.heap ∧
      R (.ok (.ret (.ref (s.heap.push o).objs.size))) { s with heap := (s.heap.push o).push { cls := .type "enumerate", data := .fields #[.none, .bool false, .ref s.heap.objs.size, rawInt 0, .none, .none] } }) :=
  .of_wp fun prog w A R s h => by
    obtain ⟨hp, g, d, tk, os⟩ := s; obtain ⟨h1, h⟩ := h
    have hsub := sub_enumerate
    have q1 : ∀ {A' : Around} {E : Value → Shared → Prop} {Q : Value → Shared → Prop}, Q (.ref hp.objs.size) ⟨hp.push o, g, d, tk, os⟩ → wpAny (model prog w) A' (pyIter v) Q E ⟨hp, g, d, tk, os⟩ :=
      fun q => B.iter prog w _ _ ⟨hp, g, d, tk, os⟩ _ h1 q
    wp_walk using q1
    refine wpAny_stack_any fun st => wpAny_pure ?_
    split
    · rename_i c _ _ _ _ _
      cases (c == Value.type "enumerate")
      · wp_walk using q1
        exact ⟨_, rfl, h⟩
      · wp_walk using q1
        exact ⟨_, rfl, h⟩
    · wp_walk using q1
      exact ⟨_, rfl, h⟩
theorem enum1_begins {prog : Program} {w : World} {A : Around} {E : Value → Shared → Prop} {s : Shared} {v : Value} {o : Obj} {H : Heap → Prop} {Q : Value → Shared → Prop} (B : Begins v o H) (h1 : H s.heap)
    (h : ∀ h', IsEnum h' (s.heap.objs.size + 1) s.heap.objs.size 0 .none → h'.get? s.heap.objs.size = some o → h'.objs.size = s.heap.objs.size + 2 →
      (∀ b o, s.heap.get? b = some o → h'.get? b = some o) → Q (.ref (s.heap.objs.size + 1)) { s with heap := h' }) :
    wpAny (model prog w) A (call (.type "enumerate") [v]) Q E s := by
  refine callType_new PySem.F.called_enumerate (by decide) (PySem.F.typeCall_enumerate_1 _) (PySem.F.newCall_enumerate_1 _) (fun obj => PySem.F.args_object_init_2 obj _) PySem.F.entry_enumerate_new
    (meets_enum1 B) ⟨h1, ?_⟩
  have hz : (s.heap.push o).objs.size = s.heap.objs.size + 1 := Heap.size_push ..
  show _ ∧ _
  rw [hz]
  have he : IsEnum ((s.heap.push o).push { cls := .type "enumerate", data := .fields #[.none, .bool false, .ref s.heap.objs.size, rawInt 0, .none, .none] }) (s.heap.objs.size + 1) s.heap.objs.size 0 .none := by
    have := Heap.get?_push_size (s.heap.push o) (o := { cls := .type "enumerate", data := .fields #[.none, .bool false, .ref s.heap.objs.size, rawInt 0, .none, .none] }) rfl
    rw [hz] at this; exact this
  refine ⟨⟨_, he, rfl⟩, h _ he (Heap.get?_push_of_some _ (Heap.get?_push_size _ B.free)) (by rw [Heap.size_push, hz]) fun b o x => Heap.get?_push_of_some _ (Heap.get?_push_of_some _ x)⟩

def ItE (K : PySem.W.Frag) (k : Bool) (a : Addr) : L2.It :=
  ⟨fun i H => ∃ (xs : List V) (x : V), SqK K k H a xs ∧ xs[i]? = some x, fun i H v H' => ∃ T x, v = .ref T ∧ H T = none ∧ H' = upd H T (.tup [.int (i : Nat), x]) ∧ ∀ xs, SqK K k H a xs → xs[i]? = some x, fun i H => ∃ xs : List V, SqK K k H a xs ∧ xs.length = i⟩
theorem turn_enumK {P : Program} {w : World} {K : PySem.W.Frag} {elts : List Expr} {kk : Nat} {tpos : Pos} (k : Bool) (a e it : Addr) (hea : e ≠ a) :
    Turn P w K (.Tuple elts kk tpos) (ItE K k a) [e, it] e (fun i h => (∃ old, IsEnum h e it ((i : Nat) : Int) old) ∧ IterAt h it a i k ∧ e ≠ it) where
  mem := by simp
  obj := fun i h st b hb => by
    obtain ⟨⟨old, he⟩, hi, _⟩ := st
    have e' : b = e ∨ b = it := by simpa using hb
    rcases e' with z | z
    · rw [z]; exact ⟨_, he, fun v q => nomatch q⟩
    · rw [z]; exact hi.obj
  keep := fun i h h' st hk => let ⟨⟨old, he⟩, hi, hne⟩ := st; ⟨⟨old, hk e (by simp) _ he⟩, hi.keep fun o q => hk it (by simp) o q, hne⟩
  item := by
    intro X hP hw hK hc i pins s σ H E I hf st hg
    subst hP hw hK
    obtain ⟨⟨old, he⟩, hit, hne⟩ := st
    obtain ⟨xs, x, hq, hx⟩ := hg
    obtain ⟨its, rv, p, hz⟩ := inv_seq I hq
    obtain ⟨u, hu, ru⟩ := rv.get hx
    have hel : e < s.heap.objs.size := Heap.lt_size he
    have hil : it < s.heap.objs.size := by obtain ⟨o, q, _⟩ := hit.obj; exact Heap.lt_size q
    have hlt : i < its.toArray.size := by
      have := (List.getElem?_eq_some_iff.mp hu).1
      simpa using this
    refine wpAny_pyNext_enum_itemD (drawsK (A := X.A.in1) (show X.A.in1.handled = none from I.ok.hd hc) it a (hit.ne p) its.toArray k) he ⟨hit, p⟩ hlt hne (by simp [hne, hea]) fun y h' tk hy ho hst hT hsz hk => ?_
    have ey : y = u := by
      have hu' : its.toArray[i]? = some u := by simpa using hu
      have hy : its.toArray[i]? = some y := hy
      rw [hu'] at hy; exact (Option.some.inj hy).symm
    subst ey
    have hit' := hst.1
    refine ⟨_, rfl, wpAny_letOwnedTupleGo_enum (s := { s with heap := h', toks := tk + 1 }) ho fun h'' he' sb => ?_⟩
    have hT2 : h''.get? s.heap.objs.size = some { cls := .type "tuple", data := .seq #[.int i tk, y] } := (sb.2 _ (Nat.ne_of_gt hel)).trans hT
    have new : ObjOk X.prog X.w (upd H s.heap.objs.size (.tup [.int (i : Nat), x])) h'' s.heap.objs.size (.tup [.int (i : Nat), x]) :=
      ⟨by show 2 ≤ sizeLine; decide, [.int i tk, y], .cons ⟨_, rfl⟩ (.cons ru .nil), ⟨_, hT2, rfl, _, rfl⟩⟩
    have I1 : L2.Inv X pins σ (upd H s.heap.objs.size (.tup [.int (i : Nat), x])) { s with heap := h'', toks := tk + 1 } :=
      I.turnedNew (ch := [e, it]) (fun b ob hb q => (sb.2 b (fun z => hb (by simp [z]))).trans (hk b ob (fun z => hb (by simp [z])) (fun z => hb (by simp [z])) q)) hf (Nat.le_refl _) new
    refine ⟨.ref s.heap.objs.size, _, I1, rfl, ⟨_, x, rfl, I.hok.fresh (Nat.le_refl _), rfl, fun ys hy => by rw [inv_seq_inj I hy hq]; exact hx⟩, ⟨⟨y, ?_⟩, hit'.keep fun o q => (sb.2 it (Ne.symm hne)).trans q, hne⟩, fun b hb => ?_⟩
    · have e1 : ((i + 1 : Nat) : Int) = (i : Int) + 1 := by omega
      rw [e1]; exact he'
    · have hb' : b < s.heap.objs.size := by
        have e' : b = e ∨ b = it := by simpa using hb
        rcases e' with z | z
        · rw [z]; exact hel
        · rw [z]; exact hil
      rw [upd_ne (Nat.ne_of_lt hb')]
      exact (hf b hb).1
  done := by
    intro X hP hw hK hc i pins s σ H E I hf st hg
    subst hP hw hK
    obtain ⟨⟨old, he⟩, hit, hne⟩ := st
    obtain ⟨xs, hq, hx⟩ := hg
    obtain ⟨its, rv, p, hz⟩ := inv_seq I hq
    obtain ⟨f0, f1, f2, f3, f4, f5⟩ := hf it (by simp)
    have hl := rv.length
    have hi : its.toArray.size = i := by rw [List.size_toArray, ← hl]; exact hx
    exact wpAny_pyNext_enum_endD (drawsK (A := X.A.in1) (show X.A.in1.handled = none from I.ok.hd hc) it a (hit.ne p) its.toArray k) he (by rw [hi]; exact ⟨hit, p⟩) fun h' eb => ⟨rfl, I.turned (t' := s.toks) (fun b o hb q => eb b o hb q) f0 f1 f3 f4 f5⟩
  self := fun A i s Q E st h => let ⟨⟨_, he⟩, _⟩ := st; wpAny_pyIter_enum he h
theorem pi_enumK {X : Cx} {e : Expr} {ta : TA} {p pos tpos : Pos} {elts : List Expr} {kk : Nat} (hg : Gl X "enumerate") (hm : X.mg "enumerate" = none) (ha : PA X [e] ta) (hs : starEach [e] X.env = [(false, eval e X.env)]) :
    PI X (.Tuple elts kk tpos) (.Call (.Name "enumerate" p) [e] [] pos) (fun σ H R => ta σ H fun vs H1 => ∃ k a xs, vs = [.ref a] ∧ SqK X.K k H1 a xs ∧ R (ItE X.K k a) H1) := by
  refine ⟨fun pins s σ H R I h => ?_⟩
  refine Call_ (ld_blt I hg hm boot_enumerate (PyProof.Rows.callWith_type1 (thn (ha.run pos pins s σ H _ I h) fun us s1 ⟨vs, H1, I1, r1, q1⟩ => ?_) hs rfl))
  obtain ⟨k, a, xs, ex, hq, q⟩ := q1
  subst ex
  cases r1 with
  | cons r rr =>
    cases rr
    cases r
    obtain ⟨its, rv, p', hz⟩ := inv_seq I1 hq
    have hal : a < s1.heap.objs.size := by
      cases k
      · obtain ⟨o, e, _⟩ := p'; exact Heap.lt_size e
      · obtain ⟨o, e, _⟩ := p'; exact Heap.lt_size e
    refine enum1_begins (beginsK a its.toArray k) p' fun h' he hit hsz hk => wpAny_pyIter_enum he ?_
    have I2 : L2.Inv X pins σ H1 { s1 with heap := h' } := I1.kept (t' := s1.toks) hk
    refine ⟨s1.heap.objs.size + 1, [s1.heap.objs.size + 1, s1.heap.objs.size], _, _, H1, rfl, I2, turn_enumK k a (s1.heap.objs.size + 1) s1.heap.objs.size (Nat.ne_of_gt (Nat.lt_succ_of_lt hal)), ⟨⟨.none, he⟩, .mk hit, Nat.succ_ne_self _⟩, fun b hb => ?_, q⟩
    have e' : b = s1.heap.objs.size + 1 ∨ b = s1.heap.objs.size := by simpa using hb
    have hle : s1.heap.objs.size ≤ b := by
      rcases e' with z | z
      · rw [z]; exact Nat.le_add_right _ _
      · rw [z]; exact Nat.le_refl _
    exact I1.fpOk hle (I1.hok.fresh hle)

def ItZ (K : PySem.W.Frag) (k j : Bool) (a b : Addr) : L2.It :=
  ⟨fun i H => ∃ (xs ys : List V) (x y : V), SqK K k H a xs ∧ SqK K j H b ys ∧ xs[i]? = some x ∧ ys[i]? = some y,
    fun i H v H' => ∃ T x y, v = .ref T ∧ H T = none ∧ H' = upd H T (.tup [x, y]) ∧ (∀ xs, SqK K k H a xs → xs[i]? = some x) ∧ ∀ ys, SqK K j H b ys → ys[i]? = some y,
    fun i H => ∃ xs ys : List V, SqK K k H a xs ∧ SqK K j H b ys ∧ i ≤ xs.length ∧ i ≤ ys.length ∧ (i = xs.length ∨ i = ys.length)⟩
theorem turn_zipK {P : Program} {w : World} {K : PySem.W.Frag} {elts : List Expr} {kk : Nat} {tpos : Pos} {k j : Bool} {a b z TI TO i1 i2 : Addr} (D : ZipSep2 z TI TO i1 i2 [i1, a] [i2, b]) :
    Turn P w K (.Tuple elts kk tpos) (ItZ K k j a b) [z, TI, TO, i1, i2] z (fun i h => IsZip h z TI TO .none ∧ IsTupOf2 h TI (.ref i1) (.ref i2) ∧ (∃ x y, IsTupOf2 h TO x y) ∧ IterAt h i1 a i k ∧ IterAt h i2 b i j) where
  mem := by simp
  obj := fun i h st c hc => by
    obtain ⟨hz, hTI, ⟨x, y, hTO⟩, h1, h2⟩ := st
    have e' : c = z ∨ c = TI ∨ c = TO ∨ c = i1 ∨ c = i2 := by simpa using hc
    rcases e' with q | q | q | q | q
    · rw [q]; exact ⟨_, hz, fun v q => nomatch q⟩
    · rw [q]; exact ⟨_, hTI, fun v q => nomatch q⟩
    · rw [q]; exact ⟨_, hTO, fun v q => nomatch q⟩
    · rw [q]; exact h1.obj
    · rw [q]; exact h2.obj
  keep := fun i h h' st hk => by
    obtain ⟨hz, hTI, ⟨x, y, hTO⟩, h1, h2⟩ := st
    exact ⟨hk z (by simp) _ hz, hk TI (by simp) _ hTI, ⟨x, y, hk TO (by simp) _ hTO⟩, h1.keep fun o q => hk i1 (by simp) o q, h2.keep fun o q => hk i2 (by simp) o q⟩
  item := by
    intro X hP hw hK hc i pins s σ H E I hf st hg
    subst hP hw hK
    obtain ⟨hz, hTI, ⟨x0, y0, hTO⟩, h1, h2⟩ := st
    obtain ⟨xs, ys, x, y, hqx, hqy, hx, hy⟩ := hg
    obtain ⟨its, rv, p, _⟩ := inv_seq I hqx
    obtain ⟨its2, rv2, p2, _⟩ := inv_seq I hqy
    obtain ⟨u, hu, ru⟩ := rv.get hx
    obtain ⟨u2, hu2, ru2⟩ := rv2.get hy
    have hzl : z < s.heap.objs.size := Heap.lt_size hz
    have hlt1 : i < its.toArray.size := by simpa using (List.getElem?_eq_some_iff.mp hu).1
    have hlt2 : i < its2.toArray.size := by simpa using (List.getElem?_eq_some_iff.mp hu2).1
    refine wpAny_pyNext_zipD2_item D (drawsK (A := X.A.in1) (show X.A.in1.handled = none from I.ok.hd hc) i1 a (h1.ne p) its.toArray k) (drawsK (A := X.A.in1) (show X.A.in1.handled = none from I.ok.hd hc) i2 b (h2.ne p2) its2.toArray j) hz hTI hTO ⟨h1, p⟩ ⟨h2, p2⟩ hlt1 hlt2 fun v1 v2 h' tk e1 e2 z' TO' st1 st2 hT hsz hk => ?_
    have ev1 : v1 = u := by
      have q : its.toArray[i]? = some u := by simpa using hu
      have e1 : its.toArray[i]? = some v1 := e1
      rw [q] at e1; exact (Option.some.inj e1).symm
    have ev2 : v2 = u2 := by
      have q : its2.toArray[i]? = some u2 := by simpa using hu2
      have e2 : its2.toArray[i]? = some v2 := e2
      rw [q] at e2; exact (Option.some.inj e2).symm
    subst ev1 ev2
    have h1' := st1.1
    have h2' := st2.1
    refine ⟨_, rfl, wpAny_letOwnedTupleGo_zip (s := { s with heap := h', toks := tk }) z' fun h'' z'' sb => ?_⟩
    have hT2 : h''.get? s.heap.objs.size = some { cls := .type "tuple", data := .seq #[v1, v2] } := (sb.2 _ (Nat.ne_of_gt hzl)).trans hT
    have new : ObjOk X.prog X.w (upd H s.heap.objs.size (.tup [x, y])) h'' s.heap.objs.size (.tup [x, y]) :=
      ⟨by show 2 ≤ sizeLine; decide, [v1, v2], .cons ru (.cons ru2 .nil), ⟨_, hT2, rfl, _, rfl⟩⟩
    have I1 : L2.Inv X pins σ (upd H s.heap.objs.size (.tup [x, y])) { s with heap := h'', toks := tk } :=
      I.turnedNew (t' := tk) (ch := [z, TI, TO, i1, i2]) (fun c o hb q => (sb.2 c (fun q' => hb (by simp [q']))).trans (hk c o (fun q' => hb (by simp [q'])) (fun q' => hb (by simp [q'])) (fun q' => hb (by simp [q'])) (fun q' => hb (by simp [q'])) q)) hf (Nat.le_refl _) new
    have i1z : i1 ≠ z := fun q => D.zf1 (by simp [q])
    have i2z : i2 ≠ z := fun q => D.zf2 (by simp [q])
    refine ⟨.ref s.heap.objs.size, _, I1, rfl, ⟨_, x, y, rfl, I.hok.fresh (Nat.le_refl _), rfl, fun l hl => by rw [inv_seq_inj I hl hqx]; exact hx, fun l hl => by rw [inv_seq_inj I hl hqy]; exact hy⟩, ⟨z'', ?_, ⟨v1, v2, ?_⟩, ?_, ?_⟩, fun c hcm => ?_⟩
    · exact (sb.2 _ D.TIz).trans (hk _ _ D.TIz D.TITO D.TIi1 D.TIi2 hTI)
    · exact (sb.2 _ D.TOz).trans TO'
    · exact h1'.keep fun o q => (sb.2 _ i1z).trans q
    · exact h2'.keep fun o q => (sb.2 _ i2z).trans q
    · have hlt : c < s.heap.objs.size := by
        have e' : c = z ∨ c = TI ∨ c = TO ∨ c = i1 ∨ c = i2 := by simpa using hcm
        rcases e' with q | q | q | q | q
        · rw [q]; exact hzl
        · rw [q]; exact Heap.lt_size hTI
        · rw [q]; exact Heap.lt_size hTO
        · rw [q]; obtain ⟨_, e1, _⟩ := h1.obj; exact Heap.lt_size e1
        · rw [q]; obtain ⟨_, e2, _⟩ := h2.obj; exact Heap.lt_size e2
      rw [upd_ne (Nat.ne_of_lt hlt)]
      exact (hf c hcm).1
  done := by
    intro X hP hw hK hc i pins s σ H E I hf st hg
    subst hP hw hK
    obtain ⟨hz, hTI, ⟨x0, y0, hTO⟩, h1, h2⟩ := st
    obtain ⟨xs, ys, hqx, hqy, hi1, hi2, hend⟩ := hg
    obtain ⟨its, rv, p, _⟩ := inv_seq I hqx
    obtain ⟨its2, rv2, p2, _⟩ := inv_seq I hqy
    have l1 := rv.length
    have l2 := rv2.length
    exact wpAny_pyNext_zipD2_end D (drawsK (A := X.A.in1) (show X.A.in1.handled = none from I.ok.hd hc) i1 a (h1.ne p) its.toArray k) (drawsK (A := X.A.in1) (show X.A.in1.handled = none from I.ok.hd hc) i2 b (h2.ne p2) its2.toArray j) hz hTI hTO ⟨h1, p⟩ ⟨h2, p2⟩ (by simp; omega) (by simp; omega) (by simp; omega) fun h' tk hk => ⟨rfl, I.turnedL (t' := tk) (ch := [z, TI, TO, i1, i2]) (fun c o hb q =>
      hk c o (fun q' => hb (by simp [q'])) (fun q' => hb (by simp [q'])) (fun q' => hb (by simp [q'])) (fun q' => hb (by simp [q'])) q) hf⟩
  self := fun A i s Q E st h => wpAny_pyIter_zip st.1 h
theorem seqOf_lt {h : Heap} {a : Addr} {its : Array Value} {k : Bool} (p : SeqOf h a its k) : a < h.objs.size := by
  cases k
  · obtain ⟨o, e, _⟩ := p; exact Heap.lt_size e
  · obtain ⟨o, e, _⟩ := p; exact Heap.lt_size e
theorem pi_zipK {X : Cx} {e e2 : Expr} {ta : TA} {p pos tpos : Pos} {elts : List Expr} {kk : Nat} (hg : Gl X "zip") (hm : X.mg "zip" = none) (ha : PA X [e, e2] ta)
    (hs : starEach [e, e2] X.env = (false, eval e X.env) :: starEach [e2] X.env) (hpl : (backTo pos (starEach [e2] X.env)).any (·.1) = false) :
    PI X (.Tuple elts kk tpos) (.Call (.Name "zip" p) [e, e2] [] pos) (fun σ H R => ta σ H fun vs H1 => ∃ k j a b xs ys, vs = [.ref a, .ref b] ∧ SqK X.K k H1 a xs ∧ SqK X.K j H1 b ys ∧ R (ItZ X.K k j a b) H1) := by
  refine ⟨fun pins s σ H R I h => ?_⟩
  refine Call_ (ld_blt I hg hm PyProof.Rows.boot_zip (PyProof.Rows.callWith_type1 (thn (ha.run pos pins s σ H _ I h) fun us s1 ⟨vs, H1, I1, r1, q1⟩ => ?_) hs hpl))
  obtain ⟨k, j, a, b, xs, ys, ex, hqx, hqy, q⟩ := q1
  subst ex
  cases r1 with
  | cons r rr =>
    cases rr with
    | cons r' rr =>
      cases rr
      cases r
      cases r'
      have fresh5 : ∀ c, c ∈ [s1.heap.objs.size + 4, s1.heap.objs.size + 2, s1.heap.objs.size + 3, s1.heap.objs.size, s1.heap.objs.size + 1] → FpOk X pins H1 c := fun c hcm => by
        have e' : c = s1.heap.objs.size + 4 ∨ c = s1.heap.objs.size + 2 ∨ c = s1.heap.objs.size + 3 ∨ c = s1.heap.objs.size ∨ c = s1.heap.objs.size + 1 := by simpa using hcm
        have hle : s1.heap.objs.size ≤ c := by
          rcases e' with z | z | z | z | z
          · rw [z]; exact Nat.le_add_right _ _
          · rw [z]; exact Nat.le_add_right _ _
          · rw [z]; exact Nat.le_add_right _ _
          · rw [z]; exact Nat.le_refl _
          · rw [z]; exact Nat.le_add_right _ _
        exact I1.fpOk hle (I1.hok.fresh hle)
      obtain ⟨its, rv, p1, _⟩ := inv_seq I1 hqx
      obtain ⟨its2, rv2, p2, _⟩ := inv_seq I1 hqy
      refine zip_begins2 (beginsK a its.toArray k) (beginsK b its2.toArray j) p1 p2 fun h' hz hTI hTO h1 h2 hsz hk => wpAny_pyIter_zip hz ?_
      have I2 : L2.Inv X pins σ H1 { s1 with heap := h' } := I1.kept (t' := s1.toks) hk
      exact ⟨s1.heap.objs.size + 4, [s1.heap.objs.size + 4, s1.heap.objs.size + 2, s1.heap.objs.size + 3, s1.heap.objs.size, s1.heap.objs.size + 1], _, _, H1, rfl, I2,
        turn_zipK (zip_sep2 (fp1 := [a]) (fp2 := [b]) (fun c hc => by rw [List.mem_singleton.mp hc]; exact seqOf_lt p1) (fun c hc => by rw [List.mem_singleton.mp hc]; exact seqOf_lt p2)), ⟨hz, hTI, ⟨_, _, hTO⟩, .mk h1, .mk h2⟩, fresh5, q⟩
end Ev

set_option maxRecDepth 100000
/-! Ev6: the interpreter's steps as readings; slots, calls, walks, comprehensions. -/
namespace Ev
open PySem L2 PySem.W PyProof.Rows PySem.SeqAt

def RP {α : Type} (r : R α) (p : α → Sto → Prop) : Prop := match r with
  | .ok a s => p a s
  | _ => False
theorem RP.imp {α : Type} {r : R α} {p q : α → Sto → Prop} (h : RP r p) (f : ∀ a s, p a s → q a s) : RP r q := by
  cases r with
  | ok a s => exact f a s h
  | _ => exact h
theorem RP.bind {α β : Type} {r : R α} {f : α → Sto → R β} {p : β → Sto → Prop} (h : RP (r.bind f) p) : RP r fun a s => RP (f a s) p := by
  cases r with
  | ok a s => exact h
  | _ => exact h
theorem RP.opt {α : Type} {o : Option α} {s : Sto} {p : α → Sto → Prop} (h : RP (R.opt o s) p) : ∃ a, o = some a ∧ p a s := by
  cases o with
  | some a => exact ⟨a, rfl, h⟩
  | none => exact h.elim
theorem RP.noEx {α : Type} {r : R α} {p : α → Sto → Prop} (h : RP (noEx r) p) : RP r p := by
  cases r with
  | ok a s => exact h
  | _ => exact h

section
variable {X : Cx}
theorem _root_.L2.PE.imp {e : Expr} {t t' : TE} (h : PE X e t) (i : ∀ σ H Q, t' σ H Q → t σ H Q) : PE X e t' := ⟨fun pins s σ H Q I q => h.run pins s σ H Q I (i _ _ _ q)⟩
theorem _root_.L2.PT.imp {e : Expr} {t t' : TT} (h : PT X e t) (i : ∀ σ H Q, t' σ H Q → t σ H Q) : PT X e t' := ⟨fun pins s σ H Q I q => h.run pins s σ H Q I (i _ _ _ q)⟩
theorem _root_.L2.PW.imp {e : Expr} {t t' : TT} (h : PW X e t) (i : ∀ σ H Q, t' σ H Q → t σ H Q) : PW X e t' := ⟨fun wh pins s σ H Q I q => h.run wh pins s σ H Q I (i _ _ _ q)⟩
theorem _root_.L2.PTs.imp {e : List Expr} {t t' : TT} (h : PTs X e t) (i : ∀ σ H Q, t' σ H Q → t σ H Q) : PTs X e t' := ⟨fun pins s σ H Q I q => h.run pins s σ H Q I (i _ _ _ q)⟩
theorem _root_.L2.PA.imp {e : List Expr} {t t' : TA} (h : PA X e t) (i : ∀ σ H Q, t' σ H Q → t σ H Q) : PA X e t' := ⟨fun pos pins s σ H Q I q => h.run pos pins s σ H Q I (i _ _ _ q)⟩
theorem _root_.L2.PO.imp {e : Option Expr} {t t' : L2.St → Hp → (Option Int → Hp → Prop) → Prop} (h : PO X e t) (i : ∀ σ H Q, t' σ H Q → t σ H Q) : PO X e t' := ⟨fun pins s σ H Q I q => h.run pins s σ H Q I (i _ _ _ q)⟩
theorem _root_.L2.PI.imp {tg e : Expr} {t t' : TI} (h : PI X tg e t) (i : ∀ σ H Q, t' σ H Q → t σ H Q) : PI X tg e t' := ⟨fun pins s σ H Q I q => h.run pins s σ H Q I (i _ _ _ q)⟩
theorem _root_.L2.PSs.imp {e : List Stmt} {t t' : TS} (h : PSs X e t) (i : ∀ D σ H, t' D σ H → t D σ H) : PSs X e t' := ⟨fun pins s σ H Q I q => h.run pins s σ H Q I (i _ _ _ q)⟩
theorem _root_.L2.PS.imp {e : Stmt} {t t' : TS} (h : PS X e t) (i : ∀ D σ H, t' D σ H → t D σ H) : PS X e t' := ⟨fun pins s σ H Q I q => h.run pins s σ H Q I (i _ _ _ q)⟩
end

section
variable (K : PySem.W.Frag)
def tEv (f : Envr → Sto → R PV) : TE := fun σ H Q => ∃ g st, g.s = σ ∧ Sim K g st H ∧ RP (f g.e st) fun v st' => Fin K g st' H v Q
def tTe (f : Envr → Sto → R PV) : TT := fun σ H Q => ∃ g st, g.s = σ ∧ Sim K g st H ∧ RP (f g.e st) fun v st' => ∃ b, v = .d (.bool b) ∧ ∀ g' H', Nx g g' H H' → Sim K g' st' H' → Q b H'
def tTs (f : Envr → Sto → R Bool) : TT := fun σ H Q => ∃ g st, g.s = σ ∧ Sim K g st H ∧ RP (f g.e st) fun b st' => ∀ g' H', Nx g g' H H' → Sim K g' st' H' → Q b H'
def tDs (f : Envr → Sto → R (List PyData)) : TA := fun σ H Q => ∃ g st, g.s = σ ∧ Sim K g st H ∧ RP (f g.e st) fun ds st' => ∀ g' H' ws, Nx g g' H H' → Sim K g' st' H' → g'.B = g.B → RDs K g'.Pr H' ws ds → Q ws H'
def tRs (f : Envr → Sto → R (List PV)) : TA := fun σ H Q => ∃ g st, g.s = σ ∧ Sim K g st H ∧ RP (f g.e st) fun ds st' => ∀ g' H' ws, Nx g g' H H' → Sim K g' st' H' → g'.B = g.B → Paired (RepK K g' H') ws ds → Q ws H'
def tAs (f : Envr → Sto → R (List PV)) : TA := fun σ H Q => ∃ g st, g.s = σ ∧ Sim K g st H ∧ RP (f g.e st) fun ds st' => ∀ g' H' ws, Nx g g' H H' → Sim K g' st' H' → Paired (Rep K g' g.B H') ws ds → Q ws H'
def tPo (f : Envr → Sto → R (Option Int)) : L2.St → Hp → (Option Int → Hp → Prop) → Prop := fun σ H Q => ∃ g st, g.s = σ ∧ Sim K g st H ∧ RP (f g.e st) fun o st' => ∀ g' H', Nx g g' H H' → Sim K g' st' H' → Q o H'
end
section
variable {K : PySem.W.Frag} {g g' g1 g2 : Gs} {st st' st1 st2 : Sto} {H H' H1 H2 : Hp} {Q : VK}
theorem Fin.at {v : PV} (F : Fin K g st H v Q) (n : Nx g g2 H H2) (S : Sim K g2 st2 H2) : Fin K (g2.wB g.B) st H2 v Q := fun g' H' w n' S' r =>
  F g' H' w (n.weak.trans (S.weak n.B) n') S' r
theorem wB_self : g.wB g.B = g := rfl

/-! ### slots -/
theorem Sim.setv {i : Nat} {v : V} {x : PV} (S : Sim K g st H) (r : RepK K g H v x) (hx : (∃ y, x = .d y) ∨ (∃ n, x = .ref n) ∨ ∃ n, x = .ty n := by first | exact .inl ⟨_, rfl⟩ | assumption) :
    Sim K { g with e := g.e.set i (.v x), s := g.s.set i (some v) } st H ∧ ∀ a, Gs.Pr { g with e := g.e.set i (.v x), s := g.s.set i (some v) } a → g.Pr a := by
  have sub : ∀ a, Gs.Pr { g with e := g.e.set i (.v x), s := g.s.set i (some v) } a → g.Pr a := by
    rintro a (h | h | ⟨j, y, h1, h2⟩)
    · exact .inl h
    · exact .inr (.inl h)
    · by_cases hj : i = j
      · subst hj
        have h1 : (g.e.set i (.v x))[i]? = some (.own y) := h1
        rw [List.getElem?_set] at h1
        split at h1
        · split at h1
          · cases h1
          · cases h1
        · rename_i h; exact absurd rfl h
      · have h1 : (g.e.set i (.v x))[j]? = some (.own y) := h1
        have h2 : (g.s.set i (some v))[j]? = some (some (.ref a)) := h2
        rw [List.getElem?_set_ne hj] at h1 h2
        exact .inr (.inr ⟨j, y, h1, h2⟩)
  have rk : ∀ {w : V} {y : PV}, RepK K g H w y → RepK K { g with e := g.e.set i (.v x), s := g.s.set i (some v) } H w y := fun {w y} h => by
    cases y with
    | d y => exact RD.keep (.anti sub) h
    | _ => exact h
  have ow : ∀ {a : Addr} {y : PyData}, OwnAt K g H a y → OwnAt K { g with e := g.e.set i (.v x), s := g.s.set i (some v) } H a y := fun {a y} h => by
    obtain ⟨ds, vs, rfl, o1, o2⟩ := h.is
    exact ⟨vs, o1, o2.keep (.anti sub)⟩
  refine ⟨⟨by show (g.e.set i _).length = (g.s.set i _).length; rw [List.length_set, List.length_set]; exact S.len, fun j y h => ?_, fun j y h => ?_, fun j k y z a h1 h2 h3 h4 => ?_, S.slen, fun n o h => ?_, S.rB, S.nd, S.bt, S.pre, S.new, S.fr⟩, sub⟩
  · have h : (g.e.set i (.v x))[j]? = some (.v y) := h
    by_cases hj : i = j
    · subst hj
      rw [List.getElem?_set] at h
      split at h
      · split at h
        · rename_i hlt
          cases h
          refine ⟨v, ?_, rk r⟩
          show (g.s.set i (some v))[i]? = _
          rw [List.getElem?_set_self (by rw [← S.len]; exact hlt)]
        · cases h
      · rename_i h'; exact absurd rfl h'
    · rw [List.getElem?_set_ne hj] at h
      obtain ⟨w, h1, h2⟩ := S.val j y h
      exact ⟨w, by show (g.s.set i (some v))[j]? = _; rw [List.getElem?_set_ne hj]; exact h1, rk h2⟩
  · have h : (g.e.set i (.v x))[j]? = some (.own y) := h
    by_cases hj : i = j
    · subst hj
      rw [List.getElem?_set] at h
      split at h
      · split at h
        · cases h
        · cases h
      · rename_i h'; exact absurd rfl h'
    · rw [List.getElem?_set_ne hj] at h
      obtain ⟨a, h1, h2, h3⟩ := S.own j y h
      exact ⟨a, by show (g.s.set i (some v))[j]? = _; rw [List.getElem?_set_ne hj]; exact h1, ow h2, h3⟩
  · have h1 : (g.e.set i (.v x))[j]? = some (.own y) := h1
    have h2 : (g.e.set i (.v x))[k]? = some (.own z) := h2
    have h3 : (g.s.set i (some v))[j]? = some (some (.ref a)) := h3
    have h4 : (g.s.set i (some v))[k]? = some (some (.ref a)) := h4
    have nj : i ≠ j := fun e => by
      subst e
      rw [List.getElem?_set] at h1
      split at h1
      · split at h1
        · cases h1
        · cases h1
      · rename_i h'; exact absurd rfl h'
    have nk : i ≠ k := fun e => by
      subst e
      rw [List.getElem?_set] at h2
      split at h2
      · split at h2
        · cases h2
        · cases h2
      · rename_i h'; exact absurd rfl h'
    rw [List.getElem?_set_ne nj] at h1 h3
    rw [List.getElem?_set_ne nk] at h2 h4
    exact S.inj j k y z a h1 h2 h3 h4
  · obtain ⟨a, h1, h2⟩ := S.sto n o h
    refine ⟨a, h1, ?_⟩
    cases o with
    | lst xs => obtain ⟨vs, q1, q2⟩ := h2; exact ⟨vs, q1, Paired.imp (fun _ _ q => rk q) q2⟩
theorem Sim.setn {i : Nat} (S : Sim K g st H) :
    Sim K { g with e := g.e.set i .no, s := g.s.set i none } st H ∧ ∀ a, Gs.Pr { g with e := g.e.set i .no, s := g.s.set i none } a → g.Pr a := by
  have no : ∀ {j : Nat} {c : Cell}, (g.e.set i .no)[j]? = some c → c ≠ .no → i ≠ j ∧ g.e[j]? = some c := fun {j c} h hc => by
    by_cases hj : i = j
    · subst hj
      rw [List.getElem?_set] at h
      split at h
      · split at h
        · cases h; exact absurd rfl hc
        · cases h
      · rename_i h'; exact absurd rfl h'
    · rw [List.getElem?_set_ne hj] at h; exact ⟨hj, h⟩
  have sub : ∀ a, Gs.Pr { g with e := g.e.set i .no, s := g.s.set i none } a → g.Pr a := by
    rintro a (h | h | ⟨j, y, h1, h2⟩)
    · exact .inl h
    · exact .inr (.inl h)
    · obtain ⟨hj, h1⟩ := no h1 (fun q => nomatch q)
      have h2 : (g.s.set i none)[j]? = some (some (.ref a)) := h2
      rw [List.getElem?_set_ne hj] at h2
      exact .inr (.inr ⟨j, y, h1, h2⟩)
  have rk : ∀ {w : V} {y : PV}, RepK K g H w y → RepK K { g with e := g.e.set i .no, s := g.s.set i none } H w y := fun {w y} h => by
    cases y with
    | d y => exact RD.keep (.anti sub) h
    | _ => exact h
  refine ⟨⟨by show (g.e.set i _).length = (g.s.set i _).length; rw [List.length_set, List.length_set]; exact S.len, fun j y h => ?_, fun j y h => ?_, fun j k y z a h1 h2 h3 h4 => ?_, S.slen, fun n o h => ?_, S.rB, S.nd, S.bt, S.pre, S.new, S.fr⟩, sub⟩
  · obtain ⟨hj, h⟩ := no h (fun q => nomatch q)
    obtain ⟨w, h1, h2⟩ := S.val j y h
    exact ⟨w, by show (g.s.set i none)[j]? = _; rw [List.getElem?_set_ne hj]; exact h1, rk h2⟩
  · obtain ⟨hj, h⟩ := no h (fun q => nomatch q)
    obtain ⟨a, h1, h2, h3⟩ := S.own j y h
    refine ⟨a, by show (g.s.set i none)[j]? = _; rw [List.getElem?_set_ne hj]; exact h1, ?_, h3⟩
    obtain ⟨ds, vs, rfl, o1, o2⟩ := h2.is
    exact ⟨vs, o1, o2.keep (.anti sub)⟩
  · obtain ⟨nj, h1⟩ := no h1 (fun q => nomatch q)
    obtain ⟨nk, h2⟩ := no h2 (fun q => nomatch q)
    have h3 : (g.s.set i none)[j]? = some (some (.ref a)) := h3
    have h4 : (g.s.set i none)[k]? = some (some (.ref a)) := h4
    rw [List.getElem?_set_ne nj] at h3
    rw [List.getElem?_set_ne nk] at h4
    exact S.inj j k y z a h1 h2 h3 h4
  · obtain ⟨a, h1, h2⟩ := S.sto n o h
    refine ⟨a, h1, ?_⟩
    cases o with
    | lst xs => obtain ⟨vs, q1, q2⟩ := h2; exact ⟨vs, q1, Paired.imp (fun _ _ q => rk q) q2⟩

/-! ### calls -/
/-- what a callee sees of the state -/
def Gs.cal (g : Gs) (H : Hp) : Gs := ⟨fun a => g.B a ∨ ∃ (i : Nat) (x : PyData), g.e[i]? = some (.own x) ∧ g.s[i]? = some (some (.ref a)), H, g.r, g.r, [], []⟩
theorem Gs.cal_pr {a : Addr} : (g.cal H).Pr a ↔ g.Pr a := by
  constructor
  · rintro ((h | h) | h | ⟨i, x, h, _⟩)
    · exact .inl h
    · exact .inr (.inr h)
    · exact .inr (.inl h)
    · simp [Gs.cal] at h
  · rintro (h | h | h)
    · exact .inl (.inl h)
    · exact .inr (.inl h)
    · exact .inl (.inr h)
theorem RepK.pr {ga gb : Gs} (hr : gb.r = ga.r) (hp : ∀ a, gb.Pr a → ga.Pr a) {v : V} {x : PV} (h : RepK K ga H v x) : RepK K gb H v x := by
  cases x with
  | d x => exact RD.keep (.anti hp) h
  | ref n => obtain ⟨a, e, q⟩ := h; exact ⟨a, e, by rw [hr]; exact q⟩
  | ty n => exact h
  | fre _ => exact h
  | bor _ => exact h
  | fn _ => exact h
theorem ObAt.pr {ga gb : Gs} (hr : gb.r = ga.r) (hp : ∀ a, gb.Pr a → ga.Pr a) {a : Addr} {x : Ob} (h : ObAt K ga H a x) : ObAt K gb H a x := by
  cases x with
  | lst xs => obtain ⟨vs, q1, q2⟩ := h; exact ⟨vs, q1, Paired.imp (fun _ _ q => RepK.pr hr hp q) q2⟩
theorem Sim.cal (S : Sim K g st H) : Sim K (g.cal H) st H where
  len := rfl
  val := fun i x h => by simp [Gs.cal] at h
  own := fun i x h => by simp [Gs.cal] at h
  inj := fun i j x y a h => by simp [Gs.cal] at h
  slen := S.slen
  sto := fun n o h => let ⟨a, h1, h2⟩ := S.sto n o h; ⟨a, h1, ObAt.pr (ga := g) (gb := g.cal H) rfl (fun _ q => Gs.cal_pr.mp q) h2⟩
  rB := fun a h q => by
    rcases q with q | ⟨i, x, q1, q2⟩
    · exact S.rB a h q
    · obtain ⟨b, h1, _, _, h3, _⟩ := S.own i x q1
      rw [q2] at h1; cases h1
      exact h3 h
  nd := S.nd
  bt := fun a h => S.prt (Gs.cal_pr.mp (.inl h))
  pre := List.prefix_refl _
  new := fun a h => .inl h
  fr := fun a o h _ => h
/-- behind the call -/
theorem Sim.after (S : Sim K g st H) (n : Nx (g.cal H) g' H H') (S' : Sim K g' st' H') (hB : g'.B = (g.cal H).B) :
    Nx g { g with r := g'.r } H H' ∧ Sim K { g with r := g'.r } st' H' ∧ ∀ a, Gs.Pr { g with r := g'.r } a ↔ g'.Pr a := by
  have nx : Nx g { g with r := g'.r } H H' := ⟨rfl, rfl, rfl, rfl, fun _ h => h, fun _ h => .inl h, n.pre, n.rn, n.fr⟩
  have pr : ∀ a, Gs.Pr { g with r := g'.r } a ↔ g'.Pr a := fun a => by
    constructor
    · rintro (h | h | h)
      · exact .inl (by rw [hB]; exact .inl h)
      · exact .inr (.inl h)
      · exact .inl (by rw [hB]; exact .inr h)
    · rintro (h | h | ⟨i, x, h, _⟩)
      · rw [hB] at h
        rcases h with h | h
        · exact .inl h
        · exact .inr (.inr h)
      · exact .inr (.inl h)
      · rw [n.e] at h; simp [Gs.cal] at h
  refine ⟨nx, ?_, pr⟩
  exact {
    len := S.len
    val := fun i x h => let ⟨v, h1, h2⟩ := S.val i x h; ⟨v, h1, h2.keep nx S⟩
    own := fun i x h => by
      obtain ⟨a, h1, h2, h3, h4, h5⟩ := S.own i x h
      obtain ⟨ds, vs, rfl, o1, o2⟩ := h2.is
      refine ⟨a, h1, ⟨vs, n.fr a _ o1 h4, o2.keep (nx.keep S)⟩, h3, fun q => ?_, h5⟩
      rcases n.rn a q with q | q
      · exact h4 q
      · rw [o1] at q; cases q
    inj := S.inj
    slen := S'.slen
    sto := fun n o h => let ⟨a, h1, h2⟩ := S'.sto n o h; ⟨a, h1, ObAt.pr (ga := g') (gb := { g with r := g'.r }) rfl (fun a q => (pr a).mp q) h2⟩
    rB := fun a h q => S'.rB a h (by rw [hB]; exact .inl q)
    nd := S'.nd
    bt := fun a h => S'.bt a (by rw [hB]; exact .inl h)
    pre := S.pre.trans n.pre
    new := fun a h => by
      rcases n.rn a h with h | h
      · exact S.new a h
      · exact .inr (S.h0 h)
    fr := fun a o h hr => by
      refine n.fr a o (S.fr a o h hr) fun q => ?_
      rcases S.new a q with q | q
      · exact hr q
      · rw [h] at q; cases q }
def spF (K : PySem.W.Frag) (c : Nat → List PV → Sto → R PV) (n m : Nat) : Sp := fun vs H Q _ => vs.length = m ∧ ∃ g st args, g.e = [] ∧ g.s = [] ∧ Sim K g st H ∧ Paired (RepK K g H) vs args ∧
  RP (c n args st) fun v st' => ∀ g' H' w, Nx g g' H H' → Sim K g' st' H' → g'.B = g.B → RepK K g' H' w v → Q w H'
end
end Ev

set_option maxRecDepth 100000
/-! Ev7: what operators and builtins ask, answered by the interpreter. -/
namespace Ev
open PySem L2 PySem.W PyProof.Rows PySem.SeqAt

section
variable {K : PySem.W.Frag} {g : Gs} {st : Sto} {H : Hp} {Q : VK} {x y : V} {u w : PyData}
theorem RT.int {i : Int} {pr : Addr → Prop} (h : RT K pr H x (.int i)) : x = .int i := by
  have h : RD K pr H x (.int i) := h
  cases h; rfl
theorem RT.bl {i : Bool} {pr : Addr → Prop} (h : RT K pr H x (.bool i)) : x = .bl i := by
  have h : RD K pr H x (.bool i) := h
  cases h; rfl
theorem RT.str {i : Str} {pr : Addr → Prop} (h : RT K pr H x (.str i)) : x = .str i := by
  have h : RD K pr H x (.str i) := h
  cases h; rfl
theorem RT.non {pr : Addr → Prop} (h : RT K pr H x .none) : x = .non := by
  have h : RD K pr H x .none := h
  cases h; rfl
theorem RD.int_ {i : Int} {pr : Addr → Prop} (h : RD K pr H x (.int i)) : x = .int i := by cases h; rfl
theorem RD.bl_ {i : Bool} {pr : Addr → Prop} (h : RD K pr H x (.bool i)) : x = .bl i := by cases h; rfl
end

def opOf : Op2 → Operator
  | .add => .Add | .sub => .Sub | .mul => .Mult | .fdiv => .FloorDiv | .mod => .Mod | .pow => .Pow
def rAdd4 (K : PySem.W.Frag) : R2 := fun x y H Q => (((∃ i j, x = .int i ∧ y = .int j ∧ Q (.int (i + j)) H) ∨ (∃ i j, x = .str i ∧ y = .str j ∧ i.length + j.length ≤ sizeLine ∧ Q (.str (i ++ j)) H)) ∨
  (rCatA K x y H Q)) ∨ (∃ l b xs zs, x = .ref l ∧ y = .ref b ∧ SqL K H l xs ∧ SqL K H b zs ∧ xs.length + zs.length ≤ sizeLine ∧ ∀ p, H p = none → Q (.ref p) (upd H p (.lst (xs ++ zs))))
def rMul2 (K : PySem.W.Frag) : R2 := fun x y H Q => (rI CMul (fun i j => .int (i * j)) x y H Q) ∨ (∃ l k xs, x = .ref l ∧ y = .int k ∧ SqL K H l xs ∧ -(2 ^ 63) ≤ k ∧ k < 2 ^ 63 ∧ xs.length * k.toNat ≤ sizeLine ∧
    ∀ p, H p = none → Q (.ref p) (upd H p (.lst (List.replicate k.toNat xs).flatten)))
def rOp (K : PySem.W.Frag) : Op2 → R2
  | .add => rAdd4 K
  | .sub => rI0 fun i j => .int (i - j)
  | .mul => rMul2 K
  | .fdiv => rI CDiv fun i j => .int (i / j)
  | .mod => rI (fun _ j => 0 < j) fun i j => .int (i % j)
  | .pow => rI CPow fun i j => .int (i ^ j.toNat)
theorem op_all {X : Cx} (o : Op2) : OpR X (binaryOp (opOf o)) (rOp X.K o) := by
  cases o with
  | add => exact OpR.or (OpR.or (OpR.or op_add op_add_str) op_catA) op_catG
  | sub => exact op_sub
  | mul => exact OpR.or op_mul op_repG
  | fdiv => exact op_fdiv
  | mod => exact op_mod
  | pow => exact op_pow
theorem op_spec {K : PySem.W.Frag} {g : Gs} {st : Sto} {H : Hp} {Q : VK} {x y : V} {u w : PyData} {v : PV} (o : Op2) (hv : opD o u w = some v) (S : Sim K g st H) (h1 : RT K g.Pr H x u) (h2 : RT K g.Pr H y w) (F : Fin K g st H v Q) : rOp K o x y H Q := by
  cases o with
  | add =>
    cases u <;> cases w <;> simp only [opD] at hv <;> try (cases hv; done)
    · cases hv
      cases h1.int; cases h2.int
      exact .inl (.inl (.inl ⟨_, _, rfl, rfl, F.int S⟩))
    · split at hv
      · rename_i hl
        cases hv
        cases h1.str; cases h2.str
        exact .inl (.inl (.inr ⟨_, _, rfl, rfl, hl, F.val S (.str _)⟩))
      · cases hv
    · split at hv
      · rename_i hl
        cases hv
        obtain ⟨a, xs, rfl, q1, r1⟩ := h1
        obtain ⟨b, ys, rfl, q2, r2⟩ := h2
        exact .inr ⟨a, b, xs, ys, rfl, rfl, q1, q2, by rw [r1.length, r2.length]; exact hl, F.lst S (r1.append r2)⟩
      · cases hv
    · split at hv
      · rename_i hl
        cases hv
        obtain ⟨a, xs, rfl, q1, r1⟩ := h1
        obtain ⟨b, ys, rfl, q2, r2⟩ := h2
        refine .inl (.inr ⟨a, b, xs, ys, rfl, rfl, q1, q2, by rw [r1.length, r2.length]; exact hl, fun e => ?_, fun _ e => ?_, fun _ _ => F.tup S (r1.append r2)⟩)
        · subst e
          cases r1
          exact F.val S (.tup q2 r2)
        · subst e
          cases r2
          rw [List.append_nil] at F
          exact F.val S (.tup q1 r1)
      · cases hv
  | sub =>
    cases u <;> cases w <;> simp only [opD] at hv <;> try (cases hv; done)
    cases hv
    cases h1.int; cases h2.int
    exact ⟨_, _, rfl, rfl, F.int S⟩
  | mul =>
    cases u <;> cases w <;> simp only [opD] at hv <;> try (cases hv; done)
    · split at hv
      · rename_i hl
        cases hv
        cases h1.int; cases h2.int
        refine .inl ⟨_, _, rfl, rfl, ?_, F.int S⟩
        (simp only [mulOk, Bool.or_eq_true, decide_eq_true_eq] at hl; unfold CMul; omega)
      · cases hv
    · split at hv
      · rename_i hl
        cases hv
        cases h2.int
        obtain ⟨a, xs, rfl, q1, r1⟩ := h1
        exact .inr ⟨a, _, xs, rfl, rfl, q1, hl.1, hl.2.1, by rw [r1.length]; exact hl.2.2, F.lst S (r1.rep _)⟩
      · cases hv
  | fdiv =>
    cases u <;> cases w <;> simp only [opD] at hv <;> try (cases hv; done)
    split at hv
    · rename_i hl
      cases hv
      cases h1.int; cases h2.int
      exact ⟨_, _, rfl, rfl, hl, F.int S⟩
    · cases hv
  | mod =>
    cases u <;> cases w <;> simp only [opD] at hv <;> try (cases hv; done)
    split at hv
    · rename_i hl
      cases hv
      cases h1.int; cases h2.int
      exact ⟨_, _, rfl, rfl, hl, F.int S⟩
    · cases hv
  | pow =>
    cases u <;> cases w <;> simp only [opD] at hv <;> try (cases hv; done)
    split at hv
    · rename_i hl
      cases hv
      cases h1.int; cases h2.int
      exact ⟨_, _, rfl, rfl, hl, F.int S⟩
    · cases hv

/-! ### comparisons -/
def cmOf : Cm → CmpOp
  | .lt => .Lt | .le => .LtE | .gt => .Gt | .ge => .GtE | .eq => .Eq | .ne => .NotEq | .is_ => .Is | .isnt => .IsNot | .in_ => .In | .notin => .NotIn
def rDat (K : PySem.W.Frag) (C : PyData → PyData → Prop) (f : PyData → PyData → Bool) : R2 := fun x y H Q => ∃ d e, RD K nopr H x d ∧ RD K nopr H y e ∧ C d e ∧ Q (.bl (f d e)) H
def rCm (K : PySem.W.Frag) : Cm → R2
  | .lt => fun x y H Q => rI0 (fun i j => .bl (decide (i < j))) x y H Q ∨ rDat K CLt dataLt x y H Q
  | .gt => fun x y H Q => rI0 (fun i j => .bl (decide (j < i))) x y H Q ∨ rDat K CGt (fun d e => dataLt e d) x y H Q
  | .le => rI0 fun i j => .bl (decide (i ≤ j))
  | .ge => rI0 fun i j => .bl (decide (j ≤ i))
  | .eq => fun x y H Q => rEq x y H Q ∨ rDat K CEq PyData.eqv x y H Q
  | .ne => fun x y H Q => rNe x y H Q ∨ rDat K CEq (fun d e => !PyData.eqv d e) x y H Q
  | .is_ => fun x y H Q => (y = .non ∧ Q (.bl (decide (x = .non))) H) ∨ (∃ a b, x = .bl a ∧ y = .bl b ∧ Q (.bl (decide (a = b))) H)
  | .isnt => fun x y H Q => (y = .non ∧ Q (.bl (!decide (x = .non))) H) ∨ (∃ a b, x = .bl a ∧ y = .bl b ∧ Q (.bl (!decide (a = b))) H)
  | .in_ => rDat K CIn fIn
  | .notin => rDat K CIn fun d e => !fIn d e
theorem cm_all {X : Cx} (hu : X.A.units + 70 < cLine) (o : Cm) : OpR X (compareOp (cmOf o)) (rCm X.K o) := by
  cases o with
  | lt => exact OpR.or op_lt (op_ltP hu)
  | gt => exact OpR.or op_gt (op_gtP hu)
  | le => exact op_le
  | ge => exact op_ge
  | eq => exact OpR.or op_eq (op_eqP hu)
  | ne => exact OpR.or op_ne (op_neP hu)
  | is_ => exact OpR.or op_isN op_is_bl
  | isnt => exact OpR.or op_notN op_isnot_bl
  | in_ => exact op_inP hu
  | notin => exact op_notinP hu
theorem eqD_eq {u w : PyData} {b : Bool} (h : eqD u w = some b) : (∃ i j, u = .int i ∧ w = .int j ∧ b = decide (i = j)) ∨ (∃ i j, u = .str i ∧ w = .str j ∧ b = decide (i = j)) ∨ (∃ i j, u = .bool i ∧ w = .bool j ∧ b = decide (i = j)) ∨ (u = .none ∧ w = .none ∧ b = true) ∨
    (CEq u w ∧ b = PyData.eqv u w) := by
  unfold eqD at h
  split at h
  · cases h; exact .inl ⟨_, _, rfl, rfl, rfl⟩
  · cases h; exact .inr (.inl ⟨_, _, rfl, rfl, rfl⟩)
  · cases h; exact .inr (.inr (.inl ⟨_, _, rfl, rfl, rfl⟩))
  · cases h; exact .inr (.inr (.inr (.inl ⟨rfl, rfl, rfl⟩)))
  · split at h
    · rename_i hc
      cases h
      simp only [Bool.and_eq_true, decide_eq_true_eq] at hc
      exact .inr (.inr (.inr (.inr ⟨⟨hc.1.1, hc.1.2, hc.2⟩, rfl⟩)))
    · cases h
theorem ltD_eq {u w : PyData} {b : Bool} (h : ltD u w = some b) : (∃ i j, u = .int i ∧ w = .int j ∧ b = decide (i < j)) ∨ (CLt u w ∧ b = dataLt u w) := by
  unfold ltD at h
  split at h
  · cases h; exact .inl ⟨_, _, rfl, rfl, rfl⟩
  · cases h
  · rename_i hn _
    split at h
    · rename_i hc
      cases h
      simp only [Bool.and_eq_true, decide_eq_true_eq] at hc
      exact .inr ⟨⟨hc.1, fun e => hn e, hc.2⟩, rfl⟩
    · cases h
mutual
theorem alike_sym : ∀ {x y : PyData}, alike x y = true → alike y x = true
  | .none, y, h => by cases y <;> simp_all [alike]
  | .bool _, y, h => by cases y <;> simp_all [alike]
  | .int _, y, h => by cases y <;> simp_all [alike]
  | .str _, y, h => by cases y <;> simp_all [alike]
  | .list xs, y, h => by
    cases y with
    | list ys => rw [alike] at h ⊢; exact alikeAll_sym h
    | _ => simp [alike] at h
  | .tuple xs, y, h => by
    cases y with
    | tuple ys => rw [alike] at h ⊢; exact alikeAll_sym h
    | _ => simp [alike] at h
  | .dict _, y, h => by cases y <;> simp_all [alike]
theorem alikeAll_sym : ∀ {x y : List PyData}, alikeAll x y = true → alikeAll y x = true
  | [], [], _ => rfl
  | [], _ :: _, _ => by rw [alikeAll]
  | _ :: _, [], _ => by rw [alikeAll]
  | x :: xs, y :: ys, h => by
    have h' := alike_all_cons h
    rw [alikeAll, alike_sym h'.1, alikeAll_sym h'.2]; rfl
end
theorem alike_none {y : PyData} (h : alike y .none = true) : y = .none := by cases y <;> simp_all [alike]
theorem cmp_spec {K : PySem.W.Frag} {g : Gs} {st : Sto} {H : Hp} {Q : VK} {x y : V} {u w : PyData} {b : Bool} (o : Cm) (hv : cmpD o u w = some b) (S : Sim K g st H) (h1 : RT K g.Pr H x u) (h2 : RT K g.Pr H y w) (F : Q (.bl b) H) : rCm K o x y H Q := by
  cases o with
  | lt =>
    simp only [cmpD] at hv
    rcases ltD_eq hv with ⟨i, j, rfl, rfl, rfl⟩ | ⟨hc, rfl⟩
    · cases h1.int; cases h2.int
      exact .inl ⟨_, _, rfl, rfl, F⟩
    · exact .inr ⟨u, w, h1.q, h2.q, hc, F⟩
  | gt =>
    simp only [cmpD] at hv
    rcases ltD_eq hv with ⟨i, j, rfl, rfl, rfl⟩ | ⟨hc, rfl⟩
    · cases h1.int; cases h2.int
      exact .inl ⟨_, _, rfl, rfl, F⟩
    · exact .inr ⟨u, w, h1.q, h2.q, ⟨alike_sym hc.1, fun e => hc.2.1 (alike_none (by rw [← e]; exact hc.1)), hc.2.2⟩, F⟩
  | le =>
    cases u <;> cases w <;> simp only [cmpD] at hv <;> try (cases hv; done)
    cases hv
    cases h1.int; cases h2.int
    exact ⟨_, _, rfl, rfl, F⟩
  | ge =>
    cases u <;> cases w <;> simp only [cmpD] at hv <;> try (cases hv; done)
    cases hv
    cases h1.int; cases h2.int
    exact ⟨_, _, rfl, rfl, F⟩
  | eq =>
    simp only [cmpD] at hv
    rcases eqD_eq hv with ⟨i, j, rfl, rfl, rfl⟩ | ⟨i, j, rfl, rfl, rfl⟩ | ⟨i, j, rfl, rfl, rfl⟩ | ⟨rfl, rfl, rfl⟩ | ⟨hc, rfl⟩
    · cases h1.int; cases h2.int
      exact .inl ⟨rfl, by simpa using F⟩
    · cases h1.str; cases h2.str
      exact .inl ⟨rfl, by simpa using F⟩
    · cases h1.bl; cases h2.bl
      exact .inl ⟨rfl, by simpa using F⟩
    · cases h1.non; cases h2.non
      exact .inl ⟨rfl, by simpa using F⟩
    · exact .inr ⟨u, w, h1.q, h2.q, hc, F⟩
  | ne =>
    simp only [cmpD, Option.map_eq_some_iff] at hv
    obtain ⟨b', hv, rfl⟩ := hv
    rcases eqD_eq hv with ⟨i, j, rfl, rfl, rfl⟩ | ⟨i, j, rfl, rfl, rfl⟩ | ⟨i, j, rfl, rfl, rfl⟩ | ⟨rfl, rfl, rfl⟩ | ⟨hc, rfl⟩
    · cases h1.int; cases h2.int
      exact .inl ⟨rfl, by simpa using F⟩
    · cases h1.str; cases h2.str
      exact .inl ⟨rfl, by simpa using F⟩
    · cases h1.bl; cases h2.bl
      exact .inl ⟨rfl, by simpa using F⟩
    · cases h1.non; cases h2.non
      exact .inl ⟨rfl, by simpa using F⟩
    · exact .inr ⟨u, w, h1.q, h2.q, hc, F⟩
  | is_ =>
    cases w with
    | none =>
      simp only [cmpD] at hv
      cases hv
      cases h2.non
      exact .inl ⟨rfl, by rw [rel_none h1.q]; exact F⟩
    | bool j =>
      cases u <;> simp only [cmpD] at hv <;> try (cases hv; done)
      cases hv
      cases h1.bl; cases h2.bl
      exact .inr ⟨_, _, rfl, rfl, F⟩
    | _ => cases u <;> simp [cmpD] at hv
  | isnt =>
    cases w with
    | none =>
      simp only [cmpD] at hv
      cases hv
      cases h2.non
      exact .inl ⟨rfl, by rw [rel_none h1.q]; exact F⟩
    | bool j =>
      cases u <;> simp only [cmpD] at hv <;> try (cases hv; done)
      cases hv
      cases h1.bl; cases h2.bl
      exact .inr ⟨_, _, rfl, rfl, by simpa using F⟩
    | _ => cases u <;> simp [cmpD] at hv
  | in_ =>
    simp only [cmpD] at hv
    cases w <;> simp only [inD] at hv <;> try (cases hv; done)
    · split at hv
      · rename_i hc
        cases hv
        simp only [Bool.and_eq_true, decide_eq_true_eq] at hc
        exact ⟨u, _, h1.q, h2.q, ⟨hc.1.1, hc.2, _, .inl rfl, hc.1.2⟩, F⟩
      · cases hv
    · split at hv
      · rename_i hc
        cases hv
        simp only [Bool.and_eq_true, decide_eq_true_eq] at hc
        exact ⟨u, _, h1.q, h2.q, ⟨hc.1.1, hc.2, _, .inr rfl, hc.1.2⟩, F⟩
      · cases hv
  | notin =>
    simp only [cmpD, Option.map_eq_some_iff] at hv
    obtain ⟨b', hv, rfl⟩ := hv
    cases w <;> simp only [inD] at hv <;> try (cases hv; done)
    · split at hv
      · rename_i hc
        cases hv
        simp only [Bool.and_eq_true, decide_eq_true_eq] at hc
        exact ⟨u, _, h1.q, h2.q, ⟨hc.1.1, hc.2, _, .inl rfl, hc.1.2⟩, F⟩
      · cases hv
    · split at hv
      · rename_i hc
        cases hv
        simp only [Bool.and_eq_true, decide_eq_true_eq] at hc
        exact ⟨u, _, h1.q, h2.q, ⟨hc.1.1, hc.2, _, .inr rfl, hc.1.2⟩, F⟩
      · cases hv

/-! ### subscripts, slices -/
theorem atI_mem {α : Type} {xs : List α} {i : Int} {x : α} (h : atI xs i = some x) : ∃ j, ixN xs.length i = some j ∧ xs[j]? = some x := by
  unfold atI at h
  rw [Option.bind_eq_some_iff] at h
  exact h
theorem atI_of {α β : Type} {xs : List α} {ys : List β} {i : Int} {y : β} {j : Nat} (hl : ys.length = xs.length) (h : ixN xs.length i = some j) (hy : ys[j]? = some y) : atI ys i = some y := by
  unfold atI
  rw [hl, h]
  exact hy
theorem ix_spec {K : PySem.W.Frag} {g : Gs} {st : Sto} {H : Hp} {Q : VK} {x y : V} {u w v : PyData} (hv : ixD u w = some v) (S : Sim K g st H) (h1 : RT K g.Pr H x u) (h2 : RT K g.Pr H y w) (F : Fin K g st H (.d v) Q) : rIxL K x y H Q ∨ rIxT K x y H Q := by
  cases u <;> cases w <;> simp only [ixD] at hv <;> try (cases hv; done)
  · cases h2.int
    obtain ⟨a, xs, rfl, q, r⟩ := h1
    obtain ⟨j, e1, e2⟩ := atI_mem hv
    obtain ⟨z, hz, rz⟩ := r.get e2
    exact .inl ⟨a, xs, _, z, rfl, rfl, q, atI_of r.length e1 hz, F.val S rz⟩
  · cases h2.int
    obtain ⟨a, xs, rfl, q, r⟩ := h1
    obtain ⟨j, e1, e2⟩ := atI_mem hv
    obtain ⟨z, hz, rz⟩ := r.get e2
    exact .inr ⟨a, xs, _, z, rfl, rfl, q, atI_of r.length e1 hz, F.val S rz⟩
theorem cutL_rds {K : PySem.W.Frag} {pr : Addr → Prop} {H : Hp} {vs : List V} {ds : List PyData} (r : RDs K pr H vs ds) (lo hi : Option Int) : RDs K pr H (cutV vs lo hi) (cutL ds lo hi) := by
  unfold cutV cutL
  rw [r.length]
  exact (r.drop _).take _
theorem cutL_full {α : Type} (xs : List α) {lo hi : Option Int} (h : HT.sIx xs.length 0 lo = 0 ∧ HT.sIx xs.length xs.length hi = xs.length) : cutL xs lo hi = xs := by
  unfold cutL
  rw [h.1, h.2, List.drop_zero, Nat.sub_zero, List.take_length]
theorem sl_spec {K : PySem.W.Frag} {g : Gs} {st : Sto} {H : Hp} {Q : VK} {x : V} {u : PyData} {v : PV} {lo hi : Option Int} (hv : slD u lo hi = some v) (S : Sim K g st H) (h1 : RT K g.Pr H x u) (F : Fin K g st H v Q) : rSlL K x lo hi H Q ∨ rSlA K x lo hi H Q := by
  cases u <;> simp only [slD] at hv <;> try (cases hv; done)
  · cases hv
    obtain ⟨a, xs, rfl, q, r⟩ := h1
    exact .inl ⟨a, xs, rfl, q, F.lst S (cutL_rds r _ _)⟩
  · cases hv
    obtain ⟨a, xs, rfl, q, r⟩ := h1
    refine .inr ⟨a, xs, rfl, q, fun e => ?_, fun _ => F.tup S (cutL_rds r _ _)⟩
    rw [r.length] at e
    rw [cutL_full _ e] at F
    exact F.val S (.tup q r)

/-! ### builtins -/
def biNm : Bi → Str
  | .len => "len" | .abs => "abs" | .int => "int" | .sum => "sum" | .max => "max" | .min => "min" | .any => "any" | .all => "all" | .sorted => "sorted" | .tuple => "tuple" | .list => "list" | .isinst => "isinstance" | .str => "str"
def biT : Bi → Option String
  | .int => some "int" | .tuple => some "tuple" | .list => some "list" | .str => some "str" | _ => none
def biB : Bi → String
  | .len => "len" | .abs => "abs" | .int => "int" | .sum => "sum" | .max => "max" | .min => "min" | .any => "any" | .all => "all" | .sorted => "sorted" | .tuple => "tuple" | .list => "list" | .isinst => "isinstance" | .str => "str"
def biVal (b : Bi) : Value := match biT b with
  | some t => .type t
  | none => .builtin (biB b)
theorem boot_bi (b : Bi) : bootBuiltins (biNm b) = some (biVal b) := by cases b <;> decide +kernel
theorem bi_nm (b : Bi) : biNm b ≠ "__name__" ∧ (biNm b == ("__debug__" : Str)) = false := by cases b <;> decide +kernel
abbrev RC := List V → Hp → VK → Prop
def rBi (K : PySem.W.Frag) : Bi → RC
  | .len => fun xs H Q => (∃ p ys, xs = [.ref p] ∧ (SqL K H p ys ∨ SqT K H p ys) ∧ Q (.int ys.length) H) ∨ (∃ z, xs = [.str z] ∧ z.length ≤ sizeLine ∧ Q (.int z.length) H)
  | .abs => fun xs H Q => ∃ i, xs = [.int i] ∧ Q (.int (if i < 0 then -i else i)) H
  | .int => fun xs H Q => (∃ i, xs = [.int i] ∧ Q (.int i) H) ∨ ∃ k, xs = [.bl k] ∧ Q (.int (if k then 1 else 0)) H
  | .sum => fun vs H Q => ∃ pr x, ∃ ns : List Int, vs = [x] ∧ RSeq K pr H x (ns.map PyData.int) ∧ Q (.int ns.sum) H
  | .max => fun vs H Q => (∃ i j, vs = [.int i, .int j] ∧ Q (.int (if j > i then j else i)) H) ∨ ∃ pr x y ds, vs = [x] ∧ RSeq K pr H x (y :: ds) ∧ alikeAllB (y :: ds) = true ∧ ∀ v, RD K pr H v (maxD y ds) → Q v H
  | .min => fun vs H Q => (∃ i j, vs = [.int i, .int j] ∧ Q (.int (if j < i then j else i)) H) ∨ ∃ pr x y ds, vs = [x] ∧ RSeq K pr H x (y :: ds) ∧ alikeAllB (y :: ds) = true ∧ ∀ v, RD K pr H v (minD y ds) → Q v H
  | .any => rAny K
  | .all => rAll K
  | .sorted => fun vs H Q => ∃ pr x ds, vs = [x] ∧ RSeq K pr H x ds ∧ alikeAllB ds = true ∧ sortableB ds = true ∧ ∀ p ws, RDs K pr H ws (ds.mergeSort (dataLe false id)) → H p = none → Q (.ref p) (upd H p (.lst ws))
  | .tuple => fun xs H Q => ∃ p ys, xs = [.ref p] ∧ ((SqL K H p ys ∧ ∀ l, H l = none → Q (.ref l) (upd H l (.tup ys))) ∨ (SqT K H p ys ∧ Q (.ref p) H))
  | .list => fun xs H Q => ∃ p ys, xs = [.ref p] ∧ (SqL K H p ys ∨ SqT K H p ys) ∧ ∀ l, H l = none → Q (.ref l) (upd H l (.lst ys))
  | .isinst => fun vs H Q => ∃ x n d b, vs = [x, .ty n] ∧ RD K nopr H x d ∧ isaD n d = some b ∧ Q (.bl b) H
  | .str => fun _ _ _ => False
theorem bi_all {X : Cx} (hc : X.calm = true) (hu : X.A.units + 70 < cLine) (b : Bi) : CallR X (biVal b) (rBi X.K b) := by
  cases b with
  | len => exact CallR.or call_len_seq call_len_str
  | abs => exact call_abs
  | int => exact call_int1
  | sum => exact call_sumD hc
  | max => exact CallR.or (call_max2 hc) (call_maxD hc hu)
  | min => exact CallR.or (call_min2 hc) (call_minD hc hu)
  | any => exact cr_any hc
  | all => exact cr_all hc
  | sorted => exact call_sortedD hu
  | tuple => exact call_tuple_of
  | list => exact call_list_of
  | isinst => exact call_isaD
  | str => exact fun _ _ _ _ _ _ _ _ _ h => h.elim
end Ev

set_option maxRecDepth 100000
/-! Ev8: builtins answered; walks; targets; comprehensions. -/
namespace Ev
open PySem L2 PySem.W PyProof.Rows PySem.SeqAt

theorem RT.seqL {K : PySem.W.Frag} {pr : Addr → Prop} {H : Hp} {x : V} {u : PyData} {ds : List PyData} (h : RT K pr H x u) (e : itemsD u = some ds) : RSeq K pr H x ds := itemsD_seq h e
theorem maxD_int {n : Int} {ns : List Int} : maxD (.int n) (ns.map PyData.int) = .int (ns.foldl max n) := maxD_ints n ns
theorem minD_int {n : Int} {ns : List Int} : minD (.int n) (ns.map PyData.int) = .int (ns.foldl min n) := minD_ints n ns
theorem alike_ints (ns : List Int) : alikeAllB (ns.map PyData.int) = true := by
  unfold alikeAllB
  simp [List.all_map, alike, isNone, PyData.depth]
section
variable {K : PySem.W.Frag} {g : Gs} {st : Sto} {H : Hp} {Q : VK}
theorem bi_spec1 {b : Bi} {x : V} {u : PyData} {v : PV} (hv : biD b [u] = some v) (S : Sim K g st H) (h : RT K g.Pr H x u) (F : Fin K g st H v Q) : rBi K b [x] H Q := by
  cases b with
  | len =>
    cases u <;> simp only [biD] at hv <;> try (cases hv; done)
    · split at hv
      · rename_i hl
        cases hv
        cases h.str
        exact .inr ⟨_, rfl, hl, F.int S⟩
      · cases hv
    · cases hv
      obtain ⟨a, xs, rfl, q, r⟩ := h
      exact .inl ⟨a, xs, rfl, .inl q, by rw [r.length]; exact F.int S⟩
    · cases hv
      obtain ⟨a, xs, rfl, q, r⟩ := h
      exact .inl ⟨a, xs, rfl, .inr q, by rw [r.length]; exact F.int S⟩
    · cases hv
      have h : RD K g.Pr H x (.dict _) := h
      cases h
  | abs =>
    cases u <;> simp only [biD] at hv <;> try (cases hv; done)
    cases hv
    cases h.int
    exact ⟨_, rfl, F.int S⟩
  | int =>
    cases u <;> simp only [biD] at hv <;> try (cases hv; done)
    · cases hv
      cases h.bl
      exact .inr ⟨_, rfl, F.int S⟩
    · cases hv
      cases h.int
      exact .inl ⟨_, rfl, F.int S⟩
  | sum =>
    simp only [biD, Option.bind_eq_some_iff, Option.map_eq_some_iff] at hv
    obtain ⟨xs, e1, ns, e2, rfl⟩ := hv
    cases allInts_eq e2
    exact ⟨_, x, ns, rfl, h.seqL e1, F.int S⟩
  | any =>
    cases u <;> simp only [biD] at hv <;> try (cases hv; done)
    simp only [Option.map_eq_some_iff] at hv
    obtain ⟨bs, e2, rfl⟩ := hv
    cases allBools_eq e2
    obtain ⟨a, ws, rfl, q, r⟩ := h
    cases r.to_bools
    exact ⟨a, bs, rfl, q, F.bl S⟩
  | all =>
    cases u <;> simp only [biD] at hv <;> try (cases hv; done)
    simp only [Option.map_eq_some_iff] at hv
    obtain ⟨bs, e2, rfl⟩ := hv
    cases allBools_eq e2
    obtain ⟨a, ws, rfl, q, r⟩ := h
    cases r.to_bools
    exact ⟨a, bs, rfl, q, F.bl S⟩
  | max =>
    have hv : ((itemsD u).bind fun xs => match xs with
      | [] => none
      | y :: r => match allInts (y :: r) with
        | some (n :: ns) => some (PV.d (.int (ns.foldl max n)))
        | _ => if alikeAllB (y :: r) then some (PV.d (maxD y r)) else none) = some v := by
      cases u <;> exact hv
    rw [Option.bind_eq_some_iff] at hv
    obtain ⟨xs, e1, hv⟩ := hv
    cases xs with
    | nil => cases hv
    | cons y r =>
      simp only at hv
      split at hv
      · rename_i n ns e2
        cases hv
        have e := allInts_eq e2
        rw [List.map_cons] at e
        injection e with e3 e4
        subst e3 e4
        exact .inr ⟨_, x, _, _, rfl, h.seqL e1, alike_ints (n :: ns), fun w hw => by rw [maxD_int] at hw; exact F.val S hw⟩
      · split at hv
        · rename_i hc
          cases hv
          exact .inr ⟨_, x, _, _, rfl, h.seqL e1, hc, fun w hw => F.val S hw⟩
        · cases hv
  | min =>
    have hv : ((itemsD u).bind fun xs => match xs with
      | [] => none
      | y :: r => match allInts (y :: r) with
        | some (n :: ns) => some (PV.d (.int (ns.foldl min n)))
        | _ => if alikeAllB (y :: r) then some (PV.d (minD y r)) else none) = some v := by
      cases u <;> exact hv
    rw [Option.bind_eq_some_iff] at hv
    obtain ⟨xs, e1, hv⟩ := hv
    cases xs with
    | nil => cases hv
    | cons y r =>
      simp only at hv
      split at hv
      · rename_i n ns e2
        cases hv
        have e := allInts_eq e2
        rw [List.map_cons] at e
        injection e with e3 e4
        subst e3 e4
        exact .inr ⟨_, x, _, _, rfl, h.seqL e1, alike_ints (n :: ns), fun w hw => by rw [minD_int] at hw; exact F.val S hw⟩
      · split at hv
        · rename_i hc
          cases hv
          exact .inr ⟨_, x, _, _, rfl, h.seqL e1, hc, fun w hw => F.val S hw⟩
        · cases hv
  | sorted =>
    simp only [biD, Option.bind_eq_some_iff] at hv
    obtain ⟨xs, e1, hv⟩ := hv
    split at hv
    · rename_i hc
      cases hv
      simp only [Bool.and_eq_true, decide_eq_true_eq] at hc
      exact ⟨_, x, xs, rfl, h.seqL e1, hc.1.1, hc.1.2, fun p ws r hp => F.lst S r p hp⟩
    · cases hv
  | tuple =>
    cases u <;> simp only [biD] at hv <;> try (cases hv; done)
    · cases hv
      obtain ⟨a, xs, rfl, q, r⟩ := h
      exact ⟨a, xs, rfl, .inl ⟨q, F.tup S r⟩⟩
    · cases hv
      obtain ⟨a, xs, rfl, q, r⟩ := h
      exact ⟨a, xs, rfl, .inr ⟨q, F.val S (.tup q r)⟩⟩
  | list =>
    cases u <;> simp only [biD] at hv <;> try (cases hv; done)
    · cases hv
      obtain ⟨a, xs, rfl, q, r⟩ := h
      exact ⟨a, xs, rfl, .inl q, F.lst S r⟩
    · cases hv
      obtain ⟨a, xs, rfl, q, r⟩ := h
      exact ⟨a, xs, rfl, .inr q, F.lst S r⟩
  | isinst => cases u <;> simp [biD] at hv
  | str => cases u <;> simp [biD] at hv
theorem bi_spec2 {b : Bi} {x y : V} {u w : PyData} {v : PV} (hv : biD b [u, w] = some v) (S : Sim K g st H) (h : RT K g.Pr H x u) (h2 : RT K g.Pr H y w) (F : Fin K g st H v Q) : rBi K b [x, y] H Q := by
  cases b with
  | max =>
    cases u <;> cases w <;> simp only [biD] at hv <;> try (cases hv; done)
    cases hv
    cases h.int; cases h2.int
    exact .inl ⟨_, _, rfl, F.int S⟩
  | min =>
    cases u <;> cases w <;> simp only [biD] at hv <;> try (cases hv; done)
    cases hv
    cases h.int; cases h2.int
    exact .inl ⟨_, _, rfl, F.int S⟩
  | _ => cases u <;> cases w <;> simp [biD] at hv
theorem bi_spec {b : Bi} {ws : List V} {xs : List PV} {v : PV} {Bo : Addr → Prop} (hv : biV b xs st = some v) (S : Sim K g st H) (h : Paired (Rep K g Bo H) ws xs) (hB : ∀ a, Bo a → g.B a) (F : Fin K (g.wB Bo) st H v Q) : rBi K b ws H Q := by
  have S' := S.weak hB
  have kp : ∀ {x : V} {u : PyData}, RT K g.Pr H x u → RT K (g.wB Bo).Pr H x u := fun h => h.keep fun _ q => Gs.wB_pr hB q
  have two : ∀ {x y : PV} {ws : List V}, Paired (Rep K g Bo H) ws [x, y] → ((rd x st).bind fun u => (rd y st).bind fun w => biD b [u, w]) = some v → rBi K b ws H Q := fun {x y ws} h hv => by
    cases h with
    | cons r1 h =>
      cases h with
      | cons r2 h =>
        cases h
        simp only [Option.bind_eq_some_iff] at hv
        obtain ⟨u, e1, w, e2, hv⟩ := hv
        exact bi_spec2 hv S' (kp (r1.rt S e1)) (kp (r2.rt S e2)) F
  unfold biV at hv
  split at hv
  · cases h with
    | cons r1 h =>
      cases h with
      | cons r2 h =>
        cases h
        simp only [Option.bind_eq_some_iff, Option.map_eq_some_iff] at hv
        obtain ⟨u, e1, k, e2, rfl⟩ := hv
        cases (show _ = V.ty _ from r2)
        exact ⟨_, _, u, k, rfl, (r1.rt S e1).q, e2, F.bl S'⟩
  · cases h with
    | cons r1 h =>
      cases h
      simp only [Option.bind_eq_some_iff] at hv
      obtain ⟨u, e1, hv⟩ := hv
      exact bi_spec1 hv S' (kp (r1.rt S e1)) F
  · exact two h hv
  · cases hv
end

/-! ### walks -/
/-- what is walked, and how it stays -/
inductive Src (K : PySem.W.Frag) (bo : Bool) (pr : Addr → Prop) (r : List Addr) (H : Hp) : V → List PyData → Prop
  | tup {a : Addr} {vs : List V} {ds : List PyData} : SqT K H a vs → RDs K pr H vs ds → Src K bo pr r H (.ref a) ds
  | lstK {a : Addr} {vs : List V} {ds : List PyData} : SqLK K a vs → RDs K pr H vs ds → Src K bo pr r H (.ref a) ds
  | lst {a : Addr} {vs : List V} {ds : List PyData} : Rd H a (.lst vs) → (bo = true ∨ ¬ pr a) → a ∉ r → RDs K pr H vs ds → Src K bo pr r H (.ref a) ds
/-- the source, with its kind and its items' values fixed -/
inductive SrcA (K : PySem.W.Frag) (bo : Bool) (a : Addr) (vs : List V) (ds : List PyData) : Bool → (Addr → Prop) → List Addr → Hp → Prop
  | tup {pr : Addr → Prop} {r : List Addr} {H : Hp} : SqT K H a vs → RDs K pr H vs ds → SrcA K bo a vs ds false pr r H
  | lstK {pr : Addr → Prop} {r : List Addr} {H : Hp} : SqLK K a vs → RDs K pr H vs ds → SrcA K bo a vs ds true pr r H
  | lst {pr : Addr → Prop} {r : List Addr} {H : Hp} : Rd H a (.lst vs) → (bo = true ∨ ¬ pr a) → a ∉ r → RDs K pr H vs ds → SrcA K bo a vs ds true pr r H
abbrev GP := (Addr → Prop) → List Addr → Hp → Prop
structure Stay (K : PySem.W.Frag) (bo : Bool) (G : GP) : Prop where
  nx : ∀ g g' H H' st, Sim K g st H → Nx g g' H H' → G g.Pr g.r H → G g'.Pr g'.r H'
  keep : bo = false → ∀ (g g' : Gs) H H', Keep g.Pr H g'.Pr H' → G g.Pr g.r H → G g'.Pr g'.r H'
  anti : ∀ (pr pr' : Addr → Prop) r H, (∀ a, pr' a → pr a) → G pr r H → G pr' r H
structure Wk (K : PySem.W.Frag) (J : L2.It) (G : GP) (xs : List PyData) : Prop where
  go : ∀ pr r H i, G pr r H → i < xs.length → J.go i H
  stop : ∀ pr r H, G pr r H → J.stop xs.length H
  yld : ∀ pr r H i v H', G pr r H → i < xs.length → J.yld i H v H' → ∃ x, xs[i]? = some x ∧ ((H' = H ∧ RD K pr H v x) ∨ ∃ T vs ds, v = .ref T ∧ H T = none ∧ H' = upd H T (.tup vs) ∧ x = .tuple ds ∧ RDs K pr H vs ds)
section
variable {K : PySem.W.Frag} {bo : Bool} {pr pr' : Addr → Prop} {r r' : List Addr} {H H' : Hp} {v : V} {ds : List PyData} {g g' : Gs} {st st' : Sto}
theorem Src.nx (S : Sim K g st H) (n : Nx g g' H H') (h : Src K bo g.Pr g.r H v ds) : Src K bo g'.Pr g'.r H' v ds := by
  have k := n.keep S
  cases h with
  | tup q r => exact .tup (k.tup q) (r.keep k)
  | lstK q r => exact .lstK q (r.keep k)
  | @lst a vs _ q hb hr r =>
    have q' : Rd H' a (.lst vs) := by
      rcases q with q | ⟨o, q⟩
      · exact .inl (n.fr a _ q hr)
      · exact .inr ⟨o, n.fr a _ q hr⟩
    refine .lst q' (hb.imp id fun hp => (k.rd q hp).2) (fun z => ?_) (r.keep k)
    rcases n.rn a z with z | z
    · exact hr z
    · rcases q with q | ⟨o, q⟩
      · rw [q] at z; cases z
      · rw [q] at z; cases z
theorem Src.keep {g g' : Gs} (hb : bo = false) (k : Keep g.Pr H g'.Pr H') (h : Src K bo g.Pr g.r H v ds) : Src K bo g'.Pr g'.r H' v ds := by
  cases h with
  | tup q r => exact .tup (k.tup q) (r.keep k)
  | lstK q r => exact .lstK q (r.keep k)
  | lst q h1 hr r =>
    have hp : ¬ g.Pr _ := h1.resolve_left (by rw [hb]; exact Bool.false_ne_true)
    exact .lst (k.rd q hp).1 (.inr (k.rd q hp).2) (fun z => (k.rd q hp).2 (.inr (.inl z))) (r.keep k)
theorem Src.anti (hp : ∀ a, pr' a → pr a) (h : Src K bo pr r H v ds) : Src K bo pr' r H v ds := by
  cases h with
  | tup q r => exact .tup q (r.keep (.anti hp))
  | lstK q r => exact .lstK q (r.keep (.anti hp))
  | lst q h1 hr r => exact .lst q (h1.imp id fun z y => z (hp _ y)) hr (r.keep (.anti hp))
theorem Src.sq (h : Src K bo pr r H v ds) : ∃ k a vs, v = .ref a ∧ SqK K k H a vs ∧ RDs K pr H vs ds := by
  cases h with
  | tup q r => exact ⟨false, _, _, rfl, q, r⟩
  | lstK q r => exact ⟨true, _, _, rfl, .inr q, r⟩
  | lst q _ _ r => exact ⟨true, _, _, rfl, .inl q, r⟩
theorem sqL_not {K : PySem.W.Frag} {H : Hp} {a : Addr} {vs ws : List V} (h : SqLK K a vs) : SqL K H a vs := .inr h
theorem SrcA.sq {a : Addr} {vs : List V} {k : Bool} (h : SrcA K bo a vs ds k pr r H) : SqK K k H a vs ∧ RDs K pr H vs ds := by
  cases h with
  | tup q r => exact ⟨q, r⟩
  | lstK q r => exact ⟨.inr q, r⟩
  | lst q _ _ r => exact ⟨.inl q, r⟩
theorem Src.A (h : Src K bo pr r H v ds) : ∃ k a vs, v = .ref a ∧ SrcA K bo a vs ds k pr r H := by
  cases h with
  | tup q r => exact ⟨_, _, _, rfl, .tup q r⟩
  | lstK q r => exact ⟨_, _, _, rfl, .lstK q r⟩
  | lst q h1 h2 r => exact ⟨_, _, _, rfl, .lst q h1 h2 r⟩
theorem SrcA.stay {a : Addr} {vs : List V} {k : Bool} : Stay K bo (SrcA K bo a vs ds k) where
  nx := fun g g' H H' st S n h => by
    have kk := n.keep S
    cases h with
    | tup q r => exact .tup (kk.tup q) (r.keep kk)
    | lstK q r => exact .lstK q (r.keep kk)
    | lst q hb hr r =>
      have q' : Rd H' a (.lst vs) := by
        rcases q with q | ⟨o, q⟩
        · exact .inl (n.fr a _ q hr)
        · exact .inr ⟨o, n.fr a _ q hr⟩
      refine .lst q' (hb.imp id fun hp => (kk.rd q hp).2) (fun z => ?_) (r.keep kk)
      rcases n.rn a z with z | z
      · exact hr z
      · rcases q with q | ⟨o, q⟩
        · rw [q] at z; cases z
        · rw [q] at z; cases z
  keep := fun hb g g' H H' kk h => by
    cases h with
    | tup q r => exact .tup (kk.tup q) (r.keep kk)
    | lstK q r => exact .lstK q (r.keep kk)
    | lst q h1 hr r =>
      have hp : ¬ g.Pr a := h1.resolve_left (by rw [hb]; exact Bool.false_ne_true)
      exact .lst (kk.rd q hp).1 (.inr (kk.rd q hp).2) (fun z => (kk.rd q hp).2 (.inr (.inl z))) (r.keep kk)
  anti := fun pr pr' r H hp h => by
    cases h with
    | tup q r => exact .tup q (r.keep (.anti hp))
    | lstK q r => exact .lstK q (r.keep (.anti hp))
    | lst q h1 hr r => exact .lst q (h1.imp id fun z y => z (hp _ y)) hr (r.keep (.anti hp))
theorem Stay.and {G G' : GP} (a : Stay K bo G) (b : Stay K bo G') : Stay K bo fun pr r H => G pr r H ∧ G' pr r H :=
  ⟨fun g g' H H' st S n h => ⟨a.nx g g' H H' st S n h.1, b.nx g g' H H' st S n h.2⟩, fun e g g' H H' k h => ⟨a.keep e g g' H H' k h.1, b.keep e g g' H H' k h.2⟩, fun pr pr' r H p h => ⟨a.anti pr pr' r H p h.1, b.anti pr pr' r H p h.2⟩⟩
theorem Stay.true : Stay K bo fun _ _ _ => True := ⟨fun _ _ _ _ _ _ _ _ => trivial, fun _ _ _ _ _ _ _ => trivial, fun _ _ _ _ _ _ => trivial⟩
theorem wk_list {a : Addr} {vs : List V} : Wk K (Itl K a) (SrcA K bo a vs ds true) ds where
  go := fun pr r H i h hi => by
    obtain ⟨q, rr⟩ := h.sq
    exact ⟨vs, vs[i]'(by rw [rr.length]; exact hi), q, List.getElem?_eq_getElem _⟩
  stop := fun pr r H h => by
    obtain ⟨q, rr⟩ := h.sq
    exact ⟨vs, q, by rw [rr.length]; exact Nat.le_refl _⟩
  yld := fun pr r H i v H' h hi y => by
    obtain ⟨q, rr⟩ := h.sq
    obtain ⟨e, y⟩ := y
    obtain ⟨x, h1, h2⟩ := rr.get' (y vs q)
    exact ⟨x, h1, .inl ⟨e, h2⟩⟩
theorem wk_tup {a : Addr} {vs : List V} : Wk K (Itt K a) (SrcA K bo a vs ds false) ds where
  go := fun pr r H i h hi => by
    obtain ⟨q, rr⟩ := h.sq
    exact ⟨vs, vs[i]'(by rw [rr.length]; exact hi), q, List.getElem?_eq_getElem _⟩
  stop := fun pr r H h => by
    obtain ⟨q, rr⟩ := h.sq
    exact ⟨vs, q, by rw [rr.length]; exact Nat.le_refl _⟩
  yld := fun pr r H i v H' h hi y => by
    obtain ⟨q, rr⟩ := h.sq
    obtain ⟨e, y⟩ := y
    obtain ⟨x, h1, h2⟩ := rr.get' (y vs q)
    exact ⟨x, h1, .inl ⟨e, h2⟩⟩
theorem rgL_length (a b : Int) : (rgL a b).length = (b - a).toNat := by unfold rgL; rw [List.length_map, List.length_range]
theorem rgC_length (a c : Int) (n : Nat) : (rgC a c n).length = n := by unfold rgC; rw [List.length_map, List.length_range]
theorem wk_rng (a b : Int) : Wk K (Itr a (b - a).toNat) (fun _ _ _ => True) (rgL a b) where
  go := fun pr r H i _ hi => by rw [rgL_length] at hi; exact hi
  stop := fun pr r H _ => by show _ ≤ _; rw [rgL_length]; exact Nat.le_refl _
  yld := fun pr r H i v H' _ hi y => by
    obtain ⟨e, y⟩ := y
    subst y
    rw [rgL_length] at hi
    exact ⟨.int (a + i), by unfold rgL; rw [List.getElem?_map, List.getElem?_range hi]; rfl, .inl ⟨e, .int _⟩⟩
theorem wk_rngC (a c : Int) (n : Nat) : Wk K (Itc a c n) (fun _ _ _ => True) (rgC a c n) where
  go := fun pr r H i _ hi => by rw [rgC_length] at hi; exact hi
  stop := fun pr r H _ => by show _ ≤ _; rw [rgC_length]; exact Nat.le_refl _
  yld := fun pr r H i v H' _ hi y => by
    obtain ⟨e, y⟩ := y
    subst y
    rw [rgC_length] at hi
    exact ⟨.int (a + i * c), by unfold rgC; rw [List.getElem?_map, List.getElem?_range hi]; rfl, .inl ⟨e, .int _⟩⟩
theorem enD_length : ∀ (i : Int) (xs : List PyData), (enD i xs).length = xs.length
  | _, [] => rfl
  | i, x :: xs => by rw [enD, List.length_cons, List.length_cons, enD_length]
theorem enD_get : ∀ (k : Int) (xs : List PyData) (i : Nat) (x : PyData), xs[i]? = some x → (enD k xs)[i]? = some (.tuple [.int (k + i), x])
  | k, [], i, x, h => by simp at h
  | k, y :: xs, 0, x, h => by simp at h; subst h; simp [enD]
  | k, y :: xs, i + 1, x, h => by
    rw [enD, List.getElem?_cons_succ, enD_get (k + 1) xs i x (by simpa using h)]
    have e : k + 1 + (i : Int) = k + ((i + 1 : Nat) : Int) := by omega
    rw [e]
theorem zipD_length : ∀ (xs ys : List PyData), (zipD xs ys).length = min xs.length ys.length
  | [], ys => by cases ys <;> simp [zipD]
  | x :: xs, [] => by simp [zipD]
  | x :: xs, y :: ys => by rw [zipD, List.length_cons, zipD_length, List.length_cons, List.length_cons]; omega
theorem zipD_get : ∀ (xs ys : List PyData) (i : Nat) (x y : PyData), xs[i]? = some x → ys[i]? = some y → (zipD xs ys)[i]? = some (.tuple [x, y])
  | [], _, i, x, y, h, _ => by simp at h
  | _ :: _, [], i, x, y, _, h => by simp at h
  | u :: xs, w :: ys, 0, x, y, h, h2 => by simp at h h2; subst h h2; simp [zipD]
  | u :: xs, w :: ys, i + 1, x, y, h, h2 => by
    rw [zipD, List.getElem?_cons_succ]
    exact zipD_get xs ys i x y (by simpa using h) (by simpa using h2)
theorem wk_en {a : Addr} {vs : List V} {k : Bool} : Wk K (ItE K k a) (SrcA K bo a vs ds k) (enD 0 ds) where
  go := fun pr r H i h hi => by
    obtain ⟨q, rr⟩ := h.sq
    rw [enD_length] at hi
    exact ⟨vs, vs[i]'(by rw [rr.length]; exact hi), q, List.getElem?_eq_getElem _⟩
  stop := fun pr r H h => by
    obtain ⟨q, rr⟩ := h.sq
    exact ⟨vs, q, by rw [rr.length, enD_length]⟩
  yld := fun pr r H i v H' h hi y => by
    obtain ⟨q, rr⟩ := h.sq
    obtain ⟨T, x, rfl, hT, e, y⟩ := y
    obtain ⟨d, h1, h2⟩ := rr.get' (y vs q)
    refine ⟨_, enD_get 0 ds i d h1, .inr ⟨T, _, _, rfl, hT, e, rfl, ?_⟩⟩
    have e0 : (0 : Int) + (i : Int) = (i : Int) := by omega
    rw [e0]
    exact .cons (.int _) (.cons h2 .nil)
theorem wk_zp {a b : Addr} {vs ws : List V} {k j : Bool} {es : List PyData} : Wk K (ItZ K k j a b) (fun pr r H => SrcA K bo a vs ds k pr r H ∧ SrcA K bo b ws es j pr r H) (zipD ds es) where
  go := fun pr r H i h hi => by
    obtain ⟨q, rr⟩ := h.1.sq
    obtain ⟨q2, rr2⟩ := h.2.sq
    rw [zipD_length] at hi
    have h1 : i < vs.length := by rw [rr.length]; omega
    have h2 : i < ws.length := by rw [rr2.length]; omega
    exact ⟨vs, ws, vs[i], ws[i], q, q2, List.getElem?_eq_getElem _, List.getElem?_eq_getElem _⟩
  stop := fun pr r H h => by
    obtain ⟨q, rr⟩ := h.1.sq
    obtain ⟨q2, rr2⟩ := h.2.sq
    refine ⟨vs, ws, q, q2, ?_⟩
    rw [rr.length, rr2.length, zipD_length]
    omega
  yld := fun pr r H i v H' h hi y => by
    obtain ⟨q, rr⟩ := h.1.sq
    obtain ⟨q2, rr2⟩ := h.2.sq
    obtain ⟨T, x, y', rfl, hT, e, y1, y2⟩ := y
    obtain ⟨d, h1, h2⟩ := rr.get' (y1 vs q)
    obtain ⟨d', h3, h4⟩ := rr2.get' (y2 ws q2)
    exact ⟨_, zipD_get ds es i d d' h1 h3, .inr ⟨T, _, _, rfl, hT, e, rfl, .cons h2 (.cons h4 .nil)⟩⟩
/-- the interpreter's source -/
theorem src_spec {Bo : Addr → Prop} {x : PV} (S : Sim K g st H) (hB : ∀ a, Bo a → g.B a) (h : Rep K g Bo H v x) (e : srcV bo x = some ds) : Src K bo (g.wB Bo).Pr g.r H v ds := by
  have n : Nx (g.wB Bo) g H H → True := fun _ => trivial
  unfold srcV at e
  split at e
  · cases e
    have h : RD K g.Pr H v (.list _) := h
    have h' : RD K (g.wB Bo).Pr H v (.list _) := h.keep (.anti fun _ q => Gs.wB_pr hB q)
    cases h' with
    | lst q hp r => exact .lst q (.inr hp) (fun z => hp (.inr (.inl z))) r
    | lstK q r => exact .lstK q r
  · cases e
    have h : RD K g.Pr H v (.tuple _) := h
    have h' : RD K (g.wB Bo).Pr H v (.tuple _) := h.keep (.anti fun _ q => Gs.wB_pr hB q)
    cases h' with
    | tup q r => exact .tup q r
  · cases e
    obtain ⟨a, rfl, o, hb, hn, h0⟩ := h
    obtain ⟨es, vs, e', o1, o2⟩ := o.is
    cases e'
    refine .lst (.inl o1) (.inr ?_) (fun q => S.rB a q hb) (o2.keep (.anti fun _ q => Gs.wB_pr hB q))
    rintro (q | q | ⟨i, x, q1, q2⟩)
    · exact hn q
    · exact S.rB a q hb
    · obtain ⟨b, h1, _, h2, _⟩ := S.own i x q1
      have q2 : g.s[i]? = some (some (.ref a)) := q2
      rw [q2] at h1; cases h1
      exact h2 hb
  · split at e
    · rename_i hbo
      cases e
      obtain ⟨i, a, rfl, h1, h2⟩ := h
      obtain ⟨b, h3, o, h4, h5, _⟩ := S.own i _ h1
      rw [h2] at h3; cases h3
      obtain ⟨es, vs, e', o1, o2⟩ := o.is
      cases e'
      exact .lst (.inl o1) (.inl hbo) h5 (o2.keep (.anti fun _ q => Gs.wB_pr hB q))
    · cases e
  · cases e
end
end Ev

set_option maxRecDepth 100000
/-! Ev9: targets; comprehensions. -/
namespace Ev
open PySem L2 PySem.W PyProof.Rows PySem.SeqAt

def gNs : List Nat → TGs
  | [] => gNil
  | i :: is => gCons (gName i) (gNs is)
def gT (K : PySem.W.Frag) : G → TG
  | .nm i => gName i
  | .tp is => gTup K is.length (gNs is)
def gIn (own : List Nat) : G → Bool
  | .nm i => decide (i ∈ own)
  | .tp is => is.all fun i => decide (i ∈ own)
def OwnA (e : Envr) (s : L2.St) (a : Addr) : Prop := ∃ (i : Nat) (x : PyData), e[i]? = some (.own x) ∧ s[i]? = some (some (.ref a))
/-- the two states agree outside some slots -/
structure Ag (vs : List Nat) (e e1 : Envr) (s s1 : L2.St) : Prop where
  fe : ∀ (i : Nat), i ∉ vs → e1[i]? = e[i]?
  fs : ∀ (i : Nat), i ∉ vs → s1[i]? = s[i]?
  l : s1.length = s.length
section
variable {K : PySem.W.Frag} {g g' g1 g2 gi : Gs} {st st' st1 st2 : Sto} {H H' H1 H2 H3 : Hp} {Q : VK} {vs : List Nat}
theorem wipe_get (σ : L2.St) : ∀ (vs : List Nat) (i : Nat), (wipe σ vs)[i]? = if i ∈ vs ∧ i < σ.length then some none else σ[i]?
  | [], i => by simp [wipe]
  | v :: vs, i => by
    show ((wipe σ vs).set v none)[i]? = _
    rw [List.getElem?_set, wipe_get σ vs i, wipe_length]
    by_cases hv : v = i
    · subst hv
      by_cases hl : v < σ.length
      · simp [hl]
      · simp [hl, List.getElem?_eq_none (Nat.le_of_not_lt hl)]
    · rw [if_neg hv]
      have : i ∈ v :: vs ↔ i ∈ vs := by simp [Ne.symm hv]
      simp only [this]
theorem wipe_ext {s s1 : L2.St} (h : ∀ i, i ∉ vs → s1[i]? = s[i]?) (l : s1.length = s.length) : wipe s1 vs = wipe s vs := by
  apply List.ext_getElem?
  intro i
  rw [wipe_get, wipe_get, l]
  by_cases hi : i ∈ vs
  · by_cases hl : i < s.length
    · simp [hi, hl]
    · have hl1 : ¬ i < s1.length := by rw [l]; exact hl
      simp [hi, hl, List.getElem?_eq_none (Nat.le_of_not_lt hl), List.getElem?_eq_none (Nat.le_of_not_lt hl1)]
  · simp [hi, h i hi]
theorem wipeC_get : ∀ (e : Envr) (vs : List Nat) (i : Nat), i ∉ vs → (wipeC e vs)[i]? = e[i]?
  | e, [], i, _ => rfl
  | e, v :: vs, i, h => by
    show ((wipeC e vs).set v .no)[i]? = _
    rw [List.getElem?_set_ne (fun q => h (by simp [q]))]
    exact wipeC_get e vs i fun q => h (by simp [q])
theorem Sim.wipe (S : Sim K g st H) : ∀ (vs : List Nat), Sim K { g with e := wipeC g.e vs, s := L2.wipe g.s vs } st H
  | [] => S
  | v :: vs => (Sim.setn (i := v) (Sim.wipe S vs)).1
theorem Ag.wipe (e : Envr) (s : L2.St) (vs : List Nat) : Ag vs e (wipeC e vs) s (L2.wipe s vs) :=
  ⟨fun i h => wipeC_get e vs i h, fun i h => by rw [wipe_get]; simp [h], wipe_length s vs⟩
theorem Ag.trans {e e1 e2 : Envr} {s s1 s2 : L2.St} (a : Ag vs e e1 s s1) (b : Ag vs e1 e2 s1 s2) : Ag vs e e2 s s2 :=
  ⟨fun i h => (b.fe i h).trans (a.fe i h), fun i h => (b.fs i h).trans (a.fs i h), b.l.trans a.l⟩
theorem Ag.set {e : Envr} {s : L2.St} {i : Nat} {c : Cell} {v : Option V} (h : i ∈ vs) : Ag vs e (e.set i c) s (s.set i v) :=
  ⟨fun j hj => List.getElem?_set_ne (fun q => hj (by rw [← q]; exact h)), fun j hj => List.getElem?_set_ne (fun q => hj (by rw [← q]; exact h)), List.length_set⟩
theorem Ag.own {e e1 : Envr} {s s1 : L2.St} (a : Ag vs e e1 s s1) (h : vs.all (notOwn e) = true) (h1 : vs.all (notOwn e1) = true) (b : Addr) : OwnA e s b ↔ OwnA e1 s1 b := by
  have no : ∀ {e : Envr}, vs.all (notOwn e) = true → ∀ i x, e[i]? = some (.own x) → i ∉ vs := fun {e} h i x q hi => by
    have := List.all_eq_true.mp h i hi
    unfold notOwn at this
    rw [q] at this
    cases this
  constructor
  · rintro ⟨i, x, q1, q2⟩
    have hi := no h i x q1
    exact ⟨i, x, (a.fe i hi).trans q1, (a.fs i hi).trans q2⟩
  · rintro ⟨i, x, q1, q2⟩
    have hi := no h1 i x q1
    exact ⟨i, x, (a.fe i hi).symm.trans q1, (a.fs i hi).symm.trans q2⟩
theorem notOwn_set {e : Envr} {i j : Nat} {c : Cell} (h : notOwn e j = true) (hc : ∀ x, c ≠ .own x) : notOwn (e.set i c) j = true := by
  unfold notOwn at h ⊢
  rw [List.getElem?_set]
  by_cases hij : i = j
  · rw [if_pos hij]
    by_cases hl : i < e.length
    · rw [if_pos hl]
      cases c with
      | own x => exact absurd rfl (hc x)
      | _ => rfl
    · rw [if_neg hl]
  · rw [if_neg hij]; exact h
/-- a target takes a datum -/
theorem setAll_spec : ∀ (is : List Nat) {g : Gs} {xs : List PyData} {ws : List V} {e1 : Envr}, Sim K g st H → setAll g.e is xs = some e1 → RDs K g.Pr H ws xs →
    ∃ s1, (Sim K { g with e := e1, s := s1 } st H ∧ ∀ a, Gs.Pr { g with e := e1, s := s1 } a → g.Pr a) ∧ ws.length = is.length ∧ (∀ vs, (∀ i ∈ is, i ∈ vs) → Ag vs g.e e1 g.s s1) ∧ (∀ i : Nat, i ∈ is → ∀ x, e1[i]? ≠ some (.own x)) ∧ ∀ Q : L2.St → Hp → Prop, Q s1 H → gNs is ws g.s H Q
  | [], g, xs, ws, e1, S, h, r => by
    cases xs with
    | nil =>
      cases h
      cases r
      exact ⟨g.s, ⟨S, fun _ h => h⟩, rfl, fun vs _ => ⟨fun _ _ => rfl, fun _ _ => rfl, rfl⟩, fun i hi => by simp at hi, fun Q q => ⟨rfl, q⟩⟩
    | cons _ _ => cases h
  | i :: is, g, xs, ws, e1, S, h, r => by
    cases xs with
    | nil => cases h
    | cons x xs =>
      cases r with
      | @cons w ws' _ _ r1 r2 =>
        obtain ⟨S1, p1⟩ := Sim.setv (i := i) (v := w) (x := .d x) S r1
        obtain ⟨s1, ⟨S2, p2⟩, l, ag, nw, q⟩ := setAll_spec is (g := { g with e := g.e.set i (.v (.d x)), s := g.s.set i (some w) }) S1 h (r2.keep (.anti p1))
        refine ⟨s1, ⟨S2, fun a h => p1 a (p2 a h)⟩, by rw [List.length_cons, List.length_cons, l], fun vs hv => (Ag.set (hv i List.mem_cons_self)).trans (ag vs fun j hj => hv j (List.mem_cons_of_mem _ hj)), fun j hj y => ?_, fun Q hq => ⟨w, ws', rfl, q Q hq⟩⟩
        by_cases hm : j ∈ is
        · exact nw j hm y
        · have hji : j = i := by
            rcases List.mem_cons.mp hj with e | e
            · exact e
            · exact absurd e hm
          subst hji
          have a1 := ag is (fun _ h => h)
          intro hc
          have e2 : e1[j]? = (g.e.set j (.v (.d x)))[j]? := a1.fe j hm
          rw [e2, List.getElem?_set] at hc
          split at hc
          · split at hc
            · cases hc
            · cases hc
          · rename_i h'; exact absurd rfl h'
theorem asg_spec {gt : G} {x : PyData} {v : V} {e1 : Envr} (S : Sim K g st H) (h : asg g.e gt x = some e1) (r : RD K g.Pr H v x) :
    ∃ s1, (Sim K { g with e := e1, s := s1 } st H ∧ ∀ a, Gs.Pr { g with e := e1, s := s1 } a → g.Pr a) ∧ (∀ vs, gIn vs gt = true → Ag vs g.e e1 g.s s1 ∧ (vs.all (notOwn g.e) = true → vs.all (notOwn e1) = true)) ∧ ∀ Q : L2.St → Hp → Prop, Q s1 H → gT K gt v g.s H Q := by
  cases gt with
  | nm i =>
    cases h
    refine ⟨g.s.set i (some v), Sim.setv (x := .d x) S r, fun vs hv => ⟨Ag.set (by simpa [gIn] using hv), fun ha => ?_⟩, fun Q q => q⟩
    rw [List.all_eq_true] at ha ⊢
    intro j hj
    exact notOwn_set (ha j hj) (fun x q => nomatch q)
  | tp is =>
    cases x with
    | tuple xs =>
      obtain ⟨a, ws, rfl, q, r⟩ := r.isT
      obtain ⟨s1, S1, l, ag, nw, k⟩ := setAll_spec is (e1 := e1) S h r
      refine ⟨s1, S1, fun vs hv => ?_, fun Q hq => ⟨a, ws, rfl, q, l, k Q hq⟩⟩
      have hin : ∀ i ∈ is, i ∈ vs := fun i hi => by
        have := List.all_eq_true.mp hv i hi
        simpa using this
      refine ⟨ag vs hin, fun ha => ?_⟩
      rw [List.all_eq_true] at ha ⊢
      intro j hj
      have := ha j hj
      unfold notOwn at this ⊢
      by_cases hm : j ∈ is
      · split
        · rename_i hh; exact absurd hh (nw j hm _)
        · rfl
      · rw [(ag is fun _ h => h).fe j hm]
        exact this
    | _ => cases h
/-- back from a block -/
theorem Sim.swap {e1 : Envr} {s1 : L2.St} (S : Sim K g st H) (ho : ∀ a, OwnA g.e g.s a ↔ OwnA e1 s1 a) (n : Nx { g with e := e1, s := s1 } g2 H H2) (S2 : Sim K g2 st2 H2) :
    Nx g { g2 with e := g.e, s := g.s } H H2 ∧ Sim K { g2 with e := g.e, s := g.s } st2 H2 ∧ ∀ a, Gs.Pr { g2 with e := g.e, s := g.s } a ↔ g2.Pr a := by
  have nx : Nx g { g2 with e := g.e, s := g.s } H H2 := ⟨rfl, rfl, n.h0, n.r0, n.B, n.bn, n.pre, n.rn, n.fr⟩
  have e2 : g2.e = e1 := n.e
  have s2 : g2.s = s1 := n.s
  have pr : ∀ a, Gs.Pr { g2 with e := g.e, s := g.s } a ↔ g2.Pr a := fun a => by
    constructor
    · rintro (h | h | h)
      · exact .inl h
      · exact .inr (.inl h)
      · have := (ho a).mp h
        rw [← e2, ← s2] at this
        exact .inr (.inr this)
    · rintro (h | h | h)
      · exact .inl h
      · exact .inr (.inl h)
      · rw [e2, s2] at h
        exact .inr (.inr ((ho a).mpr h))
  refine ⟨nx, ?_, pr⟩
  exact {
    len := S.len
    val := fun i x h => let ⟨v, h1, h2⟩ := S.val i x h; ⟨v, h1, h2.keep nx S⟩
    own := fun i x h => by
      obtain ⟨a, h1, h2, h3, h4, h5⟩ := S.own i x h
      obtain ⟨ds, vs, rfl, o1, o2⟩ := h2.is
      refine ⟨a, h1, ⟨vs, n.fr a _ o1 h4, o2.keep (nx.keep S)⟩, fun q => ?_, fun q => ?_, by rw [nx.h0]; exact h5⟩
      · rcases n.bn a q with q | q
        · exact h3 q
        · rw [o1] at q; cases q
      · rcases n.rn a q with q | q
        · exact h4 q
        · rw [o1] at q; cases q
    inj := S.inj
    slen := S2.slen
    sto := fun n o h => let ⟨a, h1, h2⟩ := S2.sto n o h; ⟨a, h1, ObAt.pr (ga := g2) (gb := { g2 with e := g.e, s := g.s }) rfl (fun a q => (pr a).mp q) h2⟩
    rB := S2.rB
    nd := S2.nd
    bt := S2.bt
    pre := S2.pre
    new := S2.new
    fr := S2.fr }
/-- a private object is written -/
theorem Keep.wr {D : Addr} {ws ws' : List V} {pr : Addr → Prop} (hD : pr D) (h : H D = some (.lst ws)) : Keep pr H pr (upd H D (.lst ws')) where
  k := fun a o e n => ⟨by rw [upd_ne (fun q => n (by rw [q]; exact hD))]; exact e, n⟩
  t := fun a xs q => by
    have hne : a ≠ D := by
      rintro rfl
      rcases q with q | ⟨o, q⟩
      · rw [h] at q; cases q
      · rw [h] at q; cases q
    rcases q with q | ⟨o, q⟩
    · exact .inl (by rw [upd_ne hne]; exact q)
    · exact .inr ⟨o, by rw [upd_ne hne]; exact q⟩
theorem Sim.wr {D : Addr} {ws ws' : List V} (S : Sim K g st H) (hD : g.B D) (h : H D = some (.lst ws)) (h0 : g.H0 D = none) : Sim K g st (upd H D (.lst ws')) := by
  have kp : Keep g.Pr H g.Pr (upd H D (.lst ws')) := Keep.wr (.inl hD) h
  have rk : ∀ {w : V} {y : PV}, RepK K g H w y → RepK K g (upd H D (.lst ws')) w y := fun {w y} h => by
    cases y with
    | d y => exact RD.keep kp h
    | _ => exact h
  exact {
    len := S.len
    val := fun i x h => let ⟨v, h1, h2⟩ := S.val i x h; ⟨v, h1, rk h2⟩
    own := fun i x q => by
      obtain ⟨a, h1, h2, h3, h4⟩ := S.own i x q
      obtain ⟨ds, vs, rfl, o1, o2⟩ := h2.is
      exact ⟨a, h1, ⟨vs, by rw [upd_ne (fun e => h3 (by rw [e]; exact hD))]; exact o1, o2.keep kp⟩, h3, h4⟩
    inj := S.inj
    slen := S.slen
    sto := fun n o q => by
      obtain ⟨a, h1, h2⟩ := S.sto n o q
      have hne : a ≠ D := fun e => S.rB a (List.mem_of_getElem? h1) (by rw [e]; exact hD)
      refine ⟨a, h1, ?_⟩
      cases o with
      | lst xs => obtain ⟨vs, q1, q2⟩ := h2; exact ⟨vs, by rw [upd_ne hne]; exact q1, Paired.imp (fun _ _ q => rk q) q2⟩
    rB := S.rB
    nd := S.nd
    bt := fun a q e => by
      unfold upd at e
      split at e
      · cases e
      · exact S.bt a q e
    pre := S.pre
    new := S.new
    fr := fun a o q hr => by
      have hne : a ≠ D := fun e => by rw [e, h0] at q; cases q
      rw [upd_ne hne]
      exact S.fr a o q hr }
/-- what a comprehension does with an item -/
def lcF (ft : Envr → Sto → R Bool) (fy : Envr → Sto → R PV) (e : Envr) (own : List Nat) (gt : G) (x : PyData) (s : Sto) : R (Option PyData) := match asg (wipeC e own) gt x with
  | some e1 => (noEx (ft e1 s)).bind fun b s2 => if b then (noEx (fy e1 s2)).bind fun v s3 => R.opt ((asD v).map some) s3 else .ok none s2
  | none => .bad
theorem notOwn_wipe {e : Envr} : ∀ {vs : List Nat} (ws : List Nat), vs.all (notOwn e) = true → vs.all (notOwn (wipeC e ws)) = true
  | vs, [], h => h
  | vs, w :: ws, h => by
    have ih := notOwn_wipe (vs := vs) ws h
    rw [List.all_eq_true] at ih ⊢
    intro j hj
    exact notOwn_set (ih j hj) (fun x q => nomatch q)
theorem lc_read {own : List Nat} {gt : G} {ft : Envr → Sto → R Bool} {fy : Envr → Sto → R PV} {J : L2.It} {G : GP} {xs : List PyData} (S : Sim K g st H) (W : Wk K J G xs) (T : Stay K true G) (h0 : G g.Pr g.r H)
    (hn : own.all (notOwn g.e) = true) (hg : gIn own gt = true) (h : RP (lcL (lcF ft fy g.e own gt) xs st []) fun ys s2 => Fin K g s2 H (.fre (.list ys)) Q) :
    ∀ D, H D = none → ∃ W : Nat → Nat → Hp → Prop, (∃ m, W 0 m (upd H D (.lst []))) ∧ ∀ i m H, W i m H →
      (J.stop i H ∧ Q (.ref D) H) ∨ (J.go i H ∧ ∃ Nx : Hp → Prop, (∀ H', Nx H' → ∃ m', m' < m ∧ W (i + 1) m' H') ∧ ∀ x H', J.yld i H x H' → gT K gt x (L2.wipe g.s own) H' fun σ2 H2 => L2.wipe σ2 own = L2.wipe g.s own ∧ tTs K ft σ2 H2 fun b H3 =>
        if b = true then tEv K fy σ2 H3 fun y H4 => ∃ acc, H4 D = some (.lst acc) ∧ acc.length < sizeLine ∧ Nx (upd H4 D (.lst (acc ++ [y]))) else Nx H3) := by
  intro D hD
  let Inv : Nat → Hp → Prop := fun i H1 => i ≤ xs.length ∧ ∃ g' st' accV acc, Nx g g' H H1 ∧ Sim K g' st' H1 ∧ g'.B D ∧ H1 D = some (.lst accV) ∧ RDs K g'.Pr H1 accV acc ∧ RP (lcL (lcF ft fy g.e own gt) (xs.drop i) st' acc) fun ys s2 => Fin K g s2 H (.fre (.list ys)) Q
  refine ⟨fun i m H1 => m = xs.length - i ∧ Inv i H1, ⟨_, rfl, Nat.zero_le _, g.aB D, st, [], [], Nx.refl.fresh S hD, S.fresh hD, .inr rfl, upd_same, .nil, h⟩, ?_⟩
  rintro i m H1 ⟨rfl, hi, g', st', accV, acc, n, S', hB, hDl, racc, hr⟩
  have hG := T.nx _ _ _ _ _ S n h0
  have hDn : g'.H0 D = none := by rw [n.h0]; exact S.h0 hD
  have gB : ¬ g.B D := fun q => S.bt D q hD
  by_cases hlt : i < xs.length
  · refine .inr ⟨W.go _ _ _ i hG hlt, Inv (i + 1), fun H' p => ⟨xs.length - (i + 1), by omega, rfl, p⟩, fun v H2 y => ?_⟩
    obtain ⟨x, hx, hy⟩ := W.yld _ _ _ i v H2 hG hlt y
    have ed : xs.drop i = x :: xs.drop (i + 1) := by
      obtain ⟨_, e⟩ := List.getElem?_eq_some_iff.mp hx
      rw [List.drop_eq_getElem_cons hlt, e]
    rw [ed] at hr
    -- the item, in the heap where it is taken
    obtain ⟨n2, S2, hD2, racc2, rv⟩ : Nx g g' H H2 ∧ Sim K g' st' H2 ∧ H2 D = some (.lst accV) ∧ RDs K g'.Pr H2 accV acc ∧ RD K g'.Pr H2 v x := by
      rcases hy with ⟨rfl, r⟩ | ⟨Tt, vs, ds, rfl, hT, rfl, rfl, r⟩
      · exact ⟨n, S', hDl, racc, r⟩
      · exact ⟨n.laid S' hT, S'.laid hT, by rw [upd_ne (ne_of_none hDl hT)]; exact hDl, racc.keep (.laid hT), .tup (.inl (.inl upd_same)) (r.keep (.laid hT))⟩
    unfold lcL at hr
    have hr := hr.bind
    unfold lcF at hr
    cases ha : asg (wipeC g.e own) gt x with
    | none => rw [ha] at hr; exact hr.elim
    | some e1 =>
      rw [ha] at hr
      have hr := hr.bind
      have hr := hr.noEx
      have eg : g'.e = g.e := n.e
      have sg : g'.s = g.s := n.s
      have Sw := S2.wipe own
      obtain ⟨s1, ⟨Si, pi⟩, hag, hq⟩ := asg_spec (gt := gt) (e1 := e1) (v := v) Sw (by show asg (wipeC g'.e own) gt x = _; rw [eg]; exact ha) (rv.keep (.anti (by
        intro a q
        rcases q with q | q | ⟨j, z, q1, q2⟩
        · exact .inl q
        · exact .inr (.inl q)
        · have hj : j ∉ own := fun hj => by
            have := List.all_eq_true.mp (notOwn_wipe (e := g'.e) own (by rw [eg]; exact hn)) j hj
            unfold notOwn at this
            rw [show (wipeC g'.e own)[j]? = some (.own z) from q1] at this
            cases this
          have a1 := Ag.wipe g'.e g'.s own
          exact .inr (.inr ⟨j, z, (a1.fe j hj).symm.trans q1, (a1.fs j hj).symm.trans q2⟩))))
      obtain ⟨ag, nw⟩ := hag own hg
      have ag' : Ag own g'.e e1 g'.s s1 := (Ag.wipe g'.e g'.s own).trans ag
      have hn' : own.all (notOwn g'.e) = true := by rw [eg]; exact hn
      have how : ∀ a, OwnA g'.e g'.s a ↔ OwnA e1 s1 a := fun a => ag'.own hn' (nw (notOwn_wipe own hn')) a
      have hq' := hq
      refine (show gT K gt v (L2.wipe g'.s own) H2 _ from hq _ ?_) |> (fun z => by rw [← sg]; exact z)
      refine ⟨wipe_ext (fun j hj => ag'.fs j hj) ag'.l, ⟨{ g' with e := e1, s := s1 }, st', rfl, Si, hr.imp fun b s2 hb g2 H3 n3 S3 => ?_⟩⟩
      obtain ⟨m1, m2, m3⟩ := Sim.swap (st2 := s2) S2 how n3 S3
      cases b with
      | false =>
        rw [if_neg Bool.false_ne_true]
        refine ⟨hlt, { g2 with e := g'.e, s := g'.s }, s2, accV, acc, n2.trans S2 m1, m2, m1.B D hB, m1.fr D _ hD2 (fun q => S2.rB D q hB), racc2.keep (m1.keep S2), ?_⟩
        exact hb
      | true =>
        rw [if_pos rfl]
        rw [if_pos rfl] at hb
        have hb := hb.bind.noEx
        have e2 : g2.e = e1 := n3.e
        refine ⟨g2, s2, n3.s, S3, ?_⟩
        rw [e2]
        refine hb.imp fun w s3 hw g3 H4 y1 n4 S4 R4 => ?_
        obtain ⟨o, ho, hw⟩ := hw.opt
        simp only [Option.map_eq_some_iff] at ho
        obtain ⟨d, hd, rfl⟩ := ho
        have rd := Rep.asD n4 S4 R4 hd
        have n4w : Nx g2 (g3.wB g2.B) H3 H4 := n4.weak
        have S4w : Sim K (g3.wB g2.B) s3 H4 := S4.weak n4.B
        obtain ⟨k1, k2, k3⟩ := Sim.swap (g := { g2 with e := g'.e, s := g'.s }) (e1 := e1) (s1 := s1) (st2 := s3) m2 how (by
          have z : ({ g2 with e := e1, s := s1 } : Gs) = g2 := by
            have q : g2.s = s1 := n3.s
            rw [← e2, ← q]
          show Nx { g2 with e := e1, s := s1 } _ _ _
          rw [z]; exact n4w) S4w
        have hD3 : H3 D = some (.lst accV) := m1.fr D _ hD2 (fun q => S2.rB D q hB)
        have hB3 : g2.B D := m1.B D hB
        have hD4 : H4 D = some (.lst accV) := n4.fr D _ hD3 (fun q => S3.rB D q hB3)
        have r3 := racc2.keep (m1.keep S2)
        have r4 := r3.keep (k1.keep m2)
        have hb' : RP (if acc.length < sizeLine then lcL (lcF ft fy g.e own gt) (xs.drop (i + 1)) s3 (acc ++ [d]) else .bad) fun ys s2 => Fin K g s2 H (.fre (.list ys)) Q := hw
        split at hb'
        · rename_i hz
          refine ⟨accV, hD4, by rw [r4.length]; exact hz, hlt, { g3.wB g2.B with e := g'.e, s := g'.s }, s3, accV ++ [y1], acc ++ [d], ?_, ?_, hB3, upd_same, ?_, hb'⟩
          · have nn := (n2.trans S2 m1).trans m2 k1
            exact ⟨nn.e, nn.s, nn.h0, nn.r0, nn.B, nn.bn, nn.pre, nn.rn, fun a o e hr => by rw [upd_ne (ne_of_none e hD)]; exact nn.fr a o e hr⟩
          · exact k2.wr hB3 hD4 (by rw [k1.h0]; rw [m1.h0]; exact hDn)
          · have kw : Keep _ H4 _ (upd H4 D (.lst (accV ++ [y1]))) := Keep.wr (pr := Gs.Pr { g3.wB g2.B with e := g'.e, s := g'.s }) (.inl hB3) hD4
            exact (r4.append (.cons (rd.keep (.anti fun a q => (k3 a).mp q)) .nil)).keep kw
        · exact hb'.elim
  · have e : i = xs.length := by omega
    subst e
    rw [List.drop_length] at hr
    unfold lcL at hr
    refine .inl ⟨W.stop _ _ _ hG, hr g' H1 (.ref D) n S' ⟨D, rfl, ⟨accV, hDl, racc⟩, hB, gB, hDn⟩⟩
end
end Ev

set_option maxRecDepth 100000
/-! Ev9d: how many keys a dict comprehension makes. -/
namespace Ev
open PySem L2 PySem.W PyProof.Rows PySem.SeqAt
section
variable {K : PySem.W.Frag} {g g' g1 g2 : Gs} {st st' st1 st2 : Sto} {H H' H1 H2 : Hp} {Q : VK}
theorem Keep.wrD {D : Addr} {ws ws' : List (Key × V)} {pr : Addr → Prop} (hD : pr D) (h : H D = some (.dK ws)) : Keep pr H pr (upd H D (.dK ws')) where
  k := fun a o e n => ⟨by rw [upd_ne (fun q => n (by rw [q]; exact hD))]; exact e, n⟩
  t := fun a xs q => by
    have hne : a ≠ D := by
      rintro rfl
      rcases q with q | ⟨o, q⟩
      · rw [h] at q; cases q
      · rw [h] at q; cases q
    rcases q with q | ⟨o, q⟩
    · exact .inl (by rw [upd_ne hne]; exact q)
    · exact .inr ⟨o, by rw [upd_ne hne]; exact q⟩
theorem Sim.wrD {D : Addr} {ws ws' : List (Key × V)} (S : Sim K g st H) (hD : g.B D) (h : H D = some (.dK ws)) (h0 : g.H0 D = none) : Sim K g st (upd H D (.dK ws')) := by
  have kp : Keep g.Pr H g.Pr (upd H D (.dK ws')) := Keep.wrD (.inl hD) h
  have rk : ∀ {w : V} {y : PV}, RepK K g H w y → RepK K g (upd H D (.dK ws')) w y := fun {w y} h => by
    cases y with
    | d y => exact RD.keep kp h
    | _ => exact h
  exact {
    len := S.len
    val := fun i x h => let ⟨v, h1, h2⟩ := S.val i x h; ⟨v, h1, rk h2⟩
    own := fun i x q => by
      obtain ⟨a, h1, h2, h3, h4⟩ := S.own i x q
      obtain ⟨ds, vs, rfl, o1, o2⟩ := h2.is
      exact ⟨a, h1, ⟨vs, by rw [upd_ne (fun e => h3 (by rw [e]; exact hD))]; exact o1, o2.keep kp⟩, h3, h4⟩
    inj := S.inj
    slen := S.slen
    sto := fun n o q => by
      obtain ⟨a, h1, h2⟩ := S.sto n o q
      have hne : a ≠ D := fun e => S.rB a (List.mem_of_getElem? h1) (by rw [e]; exact hD)
      refine ⟨a, h1, ?_⟩
      cases o with
      | lst xs => obtain ⟨vs, q1, q2⟩ := h2; exact ⟨vs, by rw [upd_ne hne]; exact q1, Paired.imp (fun _ _ q => rk q) q2⟩
    rB := S.rB
    nd := S.nd
    bt := fun a q e => by
      unfold upd at e
      split at e
      · cases e
      · exact S.bt a q e
    pre := S.pre
    new := S.new
    fr := fun a o q hr => by
      have hne : a ≠ D := fun e => by rw [e, h0] at q; cases q
      rw [upd_ne hne]
      exact S.fr a o q hr }
theorem putK_keys {kvs : List (Key × V)} {acc : List Int} {k : Int} {v : V} (h : kvs.map (·.1) = acc.map Sum.inl) : (putK kvs (.inl k) v).map (·.1) = (if k ∈ acc then acc else acc ++ [k]).map Sum.inl := by
  have hm : (kvs.any fun kv => decide (kv.1 = (Sum.inl k : Key))) = decide (k ∈ acc) := by
    have e1 : (kvs.any fun kv => decide (kv.1 = (Sum.inl k : Key))) = (kvs.map (·.1)).any fun x => decide (x = (Sum.inl k : Key)) := by rw [List.any_map]; rfl
    rw [e1, h, List.any_map]
    rw [Bool.eq_iff_iff, List.any_eq_true, decide_eq_true_eq]
    constructor
    · rintro ⟨x, hx, e⟩
      simp only [Function.comp_apply, decide_eq_true_eq] at e
      cases e; exact hx
    · intro hx
      exact ⟨k, hx, by simp⟩
  unfold putK
  by_cases hk : k ∈ acc
  · rw [hm, decide_eq_true hk, if_pos rfl, if_pos hk, ← h, List.map_map]
    apply List.map_congr_left
    intro kv _
    show (if kv.1 = Sum.inl k then (kv.1, v) else kv).1 = kv.1
    split <;> rfl
  · rw [hm, decide_eq_false hk, if_neg Bool.false_ne_true, if_neg hk, List.map_append, List.map_append, h]
    rfl
def dcF (ft : Envr → Sto → R Bool) (fk fy : Envr → Sto → R PV) (e : Envr) (own : List Nat) (gt : G) (x : PyData) (s : Sto) : R (Option Int) := match asg (wipeC e own) gt x with
  | some e1 => (noEx (ft e1 s)).bind fun b s2 => if b then (noEx (fk e1 s2)).bind fun u s3 => (noEx (fy e1 s3)).bind fun v s4 => match u, asD v with
    | .d (.int i), some _ => .ok (some i) s4
    | _, _ => .bad
    else .ok none s2
  | none => .bad
theorem dc_read {own : List Nat} {gt : G} {ft : Envr → Sto → R Bool} {fk fy : Envr → Sto → R PV} {J : L2.It} {G : GP} {xs : List PyData} (S : Sim K g st H) (W : Wk K J G xs) (T : Stay K true G) (h0 : G g.Pr g.r H)
    (hn : own.all (notOwn g.e) = true) (hg : gIn own gt = true) (h : RP (dcL (dcF ft fk fy g.e own gt) xs st []) fun ys s2 => Fin K g s2 H (.d (.int (ys.length : Nat))) Q) :
    ∀ D, H D = none → ∃ W : Nat → Nat → Hp → Prop, (∃ m, W 0 m (upd H D (.dK []))) ∧ ∀ i m H, W i m H →
      (J.stop i H ∧ ∃ a kvs, [V.ref D] = [V.ref a] ∧ H a = some (.dK kvs) ∧ Q (.int (kvs.length : Nat)) H) ∨ (J.go i H ∧ ∃ Nx : Hp → Prop, (∀ H', Nx H' → ∃ m', m' < m ∧ W (i + 1) m' H') ∧ ∀ x H', J.yld i H x H' → gT K gt x (L2.wipe g.s own) H' fun σ2 H2 => L2.wipe σ2 own = L2.wipe g.s own ∧ tTs K ft σ2 H2 fun b H3 =>
        if b = true then tEv K fk σ2 H3 fun y H4 => tEv K fy σ2 H4 fun z H5 => ∃ kvs k, y = kV k ∧ H5 D = some (.dK kvs) ∧ kvs.length < sizeLine ∧ Nx (upd H5 D (.dK (putK kvs k z))) else Nx H3) := by
  intro D hD
  let Inv : Nat → Hp → Prop := fun i H1 => i ≤ xs.length ∧ ∃ g' st' accV acc, Nx g g' H H1 ∧ Sim K g' st' H1 ∧ g'.B D ∧ H1 D = some (.dK accV) ∧ accV.map (·.1) = acc.map Sum.inl ∧ RP (dcL (dcF ft fk fy g.e own gt) (xs.drop i) st' acc) fun ys s2 => Fin K g s2 H (.d (.int (ys.length : Nat))) Q
  refine ⟨fun i m H1 => m = xs.length - i ∧ Inv i H1, ⟨_, rfl, Nat.zero_le _, g.aB D, st, [], [], Nx.refl.fresh S hD, S.fresh hD, .inr rfl, upd_same, rfl, h⟩, ?_⟩
  rintro i m H1 ⟨rfl, hi, g', st', accV, acc, n, S', hB, hDl, racc, hr⟩
  have hG := T.nx _ _ _ _ _ S n h0
  have hDn : g'.H0 D = none := by rw [n.h0]; exact S.h0 hD
  have gB : ¬ g.B D := fun q => S.bt D q hD
  by_cases hlt : i < xs.length
  · refine .inr ⟨W.go _ _ _ i hG hlt, Inv (i + 1), fun H' p => ⟨xs.length - (i + 1), by omega, rfl, p⟩, fun v H2 y => ?_⟩
    obtain ⟨x, hx, hy⟩ := W.yld _ _ _ i v H2 hG hlt y
    have ed : xs.drop i = x :: xs.drop (i + 1) := by
      obtain ⟨_, e⟩ := List.getElem?_eq_some_iff.mp hx
      rw [List.drop_eq_getElem_cons hlt, e]
    rw [ed] at hr
    -- the item, in the heap where it is taken
    obtain ⟨n2, S2, hD2, rv⟩ : Nx g g' H H2 ∧ Sim K g' st' H2 ∧ H2 D = some (.dK accV) ∧ RD K g'.Pr H2 v x := by
      rcases hy with ⟨rfl, r⟩ | ⟨Tt, vs, ds, rfl, hT, rfl, rfl, r⟩
      · exact ⟨n, S', hDl, r⟩
      · exact ⟨n.laid S' hT, S'.laid hT, by rw [upd_ne (ne_of_none hDl hT)]; exact hDl, .tup (.inl (.inl upd_same)) (r.keep (.laid hT))⟩
    unfold dcL at hr
    have hr := hr.bind
    unfold dcF at hr
    cases ha : asg (wipeC g.e own) gt x with
    | none => rw [ha] at hr; exact hr.elim
    | some e1 =>
      rw [ha] at hr
      have hr := hr.bind
      have hr := hr.noEx
      have eg : g'.e = g.e := n.e
      have sg : g'.s = g.s := n.s
      have Sw := S2.wipe own
      obtain ⟨s1, ⟨Si, pi⟩, hag, hq⟩ := asg_spec (gt := gt) (e1 := e1) (v := v) Sw (by show asg (wipeC g'.e own) gt x = _; rw [eg]; exact ha) (rv.keep (.anti (by
        intro a q
        rcases q with q | q | ⟨j, z, q1, q2⟩
        · exact .inl q
        · exact .inr (.inl q)
        · have hj : j ∉ own := fun hj => by
            have := List.all_eq_true.mp (notOwn_wipe (e := g'.e) own (by rw [eg]; exact hn)) j hj
            unfold notOwn at this
            rw [show (wipeC g'.e own)[j]? = some (.own z) from q1] at this
            cases this
          have a1 := Ag.wipe g'.e g'.s own
          exact .inr (.inr ⟨j, z, (a1.fe j hj).symm.trans q1, (a1.fs j hj).symm.trans q2⟩))))
      obtain ⟨ag, nw⟩ := hag own hg
      have ag' : Ag own g'.e e1 g'.s s1 := (Ag.wipe g'.e g'.s own).trans ag
      have hn' : own.all (notOwn g'.e) = true := by rw [eg]; exact hn
      have how : ∀ a, OwnA g'.e g'.s a ↔ OwnA e1 s1 a := fun a => ag'.own hn' (nw (notOwn_wipe own hn')) a
      have hq' := hq
      refine (show gT K gt v (L2.wipe g'.s own) H2 _ from hq _ ?_) |> (fun z => by rw [← sg]; exact z)
      refine ⟨wipe_ext (fun j hj => ag'.fs j hj) ag'.l, ⟨{ g' with e := e1, s := s1 }, st', rfl, Si, hr.imp fun b s2 hb g2 H3 n3 S3 => ?_⟩⟩
      obtain ⟨m1, m2, m3⟩ := Sim.swap (st2 := s2) S2 how n3 S3
      cases b with
      | false =>
        rw [if_neg Bool.false_ne_true]
        refine ⟨hlt, { g2 with e := g'.e, s := g'.s }, s2, accV, acc, n2.trans S2 m1, m2, m1.B D hB, m1.fr D _ hD2 (fun q => S2.rB D q hB), racc, ?_⟩
        exact hb
      | true =>
        rw [if_pos rfl]
        rw [if_pos rfl] at hb
        have hb := hb.bind.noEx
        have e2 : g2.e = e1 := n3.e
        refine ⟨g2, s2, n3.s, S3, ?_⟩
        rw [e2]
        refine hb.imp fun u su hw g3 H4 y1 n4 S4 R4 => ?_
        have hw := hw.bind.noEx
        refine ⟨g3, su, n4.s.trans n3.s, S4, ?_⟩
        rw [n4.e, e2]
        refine hw.imp fun w s3 hw g4 H5 y2 n5 S5 R5 => ?_
        have hw : RP (match u, asD w with
          | .d (.int i), some _ => R.ok (some i) s3
          | _, _ => .bad) fun o s => RP (match o with
          | some k => if acc.length < sizeLine then dcL (dcF ft fk fy g.e own gt) (xs.drop (i + 1)) s (if k ∈ acc then acc else acc ++ [k]) else .bad
          | none => dcL (dcF ft fk fy g.e own gt) (xs.drop (i + 1)) s acc) fun ys s2 => Fin K g s2 H (.d (.int (ys.length : Nat))) Q := hw
        have hu : ∃ ki, u = .d (.int ki) ∧ ∃ z, asD w = some z := by
          split at hw
          · exact ⟨_, rfl, _, by assumption⟩
          · exact hw.elim
        obtain ⟨ki, rfl, z0, hz0⟩ := hu
        rw [hz0] at hw
        have hw := hw
        have y1e : y1 = .int ki := by
          have R4 : RD K g3.Pr H4 y1 (.int ki) := R4
          cases R4; rfl
        subst y1e
        have n45 := n4.trans S4 n5
        have n4w : Nx g2 (g4.wB g2.B) H3 H5 := n45.weak
        have S4w : Sim K (g4.wB g2.B) s3 H5 := S5.weak n45.B
        obtain ⟨k1, k2, k3⟩ := Sim.swap (g := { g2 with e := g'.e, s := g'.s }) (e1 := e1) (s1 := s1) (st2 := s3) m2 how (by
          have z : ({ g2 with e := e1, s := s1 } : Gs) = g2 := by
            have q : g2.s = s1 := n3.s
            rw [← e2, ← q]
          show Nx { g2 with e := e1, s := s1 } _ _ _
          rw [z]; exact n4w) S4w
        have hD3 : H3 D = some (.dK accV) := m1.fr D _ hD2 (fun q => S2.rB D q hB)
        have hB3 : g2.B D := m1.B D hB
        have hD5 : H5 D = some (.dK accV) := n45.fr D _ hD3 (fun q => S3.rB D q hB3)
        have hb' : RP (if acc.length < sizeLine then dcL (dcF ft fk fy g.e own gt) (xs.drop (i + 1)) s3 (if ki ∈ acc then acc else acc ++ [ki]) else .bad) fun ys s2 => Fin K g s2 H (.d (.int (ys.length : Nat))) Q := hw
        have hlen : accV.length = acc.length := by
          have := congrArg List.length racc
          rw [List.length_map, List.length_map] at this
          exact this
        split at hb'
        · rename_i hz
          refine ⟨accV, .inl ki, rfl, hD5, by rw [hlen]; exact hz, hlt, { g4.wB g2.B with e := g'.e, s := g'.s }, s3, putK accV (.inl ki) y2, if ki ∈ acc then acc else acc ++ [ki], ?_, ?_, hB3, upd_same, putK_keys racc, hb'⟩
          · have nn := (n2.trans S2 m1).trans m2 k1
            exact ⟨nn.e, nn.s, nn.h0, nn.r0, nn.B, nn.bn, nn.pre, nn.rn, fun a o e hr => by rw [upd_ne (ne_of_none e hD)]; exact nn.fr a o e hr⟩
          · exact k2.wrD hB3 hD5 (by rw [k1.h0]; rw [m1.h0]; exact hDn)
        · exact hb'.elim
  · have e : i = xs.length := by omega
    subst e
    rw [List.drop_length] at hr
    unfold dcL at hr
    have hlen : accV.length = acc.length := by
      have := congrArg List.length racc
      rw [List.length_map, List.length_map] at this
      exact this
    refine .inl ⟨W.stop _ _ _ hG, D, accV, rfl, hDl, ?_⟩
    have hr : Fin K g st' H (.d (.int (acc.length : Nat))) Q := hr
    rw [hlen]
    exact hr g' H1 (.int _) n S' (show RD _ _ _ _ _ from .int _)
end
end Ev

set_option maxRecDepth 100000
/-! Ev10: that my syntax stands for the given syntax, checked by a Bool; expressions are sound. -/
namespace Ev
open PySem L2 PySem.W PyProof.Rows PySem.SeqAt

mutual
def sameD : PyData → PyData → Bool
  | .none, .none => true
  | .bool a, .bool b => a == b
  | .int a, .int b => decide (a = b)
  | .str a, .str b => decide (a = b)
  | .list a, .list b => sameDs a b
  | .tuple a, .tuple b => sameDs a b
  | _, _ => false
def sameDs : List PyData → List PyData → Bool
  | [], [] => true
  | a :: as, b :: bs => sameD a b && sameDs as bs
  | _, _ => false
end
mutual
theorem sameD_eq : ∀ {a b : PyData}, sameD a b = true → a = b
  | .none, b, h => by cases b <;> simp_all [sameD]
  | .bool _, b, h => by cases b <;> simp_all [sameD]
  | .int _, b, h => by cases b <;> simp_all [sameD]
  | .str _, b, h => by cases b <;> simp_all [sameD]
  | .list xs, b, h => by
    cases b with
    | list ys => rw [sameD] at h; rw [sameDs_eq h]
    | _ => simp [sameD] at h
  | .tuple xs, b, h => by
    cases b with
    | tuple ys => rw [sameD] at h; rw [sameDs_eq h]
    | _ => simp [sameD] at h
  | .dict _, b, h => by cases b <;> simp [sameD] at h
theorem sameDs_eq : ∀ {a b : List PyData}, sameDs a b = true → a = b
  | [], [], _ => rfl
  | [], _ :: _, h => by simp [sameDs] at h
  | _ :: _, [], h => by simp [sameDs] at h
  | a :: as, b :: bs, h => by
    rw [sameDs, Bool.and_eq_true] at h
    rw [sameD_eq h.1, sameDs_eq h.2]
end

structure Tab where
  blt : List Str
  con : List (Str × PyData)
  fns : List (Str × Nat)
def gl (sc : Scope) (x : Str) : Bool := decide (sc.names.lookup x = some .globalImplicit) && (x == ("__debug__" : Str)) == false && decide (x ≠ "__name__")
def vis (sc : Scope) (x : Str) : Bool := (decide (sc.names.lookup x = some .local) || decide (sc.names.lookup x = some .cell) || decide (sc.names.lookup x = some .free)) && (x == ("__debug__" : Str)) == false && (x == ("__classdict__" : Str)) == false
def notStar : Expr → Bool
  | .Starred _ _ => false
  | _ => true
def notSlice : Expr → Bool
  | .Slice _ _ _ _ => false
  | _ => true
def notSet : Expr → Bool
  | .Set _ _ _ => false
  | _ => true
def cmIs : Cm → CmpOp → Bool
  | .lt, .Lt => true | .le, .LtE => true | .gt, .Gt => true | .ge, .GtE => true | .eq, .Eq => true | .ne, .NotEq => true | .is_, .Is => true | .isnt, .IsNot => true | .in_, .In => true | .notin, .NotIn => true
  | _, _ => false
theorem cmIs_eq {a : Cm} {b : CmpOp} (h : cmIs a b = true) : b = cmOf a := by cases a <;> cases b <;> first | rfl | cases h
def opIs : Op2 → Operator → Bool
  | .add, .Add => true | .sub, .Sub => true | .mul, .Mult => true | .fdiv, .FloorDiv => true | .mod, .Mod => true | .pow, .Pow => true
  | _, _ => false
theorem opIs_eq {a : Op2} {b : Operator} (h : opIs a b = true) : b = opOf a := by cases a <;> cases b <;> first | rfl | cases h
def tyOk (x : Str) (n : String) : Bool := (decide (x = "int") && n == "int") || (decide (x = "bool") && n == "bool") || (decide (x = "str") && n == "str") || (decide (x = "tuple") && n == "tuple") || (decide (x = "list") && n == "list") || (decide (x = "dict") && n == "dict")
theorem tyOk_boot {x : Str} {n : String} (h : tyOk x n = true) : bootBuiltins x = some (.type n) := by
  unfold tyOk at h
  simp only [Bool.or_eq_true, Bool.and_eq_true, decide_eq_true_eq, beq_iff_eq] at h
  rcases h with ((((⟨rfl, rfl⟩ | ⟨rfl, rfl⟩) | ⟨rfl, rfl⟩) | ⟨rfl, rfl⟩) | ⟨rfl, rfl⟩) | ⟨rfl, rfl⟩ <;> decide +kernel

def tst : E → Bool
  | .andd a b => tst a && tst b
  | .orr a b => tst a && tst b
  | .nott a => tst a
  | .cmp _ _ _ | .chn _ _ _ _ _ | .var _ | .lit _ | .con _ _ | .call _ _ | .bi _ _ | .ix _ _ => true
  | _ => false
def ckG (N : List Str) (sc : Scope) (fn : Str → Bool) : G → Expr → Bool
  | .nm i, .Name x _ => decide (N[i]? = some x) && (decide (sc.names.lookup x = some .local) || (decide (sc.names.lookup x = some .cell) && fn x))
  | .tp is, .Tuple es _ _ => ckNs is es
  | _, _ => false
where ckNs : List Nat → List Expr → Bool
  | [], [] => true
  | i :: is, .Name x _ :: es => decide (N[i]? = some x) && (decide (sc.names.lookup x = some .local) || (decide (sc.names.lookup x = some .cell) && fn x)) && ckNs is es
  | _, _ => false
def isTup : G → Bool
  | .tp _ => true
  | _ => false
def isCell (scope : Scope) (x : Str) : Bool := scope.names.lookup x == some .cell

section
variable (T : Tab) (N : List Str)
mutual
def ckE (sc : Scope) : E → Expr → Bool
  | .var i, e => match e with
    | .Name x _ => decide (N[i]? = some x) && vis sc x
    | _ => false
  | .lit d, e => match d, e with
    | .int i, .Constant (.int j) _ _ => decide (i = j)
    | .bool i, .Constant (.bool j) _ _ => i == j
    | .none, .Constant .none _ _ => true
    | .str i, .Constant (.str j) _ _ => decide (i = j)
    | _, _ => false
  | .con x d, e => match e with
    | .Name y _ => decide (x = y) && gl sc x && T.con.any fun p => decide (p.1 = x) && sameD p.2 d
    | _ => false
  | .ty x n, e => match e with
    | .Name y _ => decide (x = y) && gl sc x && decide (x ∈ T.blt) && tyOk x n
    | _ => false
  | .op o a b, e => match e with
    | .BinOp ea o' eb _ => opIs o o' && ckE sc a ea && ckE sc b eb
    | _ => false
  | .neg a, e => match e with
    | .UnaryOp .USub ea _ => ckE sc a ea
    | _ => false
  | .cmp c a b, e => match e with
    | .Compare ea [o] [eb] _ => cmIs c o && !(behindInMarks o eb) && ckE sc a ea && ckE sc b eb
    | _ => false
  | .chn c1 c2 a b b2, e => match e with
    | .Compare ea [o, o2] [eb, eb2] _ => cmIs c1 o && cmIs c2 o2 && !(lastMarks [o, o2] [eb, eb2]) && ckE sc a ea && ckE sc b eb && ckE sc b2 eb2
    | _ => false
  | .andd a b, e => match e with
    | .BoolOp .And (ea :: eb :: rest) pos => match rest with
      | [] => ckE sc a ea && ckE sc b eb
      | _ => ckE sc a ea && ckE sc b (.BoolOp .And (eb :: rest) pos)
    | _ => false
  | .orr a b, e => match e with
    | .BoolOp .Or (ea :: eb :: rest) pos => match rest with
      | [] => ckE sc a ea && ckE sc b eb
      | _ => ckE sc a ea && ckE sc b (.BoolOp .Or (eb :: rest) pos)
    | _ => false
  | .nott a, e => match e with
    | .UnaryOp .Not ea _ => ckE sc a ea
    | _ => false
  | .ife t a b, e => match e with
    | .IfExp et ea eb _ => tst t && ckE sc t et && ckE sc a ea && ckE sc b eb
    | _ => false
  | .tup es, e => match e with
    | .Tuple xs _ _ => ckEs sc es xs
    | _ => false
  | .lst es, e => match e with
    | .List xs _ => ckEs sc es xs
    | _ => false
  | .lstR es, e => match e with
    | .List xs _ => ckEs sc es xs
    | _ => false
  | .box a, e => ckE sc a e
  | .ix a i, e => match e with
    | .Subscript ea ei _ => notSlice ei && ckE sc a ea && ckE sc i ei
    | _ => false
  | .sl a lo hi, e => match e with
    | .Subscript ea (.Slice l h none _) _ => ckE sc a ea && ckP sc lo l && ckP sc hi h
    | _ => false
  | .rev a, e => match e with
    | .Subscript ea (.Slice none none (some (.UnaryOp .USub (.Constant (.int i) _ _) _)) _) _ => decide (i = 1) && ckE sc a ea
    | _ => false
  | .call f es, e => match e with
    | .Call (.Name x _) xs [] _ => gl sc x && (match T.fns[f]? with | some p => decide (p.1 = x) | none => false) && ckEs sc es xs
    | _ => false
  | .bi b es, e => match e with
    | .Call (.Name x _) xs [] _ => decide (x = biNm b) && gl sc x && decide (x ∈ T.blt) && ckEs sc es xs && !xs.isEmpty
    | _ => false
  | .lrng tp a b, e => match e with
    | .Call (.Name x _) [.Call (.Name y _) xs [] _] [] _ => decide (x = cond tp "tuple" "list") && decide (y = "range") && gl sc x && gl sc y && decide (x ∈ T.blt) && decide (y ∈ T.blt) && (match xs with
      | [eb] => (match a with | .lit (.int 0) => true | _ => false) && notStar eb && ckE sc b eb
      | [ea, eb] => notStar ea && notStar eb && ckE sc a ea && ckE sc b eb
      | _ => false)
    | _ => false
  | .lc own g it ts y, e => match e with
    | .ListComp elt [⟨tg, iter, ifs, 0⟩] scope _ => blkC N sc scope (own.map fun i => (N.getD i Str.empty, i)) && gIn own g && ckG N (relS scope sc) (isCell scope) g tg && notSet iter && ckI sc it (isTup g) iter && ckTs (relS scope sc) ts ifs && ckE (relS scope sc) y elt
    | _ => false
  | .dc own g it ts k y, e => match e with
    | .Call (.Name x _) [.DictComp kx elt [⟨tg, iter, ifs, 0⟩] scope _] [] _ => decide (x = "len") && gl sc x && decide (x ∈ T.blt) && blkC N sc scope (own.map fun i => (N.getD i Str.empty, i)) && gIn own g && ckG N (relS scope sc) (isCell scope) g tg && notSet iter && ckI sc it (isTup g) iter && ckTs (relS scope sc) ts ifs && ckE (relS scope sc) k kx && ckE (relS scope sc) y elt
    | _ => false
def ckEs (sc : Scope) : Es → List Expr → Bool
  | .nil, xs => xs.isEmpty
  | .cons a es, xs => match xs with
    | x :: xs => notStar x && ckE sc a x && ckEs sc es xs
    | [] => false
def ckTs (sc : Scope) : Es → List Expr → Bool
  | .nil, xs => xs.isEmpty
  | .cons t ts, xs => match ts, xs with
    | .nil, [x] => tst t && ckE sc t x
    | _, _ => false
def ckP (sc : Scope) : P → Option Expr → Bool
  | .no, x => x.isNone
  | .ex a, x => match x with
    | some e => ckE sc a e
    | none => false
def ckI (sc : Scope) : It → Bool → Expr → Bool
  | .sq a, _, e => ckE sc a e
  | .r1 a, _, e => match e with
    | .Call (.Name x _) xs [] _ => decide (x = "range") && gl sc x && decide (x ∈ T.blt) && (match xs with | [ea] => notStar ea && ckE sc a ea | _ => false)
    | _ => false
  | .r2 a b, _, e => match e with
    | .Call (.Name x _) xs [] _ => decide (x = "range") && gl sc x && decide (x ∈ T.blt) && (match xs with | [ea, eb] => notStar ea && notStar eb && ckE sc a ea && ckE sc b eb | _ => false)
    | _ => false
  | .r3 a b c, _, e => match e with
    | .Call (.Name x _) xs [] _ => decide (x = "range") && gl sc x && decide (x ∈ T.blt) && (match xs with | [ea, eb, ec] => notStar ea && notStar eb && notStar ec && ckE sc a ea && ckE sc b eb && ckE sc c ec | _ => false)
    | _ => false
  | .zp a b, tp, e => match e with
    | .Call (.Name x _) xs [] _ => tp && decide (x = "zip") && gl sc x && decide (x ∈ T.blt) && (match xs with | [ea, eb] => notStar ea && notStar eb && ckE sc a ea && ckE sc b eb | _ => false)
    | _ => false
  | .en a, tp, e => match e with
    | .Call (.Name x _) xs [] _ => tp && decide (x = "enumerate") && gl sc x && decide (x ∈ T.blt) && (match xs with | [ea] => notStar ea && ckE sc a ea | _ => false)
    | _ => false
end
end
end Ev

set_option maxRecDepth 100000
/-! Ev11: expressions are sound. -/
namespace Ev
open PySem L2 PySem.W PyProof.Rows PySem.SeqAt

structure Ok (T : Tab) (c : Nat → List PV → Sto → R PV) (X : Cx) : Prop where
  calm : X.calm = true
  nd : X.N.Nodup
  hu : X.A.units + 100 < cLine
  blt : ∀ x ∈ T.blt, X.mg x = none
  con : ∀ x d, (x, d) ∈ T.con → ∃ u v, X.mg x = some u ∧ RelV v u ∧ ∀ pr H, RD X.K pr H v d
  ar : ∀ n x m, T.fns[n]? = some (x, m) → ∀ xs st, xs.length ≠ m → c n xs st = .bad
  fns : ∀ n x m, T.fns[n]? = some (x, m) → ∃ k f fd ps, X.mg x = some (.ref f) ∧ PySem.W.keepIn X.K (.ref f) = true ∧ Binds X.K fd ps [] ∧ FnOk X.prog X.w X.K X.mg X.base (L2.CX X.prog X.w) k f fd ps (spF X.K c n m) ∧ Room k X.A
theorem gl_spec {X : Cx} {x : Str} (h : gl X.env.scope x = true) : Gl X x ∧ (x == ("__debug__" : Str)) = false ∧ x ≠ "__name__" := by
  unfold gl at h
  simp only [Bool.and_eq_true, decide_eq_true_eq, beq_iff_eq] at h
  exact ⟨h.1.1, h.1.2, h.2⟩
theorem vis_spec {X : Cx} {x : Str} (h : vis X.env.scope x = true) : Vis X.env.scope x ∧ (x == ("__debug__" : Str)) = false ∧ (x == ("__classdict__" : Str)) = false := by
  unfold vis at h
  simp only [Bool.and_eq_true, Bool.or_eq_true, decide_eq_true_eq, beq_iff_eq] at h
  refine ⟨?_, h.1.2, h.2⟩
  rcases h.1.1 with (h | h) | h
  · exact .inl h
  · exact .inr (.inl h)
  · exact .inr (.inr h)
theorem star1 {e : Expr} {es : List Expr} {env : Env} (h : notStar e = true) : starEach (e :: es) env = (false, eval e env) :: starEach es env := by
  cases e <;> first | rfl | cases h
theorem starAny {env : Env} {pos : Pos} : ∀ {es : List Expr}, (∀ e ∈ es, notStar e = true) → (backTo pos (starEach es env)).any (·.1) = false
  | [], _ => rfl
  | e :: es, h => by
    rw [star1 (h e List.mem_cons_self)]
    have ih := starAny (env := env) (pos := pos) fun e he => h e (List.mem_cons_of_mem _ he)
    simpa [backTo] using ih
theorem plainIx {b : Expr} (h : notSlice b = true) : PlainIx b := by
  intro o i
  cases b <;> first | rfl | cases h
theorem noSet {e : Expr} {env : Env} (h : notSet e = true) (x : Value) : foldedSetIterable e env x = pure x := by
  cases e <;> first | rfl | cases h
section
variable {T : Tab} {c : Nat → List PV → Sto → R PV} {X : Cx}
theorem Ok.blk (ok : Ok T c X) (s : Shared) (H : Hp) (scope : Scope) (env : Env) (fp : List Addr) : Ok T c (X.blk s H scope env fp) :=
  ⟨ok.calm, ok.nd, ok.hu, ok.blt, ok.con, ok.ar, ok.fns⟩
theorem ckEs_star {T : Tab} {N : List Str} {sc : Scope} : ∀ {es : Es} {xs : List Expr}, ckEs T N sc es xs = true → ∀ e ∈ xs, notStar e = true
  | .nil, xs, h, e, he => by
    rw [ckEs, List.isEmpty_iff] at h
    subst h
    cases he
  | .cons a es, [], h, e, he => by cases he
  | .cons a es, x :: xs, h, e, he => by
    rw [ckEs, Bool.and_eq_true, Bool.and_eq_true] at h
    rcases List.mem_cons.mp he with q | q
    · rw [q]; exact h.1.1
    · exact ckEs_star h.2 e q
/-- a store's list is read at a place -/
theorem ixR_spec {K : PySem.W.Frag} {g : Gs} {st : Sto} {H : Hp} {Q : VK} {x : V} {n : Nat} {j : Int} {xs : List PV} {p : PV} {Bo : Addr → Prop} (S : Sim K g st H) (h1 : Rep K g Bo H x (.ref n)) (hs : st[n]? = some (.lst xs)) (hp : atI xs j = some p) (F : Fin K g st H p Q) : rIxL K x (.int j) H Q := by
  obtain ⟨a, rfl, hn⟩ := h1
  obtain ⟨b, hb, vs, q1, q2⟩ := S.sto n _ hs
  rw [hn] at hb; cases hb
  obtain ⟨i, e1, e2⟩ := atI_mem hp
  have hl : vs.length = xs.length := Paired.length q2
  have hi : i < vs.length := by rw [hl]; exact (List.getElem?_eq_some_iff.mp e2).1
  refine ⟨a, vs, j, vs[i], rfl, rfl, .inl (.inl q1), atI_of hl e1 (List.getElem?_eq_getElem hi), ?_⟩
  have rp : RepK K g H vs[i] p := by
    have : ∀ {vs : List V} {xs : List PV} {i : Nat} (_ : Paired (RepK K g H) vs xs) (hi : i < vs.length), xs[i]? = some p → RepK K g H vs[i] p := by
      intro vs xs i h
      induction h generalizing i with
      | nil => intro hi; exact absurd hi (Nat.not_lt_zero _)
      | cons r t ih =>
        intro hi e
        cases i with
        | zero => simp at e; subst e; exact r
        | succ i => exact ih _ (by simpa using e)
    exact this q2 hi e2
  refine F g H _ Nx.refl S ?_
  cases p with
  | d x => exact rp
  | ref m => exact rp
  | ty m => exact rp
  | fre _ => exact rp.elim
  | bor _ => exact rp.elim
  | fn _ => exact rp.elim
theorem Paired.snoc {α β : Type} {F : α → β → Prop} {xs : List α} {ys : List β} {a : α} {b : β} (h : Paired F xs ys) (r : F a b) : Paired F (xs ++ [a]) (ys ++ [b]) := by
  induction h with
  | nil => exact .cons r .nil
  | cons r' _ ih => exact .cons r' ih
/-- a list is put into the store -/
theorem Sim.put {K : PySem.W.Frag} {g : Gs} {st : Sto} {H : Hp} {a : Addr} {o : Ob} (S : Sim K g st H) (hB : ¬ g.B a) (hr : a ∉ g.r) (ho : ¬ OwnA g.e g.s a) (h0 : g.H0 a = none) (ht : H a ≠ none) (ob : ObAt K g H a o)
    (av : Sim K (g.aB a) st H) (oav : ObAt K (g.aB a) H a o) :
    Sim K { g with r := g.r ++ [a] } (st ++ [o]) H := by
  have sub : ∀ b, Gs.Pr { g with r := g.r ++ [a] } b → (g.aB a).Pr b := by
    rintro b (h | h | h)
    · exact .inl (.inl h)
    · rcases List.mem_append.mp h with h | h
      · exact .inr (.inl h)
      · exact .inl (.inr (List.mem_singleton.mp h))
    · exact .inr (.inr h)
  have rk : ∀ {w : V} {y : PV}, RepK K (g.aB a) H w y → RepK K { g with r := g.r ++ [a] } H w y := fun {w y} h => by
    cases y with
    | d y => exact RD.keep (.anti sub) h
    | ref n =>
      obtain ⟨b, e, q⟩ := h
      have q : g.r[n]? = some b := q
      exact ⟨b, e, by show (g.r ++ [a])[n]? = some b; rw [List.getElem?_append_left (List.getElem?_eq_some_iff.mp q).1]; exact q⟩
    | ty n => exact h
    | fre _ => exact h
    | bor _ => exact h
    | fn _ => exact h
  have obk : ∀ {b : Addr} {y : Ob}, ObAt K (g.aB a) H b y → ObAt K { g with r := g.r ++ [a] } H b y := fun {b y} h => by
    cases y with
    | lst xs => obtain ⟨vs, q1, q2⟩ := h; exact ⟨vs, q1, Paired.imp (fun _ _ q => rk q) q2⟩
  exact {
    len := S.len
    val := fun i x h => let ⟨v, h1, h2⟩ := av.val i x h; ⟨v, h1, rk h2⟩
    own := fun i x h => by
      obtain ⟨b, h1, h2, h3, h4, h5⟩ := av.own i x h
      obtain ⟨ds, vs, rfl, o1, o2⟩ := h2.is
      refine ⟨b, h1, ⟨vs, o1, o2.keep (.anti sub)⟩, fun q => h3 (.inl q), fun q => ?_, h5⟩
      rcases List.mem_append.mp q with q | q
      · exact h4 q
      · exact h3 (.inr (List.mem_singleton.mp q))
    inj := S.inj
    slen := by show (st ++ [o]).length = (g.r ++ [a]).length; rw [List.length_append, List.length_append, S.slen]; rfl
    sto := fun n y h => by
      by_cases hn : n < st.length
      · rw [List.getElem?_append_left hn] at h
        obtain ⟨b, h1, h2⟩ := av.sto n y h
        have h1 : g.r[n]? = some b := h1
        exact ⟨b, by show (g.r ++ [a])[n]? = some b; rw [List.getElem?_append_left (by rw [← S.slen]; exact hn)]; exact h1, obk h2⟩
      · have hn' : n = st.length := by
          have := (List.getElem?_eq_some_iff.mp h).1
          rw [List.length_append] at this
          simp at this
          omega
        subst hn'
        rw [List.getElem?_append_right (Nat.le_refl _)] at h
        simp at h
        subst h
        exact ⟨a, by show (g.r ++ [a])[st.length]? = some a; rw [S.slen, List.getElem?_append_right (Nat.le_refl _)]; simp, obk oav⟩
    rB := fun b h q => by
      rcases List.mem_append.mp h with h | h
      · exact S.rB b h q
      · rw [List.mem_singleton.mp h] at q; exact hB q
    nd := by
      show (g.r ++ [a]).Nodup
      rw [List.nodup_append]
      exact ⟨S.nd, by simp, fun x hx y hy => by rw [List.mem_singleton.mp hy]; rintro rfl; exact hr hx⟩
    bt := S.bt
    pre := S.pre.trans (List.prefix_append _ _)
    new := fun b h => by
      rcases List.mem_append.mp h with h | h
      · exact S.new b h
      · rw [List.mem_singleton.mp h]; exact .inr h0
    fr := S.fr }
end
end Ev

set_option maxRecDepth 100000
/-! Ev12: the soundness of expressions, by induction. -/
namespace Ev
open PySem L2 PySem.W PyProof.Rows PySem.SeqAt

def tI (K : PySem.W.Frag) (bo : Bool) (f : Envr → Sto → R (List PyData)) : TI := fun σ H R => ∃ g st, g.s = σ ∧ Sim K g st H ∧ RP (f g.e st) fun xs st' => ∀ g' H' J G, Nx g g' H H' → g'.B = g.B → Sim K g' st' H' → Wk K J G xs → Stay K bo G → G g'.Pr g'.r H' → R J H'
theorem pi_seq {X : Cx} {tg l : Expr} {tl : TE} (hl : PE X l tl) : PI X tg l (fun σ H R => tl σ H fun x H1 => ∃ k a xs, x = .ref a ∧ SqK X.K k H1 a xs ∧ R (cond k (Itl X.K a) (Itt X.K a)) H1) := by
  refine ⟨fun pins s σ H R I h => ?_⟩
  refine thn (hl.run pins s σ H _ I h) fun v s1 ⟨x, H1, I1, r1, q1⟩ => ?_
  obtain ⟨k, a, xs, e, hq, q⟩ := q1
  subst e
  cases r1
  cases k with
  | true =>
    obtain ⟨its, rv, p, hz⟩ := I1.list hq
    refine wpAny_pyIter_list p.isList ?_
    refine ⟨s1.heap.objs.size, [s1.heap.objs.size], _, _, H1, rfl, I1.kept (t' := s1.toks) fun b o e => Heap.get?_push_of_some _ e, turn_list a _, ⟨_, Heap.get?_push_size _ rfl, rfl, rfl⟩, fun b hb => ?_, q⟩
    have e : b = s1.heap.objs.size := by simpa using hb
    subst e
    exact I1.fpOk (Nat.le_refl _) (I1.hok.fresh (Nat.le_refl _))
  | false =>
    obtain ⟨its, rv, p, hz⟩ := I1.tuple hq
    refine wpAny_pyIter_tuple (show s1.heap.IsTuple a its.toArray from p) ?_
    refine ⟨s1.heap.objs.size, [s1.heap.objs.size], _, _, H1, rfl, I1.kept (t' := s1.toks) fun b o e => Heap.get?_push_of_some _ e, turn_tuple a _, ⟨_, Heap.get?_push_size _ rfl, rfl, rfl⟩, fun b hb => ?_, q⟩
    have e : b = s1.heap.objs.size := by simpa using hb
    subst e
    exact I1.fpOk (Nat.le_refl _) (I1.hok.fresh (Nat.le_refl _))
structure SE (c : Nat → List PV → Sto → R PV) (m : E) (X : Cx) (e : Expr) : Prop where
  pe : PE X e (tEv X.K (evE c m))
  pt : tst m = true → PT X e (tTe X.K (evE c m))
  pw : ∀ op es pos, e = .BoolOp op es pos → tst m = true → PW X e (tTe X.K (evE c m))
section
variable {T : Tab} {c : Nat → List PV → Sto → R PV} {X : Cx} {K : PySem.W.Frag}
/-- an expression whose value is looked at as a bool -/
theorem leafT {f : Envr → Sto → R PV} {e : Expr} (h : PE X e (tEv X.K f)) (he : ∀ whole, isTrue e X.env whole = (do let v ← whole; standAt e.pos; holding [v] (truthy v))) : PT X e (fun σ H Q => ∃ g st, g.s = σ ∧ Sim X.K g st H ∧ RP (f g.e st) fun v st' => ∃ b, v = .d (.bool b) ∧ ∀ g' H', Nx g g' H H' → Sim X.K g' st' H' → Q b H') :=
  (pt_val h he).imp fun σ H Q ⟨g, st, e, S, h⟩ => ⟨g, st, e, S, h.imp fun v s1 ⟨b, e, h⟩ g' H' w n S' r => by
    subst e
    have r : RD X.K g'.Pr H' w (.bool b) := r
    cases r
    exact ⟨b, rfl, h g' H' n S'⟩⟩
/-- two expressions, one after the other -/
theorem two {fa fb : Envr → Sto → R PV} {g : Gs} {st : Sto} {H : Hp} {R : V → V → Hp → Prop} {p : PV → PV → Sto → Prop} (S : Sim K g st H) (h : RP (fa g.e st) fun x s1 => RP (fb g.e s1) fun y s2 => p x y s2)
    (k : ∀ x y s2 g2 H2 V1 V2, p x y s2 → Nx g g2 H H2 → Sim K g2 s2 H2 → Rep K g2 g.B H2 V1 x → Rep K g2 g.B H2 V2 y → R V1 V2 H2) :
    tEv K fa g.s H fun x H1 => tEv K fb g.s H1 fun y H2 => R x y H2 :=
  ⟨g, st, rfl, S, h.imp fun x s1 h g1 H1 V1 n1 S1 r1 => ⟨g1, s1, n1.s, S1, by
    rw [n1.e]
    exact h.imp fun y s2 h g2 H2 V2 n2 S2 r2 => k x y s2 g2 H2 V1 V2 h (n1.trans S1 n2) S2 (r1.keep n2 S1) (r2.mono n1.B)⟩⟩
/-- one expression -/
theorem one {fa : Envr → Sto → R PV} {g : Gs} {st : Sto} {H : Hp} {R : V → Hp → Prop} {p : PV → Sto → Prop} (S : Sim K g st H) (h : RP (fa g.e st) p)
    (k : ∀ x s1 g1 H1 V1, p x s1 → Nx g g1 H H1 → Sim K g1 s1 H1 → Rep K g1 g.B H1 V1 x → R V1 H1) : tEv K fa g.s H R :=
  ⟨g, st, rfl, S, h.imp fun x s1 h g1 H1 V1 n1 S1 r1 => k x s1 g1 H1 V1 h n1 S1 r1⟩
theorem asB_eq {y : PV} {k : Bool} (h : asB y = some k) : y = .d (.bool k) := by
  unfold asB at h
  split at h
  · cases h; rfl
  · cases h
theorem Rep.bl_ {g : Gs} {Bo : Addr → Prop} {H : Hp} {v : V} {k : Bool} (h : Rep K g Bo H v (.d (.bool k))) : v = .bl k := by
  have h : RD K g.Pr H v (.bool k) := h
  cases h; rfl
theorem Rep.int_ {g : Gs} {Bo : Addr → Prop} {H : Hp} {v : V} {k : Int} (h : Rep K g Bo H v (.d (.int k))) : v = .int k := by
  have h : RD K g.Pr H v (.int k) := h
  cases h; rfl
theorem Rep.bl {g : Gs} {Bo : Addr → Prop} {H : Hp} {k : Bool} : Rep K g Bo H (.bl k) (.d (.bool k)) := show RD _ _ _ _ _ from .bl k
def tAndR (fa fb : Envr → Sto → R PV) (e : Envr) (st : Sto) : R PV := (fa e st).bind fun x s1 => match x with
  | .d (.bool true) => (fb e s1).bind fun y s2 => R.opt ((asB y).map fun k => .d (.bool k)) s2
  | .d (.bool false) => .ok (.d (.bool false)) s1
  | _ => .bad
def tOrR (fa fb : Envr → Sto → R PV) (e : Envr) (st : Sto) : R PV := (fa e st).bind fun x s1 => match x with
  | .d (.bool false) => (fb e s1).bind fun y s2 => R.opt ((asB y).map fun k => .d (.bool k)) s2
  | .d (.bool true) => .ok (.d (.bool true)) s1
  | _ => .bad
theorem and_v {fa fb : Envr → Sto → R PV} {σ : L2.St} {H : Hp} {Q : VK} (h : tEv K (tAndR fa fb) σ H Q) : tAndV (tEv K fa) (tEv K fb) σ H Q := by
  obtain ⟨g, st, e, S, h⟩ := h
  subst e
  refine one S h.bind fun x s1 g1 H1 V1 h n1 S1 r1 => ?_
  split at h
  · cases r1.bl_
    refine ⟨true, rfl, ?_⟩
    rw [if_pos rfl, ← n1.s]
    refine one S1 (by rw [n1.e]; exact h.bind) fun y s2 g2 H2 V2 h n2 S2 r2 => ?_
    obtain ⟨v, hv, F⟩ := h.opt
    simp only [Option.map_eq_some_iff] at hv
    obtain ⟨k, hk, rfl⟩ := hv
    cases asB_eq hk
    cases r2.bl_
    exact F g2 H2 _ (n1.trans S1 n2) S2 .bl
  · cases r1.bl_
    refine ⟨false, rfl, ?_⟩
    rw [if_neg Bool.false_ne_true]
    exact h g1 H1 _ n1 S1 .bl
  · exact h.elim
theorem or_v {fa fb : Envr → Sto → R PV} {σ : L2.St} {H : Hp} {Q : VK} (h : tEv K (tOrR fa fb) σ H Q) : tOrV (tEv K fa) (tEv K fb) σ H Q := by
  obtain ⟨g, st, e, S, h⟩ := h
  subst e
  refine one S h.bind fun x s1 g1 H1 V1 h n1 S1 r1 => ?_
  split at h
  · cases r1.bl_
    refine ⟨false, rfl, ?_⟩
    rw [if_neg Bool.false_ne_true, ← n1.s]
    refine one S1 (by rw [n1.e]; exact h.bind) fun y s2 g2 H2 V2 h n2 S2 r2 => ?_
    obtain ⟨v, hv, F⟩ := h.opt
    simp only [Option.map_eq_some_iff] at hv
    obtain ⟨k, hk, rfl⟩ := hv
    cases asB_eq hk
    cases r2.bl_
    exact F g2 H2 _ (n1.trans S1 n2) S2 .bl
  · cases r1.bl_
    refine ⟨true, rfl, ?_⟩
    rw [if_pos rfl]
    exact h g1 H1 _ n1 S1 .bl
  · exact h.elim
theorem and_t {fa fb : Envr → Sto → R PV} {σ : L2.St} {H : Hp} {Q : Bool → Hp → Prop} (h : tTe K (tAndR fa fb) σ H Q) : tAnd (tTe K fa) (tTe K fb) σ H Q := by
  obtain ⟨g, st, e, S, h⟩ := h
  subst e
  refine ⟨g, st, rfl, S, h.bind.imp fun x s1 h => ?_⟩
  split at h
  · refine ⟨true, rfl, fun g1 H1 n1 S1 => ?_⟩
    try dsimp only
    rw [if_pos rfl]
    refine ⟨g1, s1, n1.s, S1, ?_⟩
    rw [n1.e]
    refine h.bind.imp fun y s2 h => ?_
    obtain ⟨v, hv, k', ek, F⟩ := h.opt
    simp only [Option.map_eq_some_iff] at hv
    obtain ⟨k, hk, rfl⟩ := hv
    cases asB_eq hk
    cases ek
    exact ⟨_, rfl, fun g2 H2 n2 S2 => F g2 H2 (n1.trans S1 n2) S2⟩
  · obtain ⟨k', ek, F⟩ := h
    cases ek
    refine ⟨false, rfl, fun g1 H1 n1 S1 => ?_⟩
    try dsimp only
    rw [if_neg Bool.false_ne_true]
    exact F g1 H1 n1 S1
  · exact h.elim
theorem or_t {fa fb : Envr → Sto → R PV} {σ : L2.St} {H : Hp} {Q : Bool → Hp → Prop} (h : tTe K (tOrR fa fb) σ H Q) : tOr (tTe K fa) (tTe K fb) σ H Q := by
  obtain ⟨g, st, e, S, h⟩ := h
  subst e
  refine ⟨g, st, rfl, S, h.bind.imp fun x s1 h => ?_⟩
  split at h
  · refine ⟨false, rfl, fun g1 H1 n1 S1 => ?_⟩
    try dsimp only
    rw [if_neg Bool.false_ne_true]
    refine ⟨g1, s1, n1.s, S1, ?_⟩
    rw [n1.e]
    refine h.bind.imp fun y s2 h => ?_
    obtain ⟨v, hv, k', ek, F⟩ := h.opt
    simp only [Option.map_eq_some_iff] at hv
    obtain ⟨k, hk, rfl⟩ := hv
    cases asB_eq hk
    cases ek
    exact ⟨_, rfl, fun g2 H2 n2 S2 => F g2 H2 (n1.trans S1 n2) S2⟩
  · obtain ⟨k', ek, F⟩ := h
    cases ek
    refine ⟨true, rfl, fun g1 H1 n1 S1 => ?_⟩
    try dsimp only
    rw [if_pos rfl]
    exact F g1 H1 n1 S1
  · exact h.elim
theorem RT.weak {g : Gs} {B : Addr → Prop} {H : Hp} {v : V} {d : PyData} (hb : ∀ a, B a → g.B a) (h : RT K g.Pr H v d) : RT K (g.wB B).Pr H v d := h.keep fun _ q => Gs.wB_pr hb q
theorem Fin.of {g g2 : Gs} {st st2 : Sto} {H H2 : Hp} {v : PV} {Q : VK} (F : Fin K g st H v Q) (n : Nx g g2 H H2) (S : Sim K g2 st2 H2) : Fin K (g2.wB g.B) st H2 v Q := F.at n S
/-- a call of one of the defs -/
theorem snd_call {g : Gs} {st : Sto} {H : Hp} {n m : Nat} {ws : List V} {xs : List PV} {Q : VK} (S : Sim K g st H) (hp : Paired (RepK K g H) ws xs) (hl : ws.length = m) (h : RP (c n xs st) fun v st' => Fin K g st' H v Q) (E : XK) : spF K c n m ws H Q E := by
  refine ⟨hl, g.cal H, st, xs, rfl, rfl, S.cal, Paired.imp (fun _ _ q => RepK.pr (ga := g) (gb := g.cal H) rfl (fun _ q => Gs.cal_pr.mp q) q) hp, h.imp fun v st' F g' H' w n S' hB r => ?_⟩
  obtain ⟨k1, k2, k3⟩ := S.after n S' hB
  refine F _ H' w k1 k2 ?_
  have r := RepK.pr (ga := g') (gb := { g with r := g'.r }) rfl (fun a q => (k3 a).mp q) r
  cases v with
  | d x => exact r
  | ref k => exact r
  | ty k => exact r
  | fre _ => exact r.elim
  | bor _ => exact r.elim
  | fn _ => exact r.elim
theorem Fin.same {g g2 : Gs} {st st2 : Sto} {H H2 : Hp} {v : PV} {Q : VK} (F : Fin K g st H v Q) (n : Nx g g2 H H2) (S : Sim K g2 st2 H2) (hB : g2.B = g.B) : Fin K g2 st H2 v Q := fun g' H' w n' S' r =>
  F g' H' w (n.trans S n') S' (by rw [← hB]; exact r)
theorem Nx.put {g g' : Gs} {st' : Sto} {H H' : Hp} {p : Addr} {o : HO} (n : Nx g g' H H') (S' : Sim K g' st' H') (hp : H' p = none) : Nx g { g' with r := g'.r ++ [p] } H (upd H' p o) :=
  ⟨n.e, n.s, n.h0, n.r0, n.B, n.bn, n.pre.trans (List.prefix_append _ _), fun a h => by
    rcases List.mem_append.mp h with h | h
    · exact n.rn a h
    · rw [List.mem_singleton.mp h]; exact .inr (n.trk S' hp), (n.laid S' hp).fr⟩
/-- a new list of values, in the store -/
theorem Fin.put {g g1 : Gs} {st s1 : Sto} {H H1 : Hp} {ws : List V} {xs : List PV} {Q : VK} (F : Fin K g (s1 ++ [.lst xs]) H (.ref s1.length) Q) (n : Nx g g1 H H1) (S1 : Sim K g1 s1 H1) (r : Paired (RepK K g1 H1) ws xs) :
    ∀ p, H1 p = none → Q (.ref p) (upd H1 p (.lst ws)) := fun p hp => by
  have oav : ObAt K (g1.aB p) (upd H1 p (.lst ws)) p (.lst xs) := ⟨ws, upd_same, Paired.imp (fun _ _ q => RepK.fresh hp q) r⟩
  have ob : ObAt K g1 (upd H1 p (.lst ws)) p (.lst xs) := ObAt.pr (ga := g1.aB p) (gb := g1) rfl (fun a q => by
    rcases q with q | q | q
    · exact .inl (.inl q)
    · exact .inr (.inl q)
    · exact .inr (.inr q)) oav
  have hr : p ∉ g1.r := fun q => S1.prt (.inr (.inl q)) hp
  refine F _ _ _ (n.put S1 hp) (Sim.put (S1.laid hp) (fun q => S1.bt p q hp) hr (fun ⟨i, x, q1, q2⟩ => S1.prt (.inr (.inr ⟨i, x, q1, q2⟩)) hp) (S1.h0 hp) (by rw [upd_same]; exact fun q => nomatch q) ob (S1.fresh hp) oav) ⟨p, rfl, ?_⟩
  show (g1.r ++ [p])[s1.length]? = some p
  rw [S1.slen, List.getElem?_append_right (Nat.le_refl _)]
  simp
theorem rds_paired {g : Gs} {H : Hp} : ∀ {vs : List V} {ds : List PyData}, RDs K g.Pr H vs ds → Paired (RepK K g H) vs (ds.map .d)
  | _, _, .nil => .nil
  | _, _, .cons h r => .cons h (rds_paired r)
/-- a list of one's own, into the store -/
theorem Fin.box {g g1 : Gs} {st s1 : Sto} {H H1 : Hp} {V1 : V} {xs : List PyData} {Q : VK} (F : Fin K g (s1 ++ [.lst (xs.map .d)]) H (.ref s1.length) Q) (n : Nx g g1 H H1) (S1 : Sim K g1 s1 H1) (r : Rep K g1 g.B H1 V1 (.fre (.list xs))) :
    Q V1 H1 := by
  obtain ⟨a, rfl, ⟨vs, o1, o2⟩, hb, hn, h0⟩ := r
  have S2 := S1.weak n.B
  have av : Sim K ((g1.wB g.B).aB a) s1 H1 := S1.weak (B := fun b => g.B b ∨ b = a) fun b q => q.elim (n.B b) (by rintro rfl; exact hb)
  have oav : ObAt K ((g1.wB g.B).aB a) H1 a (.lst (xs.map .d)) := ⟨vs, o1, rds_paired (g := (g1.wB g.B).aB a) (o2.keep (.anti fun b q => by
    rcases q with (q | q) | q | q
    · exact .inl (n.B b q)
    · rw [q]; exact .inl hb
    · exact .inr (.inl q)
    · exact .inr (.inr q)))⟩
  have ob : ObAt K (g1.wB g.B) H1 a (.lst (xs.map .d)) := ObAt.pr (ga := (g1.wB g.B).aB a) (gb := g1.wB g.B) rfl (fun b q => by
    rcases q with q | q | q
    · exact .inl (.inl q)
    · exact .inr (.inl q)
    · exact .inr (.inr q)) oav
  have hr : a ∉ g1.r := fun q => S1.rB a q hb
  have ha : H a = none := (n.bn a hb).elim (fun q => absurd q hn) id
  refine F { g1.wB g.B with r := g1.r ++ [a] } _ _ ⟨n.e, n.s, n.h0, n.r0, fun _ q => q, fun _ q => .inl q, n.pre.trans (List.prefix_append _ _), fun b q => by
      rcases List.mem_append.mp q with q | q
      · exact n.rn b q
      · rw [List.mem_singleton.mp q]; exact .inr ha, n.fr⟩ (Sim.put S2 hn hr (fun ⟨i, x, q1, q2⟩ => by
        obtain ⟨b, h1, _, h3, _⟩ := S1.own i x q1
        have q2 : g1.s[i]? = some (some (.ref a)) := q2
        rw [h1] at q2; cases q2
        exact h3 hb) h0 (by rw [o1]; exact fun q => nomatch q) ob av oav) ⟨a, rfl, ?_⟩
  show (g1.r ++ [a])[s1.length]? = some a
  rw [S1.slen, List.getElem?_append_right (Nat.le_refl _)]
  simp
theorem smallI_eq {i : Int} (h : smallI i = true) : -(2 ^ 62) ≤ i ∧ i < 2 ^ 62 := by
  have h := of_decide_eq_true h
  omega
theorem rgV_rds {pr : Addr → Prop} {H : Hp} (a b : Int) : RDs K pr H (rgV a b) (rgL a b) := by
  unfold rgV rgL
  generalize (b - a).toNat = n
  have : ∀ l : List Nat, RDs K pr H (l.map fun i => V.int (a + (i : Nat))) (l.map fun i => PyData.int (a + (i : Nat))) := by
    intro l
    induction l with
    | nil => exact .nil
    | cons x l ih => exact .cons (.int _) ih
  exact this _
end
section
variable {T : Tab} {c : Nat → List PV → Sto → R PV} {X : Cx} {K : PySem.W.Frag}
theorem nm_ok (ok : Ok T c X) {i : Nat} {x : Str} {pos : Pos} (h1 : X.N[i]? = some x) (h2 : X.env.scope.names.lookup x = some .local ∨ (X.env.scope.names.lookup x = some .cell ∧ X.fn x = true)) : PG X (.Name x pos) (gName i) :=
  pg_name ok.nd h1 (h2.imp id And.left) (h2.elim .inr fun q => .inl q.2)
theorem ckNs_pgs (ok : Ok T c X) : ∀ {is : List Nat} {es : List Expr}, ckG.ckNs X.N X.env.scope X.fn is es = true → PGs X es (gNs is) ∧ (assignEach es X.env).length = is.length ∧ (assignEach es X.env).findIdx? (·.1) = none
  | [], [], _ => ⟨pgs_nil, rfl, rfl⟩
  | [], _ :: _, h => by cases h
  | _ :: _, [], h => by cases h
  | i :: is, e :: es, h => by
    cases e with
    | Name x p =>
      unfold ckG.ckNs at h
      simp only [Bool.and_eq_true, Bool.or_eq_true, decide_eq_true_eq] at h
      obtain ⟨⟨h1, h2⟩, h3⟩ := h
      obtain ⟨q1, q2, q3⟩ := ckNs_pgs ok h3
      refine ⟨pgs_cons (nm_ok ok h1 h2) q1, ?_, ?_⟩
      · show (assignEach es X.env).length + 1 = _
        rw [q2]; rfl
      · show List.findIdx? (·.1) ((false, assign (.Name x p) X.env) :: assignEach es X.env) = none
        rw [List.findIdx?_cons, q3]; rfl
    | _ => cases h
theorem ckG_pg (ok : Ok T c X) {gt : G} {tg : Expr} (h : ckG X.N X.env.scope X.fn gt tg = true) : PG X tg (gT X.K gt) := by
  unfold ckG at h
  split at h
  · simp only [Bool.and_eq_true, Bool.or_eq_true, decide_eq_true_eq] at h
    exact nm_ok ok h.1 h.2
  · obtain ⟨q1, q2, q3⟩ := ckNs_pgs ok h
    exact pg_tup ok.calm q1 q2 q3
  · cases h
theorem ckG_tup {N : List Str} {sc : Scope} {fn : Str → Bool} {gt : G} {tg : Expr} (h : ckG N sc fn gt tg = true) (ht : isTup gt = true) : ∃ es k pos, tg = .Tuple es k pos := by
  cases gt with
  | nm i => cases ht
  | tp is =>
    cases tg with
    | Tuple es k pos => exact ⟨_, _, _, rfl⟩
    | _ => cases h
end
theorem SE.leaf {T : Tab} {c : Nat → List PV → Sto → R PV} {m : E} {X : Cx} {e : Expr} (pe : PE X e (tEv X.K (evE c m))) (he : ∀ whole, isTrue e X.env whole = (do let v ← whole; standAt e.pos; holding [v] (truthy v))) (hb : ∀ op es pos, e ≠ .BoolOp op es pos) : SE c m X e :=
  ⟨pe, fun _ => leafT pe he, fun op es pos q => absurd q (hb op es pos)⟩
theorem SE.plain {c : Nat → List PV → Sto → R PV} {m : E} {X : Cx} {e : Expr} (pe : PE X e (tEv X.K (evE c m))) (ht : tst m = false) : SE c m X e :=
  ⟨pe, fun q => (by rw [ht] at q; cases q), fun op es pos _ q => (by rw [ht] at q; cases q)⟩
set_option maxHeartbeats 2000000
mutual
theorem sndE {T : Tab} {c : Nat → List PV → Sto → R PV} : ∀ (m : E) {X : Cx} {e : Expr}, Ok T c X → ckE T X.N X.env.scope m e = true → SE c m X e
  | .var i, X, e, ok, h => by
    rw [ckE.eq_def] at h
    dsimp only at h
    split at h
    · rename_i x _
      rw [Bool.and_eq_true, decide_eq_true_eq] at h
      obtain ⟨v1, v2, v3⟩ := vis_spec h.2
      refine SE.leaf (T := T) ((pe_var h.1 v1 v2 v3).imp fun σ H Q ⟨g, st, e, S, h⟩ => ?_) (fun _ => rfl) (fun _ _ _ q => nomatch q)
      · subst e
        rw [evE] at h
        split at h
        · rename_i y hy
          obtain ⟨v, q1, q2⟩ := S.val i y hy
          refine ⟨v, q1, h g H v Nx.refl S ?_⟩
          cases y with
          | d y => exact q2
          | ref n => exact q2
          | ty n => exact q2
          | fre _ => exact q2.elim
          | bor _ => exact q2.elim
          | fn _ => exact q2.elim
        · rename_i y hy
          obtain ⟨a, q1, _⟩ := S.own i y hy
          exact ⟨.ref a, q1, h g H _ Nx.refl S ⟨i, a, rfl, hy, q1⟩⟩
        · exact h.elim
    · cases h
  | .lit d, X, e, ok, h => by
    have fin : ∀ {v : V} {x : PyData}, (∀ pr H, RD X.K pr H v x) → ∀ σ H Q, tEv X.K (fun _ st => .ok (.d x) st) σ H Q → tC v σ H Q := fun {v x} hx σ H Q ⟨g, st, e, S, h⟩ => h g H v Nx.refl S (hx _ _)
    rw [ckE.eq_def] at h
    dsimp only at h
    split at h
    · rw [decide_eq_true_eq] at h
      subst h
      exact SE.leaf (T := T) (pe_int.imp (fin fun _ _ => .int _)) (fun _ => rfl) (fun _ _ _ q => nomatch q)
    · rw [beq_iff_eq] at h
      subst h
      exact SE.leaf (T := T) (pe_bl.imp (fin fun _ _ => .bl _)) (fun _ => rfl) (fun _ _ _ q => nomatch q)
    · exact SE.leaf (T := T) (pe_non.imp (fin fun _ _ => .non)) (fun _ => rfl) (fun _ _ _ q => nomatch q)
    · rw [decide_eq_true_eq] at h
      subst h
      exact SE.leaf (T := T) (pe_str.imp (fin fun _ _ => .str _)) (fun _ => rfl) (fun _ _ _ q => nomatch q)
    · cases h
  | .con x d, X, e, ok, h => by
    rw [ckE.eq_def] at h
    dsimp only at h
    split at h
    · rename_i y _
      simp only [Bool.and_eq_true, decide_eq_true_eq, List.any_eq_true] at h
      obtain ⟨⟨rfl, hg⟩, ⟨p1, p2⟩, hm, rfl, hd⟩ := h
      obtain ⟨g1, g2, g3⟩ := gl_spec hg
      have ed := sameD_eq hd
      subst ed
      obtain ⟨u, v, m1, m2, m3⟩ := ok.con _ _ hm
      exact SE.leaf (T := T) ((pe_glob g1 m1 m2 g2).imp fun σ H Q ⟨g, st, e, S, h⟩ => h g H v Nx.refl S (m3 _ _)) (fun _ => rfl) (fun _ _ _ q => nomatch q)
    · cases h
  | .ty x n, X, e, ok, h => by
    rw [ckE.eq_def] at h
    dsimp only at h
    split at h
    · rename_i y _
      simp only [Bool.and_eq_true, decide_eq_true_eq] at h
      obtain ⟨⟨⟨rfl, hg⟩, hb⟩, ht⟩ := h
      obtain ⟨g1, g2, g3⟩ := gl_spec hg
      exact SE.plain ((pe_bltn g1 (ok.blt _ hb) (tyOk_boot ht) (v := .ty n) rfl g3 g2).imp fun σ H Q ⟨g, st, e, S, h⟩ => h g H (.ty n) Nx.refl S rfl) rfl
    · cases h
  | .op o a b, X, e, ok, h => by
    rw [ckE.eq_def] at h
    dsimp only at h
    split at h
    · simp only [Bool.and_eq_true] at h
      obtain ⟨⟨ho, ha⟩, hb⟩ := h
      cases opIs_eq ho
      refine SE.plain ((pe_op (op_all o) (sndE a ok ha).pe (sndE b ok hb).pe).imp fun σ H Q ⟨g, st, e, S, h⟩ => ?_) rfl
      subst e
      rw [evE] at h
      refine two S (h.bind.imp fun x s1 h => h.bind) fun x y s2 g2 H2 V1 V2 h n S2 r1 r2 => ?_
      obtain ⟨v, hv, F⟩ := h.opt
      simp only [Option.bind_eq_some_iff] at hv
      obtain ⟨u, e1, w, e2, hv⟩ := hv
      exact op_spec o hv (S2.weak n.B) ((r1.rt S2 e1).weak n.B) ((r2.rt S2 e2).weak n.B) (F.of n S2)
    · cases h
  | .neg a, X, e, ok, h => by
    rw [ckE.eq_def] at h
    dsimp only at h
    split at h
    · refine SE.plain ((pe_un un_neg (sndE a ok h).pe).imp fun σ H Q ⟨g, st, e, S, h⟩ => ?_) rfl
      rw [evE] at h
      refine ⟨g, st, e, S, h.bind.imp fun x s1 h g' H' w n S' r => ?_⟩
      split at h
      · have r : RD X.K g'.Pr H' w (.int _) := r
        cases r
        exact ⟨_, rfl, h g' H' _ n S' (.int _)⟩
      · exact h.elim
    · cases h
  | .cmp o a b, X, e, ok, h => by
    rw [ckE.eq_def] at h
    dsimp only at h
    split at h
    · simp only [Bool.and_eq_true, Bool.not_eq_true'] at h
      obtain ⟨⟨⟨ho, hm⟩, ha⟩, hb⟩ := h
      cases cmIs_eq ho
      have hu : X.A.units + 70 < cLine := by have := ok.hu; omega
      refine ⟨(pe_cmpR (cm_all hu o) (sndE a ok ha).pe (sndE b ok hb).pe hm).imp fun σ H Q ⟨g, st, e, S, h⟩ => ?_, fun _ => (pt_cmpR (cm_all hu o) (sndE a ok ha).pe (sndE b ok hb).pe hm).imp fun σ H Q ⟨g, st, e, S, h⟩ => ?_, fun _ _ _ q => nomatch q⟩
      · subst e
        rw [evE] at h
        refine two S (h.bind.imp fun x s1 h => h.bind) fun x y s2 g2 H2 V1 V2 h n S2 r1 r2 => ?_
        obtain ⟨v, hv, F⟩ := h.opt
        simp only [Option.bind_eq_some_iff, Option.map_eq_some_iff] at hv
        obtain ⟨u, e1, w, e2, k, hv, rfl⟩ := hv
        exact cmp_spec (st := s2) o hv (S2.weak n.B) ((r1.rt S2 e1).weak n.B) ((r2.rt S2 e2).weak n.B) ((F.of n S2).bl (S2.weak n.B))
      · subst e
        rw [evE] at h
        refine two S (h.bind.imp fun x s1 h => h.bind) fun x y s2 g2 H2 V1 V2 h n S2 r1 r2 => ?_
        obtain ⟨v, hv, F⟩ := h.opt
        simp only [Option.bind_eq_some_iff, Option.map_eq_some_iff] at hv
        obtain ⟨u, e1, w, e2, k, hv, rfl⟩ := hv
        obtain ⟨k', ek, F⟩ := F
        cases ek
        exact cmp_spec (st := s2) o hv (S2.weak n.B) ((r1.rt S2 e1).weak n.B) ((r2.rt S2 e2).weak n.B) ⟨_, rfl, F g2 H2 n S2⟩
    · cases h
  | .chn o o2 a b b2, X, e, ok, h => by
    rw [ckE.eq_def] at h
    dsimp only at h
    split at h
    · simp only [Bool.and_eq_true, Bool.not_eq_true'] at h
      obtain ⟨⟨⟨⟨⟨ho, ho2⟩, hm⟩, ha⟩, hb⟩, hb2⟩ := h
      cases cmIs_eq ho
      cases cmIs_eq ho2
      have hu : X.A.units + 70 < cLine := by have := ok.hu; omega
      have core : ∀ {g : Gs} {st : Sto} {H : Hp} {Q : Bool → Hp → Prop}, Sim X.K g st H → RP (evE c (.chn o o2 a b b2) g.e st) (fun v st' => ∃ k, v = .d (.bool k) ∧ ∀ g' H', Nx g g' H H' → Sim X.K g' st' H' → Q k H') →
          tChain (rCm X.K o) (rCm X.K o2) (tEv X.K (evE c a)) (tEv X.K (evE c b)) (tEv X.K (evE c b2)) g.s H (fun x H' => ∃ k, x = .bl k ∧ Q k H') := fun {g st H Q} S h => by
        rw [evE] at h
        refine two S (h.bind.imp fun x s1 h => h.bind) fun x y s2 g2 H2 V1 V2 h n S2 r1 r2 => ?_
        split at h
        · rename_i hv
          simp only [Option.bind_eq_some_iff] at hv
          obtain ⟨u, e1, w, e2, hv⟩ := hv
          refine cmp_spec (st := s2) o hv (S2.weak n.B) ((r1.rt S2 e1).weak n.B) ((r2.rt S2 e2).weak n.B) ⟨true, rfl, ?_⟩
          try dsimp only
          rw [if_pos rfl]
          refine ⟨g2, s2, n.s, S2, ?_⟩
          rw [n.e]
          refine h.bind.imp fun z s3 h g3 H3 V3 n3 S3 r3 => ?_
          obtain ⟨v, hv, k', ek, F⟩ := h.opt
          simp only [Option.bind_eq_some_iff, Option.map_eq_some_iff] at hv
          obtain ⟨u', e1', w', e2', k, hv, rfl⟩ := hv
          cases ek
          have nn := n.trans S2 n3
          exact cmp_spec (st := s3) o2 hv (S3.weak nn.B) (((r2.keep n3 S2).rt S3 e1').weak nn.B) ((r3.rt S3 e2').weak nn.B) ⟨_, rfl, F g3 H3 nn S3⟩
        · rename_i hv
          simp only [Option.bind_eq_some_iff] at hv
          obtain ⟨u, e1, w, e2, hv⟩ := hv
          obtain ⟨k', ek, F⟩ := h
          cases ek
          refine cmp_spec (st := s2) o hv (S2.weak n.B) ((r1.rt S2 e1).weak n.B) ((r2.rt S2 e2).weak n.B) ⟨false, rfl, ?_⟩
          try dsimp only
          rw [if_neg Bool.false_ne_true]
          exact ⟨_, rfl, F g2 H2 n S2⟩
        · exact h.elim
      refine ⟨(pe_chain (cm_all hu o) (cm_all hu o2) (sndE a ok ha).pe (sndE b ok hb).pe (sndE b2 ok hb2).pe hm).imp fun σ H Q ⟨g, st, e, S, h⟩ => ?_, fun _ => (pt_chain (cm_all hu o) (cm_all hu o2) (sndE a ok ha).pe (sndE b ok hb).pe (sndE b2 ok hb2).pe hm).imp fun σ H Q ⟨g, st, e, S, h⟩ => ?_, fun _ _ _ q => nomatch q⟩
      · subst e
        rw [evE] at h
        refine two S (h.bind.imp fun x s1 h => h.bind) fun x y s2 g2 H2 V1 V2 h n S2 r1 r2 => ?_
        split at h
        · rename_i hv
          simp only [Option.bind_eq_some_iff] at hv
          obtain ⟨u, e1, w, e2, hv⟩ := hv
          refine cmp_spec (st := s2) o hv (S2.weak n.B) ((r1.rt S2 e1).weak n.B) ((r2.rt S2 e2).weak n.B) ⟨true, rfl, ?_⟩
          try dsimp only
          rw [if_pos rfl]
          refine ⟨g2, s2, n.s, S2, ?_⟩
          rw [n.e]
          refine h.bind.imp fun z s3 h g3 H3 V3 n3 S3 r3 => ?_
          obtain ⟨v, hv, F⟩ := h.opt
          simp only [Option.bind_eq_some_iff, Option.map_eq_some_iff] at hv
          obtain ⟨u', e1', w', e2', k, hv, rfl⟩ := hv
          have nn := n.trans S2 n3
          exact cmp_spec (st := s3) o2 hv (S3.weak nn.B) (((r2.keep n3 S2).rt S3 e1').weak nn.B) ((r3.rt S3 e2').weak nn.B) ((F.of nn S3).bl (S3.weak nn.B))
        · rename_i hv
          simp only [Option.bind_eq_some_iff] at hv
          obtain ⟨u, e1, w, e2, hv⟩ := hv
          refine cmp_spec (st := s2) o hv (S2.weak n.B) ((r1.rt S2 e1).weak n.B) ((r2.rt S2 e2).weak n.B) ⟨false, rfl, ?_⟩
          try dsimp only
          rw [if_neg Bool.false_ne_true]
          exact (Fin.of h n S2).bl (S2.weak n.B)
        · exact h.elim
      · subst e
        exact core S h
    · cases h
  | .andd a b, X, e, ok, h => by
    have ee : evE c (.andd a b) = tAndR (evE c a) (evE c b) := rfl
    rw [ckE.eq_def] at h
    dsimp only at h
    split at h
    · rename_i ea eb rest pos
      have key : ∃ (ha : ckE T X.N X.env.scope a ea = true), PE X (.BoolOp .And (eb :: rest) pos) (tEv X.K (evE c b)) ∧ (tst b = true → PW X (.BoolOp .And (eb :: rest) pos) (tTe X.K (evE c b))) := by
        split at h
        · rw [Bool.and_eq_true] at h
          exact ⟨h.1, pe_one (sndE b ok h.2).pe, fun q => pw_and1 ((sndE b ok h.2).pt q)⟩
        · rw [Bool.and_eq_true] at h
          exact ⟨h.1, (sndE b ok h.2).pe, fun q => (sndE b ok h.2).pw _ _ _ rfl q⟩
      obtain ⟨ha, k1, k2⟩ := key
      have pw : tst (.andd a b) = true → PW X (.BoolOp .And (ea :: eb :: rest) pos) (tTe X.K (evE c (.andd a b))) := fun q => by
        rw [tst, Bool.and_eq_true] at q
        rw [ee]
        exact (pw_and ((sndE a ok ha).pt q.1) (k2 q.2)).imp fun _ _ _ h => and_t h
      refine ⟨?_, fun q => (pw q).pt, fun _ _ _ e' q => by cases e'; exact pw q⟩
      rw [ee]
      exact (pe_and (sndE a ok ha).pe k1).imp fun _ _ _ h => and_v h
    · cases h
  | .orr a b, X, e, ok, h => by
    have ee : evE c (.orr a b) = tOrR (evE c a) (evE c b) := rfl
    rw [ckE.eq_def] at h
    dsimp only at h
    split at h
    · rename_i ea eb rest pos
      have key : ∃ (ha : ckE T X.N X.env.scope a ea = true), PE X (.BoolOp .Or (eb :: rest) pos) (tEv X.K (evE c b)) ∧ (tst b = true → PW X (.BoolOp .Or (eb :: rest) pos) (tTe X.K (evE c b))) := by
        split at h
        · rw [Bool.and_eq_true] at h
          exact ⟨h.1, pe_one (sndE b ok h.2).pe, fun q => pw_or1 ((sndE b ok h.2).pt q)⟩
        · rw [Bool.and_eq_true] at h
          exact ⟨h.1, (sndE b ok h.2).pe, fun q => (sndE b ok h.2).pw _ _ _ rfl q⟩
      obtain ⟨ha, k1, k2⟩ := key
      have pw : tst (.orr a b) = true → PW X (.BoolOp .Or (ea :: eb :: rest) pos) (tTe X.K (evE c (.orr a b))) := fun q => by
        rw [tst, Bool.and_eq_true] at q
        rw [ee]
        exact (pw_or ((sndE a ok ha).pt q.1) (k2 q.2)).imp fun _ _ _ h => or_t h
      refine ⟨?_, fun q => (pw q).pt, fun _ _ _ e' q => by cases e'; exact pw q⟩
      rw [ee]
      exact (pe_or (sndE a ok ha).pe k1).imp fun _ _ _ h => or_v h
    · cases h
  | .nott a, X, e, ok, h => by
    rw [ckE.eq_def] at h
    dsimp only at h
    split at h
    · refine ⟨(pe_not (sndE a ok h).pe).imp fun σ H Q ⟨g, st, e, S, h⟩ => ?_, fun q => (pt_not ((sndE a ok h).pt q)).imp fun σ H Q ⟨g, st, e, S, h⟩ => ?_, fun _ _ _ q => nomatch q⟩
      · subst e
        rw [evE] at h
        refine one S h.bind fun x s1 g1 H1 V1 h n1 S1 r1 => ?_
        split at h
        · cases r1.bl_
          exact ⟨_, rfl, h g1 H1 _ n1 S1 .bl⟩
        · exact h.elim
      · rw [evE] at h
        refine ⟨g, st, e, S, h.bind.imp fun x s1 h => ?_⟩
        split at h
        · obtain ⟨k', ek, F⟩ := h
          cases ek
          exact ⟨_, rfl, F⟩
        · exact h.elim
    · cases h
  | .ife t a b, X, e, ok, h => by
    rw [ckE.eq_def] at h
    dsimp only at h
    split at h
    · simp only [Bool.and_eq_true] at h
      obtain ⟨⟨⟨ht, h1⟩, h2⟩, h3⟩ := h
      refine SE.plain ((pe_ifExp ((sndE t ok h1).pt ht) (sndE a ok h2).pe (sndE b ok h3).pe).imp fun σ H Q ⟨g, st, e, S, h⟩ => ?_) rfl
      subst e
      rw [evE] at h
      refine ⟨g, st, rfl, S, h.bind.imp fun x s1 h => ?_⟩
      split at h
      · refine ⟨true, rfl, fun g1 H1 n1 S1 => ?_⟩
        try dsimp only
        rw [if_pos rfl]
        refine ⟨g1, s1, n1.s, S1, ?_⟩
        rw [n1.e]
        exact h.imp fun v s2 F g2 H2 w n2 S2 r => F g2 H2 w (n1.trans S1 n2) S2 (r.mono n1.B)
      · refine ⟨false, rfl, fun g1 H1 n1 S1 => ?_⟩
        try dsimp only
        rw [if_neg Bool.false_ne_true]
        refine ⟨g1, s1, n1.s, S1, ?_⟩
        rw [n1.e]
        exact h.imp fun v s2 F g2 H2 w n2 S2 r => F g2 H2 w (n1.trans S1 n2) S2 (r.mono n1.B)
      · exact h.elim
    · cases h
  | .tup es, X, e, ok, h => by
    rw [ckE.eq_def] at h
    dsimp only at h
    split at h
    · refine SE.plain ((pe_tup (sndDs es ok h)).imp fun σ H Q ⟨g, st, e, S, h⟩ => ?_) rfl
      rw [evE] at h
      refine ⟨g, st, e, S, h.bind.imp fun xs s1 h g1 H1 ws n1 S1 hB r => ?_⟩
      split at h
      · rename_i hl
        exact ⟨by rw [r.length]; exact hl, (Fin.same h n1 S1 hB).tup S1 r⟩
      · exact h.elim
    · cases h
  | .lst es, X, e, ok, h => by
    rw [ckE.eq_def] at h
    dsimp only at h
    split at h
    · refine SE.plain ((pe_lst (sndDs es ok h)).imp fun σ H Q ⟨g, st, e, S, h⟩ => ?_) rfl
      rw [evE] at h
      refine ⟨g, st, e, S, h.bind.imp fun xs s1 h g1 H1 ws n1 S1 hB r => ?_⟩
      split at h
      · rename_i hl
        exact ⟨by rw [r.length]; exact hl, (Fin.same h n1 S1 hB).lst S1 r⟩
      · exact h.elim
    · cases h
  | .lstR es, X, e, ok, h => by
    rw [ckE.eq_def] at h
    dsimp only at h
    split at h
    · refine SE.plain ((pe_lst (sndRs es ok h)).imp fun σ H Q ⟨g, st, e, S, h⟩ => ?_) rfl
      rw [evE] at h
      refine ⟨g, st, e, S, h.bind.imp fun xs s1 h g1 H1 ws n1 S1 hB r => ?_⟩
      split at h
      · rename_i hl
        exact ⟨by rw [Paired.length r]; exact hl, Fin.put (st := st) h n1 S1 r⟩
      · exact h.elim
    · cases h
  | .box a, X, e, ok, h => by
    rw [ckE.eq_def] at h
    dsimp only at h
    refine SE.plain ((sndE a ok h).pe.imp fun σ H Q ⟨g, st, e, S, h⟩ => ?_) rfl
    subst e
    rw [evE] at h
    refine one S h.bind fun x s1 g1 H1 V1 h n1 S1 r1 => ?_
    split at h
    · exact Fin.box (st := st) h n1 S1 r1
    · exact h.elim
  | .ix a i, X, e, ok, h => by
    rw [ckE.eq_def] at h
    dsimp only at h
    split at h
    · simp only [Bool.and_eq_true] at h
      obtain ⟨⟨hs, ha⟩, hb⟩ := h
      refine SE.leaf (T := T) ((pe_ix (IxR.or ix_list ix_tup) (sndE a ok ha).pe (sndE i ok hb).pe (plainIx hs)).imp fun σ H Q ⟨g, st, e, S, h⟩ => ?_) (fun _ => rfl) (fun _ _ _ q => nomatch q)
      subst e
      rw [evE] at h
      refine two S (h.bind.imp fun x s1 h => h.bind) fun x y s2 g2 H2 V1 V2 h n S2 r1 r2 => ?_
      split at h
      · cases r2.int_
        split at h
        · rename_i hs
          obtain ⟨p, hp, F⟩ := h.opt
          exact .inl (ixR_spec (g := g2.wB g.B) (Bo := g.B) (S2.weak n.B) r1 hs hp (F.of n S2))
        · exact h.elim
      · obtain ⟨v, hv, F⟩ := h.opt
        simp only [Option.bind_eq_some_iff, Option.map_eq_some_iff] at hv
        obtain ⟨u, e1, w, e2, z, hv, rfl⟩ := hv
        exact ix_spec hv (S2.weak n.B) ((r1.rt S2 e1).weak n.B) ((r2.rt S2 e2).weak n.B) (F.of n S2)
    · cases h
  | .sl a lo hi, X, e, ok, h => by
    rw [ckE.eq_def] at h
    dsimp only at h
    split at h
    · simp only [Bool.and_eq_true] at h
      obtain ⟨⟨ha, hl⟩, hh⟩ := h
      refine SE.plain ((pe_slice (SlR.or sl_list sl_tupA) (sndE a ok ha).pe (sndP lo ok hl) (sndP hi ok hh)).imp fun σ H Q ⟨g, st, e, S, h⟩ => ?_) rfl
      subst e
      rw [evE] at h
      refine one S h.bind fun x s1 g1 H1 V1 h n1 S1 r1 => ?_
      refine ⟨g1, s1, n1.s, S1, ?_⟩
      rw [n1.e]
      refine h.bind.imp fun i s2 h g2 H2 n2 S2 => ?_
      refine ⟨g2, s2, n2.s.trans n1.s, S2, ?_⟩
      rw [n2.e, n1.e]
      refine h.bind.imp fun j s3 h g3 H3 n3 S3 => ?_
      obtain ⟨v, hv, F⟩ := h.opt
      simp only [Option.bind_eq_some_iff] at hv
      obtain ⟨u, e1, hv⟩ := hv
      have nn := (n1.trans S1 n2).trans S2 n3
      exact sl_spec hv (S3.weak nn.B) ((((r1.keep n2 S1).keep n3 S2).rt S3 e1).weak nn.B) (F.of nn S3)
    · cases h
  | .rev a, X, e, ok, h => by
    rw [ckE.eq_def] at h
    dsimp only at h
    split at h
    · simp only [Bool.and_eq_true, decide_eq_true_eq] at h
      obtain ⟨rfl, ha⟩ := h
      refine SE.plain ((pe_revL (sndE a ok ha).pe).imp fun σ H Q ⟨g, st, e, S, h⟩ => ?_) rfl
      subst e
      rw [evE] at h
      refine one S h.bind fun x s1 g1 H1 V1 h n1 S1 r1 => ?_
      split at h
      · rename_i hx
        obtain ⟨a, ws, rfl, q, r⟩ := (r1.rt S1 hx).weak n1.B
        exact ⟨a, ws, rfl, q, (Fin.of h n1 S1).lst (S1.weak n1.B) r.reverse⟩
      · exact h.elim
    · cases h
  | .call f es, X, e, ok, h => by
    rw [ckE.eq_def] at h
    dsimp only at h
    split at h
    · rename_i x p xs pos
      simp only [Bool.and_eq_true] at h
      obtain ⟨⟨hg, hf⟩, ha⟩ := h
      split at hf
      · rename_i y hy
        rw [decide_eq_true_eq] at hf
        obtain ⟨x', m⟩ := y
        have hf : x' = x := hf
        subst hf
        obtain ⟨g1, g2, g3⟩ := gl_spec hg
        obtain ⟨k, ff, fd, ps, m1, m2, m3, m4, m5⟩ := ok.fns _ _ _ hy
        have PAx := sndRs es ok ha
        have fin : ∀ σ H Q, tEv X.K (evE c (.call f es)) σ H Q → tCall (spF X.K c f m) [] E0 (tRs X.K (evRs c es)) σ H Q := fun σ H Q ⟨g, st, e, S, h⟩ => by
          rw [evE] at h
          refine ⟨g, st, e, S, h.bind.imp fun ds s1 h g1 H1 ws n1 S1 hB r => ?_⟩
          show spF X.K c f m (ws ++ []) H1 Q E0
          rw [List.append_nil]
          by_cases hl : ds.length = m
          · exact snd_call S1 r (by rw [Paired.length r]; exact hl) (h.imp fun v s2 F => Fin.same F n1 S1 hB) E0
          · rw [ok.ar _ _ _ hy ds s1 hl] at h
            exact h.elim
        refine SE.leaf (T := T) ?_ (fun _ => rfl) (fun _ _ _ q => nomatch q)
        cases xs with
        | nil =>
          have hes : es = .nil := by
            cases es with
            | nil => rfl
            | cons _ _ => rw [ckEs] at ha; cases ha
          subst hes
          refine (pe_call0 (E := E0) (dvs := []) m4 m5 g1 m1 m2 m3 .nil passL g2).imp fun σ H Q q => ?_
          obtain ⟨g, st, e, S, q⟩ := fin _ _ _ q
          exact q g H [] Nx.refl S rfl .nil
        | cons z zs => exact (pe_call (E := E0) (dvs := []) m4 m5 g1 m1 m2 m3 .nil passL PAx g2 (star1 (ckEs_star ha z List.mem_cons_self)) (starAny fun e he => ckEs_star ha e (List.mem_cons_of_mem _ he))).imp fin
      · cases hf
    · cases h
  | .bi b es, X, e, ok, h => by
    rw [ckE.eq_def] at h
    dsimp only at h
    split at h
    · rename_i x p xs pos
      simp only [Bool.and_eq_true, decide_eq_true_eq] at h
      obtain ⟨⟨⟨⟨rfl, hg⟩, hb⟩, ha⟩, hne⟩ := h
      obtain ⟨g1, g2, g3⟩ := gl_spec hg
      have hu : X.A.units + 70 < cLine := by have := ok.hu; omega
      have all := bi_all (X := X) ok.calm hu b
      have fin : ∀ σ H Q, tEv X.K (evE c (.bi b es)) σ H Q → tCB (rBi X.K b) (tAs X.K (evAs c es)) σ H Q := fun σ H Q ⟨g, st, e, S, h⟩ => by
        rw [evE] at h
        refine ⟨g, st, e, S, h.bind.imp fun ds s1 h g1 H1 ws n1 S1 r => ?_⟩
        obtain ⟨v, hv, F⟩ := h.opt
        exact bi_spec hv S1 r n1.B (F.of n1 S1)
      refine SE.leaf (T := T) ?_ (fun _ => rfl) (fun _ _ _ q => nomatch q)
      cases xs with
      | nil => cases hne
      | cons z zs =>
        have s1 := star1 (env := X.env) (es := zs) (ckEs_star ha z List.mem_cons_self)
        have s2 := starAny (env := X.env) (pos := pos) fun e he => ckEs_star ha e (List.mem_cons_of_mem _ he)
        have bo := boot_bi b
        unfold biVal at bo all
        cases hT : biT b with
        | some t =>
          rw [hT] at bo all
          exact (pe_callTy all g1 (ok.blt _ hb) bo (sndAs es ok ha) g3 g2 s1 s2).imp fin
        | none =>
          rw [hT] at bo all
          exact (pe_callB all g1 (ok.blt _ hb) bo (sndAs es ok ha) g3 g2 s1 s2).imp fin
    · cases h
  | .lrng tp a b, X, e, ok, h => by
    rw [ckE.eq_def] at h
    dsimp only at h
    split at h
    · rename_i x p y p2 xs pos2 pos
      simp only [Bool.and_eq_true, decide_eq_true_eq] at h
      obtain ⟨⟨⟨⟨⟨⟨hx, rfl⟩, hgx⟩, hgy⟩, hbx⟩, hby⟩, hxs⟩ := h
      obtain ⟨g1, g2, g3⟩ := gl_spec hgx
      obtain ⟨k1, k2, k3⟩ := gl_spec hgy
      have fin : ∀ {σ H Q}, tEv X.K (evE c (.lrng tp a b)) σ H Q → tRg2 (tEv X.K (evE c a)) (tEv X.K (evE c b)) σ H fun i j H1 => RgOk i j ∧ ∀ q, H1 q = none → Q (.ref q) (upd H1 q (cond tp (.tup (rgV i j)) (.lst (rgV i j)))) := fun {σ H Q} ⟨g, st, e, S, h⟩ => by
        subst e
        rw [evE] at h
        refine two S (h.bind.imp fun x s1 h => h.bind) fun x y s2 g2 H2 V1 V2 h n S2 r1 r2 => ?_
        split at h
        · cases r1.int_
          cases r2.int_
          split at h
          · rename_i i j hs
            simp only [Bool.and_eq_true, decide_eq_true_eq] at hs
            obtain ⟨⟨h1, h2⟩, h3⟩ := hs
            obtain ⟨q1, q2⟩ := smallI_eq h1
            obtain ⟨q3, q4⟩ := smallI_eq h2
            refine ⟨i, j, rfl, rfl, ⟨q1, q2, q3, q4, h3⟩, ?_⟩
            cases tp with
            | true => exact (Fin.of h n S2).tup (S2.weak n.B) (rgV_rds i j)
            | false => exact (Fin.of h n S2).lst (S2.weak n.B) (rgV_rds i j)
          · exact h.elim
        · exact h.elim
      have rg : ∃ te, PRg X (.Call (.Name "range" p2) xs [] pos2) te ∧ ∀ {σ H R}, tRg2 (tEv X.K (evE c a)) (tEv X.K (evE c b)) σ H R → te σ H R := by
        split at hxs
        · rename_i eb
          simp only [Bool.and_eq_true] at hxs
          obtain ⟨⟨ha, hs⟩, hb⟩ := hxs
          refine ⟨_, prg_1 k1 (ok.blt _ hby) (sndE b ok hb).pe (star1 hs), fun {σ H R} q => ?_⟩
          split at ha
          · obtain ⟨g, st, e, S, h⟩ := q
            have h : Fin X.K g st H (.d (.int 0)) _ := h
            have q := h g H (.int 0) Nx.refl S (show RD _ _ _ _ _ from .int 0)
            obtain ⟨g, st, e, S, h⟩ := q
            refine ⟨g, st, e, S, h.imp fun v s1 F g' H' w n S' r => ?_⟩
            obtain ⟨i, j, e1, e2, q⟩ := F g' H' w n S' r
            cases e1
            exact ⟨j, e2, q⟩
          · cases ha
        · rename_i ea eb
          simp only [Bool.and_eq_true] at hxs
          obtain ⟨⟨⟨hs1, hs2⟩, ha⟩, hb⟩ := hxs
          exact ⟨_, prg_2 k1 (ok.blt _ hby) (sndE a ok ha).pe (sndE b ok hb).pe (star1 hs1) (star1 hs2) (starAny (es := [eb]) fun e he => by rw [List.mem_singleton.mp he]; exact hs2), fun q => q⟩
        · cases hxs
      obtain ⟨te, p1, p2⟩ := rg
      cases tp with
      | true =>
        have hx : x = "tuple" := hx
        subst hx
        exact SE.plain ((pe_tupRg ok.calm g1 (ok.blt _ hbx) p1).imp fun σ H Q q => p2 (fin q)) rfl
      | false =>
        have hx : x = "list" := hx
        subst hx
        exact SE.plain ((pe_listRg ok.calm g1 (ok.blt _ hbx) p1).imp fun σ H Q q => p2 (fin q)) rfl
    · cases h
  | .lc own gt it ts y, X, e, ok, h => by
    rw [ckE.eq_def] at h
    dsimp only at h
    split at h
    · rename_i elt tg iter ifs scope pos
      simp only [Bool.and_eq_true] at h
      obtain ⟨⟨⟨⟨⟨⟨hbk, hin⟩, hg⟩, hns⟩, hi⟩, ht⟩, hy⟩ := h
      have hown : (own.map fun i => (X.N.getD i Str.empty, i)).map (·.2) = own := by rw [List.map_map]; exact List.map_id' own
      refine SE.plain ?_ rfl
      have R := pe_lc (pos := pos) ok.calm ok.nd (sndI it ok (fun q => ckG_tup hg q) (bo := true) hi) (blkOk_by hbk) (g := gT X.K gt) (tt := tTs X.K (evTs c ts)) (te := tEv X.K (evE c y))
        (fun s H C cl fp => ckG_pg (ok.blk s H scope _ fp) hg) (fun s H C cl fp => sndTs ts (ok.blk s H scope (compEnvC scope cl C X.env) fp) ht) (fun s H C cl fp => (sndE y (ok.blk s H scope (compEnvC scope cl C X.env) fp) hy).pe) (noSet hns)
      rw [hown] at R
      refine R.imp fun σ H Q ⟨g, st, e, S, h⟩ => ?_
      subst e
      rw [evE] at h
      split at h
      · rename_i hn
        refine ⟨g, st, rfl, S, h.bind.imp fun xs s1 h g1 H1 J G n1 hB S1 W St G0 => ?_⟩
        have n1e := n1.e
        have := lc_read (Q := Q) S1 W St G0 (by rw [n1.e]; exact hn) hin (ft := evTs c ts) (fy := evE c y) (by
          rw [n1.e]
          exact h.bind.imp fun ys s2 F => Fin.same (v := .fre (.list ys)) F n1 (st2 := s1) (S1) hB)
        rw [n1.s] at this
        exact this
      · exact h.elim
    · cases h
  | .dc own gt it ts k y, X, e, ok, h => by
    rw [ckE.eq_def] at h
    dsimp only at h
    split at h
    · rename_i x p kx elt tg iter ifs scope pos cpos
      simp only [Bool.and_eq_true, decide_eq_true_eq] at h
      obtain ⟨⟨⟨⟨⟨⟨⟨⟨⟨⟨rfl, hgl⟩, hb⟩, hbk⟩, hin⟩, hg⟩, hns⟩, hi⟩, ht⟩, hk⟩, hy⟩ := h
      obtain ⟨g1, g2, g3⟩ := gl_spec hgl
      have hown : (own.map fun i => (X.N.getD i Str.empty, i)).map (·.2) = own := by rw [List.map_map]; exact List.map_id' own
      have R := pe_dc (pos := pos) ok.calm ok.nd (sndI it ok (fun q => ckG_tup hg q) (bo := true) hi) (blkOk_by hbk) (g := gT X.K gt) (tt := tTs X.K (evTs c ts)) (tk := tEv X.K (evE c k)) (tv := tEv X.K (evE c y))
        (fun s H C cl fp => ckG_pg (ok.blk s H scope _ fp) hg) (fun s H C cl fp => sndTs ts (ok.blk s H scope (compEnvC scope cl C X.env) fp) ht) (fun s H C cl fp => (sndE k (ok.blk s H scope (compEnvC scope cl C X.env) fp) hk).pe) (fun s H C cl fp => (sndE y (ok.blk s H scope (compEnvC scope cl C X.env) fp) hy).pe) (noSet hns)
      rw [hown] at R
      refine SE.plain ((pe_callB (X := X) call_lenD g1 (ok.blt _ hb) PySem.boot_len (pa_cons R pa_nil)).imp fun σ H Q ⟨g, st, e, S, h⟩ => ?_) rfl
      subst e
      rw [evE] at h
      split at h
      · rename_i hn
        refine ⟨g, st, rfl, S, h.bind.imp fun xs s1 h g1 H1 J G n1 hB S1 W St G0 => ?_⟩
        have := dc_read (Q := Q) S1 W St G0 (by rw [n1.e]; exact hn) hin (ft := evTs c ts) (fk := evE c k) (fy := evE c y) (by
          rw [n1.e]
          exact h.bind.imp fun ys s2 F => Fin.same (v := .d (.int (ys.length : Nat))) F n1 (st2 := s1) (S1) hB)
        rw [n1.s] at this
        exact this
      · exact h.elim
    · cases h
theorem sndDs {T : Tab} {c : Nat → List PV → Sto → R PV} : ∀ (es : Es) {X : Cx} {xs : List Expr}, Ok T c X → ckEs T X.N X.env.scope es xs = true → PA X xs (tDs X.K (evDs c es))
  | .nil, X, xs, ok, h => by
    rw [ckEs, List.isEmpty_iff] at h
    subst h
    exact pa_nil.imp fun σ H Q ⟨g, st, e, S, h⟩ => h g H [] Nx.refl S rfl .nil
  | .cons a es, X, xs, ok, h => by
    rw [ckEs.eq_def] at h
    dsimp only at h
    split at h
    · simp only [Bool.and_eq_true] at h
      obtain ⟨⟨h1, h2⟩, h3⟩ := h
      refine (pa_cons (sndE a ok h2).pe (sndDs es ok h3) (star1 h1)).imp fun σ H Q ⟨g, st, e, S, h⟩ => ?_
      subst e
      rw [evDs] at h
      refine one S h.bind fun x s1 g1 H1 V1 h n1 S1 r1 => ?_
      split at h
      · rename_i hx
        refine ⟨g1.wB g.B, s1, n1.s, S1.weak n1.B, ?_⟩
        show RP (evDs c es g1.e s1) _
        rw [n1.e]
        refine h.bind.imp fun us s2 h g2 H2 ws n2 S2 hB r2 => ?_
        exact h g2 H2 (V1 :: ws) (n1.weak.trans (S1.weak n1.B) n2) S2 hB (.cons ((r1.asD n1 S1 hx).keep (n2.keep (S1.weak n1.B))) r2)
      · exact h.elim
    · cases h
theorem sndRs {T : Tab} {c : Nat → List PV → Sto → R PV} : ∀ (es : Es) {X : Cx} {xs : List Expr}, Ok T c X → ckEs T X.N X.env.scope es xs = true → PA X xs (tRs X.K (evRs c es))
  | .nil, X, xs, ok, h => by
    rw [ckEs, List.isEmpty_iff] at h
    subst h
    exact pa_nil.imp fun σ H Q ⟨g, st, e, S, h⟩ => h g H [] Nx.refl S rfl .nil
  | .cons a es, X, xs, ok, h => by
    rw [ckEs.eq_def] at h
    dsimp only at h
    split at h
    · simp only [Bool.and_eq_true] at h
      obtain ⟨⟨h1, h2⟩, h3⟩ := h
      refine (pa_cons (sndE a ok h2).pe (sndRs es ok h3) (star1 h1)).imp fun σ H Q ⟨g, st, e, S, h⟩ => ?_
      subst e
      rw [evRs] at h
      refine one S h.bind fun x s1 g1 H1 V1 h n1 S1 r1 => ?_
      split at h
      · rename_i hx
        refine ⟨g1.wB g.B, s1, n1.s, S1.weak n1.B, ?_⟩
        show RP (evRs c es g1.e s1) _
        rw [n1.e]
        refine h.bind.imp fun us s2 h g2 H2 ws n2 S2 hB r2 => ?_
        exact h g2 H2 (V1 :: ws) (n1.weak.trans (S1.weak n1.B) n2) S2 hB (.cons ((r1.asR n1 S1 hx).keep n2 (S1.weak n1.B)) r2)
      · exact h.elim
    · cases h
theorem sndAs {T : Tab} {c : Nat → List PV → Sto → R PV} : ∀ (es : Es) {X : Cx} {xs : List Expr}, Ok T c X → ckEs T X.N X.env.scope es xs = true → PA X xs (tAs X.K (evAs c es))
  | .nil, X, xs, ok, h => by
    rw [ckEs, List.isEmpty_iff] at h
    subst h
    exact pa_nil.imp fun σ H Q ⟨g, st, e, S, h⟩ => h g H [] Nx.refl S .nil
  | .cons a es, X, xs, ok, h => by
    rw [ckEs.eq_def] at h
    dsimp only at h
    split at h
    · simp only [Bool.and_eq_true] at h
      obtain ⟨⟨h1, h2⟩, h3⟩ := h
      refine (pa_cons (sndE a ok h2).pe (sndAs es ok h3) (star1 h1)).imp fun σ H Q ⟨g, st, e, S, h⟩ => ?_
      subst e
      rw [evAs] at h
      refine one S h.bind fun x s1 g1 H1 V1 h n1 S1 r1 => ?_
      refine ⟨g1, s1, n1.s, S1, ?_⟩
      rw [n1.e]
      refine h.bind.imp fun us s2 h g2 H2 ws n2 S2 r2 => ?_
      exact h g2 H2 (V1 :: ws) (n1.trans S1 n2) S2 (.cons (r1.keep n2 S1) (Paired.imp (fun _ _ q => q.mono n1.B) r2))
    · cases h
theorem sndTs {T : Tab} {c : Nat → List PV → Sto → R PV} : ∀ (es : Es) {X : Cx} {xs : List Expr}, Ok T c X → ckTs T X.N X.env.scope es xs = true → PTs X xs (tTs X.K (evTs c es))
  | .nil, X, xs, ok, h => by
    rw [ckTs, List.isEmpty_iff] at h
    subst h
    exact pts_nil.imp fun σ H Q ⟨g, st, e, S, h⟩ => h g H Nx.refl S
  | .cons t ts, X, xs, ok, h => by
    rw [ckTs.eq_def] at h
    dsimp only at h
    split at h
    · simp only [Bool.and_eq_true] at h
      refine (pts_one ((sndE t ok h.2).pt h.1)).imp fun σ H Q ⟨g, st, e, S, h⟩ => ?_
      subst e
      rw [evTs] at h
      refine ⟨g, st, rfl, S, h.bind.imp fun x s1 h => ?_⟩
      split at h
      · rename_i hx
        exact ⟨_, asB_eq hx, fun g1 H1 n1 S1 => h g1 H1 n1 S1⟩
      · rename_i hx
        exact ⟨_, asB_eq hx, fun g1 H1 n1 S1 => h g1 H1 n1 S1⟩
      · exact h.elim
    · cases h
theorem sndI {T : Tab} {c : Nat → List PV → Sto → R PV} : ∀ (it : It) {X : Cx} {tg e : Expr}, Ok T c X → ∀ {tp : Bool}, (tp = true → ∃ es k pos, tg = .Tuple es k pos) → ∀ {bo : Bool}, ckI T X.N X.env.scope it tp e = true → PI X tg e (tI X.K bo (evI c it bo))
  | .sq a, X, tg, e, ok, tp, hg, bo, h => by
    rw [ckI.eq_def] at h
    dsimp only at h
    refine (pi_seq (sndE a ok h).pe).imp fun σ H Q ⟨g, st, e, S, h⟩ => ?_
    subst e
    rw [evI] at h
    refine one S h.bind fun x s1 g1 H1 V1 h n1 S1 r1 => ?_
    obtain ⟨xs, hx, F⟩ := h.opt
    obtain ⟨k, a, vs, rfl, sa⟩ := (src_spec S1 n1.B r1 hx).A
    obtain ⟨q1, q2⟩ := sa.sq
    refine ⟨k, a, vs, rfl, q1, ?_⟩
    cases k with
    | true => exact F (g1.wB g.B) H1 _ _ n1.weak rfl (S1.weak n1.B) wk_list SrcA.stay sa
    | false => exact F (g1.wB g.B) H1 _ _ n1.weak rfl (S1.weak n1.B) wk_tup SrcA.stay sa
  | .r1 a, X, tg, e, ok, tp, hg, bo, h => by
    rw [ckI.eq_def] at h
    dsimp only at h
    split at h
    · simp only [Bool.and_eq_true, decide_eq_true_eq] at h
      obtain ⟨⟨⟨rfl, hgl⟩, hb⟩, h⟩ := h
      obtain ⟨g1, g2, g3⟩ := gl_spec hgl
      split at h
      · simp only [Bool.and_eq_true] at h
        refine (pi_range1 g1 (ok.blt _ hb) (pa_cons (sndE a ok h.2).pe pa_nil (star1 h.1)) (star1 h.1)).imp fun σ H Q ⟨g, st, e, S, h⟩ => ?_
        subst e
        rw [evI] at h
        refine one S h.bind fun x s1 g1 H1 V1 h n1 S1 r1 => ?_
        split at h
        · cases r1.int_
          split at h
          · rename_i hs
            obtain ⟨q1, q2⟩ := smallI_eq hs
            refine ⟨_, rfl, q1, q2, ?_⟩
            have := h (g1.wB g.B) H1 _ _ n1.weak rfl (S1.weak n1.B) (wk_rng 0 _) Stay.true trivial
            rw [Int.sub_zero] at this
            exact this
          · exact h.elim
        · exact h.elim
      · cases h
    · cases h
  | .r2 a b, X, tg, e, ok, tp, hg, bo, h => by
    rw [ckI.eq_def] at h
    dsimp only at h
    split at h
    · simp only [Bool.and_eq_true, decide_eq_true_eq] at h
      obtain ⟨⟨⟨rfl, hgl⟩, hb⟩, h⟩ := h
      obtain ⟨g1, g2, g3⟩ := gl_spec hgl
      split at h
      · simp only [Bool.and_eq_true] at h
        obtain ⟨⟨⟨hs1, hs2⟩, ha⟩, hb'⟩ := h
        refine (pi_range2 g1 (ok.blt _ hb) (pa_cons (sndE a ok ha).pe (pa_cons (sndE b ok hb').pe pa_nil (star1 hs2)) (star1 hs1)) (by rw [star1 hs1, star1 hs2]; rfl) (star1 hs2)).imp fun σ H Q ⟨g, st, e, S, h⟩ => ?_
        subst e
        rw [evI] at h
        refine two S (h.bind.imp fun x s1 h => h.bind) fun x y s2 g2 H2 V1 V2 h n S2 r1 r2 => ?_
        split at h
        · cases r1.int_
          cases r2.int_
          split at h
          · rename_i i j hs
            simp only [Bool.and_eq_true] at hs
            obtain ⟨q1, q2⟩ := smallI_eq hs.1
            obtain ⟨q3, q4⟩ := smallI_eq hs.2
            exact ⟨i, j, rfl, ⟨q1, q2, q3, q4⟩, h (g2.wB g.B) H2 _ _ n.weak rfl (S2.weak n.B) (wk_rng i j) Stay.true trivial⟩
          · exact h.elim
        · exact h.elim
      · cases h
    · cases h
  | .r3 a b c3, X, tg, e, ok, tp, hg, bo, h => by
    rw [ckI.eq_def] at h
    dsimp only at h
    split at h
    · simp only [Bool.and_eq_true, decide_eq_true_eq] at h
      obtain ⟨⟨⟨rfl, hgl⟩, hb⟩, h⟩ := h
      obtain ⟨g1, g2, g3⟩ := gl_spec hgl
      split at h
      · rename_i ea eb ec
        simp only [Bool.and_eq_true] at h
        obtain ⟨⟨⟨⟨⟨hs1, hs2⟩, hs3⟩, ha⟩, hb'⟩, hc'⟩ := h
        refine (pi_range3 g1 (ok.blt _ hb) (pa_cons (sndE a ok ha).pe (pa_cons (sndE b ok hb').pe (pa_cons (sndE c3 ok hc').pe pa_nil (star1 hs3)) (star1 hs2)) (star1 hs1)) (star1 hs1)
          (starAny (es := [eb, ec]) fun e he => by
            rcases List.mem_cons.mp he with q | q
            · rw [q]; exact hs2
            · rw [List.mem_singleton.mp q]; exact hs3)).imp fun σ H Q ⟨g, st, e, S, h⟩ => ?_
        subst e
        rw [evI] at h
        refine two S (h.bind.imp fun x s1 h => h.bind) fun x y s2 g2 H2 V1 V2 h n S2 r1 r2 => ?_
        rw [← n.s]
        refine one S2 (by rw [n.e]; exact h.bind) fun z s3 g3 H3 V3 h n3 S3 r3 => ?_
        split at h
        · cases r1.int_
          cases r2.int_
          cases r3.int_
          split at h
          · rename_i i j k hs
            obtain ⟨rfl, hs1, hs2⟩ := hs
            obtain ⟨q1, q2⟩ := smallI_eq hs1
            obtain ⟨q3, q4⟩ := smallI_eq hs2
            have nn := n.trans S2 n3
            exact ⟨_, _, -1, _, rfl, RgC.neg q1 q2 q3 q4, h (g3.wB g.B) H3 _ _ nn.weak rfl (S3.weak nn.B) (wk_rngC _ (-1) _) Stay.true trivial⟩
          · exact h.elim
        · exact h.elim
      · cases h
    · cases h
  | .zp a b, X, tg, e, ok, tp, hg, bo, h => by
    rw [ckI.eq_def] at h
    dsimp only at h
    split at h
    · simp only [Bool.and_eq_true, decide_eq_true_eq] at h
      obtain ⟨⟨⟨⟨htp, rfl⟩, hgl⟩, hb⟩, h⟩ := h
      obtain ⟨g1, g2, g3⟩ := gl_spec hgl
      obtain ⟨elts, kk, tpos, rfl⟩ := hg htp
      split at h
      · rename_i ea eb
        simp only [Bool.and_eq_true] at h
        obtain ⟨⟨⟨hs1, hs2⟩, ha⟩, hb'⟩ := h
        refine (pi_zipK g1 (ok.blt _ hb) (pa_cons (sndE a ok ha).pe (pa_cons (sndE b ok hb').pe pa_nil (star1 hs2)) (star1 hs1)) (star1 hs1) (starAny (es := [eb]) fun e he => by rw [List.mem_singleton.mp he]; exact hs2)).imp fun σ H Q ⟨g, st, e, S, h⟩ => ?_
        subst e
        rw [evI] at h
        refine two S (h.bind.imp fun x s1 h => h.bind) fun x y s2 g2 H2 V1 V2 h n S2 r1 r2 => ?_
        obtain ⟨zs, hz, F⟩ := h.opt
        simp only [Option.bind_eq_some_iff, Option.map_eq_some_iff] at hz
        obtain ⟨us, h1, ws, h2, rfl⟩ := hz
        obtain ⟨k, a, vs, rfl, sa⟩ := (src_spec S2 n.B r1 h1).A
        obtain ⟨k2, a2, vs2, rfl, sa2⟩ := (src_spec S2 n.B r2 h2).A
        exact ⟨k, k2, a, a2, vs, vs2, rfl, sa.sq.1, sa2.sq.1, F (g2.wB g.B) H2 _ _ n.weak rfl (S2.weak n.B) wk_zp (SrcA.stay.and SrcA.stay) ⟨sa, sa2⟩⟩
      · cases h
    · cases h
  | .en a, X, tg, e, ok, tp, hg, bo, h => by
    rw [ckI.eq_def] at h
    dsimp only at h
    split at h
    · simp only [Bool.and_eq_true, decide_eq_true_eq] at h
      obtain ⟨⟨⟨⟨htp, rfl⟩, hgl⟩, hb⟩, h⟩ := h
      obtain ⟨g1, g2, g3⟩ := gl_spec hgl
      obtain ⟨elts, kk, tpos, rfl⟩ := hg htp
      split at h
      · simp only [Bool.and_eq_true] at h
        refine (pi_enumK g1 (ok.blt _ hb) (pa_cons (sndE a ok h.2).pe pa_nil (star1 h.1)) (star1 h.1)).imp fun σ H Q ⟨g, st, e, S, h⟩ => ?_
        subst e
        rw [evI] at h
        refine one S h.bind fun x s1 g1 H1 V1 h n1 S1 r1 => ?_
        obtain ⟨zs, hz, F⟩ := h.opt
        simp only [Option.map_eq_some_iff] at hz
        obtain ⟨us, h1, rfl⟩ := hz
        obtain ⟨k, a, vs, rfl, sa⟩ := (src_spec S1 n1.B r1 h1).A
        exact ⟨k, a, vs, rfl, sa.sq.1, F (g1.wB g.B) H1 _ _ n1.weak rfl (S1.weak n1.B) wk_en SrcA.stay sa⟩
      · cases h
    · cases h
theorem sndP {T : Tab} {c : Nat → List PV → Sto → R PV} : ∀ (p : P) {X : Cx} {x : Option Expr}, Ok T c X → ckP T X.N X.env.scope p x = true → PO X x (tPo X.K (evP c p))
  | .no, X, x, ok, h => by
    rw [ckP, Option.isNone_iff_eq_none] at h
    subst h
    exact po_none.imp fun σ H Q ⟨g, st, e, S, h⟩ => h g H Nx.refl S
  | .ex a, X, x, ok, h => by
    rw [ckP.eq_def] at h
    dsimp only at h
    split at h
    · refine (po_some (sndE a ok h).pe).imp fun σ H Q ⟨g, st, e, S, h⟩ => ?_
      subst e
      rw [evP] at h
      refine one S h.bind fun x s1 g1 H1 V1 h n1 S1 r1 => ?_
      split at h
      · cases r1.int_
        exact ⟨_, rfl, h g1 H1 n1 S1⟩
      · exact h.elim
    · cases h
end
end Ev

set_option maxRecDepth 100000
/-! Ev13: statements: syntax, interpreter, checker. -/
namespace Ev
open PySem L2 PySem.W PyProof.Rows PySem.SeqAt

/-- an expression, or one that takes an item off a list of one's own -/
inductive A where
  | e (a : E) | pop (j : Nat) | popAt (j : Nat) (a : E)
mutual
inductive S where
  | set (own : Bool) (i : Nat) (a : A)
  | par2 (o1 : Bool) (i1 : Nat) (o2 : Bool) (i2 : Nat) (a b : E)
  | par3 (o1 : Bool) (i1 : Nat) (o2 : Bool) (i2 : Nat) (o3 : Bool) (i3 : Nat) (a b c : E)
  | asg (g : G) (e : E)
  | app (i : Nat) (a : A) | rem (i : Nat) (e : E) | ex (a : A)
  | setR (o i e : E) | popR (o i : E)
  | frz (i : Nat)
  | ret (e : E) | retN
  | ife (t : E) (a b : Ss) | for_ (g : G) (it : It) (b : Ss) | whl (n : Nat) (t : E) (b : Ss)
  | brk | cont | dead
inductive Ss where
  | nil | cons (s : S) (ss : Ss)
end

def fits (i : Int) : Bool := decide (i.natAbs < 2 ^ 63)
theorem fits_eq {i : Int} (h : fits i = true) : -(2 ^ 63) ≤ i ∧ i < 2 ^ 63 := by
  have h := of_decide_eq_true h
  omega
def RS.ofR {α : Type} (e : Envr) (r : R α) (f : α → Sto → RS) : RS := match r with
  | .ok a s => f a s
  | .ex c fs s => .ex c fs e s
  | .bad => .bad
def RS.then (r : RS) (f : Envr → Sto → RS) : RS := match r with
  | .nx e s => f e s
  | r => r
/-- a slot takes a value -/
def putC (own : Bool) (i : Nat) (x : PV) (e : Envr) : Option Envr := match own with
  | true => match x with
    | .fre y => some (e.set i (.own y))
    | _ => none
  | false => (asR x).map fun y => e.set i (.v y)
def findI (k : Int) : List PyData → Option (List PyData)
  | [] => none
  | .int j :: r => if j = k then some r else (findI k r).map (.int j :: ·)
  | _ :: _ => none
def forL (b : Envr → Sto → RS) (gt : G) : List PyData → Envr → Sto → RS
  | [], e, st => .nx e st
  | x :: xs, e, st => match asg e gt x with
    | some e1 => match b e1 st with
      | .nx e2 s2 => forL b gt xs e2 s2
      | .ct e2 s2 => forL b gt xs e2 s2
      | .br e2 s2 => .nx e2 s2
      | r => r
    | none => .bad
def whlL (t : Envr → Sto → R PV) (b : Envr → Sto → RS) : Nat → Envr → Sto → RS
  | 0, _, _ => .bad
  | n + 1, e, st => RS.ofR e (t e st) fun x s1 => match asB x with
    | some true => match b e s1 with
      | .nx e2 s2 => whlL t b n e2 s2
      | .ct e2 s2 => whlL t b n e2 s2
      | .br e2 s2 => .nx e2 s2
      | r => r
    | some false => .nx e s1
    | none => .bad
section
variable (c : Nat → List PV → Sto → R PV)
def evA : A → Envr → Sto → R (PV × Envr)
  | .e a, e, st => (evE c a e st).bind fun x s1 => .ok (x, e) s1
  | .pop j, e, st => match e[j]? with
    | some (.own (.list ds)) => match ds[ds.length - 1]? with
      | some x => .ok (.d x, e.set j (.own (.list ds.dropLast))) st
      | none => .bad
    | _ => .bad
  | .popAt j a, e, st => (evE c a e st).bind fun x s1 => match x with
    | .d (.int i) => match e[j]? with
      | some (.own (.list ds)) => match seqIndex? i ds.length with
        | some k => match ds[k]? with
          | some y => if fits i then .ok (.d y, e.set j (.own (.list (ds.eraseIdx k)))) s1 else .bad
          | none => .bad
        | none => .bad
      | _ => .bad
    | _ => .bad
mutual
def exS : S → Envr → Sto → RS
  | .set own i a, e, st => RS.ofR e (evA c a e st) fun p s1 => match putC own i p.1 p.2 with
    | some e1 => .nx e1 s1
    | none => .bad
  | .par2 o1 i1 o2 i2 a b, e, st => RS.ofR e (evE c a e st) fun x s1 => RS.ofR e (evE c b e s1) fun y s2 =>
      match (putC o1 i1 x e).bind fun e1 => putC o2 i2 y e1 with
      | some e2 => .nx e2 s2
      | none => .bad
  | .par3 o1 i1 o2 i2 o3 i3 a b d, e, st => RS.ofR e (evE c a e st) fun x s1 => RS.ofR e (evE c b e s1) fun y s2 => RS.ofR e (evE c d e s2) fun z s3 =>
      match ((putC o1 i1 x e).bind fun e1 => putC o2 i2 y e1).bind fun e2 => putC o3 i3 z e2 with
      | some e2 => .nx e2 s3
      | none => .bad
  | .asg g a, e, st => RS.ofR e (evE c a e st) fun x s1 => match (asD x).bind fun d => Ev.asg e g d with
    | some e1 => .nx e1 s1
    | none => .bad
  | .app i a, e, st => RS.ofR e (evA c a e st) fun p s1 => match asD p.1, p.2[i]? with
    | some d, some (.own (.list ds)) => if ds.length < sizeLine then .nx (p.2.set i (.own (.list (ds ++ [d])))) s1 else .bad
    | _, _ => .bad
  | .rem i a, e, st => RS.ofR e (evE c a e st) fun x s1 => match x, e[i]? with
    | .d (.int k), some (.own (.list ds)) => match allInts ds with
      | some _ => match findI k ds with
        | some ds' => .nx (e.set i (.own (.list ds'))) s1
        | none => .bad
      | none => .bad
    | _, _ => .bad
  | .ex a, e, st => RS.ofR e (evA c a e st) fun p s1 => .nx p.2 s1
  | .setR o i a, e, st => RS.ofR e (evE c a e st) fun v s1 => RS.ofR e (evE c o e s1) fun x s2 => RS.ofR e (evE c i e s2) fun y s3 => match asR v, x, y with
    | some u, .ref n, .d (.int k) => match s3[n]? with
      | some (.lst xs) => match ixN xs.length k with
        | some j => .nx e (s3.set n (.lst (xs.set j u)))
        | none => .bad
      | _ => .bad
    | _, _, _ => .bad
  | .popR o i, e, st => RS.ofR e (evE c o e st) fun x s1 => RS.ofR e (evE c i e s1) fun y s2 => match x, y with
    | .ref n, .d (.int k) => match s2[n]? with
      | some (.lst xs) => match seqIndex? k xs.length with
        | some j => if fits k && decide (j < xs.length) then .nx e (s2.set n (.lst (xs.eraseIdx j))) else .bad
        | none => .bad
      | _ => .bad
    | _, _ => .bad
  | .frz i, e, st => match e[i]? with
    | some (.own x) => .nx (e.set i (.v (.d x))) st
    | _ => .bad
  | .ret a, e, st => RS.ofR e (evE c a e st) fun x s1 => match asR x with
    | some y => .rt y s1
    | none => .bad
  | .retN, e, st => .rt (.d .none) st
  | .ife t a b, e, st => RS.ofR e (evE c t e st) fun x s1 => match asB x with
    | some true => exSs a e s1
    | some false => exSs b e s1
    | none => .bad
  | .for_ g it b, e, st => RS.ofR e (evI c it false e st) fun xs s1 => forL (exSs b) g xs e s1
  | .whl n t b, e, st => whlL (evE c t) (exSs b) n e st
  | .brk, e, st => .br e st
  | .cont, e, st => .ct e st
  | .dead, _, _ => .bad
def exSs : Ss → Envr → Sto → RS
  | .nil, e, st => .nx e st
  | .cons s ss, e, st => (exS s e st).then fun e1 s1 => exSs ss e1 s1
end
end

/-! ### the checker -/
def swapB (sc : Scope) (x : Str) (p : Pos) (e : Expr) : Bool := match e with
  | .ListComp _ _ s pos => (sc.names.lookup x == some .local) && p.line == pos.line && !(s.names.any fun q => q.1 == x && (q.2 == .local || q.2 == .cell))
  | .SetComp _ _ _ _ => true
  | .DictComp _ _ _ _ _ => true
  | _ => false
def isComp (e : Expr) : Bool := match e with
  | .ListComp _ _ _ _ => true
  | .SetComp _ _ _ _ => true
  | .DictComp _ _ _ _ _ => true
  | _ => false
def isLc : A → Bool
  | .e (.lc _ _ _ _ _) => true
  | .e (.box (.lc _ _ _ _ _)) => true
  | _ => false
def isSub (e : Expr) : Bool := match e with
  | .Subscript _ _ _ => true
  | .Name _ _ => true
  | _ => false
def noStores (ts : List Expr) (e : Expr) : Bool := match e with
  | .Tuple vs _ _ => (ts.length != 2 && ts.length != 3) || vs.length != ts.length || vs.all (foldedForSure 8)
  | _ => true
section
variable (T : Tab) (N : List Str)
def lcl (sc : Scope) (i : Nat) (x : Str) : Bool := decide (N[i]? = some x) && decide (sc.names.lookup x = some .local)
def lclc (sc : Scope) (i : Nat) (x : Str) : Bool := decide (N[i]? = some x) && (decide (sc.names.lookup x = some .local) || decide (sc.names.lookup x = some .cell))
def isLoc (sc : Scope) (x : Str) : Bool := decide (sc.names.lookup x = some .local)
def ckA (sc : Scope) : A → Expr → Bool
  | .e a, e => ckE T N sc a e
  | .pop j, e => match e with
    | .Call (.Attribute (.Name x _) m apos) [] [] cpos => decide (N[j]? = some x) && vis sc x && decide (m = "pop") && (apos.endLine == cpos.line)
    | _ => false
  | .popAt j a, e => match e with
    | .Call (.Attribute (.Name x _) m apos) [ea] [] cpos => decide (N[j]? = some x) && vis sc x && decide (m = "pop") && (apos.endLine == cpos.line) && notStar ea && ckE T N sc a ea
    | _ => false
mutual
def ckS (sc : Scope) : S → Stmt → Bool
  | .set own i a, s => match s with
    | .Assign [.Name x p] e pos => lclc N sc i x && ckA T N sc a e && (!swapB sc x p e || isLc a)
    | _ => false
  | .par2 _ i1 _ i2 a b, s => match s with
    | .Assign [.Tuple [.Name x px, .Name y py] _ _] (.Tuple [ea, eb] _ _) _ => lclc N sc i1 x && lclc N sc i2 y && notStar ea && notStar eb && ckE T N sc a ea && ckE T N sc b eb && ((isLoc sc x && isLoc sc y && decide (x ≠ y) && (py.line == px.line)
        && !([ea, eb].all (foldedForSure 8)) && !([ea, eb].all (constantsAlone 8))) || !(isLoc sc x && isLoc sc y))
    | _ => false
  | .par3 _ i1 _ i2 _ i3 a b d, s => match s with
    | .Assign [.Tuple [.Name x px, .Name y py, .Name z pz] _ _] (.Tuple [ea, eb, ec] _ _) _ => lclc N sc i1 x && lclc N sc i2 y && lclc N sc i3 z && notStar ea && notStar eb && notStar ec && ckE T N sc a ea && ckE T N sc b eb && ckE T N sc d ec
        && ((isLoc sc x && isLoc sc y && isLoc sc z && decide (x ≠ y) && decide (x ≠ z) && decide (y ≠ z) && (py.line == px.line) && (pz.line == px.line) && !([ea, eb, ec].all (foldedForSure 8)) && !([ea, eb, ec].all (constantsAlone 8))) || !(isLoc sc x && isLoc sc y && isLoc sc z))
    | _ => false
  | .asg g a, s => match s with
    | .Assign [.Tuple ts k p] e _ => ckG N sc (fun _ => true) g (.Tuple ts k p) && ckE T N sc a e && noStores ts e
    | _ => false
  | .app i a, s => match s with
    | .Expr (.Call (.Attribute (.Name x _) m apos) [ea] [] cpos) _ => decide (N[i]? = some x) && vis sc x && decide (m = "append") && (apos.endLine == cpos.line) && notStar ea && ckA T N sc a ea
    | _ => false
  | .rem i a, s => match s with
    | .Expr (.Call (.Attribute (.Name x _) m apos) [ea] [] cpos) _ => decide (N[i]? = some x) && vis sc x && decide (m = "remove") && (apos.endLine == cpos.line) && notStar ea && ckE T N sc a ea
    | _ => false
  | .ex a, s => match s with
    | .Expr e _ => ckA T N sc a e && !isComp e
    | _ => false
  | .setR o i a, s => match s with
    | .Assign [.Subscript eo ei _] e _ => notSlice ei && ckE T N sc o eo && ckE T N sc i ei && ckE T N sc a e
    | _ => false
  | .popR o i, s => match s with
    | .Expr (.Call (.Attribute eo m apos) [ei] [] cpos) _ => isSub eo && decide (m = "pop") && (apos.endLine == cpos.line) && notStar ei && ckE T N sc o eo && ckE T N sc i ei
    | _ => false
  | .frz _, _ => false
  | .ret a, s => match s with
    | .Return (some e) _ => ckE T N sc a e
    | _ => false
  | .retN, s => match s with
    | .Return none _ => true
    | _ => false
  | .ife t a b, s => match s with
    | .If et ea eb _ => tst t && ckE T N sc t et && ckSs sc a ea && ckSs sc b eb
    | _ => false
  | .for_ g it b, s => match s with
    | .For tg iter body [] _ => ckG N sc (fun _ => true) g tg && notSet iter && ckI T N sc it (isTup g) iter && ckSs sc b body
    | _ => false
  | .whl _ t b, s => match s with
    | .While et body [] _ => tst t && ckE T N sc t et && ckSs sc b body
    | _ => false
  | .brk, s => match s with
    | .Break _ => true
    | _ => false
  | .cont, s => match s with
    | .Continue _ => true
    | _ => false
  | .dead, _ => true
def ckSs (sc : Scope) : Ss → List Stmt → Bool
  | .nil, ss => ss.isEmpty
  | .cons s ss, es => match s with
    | .frz _ => ckSs sc ss es
    | s => match es with
      | e :: es => ckS sc s e && ckSs sc ss es
      | [] => false
end
end
end Ev

set_option maxRecDepth 100000
/-! Ev14: what statements do to the state. -/
namespace Ev
open PySem L2 PySem.W PyProof.Rows PySem.SeqAt

/-- the state goes on -/
structure Kp (g g' : Gs) (H H' : Hp) : Prop where
  h0 : g'.H0 = g.H0
  r0 : g'.r0 = g.r0
  B : ∀ a, g.B a → g'.B a
  pre : g.r <+: g'.r
  keep : Keep g.Pr H g'.Pr H'
section
variable {K : PySem.W.Frag} {g g' g1 g2 : Gs} {st st' st1 st2 : Sto} {H H' H1 H2 : Hp} {Q : VK}
theorem Keep.refl {pr : Addr → Prop} : Keep pr H pr H := ⟨fun _ _ e n => ⟨e, n⟩, fun _ _ h => h⟩
theorem Keep.trans {pr pr1 pr2 : Addr → Prop} (a : Keep pr H pr1 H1) (b : Keep pr1 H1 pr2 H2) : Keep pr H pr2 H2 :=
  ⟨fun x o e n => b.k x o (a.k x o e n).1 (a.k x o e n).2, fun x xs h => b.t x xs (a.t x xs h)⟩
theorem Kp.refl : Kp g g H H := ⟨rfl, rfl, fun _ h => h, List.prefix_refl _, .refl⟩
theorem Kp.trans (a : Kp g g1 H H1) (b : Kp g1 g2 H1 H2) : Kp g g2 H H2 := ⟨b.h0.trans a.h0, b.r0.trans a.r0, fun x h => b.B x (a.B x h), a.pre.trans b.pre, a.keep.trans b.keep⟩
theorem Nx.kp (n : Nx g g' H H') (S : Sim K g st H) : Kp g g' H H' := ⟨n.h0, n.r0, n.B, n.pre, n.keep S⟩
theorem RepK.kp (k : Kp g g' H H') {v : V} {x : PV} (h : RepK K g H v x) : RepK K g' H' v x := by
  cases x with
  | d x => exact RD.keep k.keep h
  | ref n =>
    obtain ⟨a, e, q⟩ := h
    refine ⟨a, e, ?_⟩
    obtain ⟨t, ht⟩ := k.pre
    rw [← ht, List.getElem?_append_left (List.getElem?_eq_some_iff.mp q).1]
    exact q
  | ty n => exact h
  | fre _ => exact h
  | bor _ => exact h
  | fn _ => exact h
/-- kept, seen from fewer temporaries -/
theorem Rep.asR' {Bo : Addr → Prop} (hB : ∀ a, Bo a → g.B a) (S : Sim K g st H) {v : V} {x y : PV} (h : Rep K g Bo H v x) (e : Ev.asR x = some y) : RepK K (g.wB Bo) H v y := by
  cases x with
  | d x => cases e; exact RD.keep (.anti fun _ q => Gs.wB_pr hB q) h
  | fre x =>
    cases e
    obtain ⟨a, rfl, o, hb, hn, h0⟩ := h
    obtain ⟨ds, vs, rfl, o1, o2⟩ := o.is
    refine RD.lst (.inl o1) ?_ (o2.keep (.anti fun _ q => Gs.wB_pr hB q))
    rintro (q | q | ⟨i, x, q1, q2⟩)
    · exact hn q
    · exact S.rB a q hb
    · obtain ⟨b, h1, _, h2, _⟩ := S.own i x q1
      have q2 : g.s[i]? = some (some (.ref a)) := q2
      rw [q2] at h1; cases h1
      exact h2 hb
  | bor x => cases e
  | ref n => cases e; exact h
  | ty n => cases e
  | fn n => cases e
theorem asR_kind {x y : PV} (e : Ev.asR x = some y) : (∃ z, y = .d z) ∨ (∃ n, y = .ref n) ∨ ∃ n, y = .ty n := by
  cases x <;> simp [Ev.asR] at e <;> subst e
  · exact .inl ⟨_, rfl⟩
  · exact .inl ⟨_, rfl⟩
  · exact .inr (.inl ⟨_, rfl⟩)
theorem asD_asR {x : PV} {d : PyData} (e : Ev.asD x = some d) : Ev.asR x = some (.d d) := by
  cases x <;> simp [Ev.asD] at e <;> subst e <;> rfl
/-- a slot takes a list of one's own -/
theorem Sim.seto {i : Nat} {a : Addr} {ds : List PyData} {vs : List V} (S : Sim K g st H) (ho : H a = some (.lst vs)) (hr : RDs K g.Pr H vs ds) (hb : ¬ g.B a) (hn : a ∉ g.r) (hw : ¬ OwnA g.e g.s a) (h0 : g.H0 a = none)
    (hr' : RDs K (fun b => g.Pr b ∨ b = a) H vs ds) (hv : ∀ (j : Nat) x v, g.e[j]? = some (.v x) → g.s[j]? = some (some v) → RepK K (g.aB a) H v x) (hw' : ∀ (j : Nat) x b, g.e[j]? = some (.own x) → g.s[j]? = some (some (.ref b)) → OwnAt K (g.aB a) H b x)
    (hs : ∀ (n : Nat) o b, st[n]? = some o → g.r[n]? = some b → ObAt K (g.aB a) H b o) (hi : i < g.e.length) :
    Sim K { g with e := g.e.set i (.own (.list ds)), s := g.s.set i (some (.ref a)) } st H ∧ ∀ b, Gs.Pr { g with e := g.e.set i (.own (.list ds)), s := g.s.set i (some (.ref a)) } b → g.Pr b ∨ b = a := by
  have get : ∀ {j : Nat} {c : Cell}, (g.e.set i (.own (.list ds)))[j]? = some c → (j = i ∧ c = .own (.list ds)) ∨ (i ≠ j ∧ g.e[j]? = some c) := fun {j c} h => by
    by_cases hj : i = j
    · subst hj
      rw [List.getElem?_set_self hi] at h
      exact .inl ⟨rfl, (Option.some.inj h).symm⟩
    · rw [List.getElem?_set_ne hj] at h; exact .inr ⟨hj, h⟩
  have hi' : i < g.s.length := by rw [← S.len]; exact hi
  have sub : ∀ b, Gs.Pr { g with e := g.e.set i (.own (.list ds)), s := g.s.set i (some (.ref a)) } b → g.Pr b ∨ b = a := by
    rintro b (h | h | ⟨j, y, h1, h2⟩)
    · exact .inl (.inl h)
    · exact .inl (.inr (.inl h))
    · have h2 : (g.s.set i (some (.ref a)))[j]? = some (some (.ref b)) := h2
      rcases get h1 with ⟨rfl, _⟩ | ⟨hj, h1⟩
      · rw [List.getElem?_set_self hi'] at h2
        cases h2
        exact .inr rfl
      · rw [List.getElem?_set_ne hj] at h2
        exact .inl (.inr (.inr ⟨j, y, h1, h2⟩))
  have sub' : ∀ b, Gs.Pr { g with e := g.e.set i (.own (.list ds)), s := g.s.set i (some (.ref a)) } b → (g.aB a).Pr b := fun b h => (sub b h).elim (fun q => q.elim (fun q => .inl (.inl q)) .inr) fun q => .inl (.inr q)
  have rk : ∀ {w : V} {y : PV}, RepK K (g.aB a) H w y → RepK K { g with e := g.e.set i (.own (.list ds)), s := g.s.set i (some (.ref a)) } H w y := fun {w y} h => by
    cases y with
    | d y => exact RD.keep (.anti sub') h
    | _ => exact h
  have ow : ∀ {b : Addr} {y : PyData}, OwnAt K (g.aB a) H b y → OwnAt K { g with e := g.e.set i (.own (.list ds)), s := g.s.set i (some (.ref a)) } H b y := fun {b y} h => by
    obtain ⟨ds, vs, rfl, o1, o2⟩ := h.is
    exact ⟨vs, o1, o2.keep (.anti sub')⟩
  refine ⟨⟨by show (g.e.set i _).length = (g.s.set i _).length; rw [List.length_set, List.length_set]; exact S.len, fun j y h => ?_, fun j y h => ?_, fun j k y z b h1 h2 h3 h4 => ?_, S.slen, fun n o h => ?_, S.rB, S.nd, S.bt, S.pre, S.new, S.fr⟩, sub⟩
  · rcases get h with ⟨_, h⟩ | ⟨hj, h⟩
    · cases h
    · obtain ⟨w, h1, h2⟩ := S.val j y h
      exact ⟨w, by show (g.s.set i (some (.ref a)))[j]? = _; rw [List.getElem?_set_ne hj]; exact h1, rk (hv j y w h h1)⟩
  · rcases get h with ⟨hji, hc⟩ | ⟨hj, h⟩
    · cases hc
      exact ⟨a, by show (g.s.set i (some (.ref a)))[j]? = _; rw [hji]; exact List.getElem?_set_self hi', ⟨vs, ho, hr'.keep (.anti sub)⟩, hb, hn, h0⟩
    · obtain ⟨b, h1, h2, h3⟩ := S.own j y h
      exact ⟨b, by show (g.s.set i (some (.ref a)))[j]? = _; rw [List.getElem?_set_ne hj]; exact h1, ow (hw' j y b h h1), h3⟩
  · have h3 : (g.s.set i (some (.ref a)))[j]? = some (some (.ref b)) := h3
    have h4 : (g.s.set i (some (.ref a)))[k]? = some (some (.ref b)) := h4
    rcases get h1 with ⟨hji, _⟩ | ⟨hj, k1⟩
    · rw [hji, List.getElem?_set_self hi'] at h3
      cases h3
      rcases get h2 with ⟨hki, _⟩ | ⟨hk, k2⟩
      · rw [hji, hki]
      · rw [List.getElem?_set_ne hk] at h4
        exact absurd ⟨k, z, k2, h4⟩ hw
    · rw [List.getElem?_set_ne hj] at h3
      rcases get h2 with ⟨hki, _⟩ | ⟨hk, k2⟩
      · rw [hki, List.getElem?_set_self hi'] at h4
        cases h4
        exact absurd ⟨j, y, k1, h3⟩ hw
      · rw [List.getElem?_set_ne hk] at h4
        exact S.inj j k y z b k1 k2 h3 h4
  · obtain ⟨b, h1, h2⟩ := S.sto n o h
    have h2 := hs n o b h h1
    refine ⟨b, h1, ?_⟩
    cases o with
    | lst xs => obtain ⟨ws, q1, q2⟩ := h2; exact ⟨ws, q1, Paired.imp (fun _ _ q => rk q) q2⟩
/-- .. from a temporary -/
theorem Sim.own' {i : Nat} {V1 : V} {x : PyData} {Bo : Addr → Prop} (S : Sim K g st H) (h : Rep K g Bo H V1 (.fre x)) :
    let g' : Gs := { g with B := fun b => g.B b ∧ V1 ≠ .ref b, e := g.e.set i (.own x), s := g.s.set i (some V1) }
    Sim K g' st H ∧ ∀ b, g'.Pr b → g.Pr b := by
  obtain ⟨a, rfl, o, hb, hn, h0⟩ := h
  obtain ⟨ds, vs, rfl, o1, o2⟩ := o.is
  intro g'
  let B' : Addr → Prop := fun b => g.B b ∧ V.ref a ≠ .ref b
  have hB' : ∀ b, B' b → g.B b := fun b q => q.1
  have S' := S.weak hB'
  have up : ∀ b, (g.wB B').Pr b → g.Pr b := fun b q => Gs.wB_pr hB' q
  have up2 : ∀ b, ((g.wB B').aB a).Pr b → g.Pr b := fun b q => by
    rcases q with (q | q) | q
    · exact .inl q.1
    · rw [q]; exact .inl hb
    · exact .inr q
  have rk : ∀ {w : V} {y : PV}, RepK K g H w y → RepK K ((g.wB B').aB a) H w y := fun {w y} h => by
    cases y with
    | d y => exact RD.keep (.anti up2) h
    | _ => exact h
  have hw : ¬ OwnA g.e g.s a := fun ⟨j, y, q1, q2⟩ => by
    obtain ⟨b, h1, _, h3, _⟩ := S.own j y q1
    rw [q2] at h1; cases h1
    exact h3 hb
  by_cases hi : i < g.e.length
  case neg =>
    have e1 : g.e.set i (.own (.list ds)) = g.e := List.set_eq_of_length_le (Nat.le_of_not_lt hi)
    have e2 : g.s.set i (some (V.ref a)) = g.s := List.set_eq_of_length_le (by rw [← S.len]; exact Nat.le_of_not_lt hi)
    have eg : g' = g.wB B' := by show { g with B := B', e := g.e.set i (.own (.list ds)), s := g.s.set i (some (V.ref a)) } = { g with B := B' }; rw [e1, e2]
    rw [eg]
    exact ⟨S', up⟩
  have := Sim.seto (g := g.wB B') (i := i) (a := a) S' o1 (o2.keep (.anti up)) (fun q => q.2 rfl) (fun q => S.rB a q hb) hw h0
    (o2.keep (.anti fun b q => q.elim (up b) fun q => by rw [q]; exact .inl hb))
    (fun j x v h1 h2 => by
      obtain ⟨v', q1, q2⟩ := S.val j x h1
      have h2 : g.s[j]? = some (some v) := h2
      rw [h2] at q1; cases q1
      exact rk q2)
    (fun j x b h1 h2 => by
      obtain ⟨b', q1, q2, _⟩ := S.own j x h1
      have h2 : g.s[j]? = some (some (.ref b)) := h2
      rw [h2] at q1; cases q1
      obtain ⟨ds, vs, rfl, q3, q4⟩ := q2.is
      exact ⟨vs, q3, q4.keep (.anti up2)⟩)
    (fun n o b h1 h2 => by
      obtain ⟨b', q1, q2⟩ := S.sto n o h1
      have h2 : g.r[n]? = some b := h2
      rw [h2] at q1; cases q1
      cases o with
      | lst xs => obtain ⟨ws, q3, q4⟩ := q2; exact ⟨ws, q3, Paired.imp (fun _ _ q => rk q) q4⟩) hi
  exact ⟨this.1, fun b q => (this.2 b q).elim (up b) fun q => by rw [q]; exact .inl hb⟩

/-- a list of one's own is changed -/
theorem Sim.mut {j : Nat} {a : Addr} {ds ds' : List PyData} {vs' : List V} (S : Sim K g st H) (he : g.e[j]? = some (.own (.list ds))) (hs : g.s[j]? = some (some (.ref a))) (r : RDs K g.Pr H vs' ds') :
    let g' : Gs := { g with e := g.e.set j (.own (.list ds')) }
    Sim K g' st (upd H a (.lst vs')) ∧ Kp g g' H (upd H a (.lst vs')) := by
  intro g'
  obtain ⟨a', hs', o, hb, hn, h0⟩ := S.own j _ he
  rw [hs] at hs'; cases hs'
  obtain ⟨ds0, vs, e0, o1, o2⟩ := o.is
  cases e0
  have hj : j < g.e.length := (List.getElem?_eq_some_iff.mp he).1
  have get : ∀ {k : Nat} {c : Cell}, (g.e.set j (.own (.list ds')))[k]? = some c → (k = j ∧ c = .own (.list ds')) ∨ (j ≠ k ∧ g.e[k]? = some c) := fun {k c} h => by
    by_cases hk : j = k
    · subst hk
      rw [List.getElem?_set_self hj] at h
      exact .inl ⟨rfl, (Option.some.inj h).symm⟩
    · rw [List.getElem?_set_ne hk] at h; exact .inr ⟨hk, h⟩
  have pr : ∀ b, g'.Pr b → g.Pr b := fun b q => by
    rcases q with q | q | ⟨k, x, q1, q2⟩
    · exact .inl q
    · exact .inr (.inl q)
    · rcases get q1 with ⟨e, _⟩ | ⟨_, q1⟩
      · rw [e] at q2; exact .inr (.inr ⟨j, _, he, q2⟩)
      · exact .inr (.inr ⟨k, x, q1, q2⟩)
  have pa : g.Pr a := .inr (.inr ⟨j, _, he, hs⟩)
  have kp : Keep g.Pr H g'.Pr (upd H a (.lst vs')) := (Keep.wr pa o1).trans (.anti pr)
  have rk : ∀ {w : V} {y : PV}, RepK K g H w y → RepK K g' (upd H a (.lst vs')) w y := fun {w y} h => by
    cases y with
    | d y => exact RD.keep kp h
    | _ => exact h
  refine ⟨?_, rfl, rfl, fun _ q => q, List.prefix_refl _, kp⟩
  exact {
    len := by show (g.e.set j _).length = _; rw [List.length_set]; exact S.len
    val := fun i x h => by
      rcases get h with ⟨_, h⟩ | ⟨_, h⟩
      · cases h
      · let ⟨v, h1, h2⟩ := S.val i x h; exact ⟨v, h1, rk h2⟩
    own := fun i x q => by
      rcases get q with ⟨e, q⟩ | ⟨hk, q⟩
      · cases q
        exact ⟨a, by rw [e]; exact hs, ⟨vs', upd_same, r.keep kp⟩, hb, hn, h0⟩
      · obtain ⟨b, h1, h2, h3, h4⟩ := S.own i x q
        obtain ⟨ds, ws, rfl, p1, p2⟩ := h2.is
        refine ⟨b, h1, ⟨ws, ?_, p2.keep kp⟩, h3, h4⟩
        rw [upd_ne (fun e => hk (by rw [e] at h1; exact S.inj j i _ _ a he q hs h1))]
        exact p1
    inj := fun i k x y b h1 h2 h3 h4 => by
      rcases get h1 with ⟨e1, _⟩ | ⟨k1, h1⟩
      · rcases get h2 with ⟨e2, _⟩ | ⟨k2, h2⟩
        · rw [e1, e2]
        · rw [e1] at h3 ⊢; exact S.inj j k _ _ b he h2 h3 h4
      · rcases get h2 with ⟨e2, _⟩ | ⟨k2, h2⟩
        · rw [e2] at h4 ⊢; exact S.inj i j _ _ b h1 he h3 h4
        · exact S.inj i k _ _ b h1 h2 h3 h4
    slen := S.slen
    sto := fun n o q => by
      obtain ⟨b, h1, h2⟩ := S.sto n o q
      have hne : b ≠ a := fun e => hn (by rw [← e]; exact List.mem_of_getElem? h1)
      refine ⟨b, h1, ?_⟩
      cases o with
      | lst xs => obtain ⟨ws, q1, q2⟩ := h2; exact ⟨ws, by rw [upd_ne hne]; exact q1, Paired.imp (fun _ _ q => rk q) q2⟩
    rB := S.rB
    nd := S.nd
    bt := fun b q e => by
      unfold upd at e
      split at e
      · cases e
      · exact S.bt b q e
    pre := S.pre
    new := S.new
    fr := fun b o q hr => by
      have hne : b ≠ a := fun e => by rw [e, h0] at q; cases q
      rw [upd_ne hne]
      exact S.fr b o q hr }
/-- a list of one's own is kept from now on -/
theorem Sim.frz {j : Nat} {x : PyData} (S : Sim K g st H) (he : g.e[j]? = some (.own x)) :
    let g' : Gs := { g with e := g.e.set j (.v (.d x)) }
    Sim K g' st H ∧ Kp g g' H H := by
  intro g'
  obtain ⟨a, hs, o, hb, hn, h0⟩ := S.own j _ he
  obtain ⟨ds, vs, rfl, o1, o2⟩ := o.is
  have hj : j < g.e.length := (List.getElem?_eq_some_iff.mp he).1
  have get : ∀ {k : Nat} {c : Cell}, (g.e.set j (.v (.d (.list ds))))[k]? = some c → (k = j ∧ c = .v (.d (.list ds))) ∨ (j ≠ k ∧ g.e[k]? = some c) := fun {k c} h => by
    by_cases hk : j = k
    · subst hk
      rw [List.getElem?_set_self hj] at h
      exact .inl ⟨rfl, (Option.some.inj h).symm⟩
    · rw [List.getElem?_set_ne hk] at h; exact .inr ⟨hk, h⟩
  have own' : ∀ {k : Nat} {y : PyData}, g'.e[k]? = some (.own y) → j ≠ k ∧ g.e[k]? = some (.own y) := fun {k y} h => by
    rcases get h with ⟨_, h⟩ | h
    · cases h
    · exact h
  have pr : ∀ b, g'.Pr b → g.Pr b := fun b q => by
    rcases q with q | q | ⟨k, y, q1, q2⟩
    · exact .inl q
    · exact .inr (.inl q)
    · exact .inr (.inr ⟨k, y, (own' q1).2, q2⟩)
  have rk : ∀ {w : V} {y : PV}, RepK K g H w y → RepK K g' H w y := fun {w y} h => by
    cases y with
    | d y => exact RD.keep (.anti pr) h
    | _ => exact h
  have na : ¬ g'.Pr a := by
    rintro (q | q | ⟨k, y, q1, q2⟩)
    · exact hb q
    · exact hn q
    · obtain ⟨h1, h2⟩ := own' q1
      exact h1 (S.inj j k _ _ a he h2 hs q2)
  refine ⟨?_, rfl, rfl, fun _ q => q, List.prefix_refl _, .anti pr⟩
  exact {
    len := by show (g.e.set j _).length = _; rw [List.length_set]; exact S.len
    val := fun i x h => by
      rcases get h with ⟨e, h⟩ | ⟨_, h⟩
      · cases h
        exact ⟨.ref a, by rw [e]; exact hs, RD.lst (.inl o1) na (o2.keep (.anti pr))⟩
      · let ⟨v, h1, h2⟩ := S.val i x h; exact ⟨v, h1, rk h2⟩
    own := fun i x q => by
      obtain ⟨hk, q⟩ := own' q
      obtain ⟨b, h1, h2, h3, h4⟩ := S.own i x q
      obtain ⟨ds, ws, rfl, p1, p2⟩ := h2.is
      exact ⟨b, h1, ⟨ws, p1, p2.keep (.anti pr)⟩, h3, h4⟩
    inj := fun i k x y b h1 h2 h3 h4 => S.inj i k _ _ b (own' h1).2 (own' h2).2 h3 h4
    slen := S.slen
    sto := fun n o q => by
      obtain ⟨b, h1, h2⟩ := S.sto n o q
      refine ⟨b, h1, ?_⟩
      cases o with
      | lst xs => obtain ⟨ws, q1, q2⟩ := h2; exact ⟨ws, q1, Paired.imp (fun _ _ q => rk q) q2⟩
    rB := S.rB
    nd := S.nd
    bt := S.bt
    pre := S.pre
    new := S.new
    fr := S.fr }
/-- a list of the store is changed -/
theorem Sim.wrR {n : Nat} {a : Addr} {xs xs' : List PV} {vs' : List V} (S : Sim K g st H) (he : st[n]? = some (.lst xs)) (hs : g.r[n]? = some a) (r : Paired (RepK K g H) vs' xs') :
    Sim K g (st.set n (.lst xs')) (upd H a (.lst vs')) ∧ Kp g g H (upd H a (.lst vs')) := by
  obtain ⟨a', hs', vs, o1, o2⟩ := S.sto n _ he
  rw [hs] at hs'; cases hs'
  have ha : a ∈ g.r := List.mem_of_getElem? hs
  have pa : g.Pr a := .inr (.inl ha)
  have kp : Keep g.Pr H g.Pr (upd H a (.lst vs')) := Keep.wr pa o1
  have rk : ∀ {w : V} {y : PV}, RepK K g H w y → RepK K g (upd H a (.lst vs')) w y := fun {w y} h => by
    cases y with
    | d y => exact RD.keep kp h
    | _ => exact h
  refine ⟨?_, rfl, rfl, fun _ q => q, List.prefix_refl _, kp⟩
  exact {
    len := S.len
    val := fun i x h => let ⟨v, h1, h2⟩ := S.val i x h; ⟨v, h1, rk h2⟩
    own := fun i x q => by
      obtain ⟨b, h1, h2, h3, h4, h5⟩ := S.own i x q
      obtain ⟨ds, ws, rfl, p1, p2⟩ := h2.is
      refine ⟨b, h1, ⟨ws, ?_, p2.keep kp⟩, h3, h4, h5⟩
      rw [upd_ne (fun e => h4 (by rw [e]; exact ha))]
      exact p1
    inj := S.inj
    slen := by rw [List.length_set]; exact S.slen
    sto := fun k o q => by
      by_cases hk : n = k
      · subst hk
        rw [List.getElem?_set_self (List.getElem?_eq_some_iff.mp he).1] at q
        cases q
        exact ⟨a, hs, vs', upd_same, Paired.imp (fun _ _ q => rk q) r⟩
      · rw [List.getElem?_set_ne hk] at q
        obtain ⟨b, h1, h2⟩ := S.sto k o q
        have hne : b ≠ a := fun e => hk (by
          rw [e] at h1
          have e1 := List.getElem?_eq_some_iff.mp hs
          have e2 := List.getElem?_eq_some_iff.mp h1
          exact (List.getElem_inj S.nd).mp (e1.2.trans e2.2.symm))
        refine ⟨b, h1, ?_⟩
        cases o with
        | lst xs => obtain ⟨ws, q1, q2⟩ := h2; exact ⟨ws, by rw [upd_ne hne]; exact q1, Paired.imp (fun _ _ q => rk q) q2⟩
    rB := S.rB
    nd := S.nd
    bt := fun b q e => by
      unfold upd at e
      split at e
      · cases e
      · exact S.bt b q e
    pre := S.pre
    new := S.new
    fr := fun b o q hr => by
      have hne : b ≠ a := fun e => by
        rcases S.new a ha with h | h
        · rw [e] at hr; exact hr h
        · rw [e, h] at q; cases q
      rw [upd_ne hne]
      exact S.fr b o q hr }
def dropB (x : PV) (V1 : V) (B : Addr → Prop) : Addr → Prop := match x with
  | .fre _ => fun b => B b ∧ V1 ≠ .ref b
  | _ => B
/-- a slot takes a value -/
theorem putC_spec {own : Bool} {i : Nat} {x : PV} {V1 : V} {Bo : Addr → Prop} {e1 : Envr} (S : Sim K g st H) (h : Rep K g Bo H V1 x) (hB : ∀ a, Bo a → g.B a) (hc : putC own i x g.e = some e1) :
    let g' : Gs := { g with B := dropB x V1 g.B, e := e1, s := g.s.set i (some V1) }
    Sim K g' st H ∧ (∀ b, g'.Pr b → g.Pr b) ∧ ∀ b, Bo b → g'.B b := by
  intro g'
  have hB' : ∀ b, Bo b → g'.B b := fun b q => by
    show dropB x V1 g.B b
    unfold dropB
    split
    · obtain ⟨a, rfl, _, _, hn, _⟩ := h
      exact ⟨hB b q, fun e => by cases e; exact hn q⟩
    · exact hB b q
  cases own with
  | true =>
    cases x with
    | fre y =>
      cases hc
      obtain ⟨k1, k2⟩ := S.own' h (i := i)
      exact ⟨k1, k2, hB'⟩
    | _ => cases hc
  | false =>
    simp only [putC, Option.map_eq_some_iff] at hc
    obtain ⟨y, hy, rfl⟩ := hc
    have hd : ∀ b, dropB x V1 g.B b → g.B b := fun b q => by
      unfold dropB at q
      split at q
      · exact q.1
      · exact q
    have hr : Rep K g (dropB x V1 g.B) H V1 x := by
      cases x with
      | fre z =>
        obtain ⟨a, rfl, o, hb, hn, h0⟩ := h
        exact ⟨a, rfl, o, hb, fun q => q.2 rfl, h0⟩
      | _ => exact h
    have rr := hr.asR' hd S hy
    obtain ⟨k1, k2⟩ := Sim.setv (i := i) (S.weak hd) rr (asR_kind hy)
    exact ⟨k1, fun b q => Gs.wB_pr hd (k2 b q), hB'⟩
theorem putC_fb {own : Bool} {i : Nat} {y : PV} {e e1 : Envr} (hc : putC own i y e = some e1) : ∀ z, y ≠ .bor z := fun z e => by
  subst e
  cases own <;> cases hc
/-- what else is at hand, behind it -/
theorem Rep.after {x y : PV} {V1 V2 : V} {B1 Bo : Addr → Prop} {e1 : Envr} {s1 : L2.St} (h : Rep K g B1 H V2 y) (hy : ∀ z, y ≠ .bor z) (h1 : ∀ b, Bo b → B1 b) (h2 : ∀ z b, x = .fre z → V1 = .ref b → B1 b)
    (pr : ∀ b, Gs.Pr { g with B := dropB x V1 g.B, e := e1, s := s1 } b → g.Pr b) : Rep K { g with B := dropB x V1 g.B, e := e1, s := s1 } Bo H V2 y := by
  cases y with
  | d y => exact RD.keep (.anti pr) h
  | fre y =>
    obtain ⟨a, rfl, o, hb, hn, h0⟩ := h
    obtain ⟨ds, vs, rfl, o1, o2⟩ := o.is
    refine ⟨a, rfl, ⟨vs, o1, o2.keep (.anti pr)⟩, ?_, fun q => hn (h1 a q), h0⟩
    show dropB x V1 g.B a
    unfold dropB
    split
    · rename_i z
      exact ⟨hb, fun e => hn (h2 z a rfl e)⟩
    · exact hb
  | bor z => exact absurd rfl (hy z)
  | ref n => exact h
  | ty n => exact h
  | fn n => exact h
end
end Ev

set_option maxRecDepth 100000
/-! Ev15: statements are sound. -/
namespace Ev
open PySem L2 PySem.W PyProof.Rows PySem.SeqAt

def rsp (r : RS) (nx br ct : Envr → Sto → Prop) (rt : PV → Sto → Prop) : Prop := match r with
  | .nx e s => nx e s
  | .br e s => br e s
  | .ct e s => ct e s
  | .rt v s => rt v s
  | _ => False
theorem rsp_imp {r : RS} {nx br ct nx' br' ct' : Envr → Sto → Prop} {rt rt' : PV → Sto → Prop} (h : rsp r nx br ct rt) (h1 : ∀ e s, nx e s → nx' e s) (h2 : ∀ e s, br e s → br' e s) (h3 : ∀ e s, ct e s → ct' e s) (h4 : ∀ e s, rt e s → rt' e s) : rsp r nx' br' ct' rt' := by
  cases r with
  | nx e s => exact h1 e s h
  | br e s => exact h2 e s h
  | ct e s => exact h3 e s h
  | rt v s => exact h4 v s h
  | _ => exact h
theorem rsp_ofR {α : Type} {e : Envr} {r : R α} {f : α → Sto → RS} {nx br ct : Envr → Sto → Prop} {rt : PV → Sto → Prop} (h : rsp (RS.ofR e r f) nx br ct rt) : RP r fun a s => rsp (f a s) nx br ct rt := by
  cases r with
  | ok a s => exact h
  | _ => exact h
section
variable (K : PySem.W.Frag)
/-- .. from a state on -/
def goNx (g : Gs) (H : Hp) (Q : L2.St → Hp → Prop) : Envr → Sto → Prop := fun e' st' => ∀ g' H', g'.e = e' → Kp g g' H H' → g'.B = g.B → Sim K g' st' H' → Q g'.s H'
def goRt (g : Gs) (H : Hp) (Q : VK) : PV → Sto → Prop := fun v st' => ∀ g' H' w, Kp g g' H H' → g'.B = g.B → Sim K g' st' H' → RepK K g' H' w v → Q w H'
def tS (f : Envr → Sto → RS) : TS := fun D σ H => ∃ g st, g.s = σ ∧ Sim K g st H ∧ rsp (f g.e st) (goNx K g H D.nx) (goNx K g H D.bk) (goNx K g H D.ct) (goRt K g H D.rt)
def tAr (f : Envr → Sto → R (PV × Envr)) : TE := fun σ H Q => ∃ g st, g.s = σ ∧ Sim K g st H ∧ RP (f g.e st) fun p st' => ∀ g' H' w, g'.s = g.s → g'.e = p.2 → Kp g g' H H' → Sim K g' st' H' → Rep K g' g.B H' w p.1 → Q w H'
end
section
variable {K : PySem.W.Frag} {g g' g1 g2 : Gs} {st st' st1 st2 : Sto} {H H' H1 H2 : Hp}
theorem goNx.kp {Q : L2.St → Hp → Prop} {e : Envr} {s : Sto} (h : goNx K g H Q e s) (k : Kp g g1 H H1) (hB : g1.B = g.B) : goNx K g1 H1 Q e s := fun g' H' he k' hB' S => h g' H' he (k.trans k') (hB'.trans hB) S
theorem goRt.kp {Q : VK} {e : PV} {s : Sto} (h : goRt K g H Q e s) (k : Kp g g1 H H1) (hB : g1.B = g.B) : goRt K g1 H1 Q e s := fun g' H' w k' hB' S r => h g' H' w (k.trans k') (hB'.trans hB) S r
theorem Kp.weak (k : Kp g g' H H') : Kp g (g'.wB g.B) H H' := ⟨k.h0, k.r0, fun _ q => q, k.pre, k.keep.trans (.anti fun _ q => Gs.wB_pr k.B q)⟩
theorem ofA {fa : Envr → Sto → R (PV × Envr)} {R : V → Hp → Prop} {p : PV × Envr → Sto → Prop} (S : Sim K g st H) (h : RP (fa g.e st) p)
    (k : ∀ x s1 g1 H1 V1, p x s1 → g1.s = g.s → g1.e = x.2 → Kp g g1 H H1 → Sim K g1 s1 H1 → Rep K g1 g.B H1 V1 x.1 → R V1 H1) : tAr K fa g.s H R :=
  ⟨g, st, rfl, S, h.imp fun x s1 h g1 H1 V1 h1 h2 n1 S1 r1 => k x s1 g1 H1 V1 h h1 h2 n1 S1 r1⟩
end

/-! ### side conditions -/
section
variable {X : Cx}
theorem blk_fun (hk : X.env.scope.kind = .function) : X.env.blockKind = .function := by unfold Env.blockKind; rw [hk]; rfl
theorem swaps_no {x : Str} {p : Pos} {e : Expr} {l : Nat} (hk : X.env.scope.kind = .function) (h : swapB X.env.scope x p e = false) : swapsWith e (some (.Name x p)) l X.env = pure false := by
  cases e with
  | ListComp elt gens s pos =>
    unfold swapB at h
    show (pure (X.env.blockKind == .function && X.env.kindOf x == some .local && p.line == pos.line && !(s.names.any fun (n, k) => n == x && (k == .local || k == .cell))) : Sem Bool) = pure false
    rw [blk_fun hk]
    exact congrArg pure h
  | SetComp => cases h
  | DictComp => cases h
  | _ => rfl
theorem swaps_yes {x : Str} {p : Pos} {elt : Expr} {gens : List Comprehension} {s : Scope} {pos : Pos} {l : Nat} (hk : X.env.scope.kind = .function) (h : swapB X.env.scope x p (.ListComp elt gens s pos) = true) : swapsWith (.ListComp elt gens s pos) (some (.Name x p)) l X.env = pure true := by
  unfold swapB at h
  show (pure (X.env.blockKind == .function && X.env.kindOf x == some .local && p.line == pos.line && !(s.names.any fun (n, k) => n == x && (k == .local || k == .cell))) : Sem Bool) = pure true
  rw [blk_fun hk]
  exact congrArg pure h
theorem swaps_none {e : Expr} {l : Nat} (h : isComp e = false) : swapsWith e none l X.env = pure false := by
  cases e <;> first | rfl | cases h
theorem swaps_tup {e : Expr} {l k : Nat} {ts : List Expr} {p : Pos} : swapsWithSole [.Tuple ts k p] e l X.env = pure false := by
  cases e <;> rfl
theorem swaps_sub {e a b : Expr} {l : Nat} {p : Pos} : swapsWithSole [.Subscript a b p] e l X.env = pure false := by
  cases e <;> rfl
theorem stores_sub {e a b : Expr} {p : Pos} : swappedStores [.Subscript a b p] e X.env = pure none := by
  cases e <;> rfl
theorem stores_no {ts : List Expr} {k : Nat} {p : Pos} {e : Expr} (h : noStores ts e = true) : swappedStores [.Tuple ts k p] e X.env = pure none := by
  cases e with
  | Tuple vs k2 p2 =>
    unfold noStores at h
    unfold swappedStores
    simp only [Bool.or_eq_true, Bool.and_eq_true, bne_iff_ne, ne_eq] at h
    dsimp only
    split
    · rfl
    · rename_i hc
      simp only [Bool.or_eq_true, Bool.not_eq_true', bne_iff_ne, ne_eq, not_or, Bool.not_eq_false, beq_iff_eq, Decidable.not_not] at hc
      obtain ⟨⟨c1, c2⟩, c3⟩ := hc
      have hf : vs.all (foldedForSure 8) = true := by
        rcases h with (h | h) | h
        · rcases c1 with c1 | c1
          · exact absurd c1 h.1
          · exact absurd c1 h.2
        · exact absurd c2 h
        · exact h
      split
      · rfl
      · split
        · rfl
        · rfl
  | _ => rfl
theorem dups2 {x y : Str} (h : x ≠ y) : [x, y].eraseDups = [x, y] := by
  have : (y == x) = false := by rw [beq_eq_false_iff_ne]; exact Ne.symm h
  show List.eraseDupsBy (· == ·) [x, y] = _
  unfold List.eraseDupsBy
  simp [List.eraseDupsBy.loop, this]
theorem dups3 {x y z : Str} (h : x ≠ y) (h2 : x ≠ z) (h3 : y ≠ z) : [x, y, z].eraseDups = [x, y, z] := by
  have e1 : (y == x) = false := by rw [beq_eq_false_iff_ne]; exact Ne.symm h
  have e2 : (z == x) = false := by rw [beq_eq_false_iff_ne]; exact Ne.symm h2
  have e3 : (z == y) = false := by rw [beq_eq_false_iff_ne]; exact Ne.symm h3
  show List.eraseDupsBy (· == ·) [x, y, z] = _
  unfold List.eraseDupsBy
  simp [List.eraseDupsBy.loop, e1, e2, e3]
theorem stores_2 {x y : Str} {px py pt pt2 : Pos} {k k2 : Nat} {a b : Expr} (hk : X.env.scope.kind = .function) (hx : X.env.scope.names.lookup x = some .local) (hy : X.env.scope.names.lookup y = some .local) (hxy : x ≠ y) (hl : (py.line == px.line) = true)
    (ha : notStar a = true) (hb : notStar b = true) (h1 : [a, b].all (foldedForSure 8) = false) (h2 : [a, b].all (constantsAlone 8) = false) : swappedStores [.Tuple [.Name x px, .Name y py] k pt] (.Tuple [a, b] k2 pt2) X.env = pure (some [x, y]) := by
  have e1 : (X.env.kindOf x == some .local) = true := by unfold Env.kindOf; rw [hx]; rfl
  have e2 : (X.env.kindOf y == some .local) = true := by unfold Env.kindOf; rw [hy]; rfl
  have e3 : (([Expr.Name x px, Expr.Name y py].head?.map (·.pos.line)).getD 0) = px.line := rfl
  unfold swappedStores
  dsimp only
  split
  · rename_i hc
    rw [blk_fun hk] at hc
    exact absurd hc (by simp)
  · split
    · rename_i hc
      rw [List.any_eq_true] at hc
      obtain ⟨v, hv, q⟩ := hc
      rcases List.mem_cons.mp hv with e | e
      · rw [e] at q; cases a <;> first | (cases q; done) | (cases ha; done)
      · rw [List.mem_singleton.mp e] at q; cases b <;> first | (cases q; done) | (cases hb; done)
    · simp only [List.filterMap_cons, e1, e2, e3, hl, beq_self_eq_true, Bool.and_self, if_true, List.filterMap_nil]
      split
      · rename_i hc
        exact absurd hc (by rw [dups2 hxy]; simp)
      · rw [h1, if_neg Bool.false_ne_true, h2, if_neg Bool.false_ne_true]
theorem stores_3 {x y z : Str} {px py pz pt pt2 : Pos} {k k2 : Nat} {a b d : Expr} (hk : X.env.scope.kind = .function) (hx : X.env.scope.names.lookup x = some .local) (hy : X.env.scope.names.lookup y = some .local) (hz : X.env.scope.names.lookup z = some .local)
    (hxy : x ≠ y) (hxz : x ≠ z) (hyz : y ≠ z) (hl : (py.line == px.line) = true) (hl2 : (pz.line == px.line) = true)
    (ha : notStar a = true) (hb : notStar b = true) (hd : notStar d = true) (h1 : [a, b, d].all (foldedForSure 8) = false) (h2 : [a, b, d].all (constantsAlone 8) = false) :
    swappedStores [.Tuple [.Name x px, .Name y py, .Name z pz] k pt] (.Tuple [a, b, d] k2 pt2) X.env = pure (some [x, y, z]) := by
  have e1 : (X.env.kindOf x == some .local) = true := by unfold Env.kindOf; rw [hx]; rfl
  have e2 : (X.env.kindOf y == some .local) = true := by unfold Env.kindOf; rw [hy]; rfl
  have e4 : (X.env.kindOf z == some .local) = true := by unfold Env.kindOf; rw [hz]; rfl
  have e3 : (([Expr.Name x px, Expr.Name y py, Expr.Name z pz].head?.map (·.pos.line)).getD 0) = px.line := rfl
  unfold swappedStores
  dsimp only
  split
  · rename_i hc
    rw [blk_fun hk] at hc
    exact absurd hc (by simp)
  · split
    · rename_i hc
      rw [List.any_eq_true] at hc
      obtain ⟨v, hv, q⟩ := hc
      rcases List.mem_cons.mp hv with e | e
      · rw [e] at q; cases a <;> first | (cases q; done) | (cases ha; done)
      · rcases List.mem_cons.mp e with e | e
        · rw [e] at q; cases b <;> first | (cases q; done) | (cases hb; done)
        · rw [List.mem_singleton.mp e] at q; cases d <;> first | (cases q; done) | (cases hd; done)
    · simp only [List.filterMap_cons, e1, e2, e3, e4, hl, hl2, beq_self_eq_true, Bool.and_self, if_true, List.filterMap_nil]
      split
      · rename_i hc
        exact absurd hc (by rw [dups3 hxy hxz hyz]; simp)
      · rw [h1, if_neg Bool.false_ne_true, h2, if_neg Bool.false_ne_true]
theorem stores_c2 {x y : Str} {px py pt pt2 : Pos} {k k2 : Nat} {a b : Expr} (h : (isLoc X.env.scope x && isLoc X.env.scope y) = false) : swappedStores [.Tuple [.Name x px, .Name y py] k pt] (.Tuple [a, b] k2 pt2) X.env = pure none := by
  have hne : ¬ (X.env.kindOf x = some .local ∧ X.env.kindOf y = some .local) := fun ⟨h1, h2⟩ => by
    unfold isLoc at h
    rw [show X.env.scope.names.lookup x = some .local from h1, show X.env.scope.names.lookup y = some .local from h2] at h
    simp at h
  have key : ∀ l : Nat, (([Expr.Name x px, Expr.Name y py].filterMap fun
    | .Name id pos => if X.env.kindOf id == some .local && pos.line == l then some id else none
    | _ => none).length != 2) = true := fun l => by
    simp only [List.filterMap_cons, List.filterMap_nil]
    by_cases h1 : X.env.kindOf x = some .local
    · have h2 : (X.env.kindOf y == some .local) = false := by rw [beq_eq_false_iff_ne]; exact fun q => hne ⟨h1, q⟩
      simp only [h2, Bool.false_and]
      split <;> simp
    · have h2 : (X.env.kindOf x == some .local) = false := by rw [beq_eq_false_iff_ne]; exact h1
      simp only [h2, Bool.false_and]
      cases hh : (X.env.kindOf y == some NameKind.local && py.line == l) <;> simp [hh]
  unfold swappedStores
  dsimp only
  split
  · rfl
  · split
    · rfl
    · rw [if_pos]
      rw [Bool.or_eq_true]
      exact .inl (key _)
theorem stores_c3 {x y z : Str} {px py pz pt pt2 : Pos} {k k2 : Nat} {a b d : Expr} (h : (isLoc X.env.scope x && isLoc X.env.scope y && isLoc X.env.scope z) = false) : swappedStores [.Tuple [.Name x px, .Name y py, .Name z pz] k pt] (.Tuple [a, b, d] k2 pt2) X.env = pure none := by
  have hne : ¬ (X.env.kindOf x = some .local ∧ X.env.kindOf y = some .local ∧ X.env.kindOf z = some .local) := fun ⟨h1, h2, h3⟩ => by
    unfold isLoc at h
    rw [show X.env.scope.names.lookup x = some .local from h1, show X.env.scope.names.lookup y = some .local from h2, show X.env.scope.names.lookup z = some .local from h3] at h
    simp at h
  have key : ∀ l : Nat, (([Expr.Name x px, Expr.Name y py, Expr.Name z pz].filterMap fun
    | .Name id pos => if X.env.kindOf id == some .local && pos.line == l then some id else none
    | _ => none).length != 3) = true := fun l => by
    simp only [List.filterMap_cons, List.filterMap_nil]
    cases h1 : (X.env.kindOf x == some NameKind.local && px.line == l) <;> cases h2 : (X.env.kindOf y == some NameKind.local && py.line == l) <;> cases h3 : (X.env.kindOf z == some NameKind.local && pz.line == l) <;> simp [h1, h2, h3]
    simp only [Bool.and_eq_true, beq_iff_eq] at h1 h2 h3
    exact hne ⟨h1.1, h2.1, h3.1⟩
  unfold swappedStores
  dsimp only
  split
  · rfl
  · split
    · rfl
    · rw [if_pos]
      rw [Bool.or_eq_true]
      exact .inl (key _)
end
end Ev

set_option maxRecDepth 100000
/-! Ev16: statements are sound. -/
namespace Ev
open PySem L2 PySem.W PyProof.Rows PySem.SeqAt

structure OkS (T : Tab) (c : Nat → List PV → Sto → R PV) (X : Cx) : Prop extends Ok T c X where
  kind : X.env.scope.kind = .function
  fn : ∀ x, X.fn x = true
  pass : PassesOwn (model X.prog X.w) X.A X.env X.xe
section
variable {T : Tab} {c : Nat → List PV → Sto → R PV} {X : Cx} {K : PySem.W.Frag}
theorem few1 {X : Cx} {e : Expr} {cpos : Pos} (h : notStar e = true) : ((backTo cpos (starEach [e] X.env)).all (fun x => !x.1) && (backToKw cpos (keywordEach [] X.env)).all (fun x => x.1.isSome)
      && decide (([e] : List Expr).length + ([] : List Keyword).length + (if ([] : List Keyword).isEmpty then 0 else 1) < 30)) = true := by
  rw [star1 h]; rfl
theorem lc_imp {own : List Nat} {gt : G} {it : It} {ts : Es} {y : E} (hin : gIn own gt = true) (σ : L2.St) (H : Hp) (Q : VK) (q : tEv K (evE c (.lc own gt it ts y)) σ H Q) :
    tLc (tI K true (evI c it true)) (gT K gt) (tTs K (evTs c ts)) (tEv K (evE c y)) own σ H Q := by
  obtain ⟨g, st, e, S, h⟩ := q
  subst e
  rw [evE] at h
  split at h
  · rename_i hn
    refine ⟨g, st, rfl, S, h.bind.imp fun xs s1 h g1 H1 J G n1 hB S1 W St G0 => ?_⟩
    have := lc_read (Q := Q) S1 W St G0 (by rw [n1.e]; exact hn) hin (ft := evTs c ts) (fy := evE c y) (by
      rw [n1.e]
      exact h.bind.imp fun ys s2 F => Fin.same (v := .fre (.list ys)) F n1 (st2 := s1) (S1) hB)
    rw [n1.s] at this
    exact this
  · exact h.elim
theorem box_imp {a : E} (σ : L2.St) (H : Hp) (Q : VK) (q : tEv K (evE c (.box a)) σ H Q) : tEv K (evE c a) σ H Q := by
  obtain ⟨g, st, e, S, h⟩ := q
  subst e
  rw [evE] at h
  refine one S h.bind fun x s1 g1 H1 V1 h n1 S1 r1 => ?_
  split at h
  · exact Fin.box (st := st) h n1 S1 r1
  · exact h.elim
theorem ar_imp {a : E} (σ : L2.St) (H : Hp) (Q : VK) (q : tAr K (evA c (.e a)) σ H Q) : tEv K (evE c a) σ H Q := by
  obtain ⟨g, st, e, S, h⟩ := q
  subst e
  rw [evA] at h
  refine one S h.bind fun x s1 g1 H1 V1 h n1 S1 r1 => ?_
  exact h g1 H1 V1 n1.s n1.e (n1.kp S) S1 r1
theorem sndA (ok : Ok T c X) : ∀ (a : A) {e : Expr}, ckA T X.N X.env.scope a e = true → PE X e (tAr X.K (evA c a))
  | .e a, e, h => (sndE a ok h).pe.imp ar_imp
  | .pop j, e, h => by
    rw [ckA.eq_def] at h
    dsimp only at h
    split at h
    · simp only [Bool.and_eq_true, decide_eq_true_eq] at h
      obtain ⟨⟨⟨hN, hv⟩, rfl⟩, hl⟩ := h
      obtain ⟨v1, v2, v3⟩ := vis_spec hv
      refine (pe_bm0 PySem.F.plainAttrs_list PySem.F.slot_list_pop PySem.F.type_list_pop mt_pop (pe_var hN v1 v2 v3) rfl hl).imp fun σ H Q ⟨g, st, e, S, h⟩ => ?_
      subst e
      rw [evA] at h
      split at h
      · rename_i ds hj
        split at h
        · rename_i x hx
          obtain ⟨a, hs, ⟨vs, o1, o2⟩, _⟩ := S.own j _ hj
          obtain ⟨y, hy, ry⟩ := o2.get hx
          obtain ⟨k1, k2⟩ := S.mut hj hs o2.dropLast
          rw [← o2.length] at hy
          exact ⟨.ref a, hs, .inl ⟨rfl, vs, .inl (.inl o1)⟩, a, vs, y, rfl, rfl, o1, hy, h { g with e := g.e.set j (.own (.list ds.dropLast)) } _ y rfl rfl k2 k1 (show RD _ _ _ _ _ from ry.keep k2.keep)⟩
        · exact h.elim
      · exact h.elim
    · cases h
  | .popAt j b, e, h => by
    rw [ckA.eq_def] at h
    dsimp only at h
    split at h
    · simp only [Bool.and_eq_true, decide_eq_true_eq] at h
      obtain ⟨⟨⟨⟨⟨hN, hv⟩, rfl⟩, hl⟩, hst⟩, hb⟩ := h
      obtain ⟨v1, v2, v3⟩ := vis_spec hv
      refine (pe_bm PySem.F.plainAttrs_list PySem.F.slot_list_pop PySem.F.type_list_pop mt_popAt (pe_var hN v1 v2 v3) (pa_cons (sndE b ok hb).pe pa_nil (star1 hst)) rfl (few1 hst) hl (star1 hst) rfl).imp fun σ H Q ⟨g, st, e, S, h⟩ => ?_
      subst e
      rw [evA] at h
      have hj : ∃ ds, g.e[j]? = some (.own (.list ds)) := by
        cases q : evE c b g.e st with
        | ok x s1 =>
          rw [q] at h
          have h : RP (match x with
            | .d (.int i) => match g.e[j]? with
              | some (.own (.list ds)) => match seqIndex? i ds.length with
                | some k => match ds[k]? with
                  | some y => if fits i then R.ok (PV.d y, g.e.set j (.own (.list (ds.eraseIdx k)))) s1 else .bad
                  | none => .bad
                | none => .bad
              | _ => .bad
            | _ => .bad) _ := h
          split at h
          · split at h
            · rename_i ds hj; exact ⟨ds, hj⟩
            · exact h.elim
          · exact h.elim
        | ex _ _ _ => rw [q] at h; exact h.elim
        | bad => rw [q] at h; exact h.elim
      obtain ⟨ds, hj⟩ := hj
      obtain ⟨a, hs, ⟨vs, o1, o2⟩, _⟩ := S.own j _ hj
      refine ⟨.ref a, hs, .inl ⟨rfl, vs, .inl (.inl o1)⟩, one S h.bind fun x s1 g1 H1 V1 h n1 S1 r1 => ?_⟩
      split at h
      · cases r1.int_
        rw [hj] at h
        dsimp only at h
        have hj1 : g1.e[j]? = some (.own (.list ds)) := by rw [n1.e]; exact hj
        have hs1 : g1.s[j]? = some (some (.ref a)) := by rw [n1.s]; exact hs
        obtain ⟨a', hs', ⟨vs, o1, o2⟩, _⟩ := S1.own j _ hj1
        rw [hs1] at hs'; cases hs'
        split at h
        · rename_i k hk
          split at h
          · rename_i y hy
            split at h
            · rename_i hf
              have hf := fits_eq hf
              obtain ⟨u, hu, ru⟩ := o2.get hy
              obtain ⟨k1, k2⟩ := S1.mut hj1 hs1 (o2.eraseIdx k)
              rw [← o2.length] at hk
              refine ⟨a, vs, _, k, u, rfl, rfl, o1, hf.1, hf.2, hk, hu, h _ _ u ?_ ?_ ((n1.kp S).trans k2) k1 (show RD _ _ _ _ _ from ru.keep k2.keep)⟩
              · exact n1.s
              · show g1.e.set j _ = _
                rw [n1.e]
            · exact h.elim
          · exact h.elim
        · exact h.elim
      · exact h.elim
    · cases h
theorem evA_own {a : A} {e : Envr} {st s1 : Sto} {p : PV × Envr} (h : evA c a e st = .ok p s1) {i : Nat} {x : PyData} (q : p.2[i]? = some (.own x)) : ∃ y, e[i]? = some (.own y) := by
  have aux : ∀ {j : Nat} {z w : PyData}, e[j]? = some (.own z) → (e.set j (.own w))[i]? = some (.own x) → ∃ y, e[i]? = some (.own y) := fun {j z w} hj hi => by
    by_cases hji : j = i
    · subst hji; exact ⟨z, hj⟩
    · rw [List.getElem?_set_ne hji] at hi; exact ⟨x, hi⟩
  cases a with
  | e a =>
    rw [evA] at h
    cases q' : evE c a e st with
    | ok y s2 => rw [q'] at h; cases h; exact ⟨x, q⟩
    | ex _ _ _ => rw [q'] at h; cases h
    | bad => rw [q'] at h; cases h
  | pop j =>
    rw [evA] at h
    split at h
    · rename_i ds hj
      split at h
      · cases h; exact aux hj q
      · cases h
    · cases h
  | popAt j a =>
    rw [evA] at h
    cases q' : evE c a e st with
    | ok y s2 =>
      rw [q'] at h
      dsimp only [R.bind] at h
      split at h
      · split at h
        · rename_i ds hj
          split at h
          · split at h
            · split at h
              · cases h; exact aux hj q
              · cases h
            · cases h
          · cases h
        · cases h
      · cases h
    | ex _ _ _ => rw [q'] at h; cases h
    | bad => rw [q'] at h; cases h
theorem ckNs_mono {N : List Str} {sc : Scope} {f : Str → Bool} : ∀ {is : List Nat} {es : List Expr}, ckG.ckNs N sc (fun _ => false) is es = true → ckG.ckNs N sc f is es = true
  | [], [], _ => rfl
  | [], _ :: _, h => by cases h
  | _ :: _, [], h => by cases h
  | i :: is, e :: es, h => by
    cases e with
    | Name x p =>
      unfold ckG.ckNs at h ⊢
      simp only [Bool.and_eq_true, Bool.or_eq_true, decide_eq_true_eq, Bool.false_eq_true, and_false, or_false] at h ⊢
      exact ⟨⟨h.1.1, .inl h.1.2⟩, ckNs_mono h.2⟩
    | _ => cases h
theorem ckG_mono {N : List Str} {sc : Scope} {f : Str → Bool} {gt : G} {tg : Expr} (h : ckG N sc (fun _ => false) gt tg = true) : ckG N sc f gt tg = true := by
  unfold ckG at h ⊢
  split at h
  · simp only [Bool.and_eq_true, Bool.or_eq_true, decide_eq_true_eq, Bool.false_eq_true, and_false, or_false] at h ⊢
    exact ⟨h.1, .inl h.2⟩
  · exact ckNs_mono h
  · cases h
theorem findI_spec {k : Int} : ∀ {ns : List Int} {ds' : List PyData}, findI k (ns.map .int) = some ds' → ∃ j : Nat, ns[j]? = some k ∧ (∀ m : Nat, m < j → ns[m]? ≠ some k) ∧ ds' = (ns.eraseIdx j).map .int
  | [], ds', h => by cases h
  | n :: ns, ds', h => by
    rw [List.map_cons, findI] at h
    split at h
    · rename_i hk
      cases h
      exact ⟨0, by simp [hk], fun m hm => absurd hm (Nat.not_lt_zero _), rfl⟩
    · rename_i hk
      rw [Option.map_eq_some_iff] at h
      obtain ⟨ds, h1, rfl⟩ := h
      obtain ⟨j, j1, j2, rfl⟩ := findI_spec h1
      refine ⟨j + 1, by simpa using j1, fun m hm => ?_, rfl⟩
      cases m with
      | zero => simpa using hk
      | succ m => simpa using j2 m (by omega)
theorem Paired.set {α β : Type} {F : α → β → Prop} {xs : List α} {ys : List β} {a : α} {b : β} (h : Paired F xs ys) (r : F a b) : ∀ i : Nat, Paired F (xs.set i a) (ys.set i b) := by
  induction h with
  | nil => intro i; exact .nil
  | cons r' t ih =>
    intro i
    cases i with
    | zero => exact .cons r t
    | succ i => exact .cons r' (ih i)
theorem Paired.eraseIdx {α β : Type} {F : α → β → Prop} {xs : List α} {ys : List β} (h : Paired F xs ys) : ∀ i : Nat, Paired F (xs.eraseIdx i) (ys.eraseIdx i) := by
  induction h with
  | nil => intro i; exact .nil
  | cons r' t ih =>
    intro i
    cases i with
    | zero => exact t
    | succ i => exact .cons r' (ih i)

/-- an assignment to a name, by its value -/
theorem set_core {own : Bool} {i : Nat} {a : A} {D : Ends} {σ : L2.St} {H : Hp} (q : tS K (exS c (.set own i a)) D σ H) : tAr K (evA c a) σ H (fun x H1 => gName i x σ H1 D.nx) := by
  obtain ⟨g, st, e, S, h⟩ := q
  subst e
  rw [exS] at h
  refine ofA S (rsp_ofR h) fun p s1 g1 H1 V1 h hs he k1 S1 r1 => ?_
  split at h
  · rename_i e1 hc
    rw [← he] at hc
    obtain ⟨S2, pr, b⟩ := putC_spec S1 r1 k1.B hc
    have kk : Kp g { g1 with B := g.B, e := e1, s := g1.s.set i (some V1) } H H1 := ⟨k1.h0, k1.r0, fun _ q => q, k1.pre, k1.keep.trans (.anti fun x q => pr x (Gs.wB_pr b q))⟩
    have := h { g1 with B := g.B, e := e1, s := g1.s.set i (some V1) } H1 rfl kk rfl (S2.weak b)
    rw [← hs]
    exact this
  · exact h.elim
theorem Rep.laid {g : Gs} {H : Hp} {Bo : Addr → Prop} {p : Addr} {o : HO} (hp : H p = none) {v : V} {x : PV} (h : Rep K g Bo H v x) : Rep K g Bo (upd H p o) v x := by
  cases x with
  | fre x =>
    obtain ⟨a, e, o, hb, hn, h0⟩ := h
    obtain ⟨ds, vs, rfl, o1, o2⟩ := o.is
    exact ⟨a, e, ⟨vs, by rw [upd_ne (ne_of_none o1 hp)]; exact o1, o2.keep (.laid hp)⟩, hb, hn, h0⟩
  | bor x => exact h
  | d x => exact RepK.laid (x := .d x) hp h
  | ref n => exact h
  | ty n => exact h
  | fn n => exact h
theorem par2_fin {o1 o2 : Bool} {i j : Nat} {g g2 : Gs} {st s2 : Sto} {H H2 : Hp} {V1 V2 : V} {x y : PV} {B1 : Addr → Prop} {Q Q2 Q3 : L2.St → Hp → Prop} {QR : VK} (S : Sim K g st H) (nn : Nx g g2 H H2) (S2 : Sim K g2 s2 H2) (r1 : Rep K g2 g.B H2 V1 x) (r2 : Rep K g2 B1 H2 V2 y) (hB : ∀ a, g.B a → B1 a)
    (fr : ∀ z b, x = .fre z → V1 = .ref b → B1 b) (h : rsp (match (putC o1 i x g.e).bind fun e1 => putC o2 j y e1 with
      | some e2 => .nx e2 s2
      | none => .bad) (goNx K g H Q) (goNx K g H Q2) (goNx K g H Q3) (goRt K g H QR)) : Q ((g2.s.set i (some V1)).set j (some V2)) H2 := by
  split at h
  · rename_i e2 hc
    rw [Option.bind_eq_some_iff] at hc
    obtain ⟨e1, c1, c2⟩ := hc
    rw [← nn.e] at c1
    obtain ⟨S3, pr3, b3⟩ := putC_spec S2 r1 nn.B c1
    have r3 := Rep.after r2 (putC_fb c2) hB fr pr3
    obtain ⟨S4, pr4, b4⟩ := putC_spec S3 r3 b3 c2
    have kk : Kp g { g2 with B := g.B, e := e2, s := (g2.s.set i (some V1)).set j (some V2) } H H2 := ⟨nn.h0, nn.r0, fun _ q => q, nn.pre, (nn.keep S).trans (.anti fun x q => pr3 x (pr4 x (Gs.wB_pr b4 q)))⟩
    exact h { g2 with B := g.B, e := e2, s := (g2.s.set i (some V1)).set j (some V2) } H2 rfl kk rfl (S4.weak b4)
  · exact h.elim
theorem fre_in {Bo : Addr → Prop} {g1 : Gs} {H1 : Hp} {V1 : V} {x : PV} (r1 : Rep K g1 Bo H1 V1 x) : ∀ z b, x = .fre z → V1 = .ref b → g1.B b := fun z b q1 q2 => by subst q1; subst q2; obtain ⟨a, ea, _, hb, _⟩ := r1; cases ea; exact hb
theorem par2_core {o1 o2 : Bool} {i j : Nat} {a b : E} {D : Ends} {σ : L2.St} {H : Hp} (q : tS K (exS c (.par2 o1 i o2 j a b)) D σ H) : tPar i j (tCons (tEv K (evE c a)) (tCons (tEv K (evE c b)) tNil)) D σ H := by
  obtain ⟨g, st, e, S, h⟩ := q
  subst e
  rw [exS] at h
  refine one S (rsp_ofR h) fun x s1 g1 H1 V1 h n1 S1 r1 => ?_
  rw [← n1.s]
  refine one S1 (by rw [n1.e]; exact rsp_ofR h) fun y s2 g2 H2 V2 h n2 S2 r2 => ?_
  refine ⟨V1, V2, rfl, ?_⟩
  rw [← n2.s]
  exact par2_fin S (n1.trans S1 n2) S2 (r1.keep n2 S1) r2 n1.B (fre_in r1) h
theorem par2T_core {o1 o2 : Bool} {i j : Nat} {a b : E} {D : Ends} {σ : L2.St} {H : Hp} (q : tS K (exS c (.par2 o1 i o2 j a b)) D σ H) : tAsg (tTup (tCons (tEv K (evE c a)) (tCons (tEv K (evE c b)) tNil))) (gT K (.tp [i, j])) D σ H := by
  obtain ⟨g, st, e, S, h⟩ := q
  subst e
  rw [exS] at h
  refine one S (rsp_ofR h) fun x s1 g1 H1 V1 h n1 S1 r1 => ?_
  rw [← n1.s]
  refine one S1 (by rw [n1.e]; exact rsp_ofR h) fun y s2 g2 H2 V2 h n2 S2 r2 => ?_
  refine ⟨by show 2 ≤ sizeLine; decide, fun p hp => ⟨p, [V1, V2], rfl, .inl (.inl upd_same), rfl, V1, _, rfl, V2, _, rfl, rfl, ?_⟩⟩
  rw [← n2.s]
  exact par2_fin S ((n1.trans S1 n2).laid S2 hp) (S2.laid hp) ((r1.keep n2 S1).laid hp) (r2.laid hp) n1.B (fre_in r1) h
theorem par3_fin {o1 o2 o3 : Bool} {i j l : Nat} {g g2 : Gs} {st s2 : Sto} {H H2 : Hp} {V1 V2 V3 : V} {x y z : PV} {B1 B2 : Addr → Prop} {Q Q2 Q3 : L2.St → Hp → Prop} {QR : VK} (S : Sim K g st H) (nn : Nx g g2 H H2) (S2 : Sim K g2 s2 H2) (r1 : Rep K g2 g.B H2 V1 x) (r2 : Rep K g2 B1 H2 V2 y) (r3 : Rep K g2 B2 H2 V3 z)
    (hB : ∀ a, g.B a → B1 a) (hB2 : ∀ a, B1 a → B2 a) (fr : ∀ z b, x = .fre z → V1 = .ref b → B1 b) (fr2 : ∀ z b, y = .fre z → V2 = .ref b → B2 b) (h : rsp (match ((putC o1 i x g.e).bind fun e1 => putC o2 j y e1).bind fun e2 => putC o3 l z e2 with
      | some e2 => .nx e2 s2
      | none => .bad) (goNx K g H Q) (goNx K g H Q2) (goNx K g H Q3) (goRt K g H QR)) : Q (((g2.s.set i (some V1)).set j (some V2)).set l (some V3)) H2 := by
  split at h
  · rename_i e3 hc
    simp only [Option.bind_eq_some_iff] at hc
    obtain ⟨e2, ⟨e1, c1, c2⟩, c3⟩ := hc
    rw [← nn.e] at c1
    obtain ⟨S4, pr4, b4⟩ := putC_spec S2 r1 nn.B c1
    have r2' := Rep.after r2 (putC_fb c2) hB fr pr4
    have r3' := Rep.after (Bo := B2) r3 (putC_fb c3) (fun _ q => q) (fun z b q1 q2 => hB2 b (fr z b q1 q2)) pr4
    obtain ⟨S5, pr5, b5⟩ := putC_spec S4 r2' b4 c2
    have r3'' := Rep.after (Bo := g.B) r3' (putC_fb c3) (fun a q => hB2 a (hB a q)) fr2 pr5
    obtain ⟨S6, pr6, b6⟩ := putC_spec S5 r3'' b5 c3
    have kk : Kp g { g2 with B := g.B, e := e3, s := ((g2.s.set i (some V1)).set j (some V2)).set l (some V3) } H H2 := ⟨nn.h0, nn.r0, fun _ q => q, nn.pre, (nn.keep S).trans (.anti fun x q => pr4 x (pr5 x (pr6 x (Gs.wB_pr b6 q))))⟩
    exact h { g2 with B := g.B, e := e3, s := ((g2.s.set i (some V1)).set j (some V2)).set l (some V3) } H2 rfl kk rfl (S6.weak b6)
  · exact h.elim
theorem par3_core {o1 o2 o3 : Bool} {i j l : Nat} {a b d : E} {D : Ends} {σ : L2.St} {H : Hp} (q : tS K (exS c (.par3 o1 i o2 j o3 l a b d)) D σ H) : tPar3 i j l (tCons (tEv K (evE c a)) (tCons (tEv K (evE c b)) (tCons (tEv K (evE c d)) tNil))) D σ H := by
  obtain ⟨g, st, e, S, h⟩ := q
  subst e
  rw [exS] at h
  refine one S (rsp_ofR h) fun x s1 g1 H1 V1 h n1 S1 r1 => ?_
  rw [← n1.s]
  refine one S1 (by rw [n1.e]; exact rsp_ofR h) fun y s2 g2 H2 V2 h n2 S2 r2 => ?_
  rw [← n2.s]
  refine one S2 (by rw [n2.e, n1.e]; exact rsp_ofR h) fun z s3 g3 H3 V3 h n3 S3 r3 => ?_
  refine ⟨V1, V2, V3, rfl, ?_⟩
  rw [← n3.s]
  exact par3_fin S ((n1.trans S1 n2).trans S2 n3) S3 ((r1.keep n2 S1).keep n3 S2) (r2.keep n3 S2) r3 n1.B n2.B (fre_in r1) (fre_in r2) h
theorem par3T_core {o1 o2 o3 : Bool} {i j l : Nat} {a b d : E} {D : Ends} {σ : L2.St} {H : Hp} (q : tS K (exS c (.par3 o1 i o2 j o3 l a b d)) D σ H) : tAsg (tTup (tCons (tEv K (evE c a)) (tCons (tEv K (evE c b)) (tCons (tEv K (evE c d)) tNil)))) (gT K (.tp [i, j, l])) D σ H := by
  obtain ⟨g, st, e, S, h⟩ := q
  subst e
  rw [exS] at h
  refine one S (rsp_ofR h) fun x s1 g1 H1 V1 h n1 S1 r1 => ?_
  rw [← n1.s]
  refine one S1 (by rw [n1.e]; exact rsp_ofR h) fun y s2 g2 H2 V2 h n2 S2 r2 => ?_
  rw [← n2.s]
  refine one S2 (by rw [n2.e, n1.e]; exact rsp_ofR h) fun z s3 g3 H3 V3 h n3 S3 r3 => ?_
  refine ⟨by show 3 ≤ sizeLine; decide, fun p hp => ⟨p, [V1, V2, V3], rfl, .inl (.inl upd_same), rfl, V1, _, rfl, V2, _, rfl, V3, _, rfl, rfl, ?_⟩⟩
  rw [← n3.s]
  exact par3_fin S (((n1.trans S1 n2).trans S2 n3).laid S3 hp) (S3.laid hp) (((r1.keep n2 S1).keep n3 S2).laid hp) ((r2.keep n3 S2).laid hp) (r3.laid hp) n1.B n2.B (fre_in r1) (fre_in r2) h
end
end Ev

set_option maxRecDepth 100000
/-! Ev17: statements are sound, by induction. -/
namespace Ev
open PySem L2 PySem.W PyProof.Rows PySem.SeqAt

section
variable {T : Tab} {c : Nat → List PV → Sto → R PV} {X : Cx} {K : PySem.W.Frag}
theorem asg_core {gt : G} {a : E} {D : Ends} {σ : L2.St} {H : Hp} (q : tS K (exS c (.asg gt a)) D σ H) : tAsg (tEv K (evE c a)) (gT K gt) D σ H := by
  obtain ⟨g, st, e, S, h⟩ := q
  subst e
  rw [exS] at h
  refine one S (rsp_ofR h) fun x s1 g1 H1 V1 h n1 S1 r1 => ?_
  split at h
  · rename_i e1 hc
    rw [Option.bind_eq_some_iff] at hc
    obtain ⟨d, hd, hc⟩ := hc
    have S2 := S1.weak n1.B
    obtain ⟨s1', ⟨S3, pr⟩, _, k⟩ := asg_spec (gt := gt) (e1 := e1) S2 (by show Ev.asg g1.e gt d = some e1; rw [n1.e]; exact hc) (r1.asD n1 S1 hd)
    rw [← n1.s]
    exact k D.nx (h { g1 with B := g.B, e := e1, s := s1' } H1 rfl ⟨n1.h0, n1.r0, fun _ q => q, n1.pre, (n1.keep S).trans (.anti fun b q => Gs.wB_pr n1.B (pr b q))⟩ rfl S3)
  · exact h.elim
theorem app_core {i : Nat} {a : A} {D : Ends} {σ : L2.St} {H : Hp} (q : tS K (exS c (.app i a)) D σ H) : tDrop (tBM K "list" rAppend (fun σ H Q => ∃ v, σ[i]? = some (some v) ∧ Q v H) (tCons (tAr K (evA c a)) tNil)) D σ H := by
  obtain ⟨g, st, e, S, h⟩ := q
  subst e
  rw [exS] at h
  have hi : ∃ x, g.e[i]? = some (.own x) := by
    cases q : evA c a g.e st with
    | ok p s1 =>
      rw [q] at h
      dsimp only [RS.ofR] at h
      split at h
      · rename_i hq; exact evA_own q hq
      · exact h.elim
    | ex _ _ _ => rw [q] at h; exact h.elim
    | bad => rw [q] at h; exact h.elim
  obtain ⟨x, hi⟩ := hi
  obtain ⟨a0, hs, o, _⟩ := S.own i _ hi
  obtain ⟨ds, vs, rfl, o1, o2⟩ := o.is
  refine ⟨.ref a0, hs, .inl ⟨rfl, vs, .inl (.inl o1)⟩, ofA S (rsp_ofR h) fun p s1 g1 H1 V1 h hs1 he k1 S1 r1 => ?_⟩
  split at h
  · rename_i d ds' hd hp
    split at h
    · rename_i hl
      rw [← he] at hp
      have S2 := S1.weak k1.B
      have rr : RD K (g1.wB g.B).Pr H1 V1 d := Rep.asR' k1.B S1 r1 (asD_asR hd)
      obtain ⟨a1, hs', ⟨vs', p1, p2⟩, _⟩ := S2.own i _ hp
      have hs' : g1.s[i]? = some (some (.ref a1)) := hs'
      rw [hs1, hs] at hs'
      cases hs'
      obtain ⟨k2, k3⟩ := S2.mut (ds' := ds' ++ [d]) (vs' := vs' ++ [V1]) hp (by show g1.s[i]? = _; rw [hs1]; exact hs) (p2.append (.cons rr .nil))
      refine ⟨a0, vs', V1, rfl, rfl, p1, by rw [p2.length]; exact hl, ?_⟩
      have := h { g1.wB g.B with e := g1.e.set i (.own (.list (ds' ++ [d]))) } _ (by show g1.e.set i _ = _; rw [he]) (k1.weak.trans k3) rfl k2
      rw [← hs1]
      exact this
    · exact h.elim
  · exact h.elim
theorem rem_core {i : Nat} {a : E} {D : Ends} {σ : L2.St} {H : Hp} (q : tS K (exS c (.rem i a)) D σ H) : tDrop (tBM K "list" rRemI (fun σ H Q => ∃ v, σ[i]? = some (some v) ∧ Q v H) (tCons (tEv K (evE c a)) tNil)) D σ H := by
  obtain ⟨g, st, e, S, h⟩ := q
  subst e
  rw [exS] at h
  have hi : ∃ x, g.e[i]? = some (.own (.list x)) := by
    cases q : evE c a g.e st with
    | ok p s1 =>
      rw [q] at h
      dsimp only [RS.ofR] at h
      split at h
      · rename_i hq; exact ⟨_, hq⟩
      · exact h.elim
    | ex _ _ _ => rw [q] at h; exact h.elim
    | bad => rw [q] at h; exact h.elim
  obtain ⟨ds, hi⟩ := hi
  obtain ⟨a0, hs, ⟨vs, o1, o2⟩, _⟩ := S.own i _ hi
  refine ⟨.ref a0, hs, .inl ⟨rfl, vs, .inl (.inl o1)⟩, one S (rsp_ofR h) fun x s1 g1 H1 V1 h n1 S1 r1 => ?_⟩
  split at h
  · cases r1.int_
    rename_i hq
    rw [hi] at hq
    cases hq
    split at h
    · rename_i ns hns
      split at h
      · rename_i ds' hf
        have eds := allInts_eq hns
        subst eds
        obtain ⟨j, j1, j2, rfl⟩ := findI_spec hf
        have S2 := S1.weak n1.B
        have hi2 : (g1.wB g.B).e[i]? = some (.own (.list (ns.map .int))) := by show g1.e[i]? = _; rw [n1.e]; exact hi
        have hs2 : (g1.wB g.B).s[i]? = some (some (.ref a0)) := by show g1.s[i]? = _; rw [n1.s]; exact hs
        obtain ⟨a1, hs', ⟨vs', p1, p2⟩, _⟩ := S2.own i _ hi2
        rw [hs2] at hs'; cases hs'
        cases p2.to_ints
        obtain ⟨k2, k3⟩ := S2.mut (ds' := (ns.eraseIdx j).map .int) (vs' := (ns.eraseIdx j).map V.int) hi2 hs2 (RDs.ints _)
        refine ⟨a0, ns, _, j, rfl, rfl, p1, j1, j2, ?_⟩
        have := h { g1.wB g.B with e := g1.e.set i (.own (.list ((ns.eraseIdx j).map .int))) } _ (by show g1.e.set i _ = _; rw [n1.e]) (n1.weak.kp S |>.trans k3) rfl k2
        rw [← n1.s]
        exact this
      · exact h.elim
    · exact h.elim
  · exact h.elim
theorem setR_core {o i a : E} {D : Ends} {σ : L2.St} {H : Hp} (q : tS K (exS c (.setR o i a)) D σ H) : tAsg (tEv K (evE c a)) (gSub (tEv K (evE c o)) (tEv K (evE c i)) rSetL) D σ H := by
  obtain ⟨g, st, e, S, h⟩ := q
  subst e
  rw [exS] at h
  refine one S (rsp_ofR h) fun x s1 g1 H1 V1 h n1 S1 r1 => ?_
  rw [← n1.s]
  refine one S1 (by rw [n1.e]; exact rsp_ofR h) fun y s2 g2 H2 V2 h n2 S2 r2 => ?_
  rw [← n2.s]
  refine one S2 (by rw [n2.e, n1.e]; exact rsp_ofR h) fun z s3 g3 H3 V3 h n3 S3 r3 => ?_
  have nn := (n1.trans S1 n2).trans S2 n3
  split at h
  · rename_i hu
    cases r3.int_
    split at h
    · rename_i xs hx
      split at h
      · rename_i j hj
        obtain ⟨b, rfl, hb⟩ := r2.keep n3 S2
        have S4 := S3.weak nn.B
        obtain ⟨b', hb', vs, o1, o2⟩ := S4.sto _ _ hx
        cases hb.symm.trans (show g3.r[_]? = some b' from hb')
        have ru : RepK K (g3.wB g.B) H3 V1 _ := Rep.asR' nn.B S3 ((r1.keep n2 S1).keep n3 S2) (by assumption)
        obtain ⟨k1, k2⟩ := S4.wrR (vs' := vs.set j V1) hx hb (Paired.set o2 ru j)
        rw [← Paired.length o2] at hj
        refine ⟨b, vs, _, j, rfl, rfl, o1, hj, ?_⟩
        have := h (g3.wB g.B) _ nn.e (nn.weak.kp S |>.trans k2) rfl k1
        rw [← n3.s]
        exact this
      · exact h.elim
    · exact h.elim
  · exact h.elim
theorem popR_core {o i : E} {D : Ends} {σ : L2.St} {H : Hp} (q : tS K (exS c (.popR o i)) D σ H) : tDrop (tBM K "list" rPopAt (tEv K (evE c o)) (tCons (tEv K (evE c i)) tNil)) D σ H := by
  obtain ⟨g, st, e, S, h⟩ := q
  subst e
  rw [exS] at h
  refine one S (rsp_ofR h) fun y s2 g2 H2 V2 h n2 S2 r2 => ?_
  have hy : ∃ n, y = .ref n := by
    cases q : evE c i g.e s2 with
    | ok p s3 =>
      rw [q] at h
      dsimp only [RS.ofR] at h
      split at h
      · exact ⟨_, rfl⟩
      · exact h.elim
    | ex _ _ _ => rw [q] at h; exact h.elim
    | bad => rw [q] at h; exact h.elim
  obtain ⟨n, rfl⟩ := hy
  obtain ⟨b, rfl, hb⟩ := r2
  obtain ⟨ws, hw⟩ := S2.tr (List.mem_of_getElem? hb)
  refine ⟨.inl ⟨rfl, ws, .inl (.inl hw)⟩, ?_⟩
  rw [← n2.s]
  refine one S2 (by rw [n2.e]; exact rsp_ofR h) fun z s3 g3 H3 V3 h n3 S3 r3 => ?_
  have nn := n2.trans S2 n3
  split at h
  · rename_i hz
    cases hz
    cases r3.int_
    split at h
    · rename_i xs hx
      split at h
      · rename_i j hj
        split at h
        · rename_i hf
          rw [Bool.and_eq_true, decide_eq_true_eq] at hf
          have hf := And.intro (fits_eq hf.1) hf.2
          have S4 := S3.weak nn.B
          have hb3 : g3.r[n]? = some b := by
            obtain ⟨t, ht⟩ := n3.pre
            rw [← ht, List.getElem?_append_left (List.getElem?_eq_some_iff.mp hb).1]
            exact hb
          obtain ⟨b', hb', vs, o1, o2⟩ := S4.sto _ _ hx
          cases hb3.symm.trans (show g3.r[n]? = some b' from hb')
          obtain ⟨k1, k2⟩ := S4.wrR hx hb3 (Paired.eraseIdx o2 j)
          have hl := Paired.length o2
          refine ⟨b, vs, _, j, vs[j]'(by rw [hl]; exact hf.2), rfl, rfl, o1, hf.1.1, hf.1.2, by rw [hl]; exact hj, List.getElem?_eq_getElem _, ?_⟩
          have := h (g3.wB g.B) _ nn.e (nn.weak.kp S |>.trans k2) rfl k1
          rw [← n3.s]
          exact this
        · exact h.elim
      · exact h.elim
    · exact h.elim
  · exact h.elim
end
end Ev

set_option maxRecDepth 100000
/-! Ev18: statements are sound, by induction. -/
namespace Ev
open PySem L2 PySem.W PyProof.Rows PySem.SeqAt

section
variable {T : Tab} {c : Nat → List PV → Sto → R PV} {X : Cx} {K : PySem.W.Frag}
theorem OkS.ckg (ok : OkS T c X) {gt : G} {tg : Expr} (h : ckG X.N X.env.scope (fun _ => true) gt tg = true) : ckG X.N X.env.scope X.fn gt tg = true := by
  have : X.fn = fun _ => true := funext ok.fn
  rw [this]; exact h
theorem lclc_spec {X : Cx} {i : Nat} {x : Str} (h : lclc X.N X.env.scope i x = true) : X.N[i]? = some x ∧ L2.Loc X.env.scope x := by
  unfold lclc at h
  simpa [L2.Loc] using h
theorem isLoc_spec {sc : Scope} {x : Str} (h : isLoc sc x = true) : sc.names.lookup x = some .local := by
  unfold isLoc at h
  simpa using h
theorem pgn (ok : OkS T c X) {i : Nat} {x : Str} {pos : Pos} (h : lclc X.N X.env.scope i x = true) : PG X (.Name x pos) (gName i) :=
  pg_name ok.nd (lclc_spec h).1 (lclc_spec h).2 (.inl (ok.fn x))
theorem lcl_spec {X : Cx} {i : Nat} {x : Str} (h : lcl X.N X.env.scope i x = true) : X.N[i]? = some x ∧ X.env.scope.names.lookup x = some .local := by
  unfold lcl at h
  simpa using h
theorem set_ps (ok : OkS T c X) {own : Bool} {i : Nat} {a : A} {x : Str} {p pos : Pos} {e : Expr} (hl : lclc X.N X.env.scope i x = true) (ha : ckA T X.N X.env.scope a e = true) (hs : swapB X.env.scope x p e = false ∨ isLc a = true) :
    PS X (.Assign [.Name x p] e pos) (tS X.K (exS c (.set own i a))) := by
  obtain ⟨h1, h2'⟩ := lclc_spec hl
  cases q : swapB X.env.scope x p e with
  | false => exact (ps_set ok.nd h1 h2' (sndA ok.toOk a ha) (swaps_no ok.kind q) (.inl (ok.fn x))).imp fun D σ H h => set_core h
  | true =>
    have hs := hs.resolve_left (by rw [q]; exact fun z => nomatch z)
    have main : ∀ {own : List Nat} {gt : G} {it : It} {ts : Es} {y : E} {t : TS}, ckE T X.N X.env.scope (.lc own gt it ts y) e = true → (∀ D σ H, t D σ H → tEv X.K (evE c (.lc own gt it ts y)) σ H fun x H1 => gName i x σ H1 D.nx) → PS X (.Assign [.Name x p] e pos) t := fun {own gt it ts y t} h imp => by
      rw [ckE.eq_def] at h
      dsimp only at h
      split at h
      · rename_i elt tg iter ifs scope pos'
        have h2 : X.env.scope.names.lookup x = some .local := by
          have q' := q
          simp only [swapB, Bool.and_eq_true, beq_iff_eq] at q'
          exact q'.1.1
        simp only [Bool.and_eq_true] at h
        obtain ⟨⟨⟨⟨⟨⟨hbk, hin⟩, hg⟩, hns⟩, hi⟩, ht⟩, hy⟩ := h
        have hown : (own.map fun i => (X.N.getD i Str.empty, i)).map (·.2) = own := by rw [List.map_map]; exact List.map_id' own
        have ok' := ok.toOk
        have R := ps_setLc (pos := pos') (spos := pos) ok.calm ok.nd h1 h2 (swaps_yes ok.kind q) (sndI it ok' (fun q => ckG_tup hg q) (bo := true) hi) (blkOk_by hbk) (g := gT X.K gt) (tt := tTs X.K (evTs c ts)) (te := tEv X.K (evE c y))
          (fun s H C cl fp => ckG_pg (ok'.blk s H scope _ fp) hg) (fun s H C cl fp => sndTs ts (ok'.blk s H scope (compEnvC scope cl C X.env) fp) ht) (fun s H C cl fp => (sndE y (ok'.blk s H scope (compEnvC scope cl C X.env) fp) hy).pe) (noSet hns)
        rw [hown] at R
        exact R.imp fun D σ H h => lc_imp hin σ H _ (imp D σ H h)
      · cases h
    cases a with
    | e a =>
      cases a with
      | lc own gt it ts y => exact main ha fun D σ H h => ar_imp σ H _ (set_core h)
      | box a =>
        cases a with
        | lc own gt it ts y =>
          refine main (by rw [ckA, ckE] at ha; exact ha) fun D σ H h => box_imp σ H _ (ar_imp σ H _ (set_core h))
        | _ => cases hs
      | _ => cases hs
    | _ => cases hs
theorem frz_ss {i : Nat} {ss : Ss} {D : Ends} {σ : L2.St} {H : Hp} (q : tS K (exSs c (.cons (.frz i) ss)) D σ H) : tS K (exSs c ss) D σ H := by
  obtain ⟨g, st, e, S, h⟩ := q
  rw [exSs, exS] at h
  split at h
  · rename_i x hx
    obtain ⟨k1, k2⟩ := S.frz hx
    exact ⟨{ g with e := g.e.set i (.v (.d x)) }, st, e, k1, rsp_imp h (fun _ _ q => goNx.kp q k2 rfl) (fun _ _ q => goNx.kp q k2 rfl) (fun _ _ q => goNx.kp q k2 rfl) (fun _ _ q => goRt.kp q k2 rfl)⟩
  · exact h.elim
theorem seq_core {s : S} {ss : Ss} {D : Ends} {σ : L2.St} {H : Hp} (q : tS K (exSs c (.cons s ss)) D σ H) : tSeq (tS K (exS c s)) (tS K (exSs c ss)) D σ H := by
  obtain ⟨g, st, e, S, h⟩ := q
  rw [exSs] at h
  refine ⟨g, st, e, S, ?_⟩
  cases hr : exS c s g.e st with
  | nx e1 s1 =>
    rw [hr] at h
    exact fun g' H' he k hB S' => ⟨g', s1, rfl, S', by
      rw [he]
      exact rsp_imp h (fun _ _ q => goNx.kp q k hB) (fun _ _ q => goNx.kp q k hB) (fun _ _ q => goNx.kp q k hB) (fun _ _ q => goRt.kp q k hB)⟩
  | _ => rw [hr] at h; exact h
theorem ife_core {t : E} {a b : Ss} {D : Ends} {σ : L2.St} {H : Hp} (q : tS K (exS c (.ife t a b)) D σ H) : tIfS (tTe K (evE c t)) (tS K (exSs c a)) (tS K (exSs c b)) D σ H := by
  obtain ⟨g, st, e, S, h⟩ := q
  rw [exS] at h
  refine ⟨g, st, e, S, (rsp_ofR h).imp fun x s1 h => ?_⟩
  have go : ∀ {k : Bool} {ss : Ss}, x = .d (.bool k) → rsp (exSs c ss g.e s1) (goNx K g H D.nx) (goNx K g H D.bk) (goNx K g H D.ct) (goRt K g H D.rt) → ∀ g1 H1, Nx g g1 H H1 → Sim K g1 s1 H1 → tS K (exSs c ss) D σ H1 := fun {k ss} _ h g1 H1 n1 S1 => by
    have kk : Kp g (g1.wB g.B) H H1 := n1.weak.kp S
    refine ⟨g1.wB g.B, s1, n1.s.trans e, S1.weak n1.B, ?_⟩
    show rsp (exSs c ss g1.e s1) _ _ _ _
    rw [n1.e]
    exact rsp_imp h (fun _ _ q => goNx.kp q kk rfl) (fun _ _ q => goNx.kp q kk rfl) (fun _ _ q => goNx.kp q kk rfl) (fun _ _ q => goRt.kp q kk rfl)
  split at h
  · rename_i hx
    refine ⟨true, asB_eq hx, fun g1 H1 n1 S1 => ?_⟩
    show (if true = true then tS K (exSs c a) D σ H1 else tS K (exSs c b) D σ H1)
    rw [if_pos rfl]
    exact go (asB_eq hx) h g1 H1 n1 S1
  · rename_i hx
    refine ⟨false, asB_eq hx, fun g1 H1 n1 S1 => ?_⟩
    show (if false = true then tS K (exSs c a) D σ H1 else tS K (exSs c b) D σ H1)
    rw [if_neg Bool.false_ne_true]
    exact go (asB_eq hx) h g1 H1 n1 S1
  · exact h.elim
/-- what a loop's body does, as the loop reads it -/
theorem body_core {b : Ss} {D : Ends} {gw g0 : Gs} {H0 H2 : Hp} {s1 : Sto} {r : Envr → Sto → RS} {N : L2.St → Hp → Prop} (kk : Kp g0 gw H0 H2) (hB : gw.B = g0.B)
    (hN : ∀ e2 s2, rsp (r e2 s2) (goNx K g0 H0 D.nx) (goNx K g0 H0 D.bk) (goNx K g0 H0 D.ct) (goRt K g0 H0 D.rt) → ∀ g' H', g'.e = e2 → Kp gw g' H2 H' → g'.B = gw.B → Sim K g' s2 H' → N g'.s H')
    (h : rsp (match exSs c b gw.e s1 with
      | .nx e2 s2 => r e2 s2
      | .ct e2 s2 => r e2 s2
      | .br e2 s2 => .nx e2 s2
      | r => r) (goNx K g0 H0 D.nx) (goNx K g0 H0 D.bk) (goNx K g0 H0 D.ct) (goRt K g0 H0 D.rt)) :
    rsp (exSs c b gw.e s1) (goNx K gw H2 N) (goNx K gw H2 D.nx) (goNx K gw H2 N) (goRt K gw H2 D.rt) := by
  cases hr : exSs c b gw.e s1 with
  | nx e2 s2 => rw [hr] at h; exact fun g' H' he k hB' S' => hN e2 s2 h g' H' he k hB' S'
  | ct e2 s2 => rw [hr] at h; exact fun g' H' he k hB' S' => hN e2 s2 h g' H' he k hB' S'
  | br e2 s2 => rw [hr] at h; exact goNx.kp h kk hB
  | rt v s2 => rw [hr] at h; exact goRt.kp h kk hB
  | ex _ _ _ _ => rw [hr] at h; exact h
  | bad => rw [hr] at h; exact h
theorem whl_core {n : Nat} {t : E} {b : Ss} {D : Ends} {σ : L2.St} {H : Hp} (q : tS K (exS c (.whl n t b)) D σ H) : tWhile (tTe K (evE c t)) (tS K (exSs c b)) D σ H := by
  obtain ⟨g, st, e, S, h⟩ := q
  rw [exS] at h
  let W : Nat → L2.St → Hp → Prop := fun m σ1 H1 => ∃ g1 st1, g1.s = σ1 ∧ Kp g g1 H H1 ∧ g1.B = g.B ∧ Sim K g1 st1 H1 ∧ rsp (whlL (evE c t) (exSs c b) m g1.e st1) (goNx K g H D.nx) (goNx K g H D.bk) (goNx K g H D.ct) (goRt K g H D.rt)
  refine ⟨W, ⟨n, g, st, e, .refl, rfl, S, h⟩, ?_⟩
  rintro m σ1 H1 ⟨g1, st1, rfl, k1, hB1, S1, h⟩
  cases m with
  | zero => exact h.elim
  | succ m =>
    rw [whlL] at h
    refine ⟨g1, st1, rfl, S1, (rsp_ofR h).imp fun x s1 h => ?_⟩
    split at h
    · rename_i hx
      refine ⟨true, asB_eq hx, fun g2 H2 n2 S2 => ?_⟩
      show (if true = true then ∃ N : L2.St → Hp → Prop, (∀ σ' H', N σ' H' → ∃ m', m' < m + 1 ∧ W m' σ' H') ∧ tS K (exSs c b) { D with nx := N, ct := N, bk := D.nx } g1.s H2 else D.nx g1.s H2)
      rw [if_pos rfl]
      have kk : Kp g (g2.wB g1.B) H H2 := k1.trans (n2.weak.kp S1)
      refine ⟨W m, fun σ' H' w => ⟨m, Nat.lt_succ_self m, w⟩, g2.wB g1.B, s1, n2.s, S2.weak n2.B, ?_⟩
      refine body_core (r := whlL (evE c t) (exSs c b) m) kk hB1 (fun e2 s2 h g' H' he k hB' S' => ⟨g', s2, rfl, kk.trans k, hB'.trans hB1, S', by rw [he]; exact h⟩) ?_
      show rsp (match exSs c b g2.e s1 with
        | .nx e2 s2 => whlL (evE c t) (exSs c b) m e2 s2
        | .ct e2 s2 => whlL (evE c t) (exSs c b) m e2 s2
        | .br e2 s2 => .nx e2 s2
        | r => r) _ _ _ _
      rw [n2.e]
      exact h
    · rename_i hx
      refine ⟨false, asB_eq hx, fun g2 H2 n2 S2 => ?_⟩
      show (if false = true then ∃ N : L2.St → Hp → Prop, (∀ σ' H', N σ' H' → ∃ m', m' < m + 1 ∧ W m' σ' H') ∧ tS K (exSs c b) { D with nx := N, ct := N, bk := D.nx } g1.s H2 else D.nx g1.s H2)
      rw [if_neg Bool.false_ne_true]
      have kk : Kp g (g2.wB g1.B) H H2 := k1.trans (n2.weak.kp S1)
      rw [← n2.s]
      exact h (g2.wB g1.B) H2 n2.e kk hB1 (S2.weak n2.B)
    · exact h.elim
theorem for_core {gt : G} {it : It} {b : Ss} {D : Ends} {σ : L2.St} {H : Hp} (q : tS K (exS c (.for_ gt it b)) D σ H) : tFor (tI K false (evI c it false)) (gT K gt) (tS K (exSs c b)) D σ H := by
  obtain ⟨g, st, e, S, h⟩ := q
  rw [exS] at h
  refine ⟨g, st, e, S, (rsp_ofR h).imp fun xs s1 h g0 H0 J G n0 hB0 S0 Wk0 St0 G0 => ?_⟩
  have kk0 : Kp g g0 H H0 := n0.kp S
  let W : Nat → Nat → L2.St → Hp → Prop := fun i m σ1 H1 => m = xs.length - i ∧ i ≤ xs.length ∧ ∃ g1 st1, g1.s = σ1 ∧ Kp g g1 H H1 ∧ g1.B = g.B ∧ Sim K g1 st1 H1 ∧ G g1.Pr g1.r H1 ∧
    rsp (forL (exSs c b) gt (xs.drop i) g1.e st1) (goNx K g H D.nx) (goNx K g H D.bk) (goNx K g H D.ct) (goRt K g H D.rt)
  refine ⟨W, ⟨_, rfl, Nat.zero_le _, g0, s1, n0.s.trans e, kk0, hB0, S0, G0, by rw [n0.e]; exact h⟩, ?_⟩
  rintro i m σ1 H1 ⟨rfl, hi, g1, st1, rfl, k1, hB1, S1, G1, h⟩
  by_cases hlt : i < xs.length
  · refine .inr ⟨Wk0.go _ _ _ _ G1 hlt, W (i + 1) (xs.length - (i + 1)), fun σ' H' w => ⟨_, by omega, w⟩, fun v H2 y => ?_⟩
    obtain ⟨x, hx, hv⟩ := Wk0.yld _ _ _ _ _ _ G1 hlt y
    have hd : xs.drop i = x :: xs.drop (i + 1) := by
      rw [List.drop_eq_getElem_cons hlt]
      rw [List.getElem?_eq_getElem hlt] at hx
      rw [Option.some.inj hx]
    rw [hd, forL] at h
    -- the item is there
    have item : Sim K g1 st1 H2 ∧ Kp g1 g1 H1 H2 ∧ RD K g1.Pr H2 v x := by
      rcases hv with ⟨rfl, r⟩ | ⟨T, vs, ds, rfl, hT, rfl, rfl, r⟩
      · exact ⟨S1, .refl, r⟩
      · exact ⟨S1.laid hT, ⟨rfl, rfl, fun _ q => q, List.prefix_refl _, .laid hT⟩, .tup (.inl (.inl upd_same)) (r.keep (.laid hT))⟩
    obtain ⟨S2, k2, r⟩ := item
    split at h
    · rename_i e1 hc
      obtain ⟨s2, ⟨S3, pr3⟩, _, kq⟩ := asg_spec S2 hc r
      refine kq _ ?_
      have k3 : Kp g1 { g1 with e := e1, s := s2 } H1 H2 := ⟨rfl, rfl, fun _ q => q, List.prefix_refl _, k2.keep.trans (.anti pr3)⟩
      have G3 : G (Gs.Pr { g1 with e := e1, s := s2 }) g1.r H2 := St0.keep rfl g1 { g1 with e := e1, s := s2 } H1 H2 k3.keep G1
      refine ⟨{ g1 with e := e1, s := s2 }, st1, rfl, S3, ?_⟩
      exact body_core (r := forL (exSs c b) gt (xs.drop (i + 1))) (k1.trans k3) hB1 (fun e2 s2 h g' H' he k hB' S' => ⟨rfl, hlt, g', s2, rfl, (k1.trans k3).trans k, hB'.trans hB1, S', St0.keep rfl _ g' H2 H' k.keep G3, by rw [he]; exact h⟩) h
    · exact h.elim
  · have ei : i = xs.length := by omega
    subst ei
    rw [List.drop_length] at h
    exact .inl ⟨Wk0.stop _ _ _ G1, h g1 H1 rfl k1 hB1 S1⟩
end
mutual
theorem sndS {T : Tab} {c : Nat → List PV → Sto → R PV} : ∀ (s : S) {X : Cx} {stm : Stmt}, OkS T c X → ckS T X.N X.env.scope s stm = true → PS X stm (tS X.K (exS c s))
  | .set own i a, X, stm, ok, h => by
    rw [ckS.eq_def] at h
    dsimp only at h
    split at h
    · simp only [Bool.and_eq_true, Bool.or_eq_true, Bool.not_eq_true'] at h
      exact set_ps ok h.1.1 h.1.2 h.2
    · cases h
  | .par2 o1 i1 o2 i2 a b, X, stm, ok, h => by
    rw [ckS.eq_def] at h
    dsimp only at h
    split at h
    · rename_i x px y py kt pt ea eb k2 pt2 pos
      rw [Bool.and_eq_true] at h
      obtain ⟨h0, h⟩ := h
      simp only [Bool.and_eq_true] at h0
      obtain ⟨⟨⟨⟨⟨h1, h2⟩, ha⟩, hb⟩, ca⟩, cb⟩ := h0
      have ok' := ok.toOk
      have P := pa_cons (sndE a ok' ca).pe (pa_cons (sndE b ok' cb).pe pa_nil (star1 hb)) (star1 ha)
      rw [Bool.or_eq_true] at h
      rcases h with h | h
      · simp only [Bool.and_eq_true, Bool.not_eq_true', decide_eq_true_eq] at h
        obtain ⟨⟨⟨⟨⟨l1, l2⟩, hxy⟩, hl⟩, hf⟩, hc⟩ := h
        have n1 := (lclc_spec h1).1
        have n2 := (lclc_spec h2).1
        exact (ps_par ok.calm ok.nd n1 n2 (fun e => hxy (by rw [e, n2] at n1; exact (Option.some.inj n1).symm)) (isLoc_spec l1) (isLoc_spec l2) P (stores_2 ok.kind (isLoc_spec l1) (isLoc_spec l2) hxy hl ha hb hf hc) swaps_tup).imp fun D σ H h => par2_core h
      · rw [Bool.not_eq_true'] at h
        exact (ps_asg (pe_tup P) (pg_tup (n := 2) ok.calm (pgs_cons (pgn ok h1) (pgs_cons (pgn ok h2) pgs_nil)) rfl rfl) swaps_tup (stores_c2 h)).imp fun D σ H h => par2T_core h
    · cases h
  | .par3 o1 i1 o2 i2 o3 i3 a b d, X, stm, ok, h => by
    rw [ckS.eq_def] at h
    dsimp only at h
    split at h
    · rw [Bool.and_eq_true] at h
      obtain ⟨h0, h⟩ := h
      simp only [Bool.and_eq_true] at h0
      obtain ⟨⟨⟨⟨⟨⟨⟨⟨h1, h2⟩, h3⟩, ha⟩, hb⟩, hd⟩, ca⟩, cb⟩, cd⟩ := h0
      have ok' := ok.toOk
      have P := pa_cons (sndE a ok' ca).pe (pa_cons (sndE b ok' cb).pe (pa_cons (sndE d ok' cd).pe pa_nil (star1 hd)) (star1 hb)) (star1 ha)
      rw [Bool.or_eq_true] at h
      rcases h with h | h
      · simp only [Bool.and_eq_true, Bool.not_eq_true', decide_eq_true_eq] at h
        obtain ⟨⟨⟨⟨⟨⟨⟨⟨⟨l1, l2⟩, l3⟩, hxy⟩, hxz⟩, hyz⟩, hl⟩, hl2⟩, hf⟩, hc⟩ := h
        have n1 := (lclc_spec h1).1
        have n2 := (lclc_spec h2).1
        have n3 := (lclc_spec h3).1
        have l1 := isLoc_spec l1
        have l2 := isLoc_spec l2
        have l3 := isLoc_spec l3
        exact (ps_par3 ok.calm ok.nd n1 n2 n3 (fun e => hxy (by rw [e, n2] at n1; exact (Option.some.inj n1).symm)) (fun e => hxz (by rw [e, n3] at n1; exact (Option.some.inj n1).symm)) (fun e => hyz (by rw [e, n3] at n2; exact (Option.some.inj n2).symm)) l1 l2 l3
          P (stores_3 ok.kind l1 l2 l3 hxy hxz hyz hl hl2 ha hb hd hf hc) swaps_tup).imp fun D σ H h => par3_core h
      · rw [Bool.not_eq_true'] at h
        exact (ps_asg (pe_tup P) (pg_tup (n := 3) ok.calm (pgs_cons (pgn ok h1) (pgs_cons (pgn ok h2) (pgs_cons (pgn ok h3) pgs_nil))) rfl rfl) swaps_tup (stores_c3 h)).imp fun D σ H h => par3T_core h
    · cases h
  | .asg gt a, X, stm, ok, h => by
    rw [ckS.eq_def] at h
    dsimp only at h
    split at h
    · simp only [Bool.and_eq_true] at h
      exact (ps_asg (sndE a ok.toOk h.1.2).pe (ckG_pg ok.toOk (ok.ckg h.1.1)) swaps_tup (stores_no h.2)).imp fun D σ H h => asg_core h
    · cases h
  | .app i a, X, stm, ok, h => by
    rw [ckS.eq_def] at h
    dsimp only at h
    split at h
    · simp only [Bool.and_eq_true, decide_eq_true_eq] at h
      obtain ⟨⟨⟨⟨⟨hN, hv⟩, rfl⟩, hl⟩, hst⟩, ha⟩ := h
      obtain ⟨v1, v2, v3⟩ := vis_spec hv
      exact (ps_expr (pe_bm PySem.F.plainAttrs_list PySem.F.slot_list_append PySem.F.type_list_append mt_append (pe_var hN v1 v2 v3) (pa_cons (sndA ok.toOk a ha) pa_nil (star1 hst)) rfl (few1 hst) hl (star1 hst) rfl)).imp fun D σ H h => app_core h
    · cases h
  | .rem i a, X, stm, ok, h => by
    rw [ckS.eq_def] at h
    dsimp only at h
    split at h
    · simp only [Bool.and_eq_true, decide_eq_true_eq] at h
      obtain ⟨⟨⟨⟨⟨hN, hv⟩, rfl⟩, hl⟩, hst⟩, ha⟩ := h
      obtain ⟨v1, v2, v3⟩ := vis_spec hv
      exact (ps_expr (pe_bm PySem.F.plainAttrs_list PySem.F.slot_list_remove PySem.F.type_list_remove mt_remove (pe_var hN v1 v2 v3) (pa_cons (sndE a ok.toOk ha).pe pa_nil (star1 hst)) rfl (few1 hst) hl (star1 hst) rfl)).imp fun D σ H h => rem_core h
    · cases h
  | .ex a, X, stm, ok, h => by
    rw [ckS.eq_def] at h
    dsimp only at h
    split at h
    · simp only [Bool.and_eq_true, Bool.not_eq_true'] at h
      refine (ps_expr (sndA ok.toOk a h.1) (swaps_none h.2)).imp fun D σ H ⟨g, st, e, S, h⟩ => ?_
      subst e
      rw [exS] at h
      refine ofA S (rsp_ofR h) fun p s1 g1 H1 V1 h hs he k1 S1 r1 => ?_
      have := h (g1.wB g.B) H1 he k1.weak rfl (S1.weak k1.B)
      rw [← hs]
      exact this
    · cases h
  | .setR o i a, X, stm, ok, h => by
    rw [ckS.eq_def] at h
    dsimp only at h
    split at h
    · simp only [Bool.and_eq_true] at h
      have ok' := ok.toOk
      rename_i eo ei p e pos
      have ha : ∀ v, assign (.Subscript eo ei p) X.env v = (do
          let ov ← holding [v] (eval eo X.env)
          let iv ← holding [v, ov] (eval ei X.env)
          standAt p
          holding [v, ov, iv] (setItem ov iv v)
          release [v, ov, iv] []) := by
        intro v
        have hsl := h.1.1.1
        cases ei <;> first | rfl | (cases hsl; done)
      exact (ps_asg (sndE a ok' h.2).pe (pg_sub (sndE o ok' h.1.1.2).pe (sndE i ok' h.1.2).pe set_list ha) swaps_sub stores_sub).imp fun D σ H h => setR_core h
    · cases h
  | .popR o i, X, stm, ok, h => by
    rw [ckS.eq_def] at h
    dsimp only at h
    split at h
    · simp only [Bool.and_eq_true, decide_eq_true_eq] at h
      obtain ⟨⟨⟨⟨⟨hs, rfl⟩, hl⟩, hst⟩, ho⟩, hi⟩ := h
      have ok' := ok.toOk
      rename_i eo apos ei cpos pos
      have hb : attributeBase eo "pop" X.env (eval eo X.env) = eval eo X.env := by
        cases eo <;> first | rfl | (cases hs; done)
      exact (ps_expr (pe_bm PySem.F.plainAttrs_list PySem.F.slot_list_pop PySem.F.type_list_pop mt_popAt (sndE o ok' ho).pe (pa_cons (sndE i ok' hi).pe pa_nil (star1 hst)) hb (few1 hst) hl (star1 hst) rfl)).imp fun D σ H h => popR_core h
    · cases h
  | .frz _, X, stm, ok, h => by
    rw [ckS.eq_def] at h
    cases h
  | .ret a, X, stm, ok, h => by
    rw [ckS.eq_def] at h
    dsimp only at h
    split at h
    · refine (ps_ret (sndE a ok.toOk h).pe).imp fun D σ H ⟨g, st, e, S, h⟩ => ?_
      subst e
      rw [exS] at h
      refine one S (rsp_ofR h) fun x s1 g1 H1 V1 h n1 S1 r1 => ?_
      split at h
      · rename_i y hy
        exact h (g1.wB g.B) H1 V1 (n1.weak.kp S) rfl (S1.weak n1.B) (r1.asR' n1.B S1 hy)
      · exact h.elim
    · cases h
  | .retN, X, stm, ok, h => by
    rw [ckS.eq_def] at h
    dsimp only at h
    split at h
    · exact ps_retN.imp fun D σ H ⟨g, st, e, S, h⟩ => h g H .non .refl rfl S RD.non
    · cases h
  | .ife t a b, X, stm, ok, h => by
    rw [ckS.eq_def] at h
    dsimp only at h
    split at h
    · simp only [Bool.and_eq_true] at h
      obtain ⟨⟨⟨h1, h2⟩, h3⟩, h4⟩ := h
      exact (ps_if ((sndE t ok.toOk h2).pt h1) (sndSs a ok h3) (sndSs b ok h4)).imp fun D σ H h => ife_core h
    · cases h
  | .for_ gt it b, X, stm, ok, h => by
    rw [ckS.eq_def] at h
    dsimp only at h
    split at h
    · simp only [Bool.and_eq_true] at h
      obtain ⟨⟨⟨h1, h2⟩, h3⟩, h4⟩ := h
      exact (ps_for ok.pass ok.calm (sndI it ok.toOk (fun q => ckG_tup h1 q) (bo := false) h3) (ckG_pg ok.toOk (ok.ckg h1)) (sndSs b ok h4) (noSet h2)).imp fun D σ H h => for_core h
    · cases h
  | .whl n t b, X, stm, ok, h => by
    rw [ckS.eq_def] at h
    dsimp only at h
    split at h
    · simp only [Bool.and_eq_true] at h
      exact (ps_while ok.pass ((sndE t ok.toOk h.1.2).pt h.1.1) (sndSs b ok h.2)).imp fun D σ H h => whl_core h
    · cases h
  | .brk, X, stm, ok, h => by
    rw [ckS.eq_def] at h
    dsimp only at h
    split at h
    · exact ps_break.imp fun D σ H ⟨g, st, e, S, h⟩ => by subst e; exact h g H rfl .refl rfl S
    · cases h
  | .cont, X, stm, ok, h => by
    rw [ckS.eq_def] at h
    dsimp only at h
    split at h
    · exact ps_continue.imp fun D σ H ⟨g, st, e, S, h⟩ => by subst e; exact h g H rfl .refl rfl S
    · cases h
  | .dead, X, stm, ok, h => ps_never.imp fun D σ H ⟨g, st, e, S, h⟩ => h
theorem sndSs {T : Tab} {c : Nat → List PV → Sto → R PV} : ∀ (ss : Ss) {X : Cx} {stms : List Stmt}, OkS T c X → ckSs T X.N X.env.scope ss stms = true → PSs X stms (tS X.K (exSs c ss))
  | .nil, X, stms, ok, h => by
    rw [ckSs, List.isEmpty_iff] at h
    subst h
    exact pss_nil.imp fun D σ H ⟨g, st, e, S, h⟩ => by subst e; exact h g H rfl .refl rfl S
  | .cons s ss, X, stms, ok, h => by
    by_cases hf : ∃ i, s = .frz i
    · obtain ⟨i, rfl⟩ := hf
      rw [ckSs.eq_def] at h
      exact (sndSs ss ok h).imp fun D σ H h => frz_ss h
    · cases stms with
      | nil =>
        rw [ckSs.eq_def] at h
        cases s <;> first | (cases h; done) | exact absurd ⟨_, rfl⟩ hf
      | cons e es =>
        have h' : (ckS T X.N X.env.scope s e && ckSs T X.N X.env.scope ss es) = true := by
          rw [ckSs.eq_def] at h
          cases s <;> first | exact h | exact absurd ⟨_, rfl⟩ hf
        rw [Bool.and_eq_true] at h'
        exact (pss_cons (sndS s ok h'.1) (sndSs ss ok h'.2)).imp fun D σ H h => seq_core h
end
end Ev

set_option maxRecDepth 100000
/-! Ev19: defs, and the law. -/
namespace Ev
open PySem L2 PySem.W PyProof.Rows PySem.SeqAt

structure Fd where
  nm : Str
  st : Stmt
  N : List Str
  np : Nat
  body : Ss
def runB : RS → R PV
  | .rt v s => .ok v s
  | .nx _ s => .ok (.d .none) s
  | .ex c fs _ s => .ex c fs s
  | _ => .bad
def inC (n : Nat) (args : List PV) : Envr := args.map .v ++ List.replicate (n - args.length) .no
/-- the defs, to a depth -/
def callL (ds : List Fd) : Nat → Nat → List PV → Sto → R PV
  | 0, _, _, _ => .bad
  | k + 1, n, args, st => match ds[n]? with
    | some d => if args.length = d.np then runB (exSs (callL ds k) d.body (inC d.N.length args) st) else .bad
    | none => .bad
def ckDef (T : Tab) (d : Fd) : Bool := decide ((defScope d.st).kind = .function) && decide ((defScope d.st).isCoroutine = false) && decide ((defScope d.st).isGenerator = false) && decide d.N.Nodup && decide (d.np ≤ d.N.length)
  && ((d.N.take d.np).all fun x => decide ((defScope d.st).names.lookup x = some .local) || decide ((defScope d.st).names.lookup x = some .cell)) && ((defScope d.st).names.all fun y => decide (y.2 ≠ .free))
  && ckSs T d.N (defScope d.st) d.body (defBody d.st)
def Here (K : PySem.W.Frag) (mg : Str → Option Value) (d : Fd) : Prop := ∃ f fd, mg d.nm = some (.ref f) ∧ PySem.W.keepIn K (.ref f) = true ∧ L2.Fun K d.nm d.nm d.st f fd ∧ ∀ us : List Value, us.length = (d.N.take d.np).length → bindArgs fd ⟨us, []⟩ = pure ((d.N.take d.np).zip us)
structure Top (K : PySem.W.Frag) (mg : Str → Option Value) (T : Tab) (ds : List Fd) : Prop where
  ck : ∀ d ∈ ds, ckDef T d = true
  fns : T.fns = ds.map fun d => (d.nm, d.np)
  here : ∀ d ∈ ds, Here K mg d
  blt : ∀ x ∈ T.blt, mg x = none
  con : ∀ x d, (x, d) ∈ T.con → ∃ u v, mg x = some u ∧ RelV v u ∧ ∀ pr H, RD K pr H v d
theorem ckDef_spec {T : Tab} {d : Fd} (h : ckDef T d = true) : FnScope d.N (d.N.take d.np) (defScope d.st) ∧ d.np ≤ d.N.length ∧ ckSs T d.N (defScope d.st) d.body (defBody d.st) = true := by
  unfold ckDef at h
  simp only [Bool.and_eq_true, decide_eq_true_eq, List.all_eq_true, Bool.or_eq_true] at h
  obtain ⟨⟨⟨⟨⟨⟨⟨h1, h2⟩, h3⟩, h4⟩, h5⟩, h6⟩, h7⟩, h8⟩ := h
  have hl : (d.N.take d.np).length = d.np := by rw [List.length_take]; omega
  exact ⟨⟨h1, h2, h3, h4, by rw [hl], h6, h7⟩, h5, h8⟩
section
variable {K : PySem.W.Frag} {g g' : Gs} {st st' : Sto} {H H' : Hp}
theorem inC_get {n : Nat} {args : List PV} {i : Nat} {x : PV} (h : (inC n args)[i]? = some (.v x)) : args[i]? = some x := by
  unfold inC at h
  by_cases hi : i < args.length
  · rw [List.getElem?_append_left (by rw [List.length_map]; exact hi), List.getElem?_map] at h
    cases q : args[i]? with
    | none => rw [q] at h; cases h
    | some y => rw [q] at h; cases h; rfl
  · rw [List.getElem?_append_right (by rw [List.length_map]; omega)] at h
    have := List.mem_of_getElem? h
    rw [List.mem_replicate] at this
    cases this.2
theorem inC_own {n : Nat} {args : List PV} {i : Nat} {x : PyData} (h : (inC n args)[i]? = some (.own x)) : False := by
  have := List.mem_of_getElem? h
  unfold inC at this
  rcases List.mem_append.mp this with q | q
  · obtain ⟨y, _, e⟩ := List.mem_map.mp q; cases e
  · rw [List.mem_replicate] at q; cases q.2
/-- the state at a def's entry -/
theorem Sim.enter {N : List Str} {vs : List V} {args : List PV} (S : Sim K g st H) (he : g.e = []) (hp : Paired (RepK K g H) vs args) (hl : vs.length ≤ N.length) :
    Sim K ⟨g.B, H, g.r, g.r, inC N.length args, L2.start N vs⟩ st H := by
  have pr : ∀ a, Gs.Pr ⟨g.B, H, g.r, g.r, inC N.length args, L2.start N vs⟩ a → g.Pr a := by
    rintro a (h | h | ⟨i, x, h, _⟩)
    · exact .inl h
    · exact .inr (.inl h)
    · exact (inC_own h).elim
  have hlen : vs.length = args.length := Paired.length hp
  exact {
    len := by
      show (inC N.length args).length = (L2.start N vs).length
      unfold inC L2.start
      rw [List.length_append, List.length_append, List.length_map, List.length_map, List.length_replicate, List.length_replicate, hlen]
    val := fun i x h => by
      have hx := inC_get h
      have hi : i < args.length := (List.getElem?_eq_some_iff.mp hx).1
      have gp : ∀ {vs : List V} {args : List PV} {i : Nat}, Paired (RepK K g H) vs args → args[i]? = some x → ∃ v, vs[i]? = some v ∧ RepK K g H v x := by
        intro vs args i p
        induction p generalizing i with
        | nil => intro e; simp at e
        | cons r t ih =>
          intro e
          cases i with
          | zero => simp at e; subst e; exact ⟨_, rfl, r⟩
          | succ i => simpa using ih (by simpa using e)
      obtain ⟨v, hv, r⟩ := gp hp hx
      refine ⟨v, ?_, RepK.pr (ga := g) (gb := ⟨g.B, H, g.r, g.r, inC N.length args, L2.start N vs⟩) rfl pr r⟩
      show (L2.start N vs)[i]? = _
      unfold L2.start
      rw [List.getElem?_append_left (by rw [List.length_map, hlen]; exact hi), List.getElem?_map, hv]
      rfl
    own := fun i x h => (inC_own h).elim
    inj := fun i j x y a h => (inC_own h).elim
    slen := S.slen
    sto := fun n o h => let ⟨a, h1, h2⟩ := S.sto n o h; ⟨a, h1, ObAt.pr (ga := g) (gb := ⟨g.B, H, g.r, g.r, inC N.length args, L2.start N vs⟩) rfl pr h2⟩
    rB := S.rB
    nd := S.nd
    bt := S.bt
    pre := List.prefix_refl _
    new := fun a h => .inl h
    fr := fun a o h _ => h }
/-- .. and behind it -/
theorem Sim.leave {e0 : Envr} {s0 : L2.St} (S : Sim K g st H) (he : g.e = []) (hs : g.s = []) (k : Kp ⟨g.B, H, g.r, g.r, e0, s0⟩ g' H H') (hB : g'.B = g.B) (S' : Sim K g' st' H') :
    Nx g { g with r := g'.r } H H' ∧ Sim K { g with r := g'.r } st' H' ∧ ∀ a, Gs.Pr { g with r := g'.r } a → g'.Pr a := by
  have pr : ∀ a, Gs.Pr { g with r := g'.r } a → g'.Pr a := by
    rintro a (h | h | ⟨i, x, h, _⟩)
    · exact .inl (by rw [hB]; exact h)
    · exact .inr (.inl h)
    · have h : g.e[i]? = some (.own x) := h
      rw [he] at h; simp at h
  have rn : ∀ a ∈ g'.r, a ∈ g.r ∨ H a = none := fun a h => by
    have := S'.new a h
    rw [k.r0, k.h0] at this
    exact this
  have fr : ∀ a o, H a = some o → a ∉ g.r → H' a = some o := fun a o h hr => S'.fr a o (by rw [k.h0]; exact h) (by rw [k.r0]; exact hr)
  have pre : g.r <+: g'.r := k.pre
  refine ⟨⟨rfl, rfl, rfl, rfl, fun _ h => h, fun _ h => .inl h, pre, rn, fr⟩, ?_, pr⟩
  exact {
    len := S.len
    val := fun i x h => by have h : g.e[i]? = _ := h; rw [he] at h; simp at h
    own := fun i x h => by have h : g.e[i]? = _ := h; rw [he] at h; simp at h
    inj := fun i j x y a h => by have h : g.e[i]? = _ := h; rw [he] at h; simp at h
    slen := S'.slen
    sto := fun n o h => let ⟨a, h1, h2⟩ := S'.sto n o h; ⟨a, h1, ObAt.pr (ga := g') (gb := { g with r := g'.r }) rfl pr h2⟩
    rB := fun a h q => S'.rB a h (by rw [hB]; exact q)
    nd := S'.nd
    bt := fun a h => S'.bt a (by rw [hB]; exact h)
    pre := S.pre.trans pre
    new := fun a h => by
      rcases rn a h with h | h
      · exact S.new a h
      · exact .inr (S.h0 h)
    fr := fun a o h hr => by
      refine fr a o (S.fr a o h hr) fun q => ?_
      rcases S.new a q with q | q
      · exact hr q
      · rw [h] at q; cases q }
end
theorem callL_len {ds : List Fd} {k n : Nat} {d : Fd} {args : List PV} {st : Sto} (hd : ds[n]? = some d) (h : args.length ≠ d.np) : callL ds k n args st = .bad := by
  cases k with
  | zero => rfl
  | succ k => rw [callL, hd]; dsimp only; rw [if_neg h]
/-- all defs, to any depth -/
theorem defs_ok {P : Program} {w : World} {K : PySem.W.Frag} {mg : Str → Option Value} {base : Heap} {T : Tab} {ds : List Fd} (top : Top K mg T ds) :
    ∀ (k n : Nat) (d : Fd) (f : Addr) (fd : FuncData), ds[n]? = some d → L2.Fun K d.nm d.nm d.st f fd → FnOk P w K mg base (L2.CX P w) k f fd (d.N.take d.np) (spF K (callL ds k) n d.np)
  | 0, n, d, f, fd, hd, F => ⟨fun vs H Q E ⟨_, g, st, args, _, _, _, _, h⟩ => h.elim, fun A outer s H args us vs Q E _ _ _ _ ⟨_, g, st, args', _, _, _, _, h⟩ => h.elim⟩
  | k + 1, n, d, f, fd, hd, F => by
    obtain ⟨sc, hnp, hck⟩ := ckDef_spec (top.ck d (List.mem_of_getElem? hd))
    have hl : (d.N.take d.np).length = d.np := by rw [List.length_take]; omega
    refine F.okX sc (fun vs H Q E ⟨h, _⟩ => by rw [hl]; exact h) fun cdv A outer s H vs Q E hr ⟨hv, g, st, args, he, hs, S, hp, h⟩ => ?_
    have ok : OkS T (callL ds k) (cxOf (L2.CX P w) P w K mg base d.N d.nm (defScope d.st) f cdv A outer s H E) := {
      calm := rfl
      nd := sc.nd
      hu := by have := hr.un; show (A.deeper _).units + 100 < cLine; omega
      blt := top.blt
      con := top.con
      ar := fun n x m hn xs st hne => by
        rw [top.fns, List.getElem?_map, Option.map_eq_some_iff] at hn
        obtain ⟨d', h1, h2⟩ := hn
        cases h2
        exact callL_len h1 hne
      fns := fun n x m hn => by
        rw [top.fns, List.getElem?_map, Option.map_eq_some_iff] at hn
        obtain ⟨d', h1, h2⟩ := hn
        cases h2
        obtain ⟨f', fd', q1, q2, q3, q4⟩ := top.here d' (List.mem_of_getElem? h1)
        exact ⟨k, f', fd', _, q1, q2, .all q4, defs_ok top k n d' f' fd' h1 q3, hr⟩
      kind := sc.kind
      fn := fun _ => rfl
      pass := passes_of rfl }
    refine ⟨_, sndSs d.body ok hck, ?_⟩
    have S0 := S.enter (N := d.N) he hp (by omega)
    refine ⟨_, st, rfl, S0, ?_⟩
    have hal : args.length = d.np := by rw [← Paired.length hp]; exact hv
    rw [callL, hd] at h
    dsimp only at h
    rw [if_pos hal] at h
    show rsp (exSs (callL ds k) d.body (inC d.N.length args) st) _ _ _ _
    cases hx : exSs (callL ds k) d.body (inC d.N.length args) st with
    | nx e1 s1 =>
      rw [hx] at h
      have h : ∀ g' H' w, Nx g g' H H' → Sim K g' s1 H' → g'.B = g.B → RepK K g' H' w (.d .none) → Q w H' := h
      intro g' H' _ kk hB S'
      obtain ⟨k1, k2, k3⟩ := S.leave he hs kk hB S'
      exact h _ H' .non k1 k2 rfl RD.non
    | rt v s1 =>
      rw [hx] at h
      have h : ∀ g' H' w, Nx g g' H H' → Sim K g' s1 H' → g'.B = g.B → RepK K g' H' w v → Q w H' := h
      intro g' H' u kk hB S' r
      obtain ⟨k1, k2, k3⟩ := S.leave he hs kk hB S'
      exact h _ H' u k1 k2 rfl (RepK.pr (ga := g') (gb := { g with r := g'.r }) rfl k3 r)
    | br _ _ => rw [hx] at h; exact h.elim
    | ct _ _ => rw [hx] at h; exact h.elim
    | ex _ _ _ _ => rw [hx] at h; exact h.elim
    | bad => rw [hx] at h; exact h.elim
/-- the law's promise, from what the interpreter says -/
theorem law_sp {K : PySem.W.Frag} {ds : List Fd} {k n : Nat} {H : Hp} {a : Addr} {ns : List Int} {E : XK} (hS : SqL K H a (ns.map V.int)) (h : ∃ st', callL ds k n [.d (.list (ns.map .int))] [] = .ok (.d (.bool true)) st') :
    spF K (callL ds k) n 1 [.ref a] H (fun v _ => v = .bl true) E := by
  obtain ⟨st', h⟩ := h
  refine ⟨rfl, ⟨nopr, H, [], [], [], []⟩, [], [.d (.list (ns.map .int))], rfl, rfl, ?_, .cons ?_ .nil, ?_⟩
  · exact {
      len := rfl
      val := fun i x h => by simp at h
      own := fun i x h => by simp at h
      inj := fun i j x y a h => by simp at h
      slen := rfl
      sto := fun n o h => by simp at h
      rB := fun a h => by simp at h
      nd := by simp
      bt := fun a h => h.elim
      pre := List.prefix_refl _
      new := fun a h => by simp at h
      fr := fun a o h _ => h }
  · show RD K _ H (.ref a) (.list (ns.map .int))
    rcases hS with hS | hS
    · refine .lst hS ?_ (RDs.ints ns)
      rintro (q | q | ⟨i, x, q, _⟩)
      · exact q
      · simp at q
      · simp at q
    · exact .lstK hS (RDs.ints ns)
  · rw [h]
    intro g' H' w _ _ _ r
    have r : RD K g'.Pr H' w (.bool true) := r
    cases r
    rfl
end Ev

set_option maxRecDepth 100000
/-! Ev20: what the top has written; the end. -/
namespace Ev
open PySem L2 PySem.W PyProof.Rows PySem.SeqAt

theorem here_mk {K : PySem.W.Frag} {h : Heap} {mg : Str → Option Value} {d : Fd} {f : Addr} {oc : Value} {od an : Option Addr} {sl : Array (Option Value)} {kV dc pm cd ct : Value} (X : K.In h) (G : h.Ns mainGlobals mg)
    (b : ∀ (kV doc pm : Value) (an : Option Addr) (cdv ct : Value) (us : List Value), us.length = (d.N.take d.np).length → bindArgs (PySem.W.fnOf d.nm d.nm (defArgs d.st) (defBody d.st) (defScope d.st) .none kV doc pm an cdv ct) ⟨us, []⟩ = pure ((d.N.take d.np).zip us))
    (a : PySem.W.nsIn K mainGlobals d.nm = some (some (.ref f)))
    (l : K.lookup f = some ⟨oc, od, .func (PySem.W.fnOf d.nm d.nm (defArgs d.st) (defBody d.st) (defScope d.st) .none kV dc pm an cd ct), sl⟩)
    (c : PySem.W.codeIn K cd d.nm = true) (k : PySem.W.keepIn K (.ref f) = true) : Here K mg d :=
  ⟨f, _, PySem.W.mg_of X G a, k, fun_mk (st := d.st) l c k, b kV dc pm an cd ct⟩
/-- the frag is read off what is in the heap -/
abbrev HereOf {K : PySem.W.Frag} {h : Heap} (_ : K.In h) (mg : Str → Option Value) (d : Fd) : Prop := Here K mg d
def ConAt (K : PySem.W.Frag) (mg : Str → Option Value) (x : Str) (d : PyData) : Prop := ∃ u v, mg x = some u ∧ RelV v u ∧ ∀ pr H, RD K pr H v d
theorem con_int {K : PySem.W.Frag} {h : Heap} {mg : Str → Option Value} {x : Str} {i : Int} {t : Tok} (X : K.In h) (G : h.Ns mainGlobals mg) (a : PySem.W.nsIn K mainGlobals x = some (some (.int i t))) : ConAt K mg x (.int i) :=
  ⟨_, .int i, PySem.W.mg_of X G a, ⟨t, rfl⟩, fun _ _ => .int i⟩
theorem con_str {K : PySem.W.Frag} {h : Heap} {mg : Str → Option Value} {x : Str} {i : Str} {t : Tok} (X : K.In h) (G : h.Ns mainGlobals mg) (a : PySem.W.nsIn K mainGlobals x = some (some (.str i t))) : ConAt K mg x (.str i) :=
  ⟨_, .str i, PySem.W.mg_of X G a, ⟨t, rfl⟩, fun _ _ => .str i⟩
theorem all_nil {α : Type} {P : α → Prop} : ∀ d ∈ ([] : List α), P d := fun _ h => nomatch h
theorem all_cons {α : Type} {P : α → Prop} {a : α} {l : List α} (h : P a) (t : ∀ d ∈ l, P d) : ∀ d ∈ a :: l, P d := fun d hd => by
  rcases List.mem_cons.mp hd with e | e
  · rw [e]; exact h
  · exact t d e
theorem con_all {K : PySem.W.Frag} {mg : Str → Option Value} {l : List (Str × PyData)} (h : ∀ p ∈ l, ConAt K mg p.1 p.2) : ∀ x d, (x, d) ∈ l → ConAt K mg x d := fun x d q => h (x, d) q
/-- the law's def, with its promise, at every base -/
theorem law_fn {l : PySem.W.OpenLaw} {w : World} {K : PySem.W.Frag} {mg : Str → Option Value} {fa : Addr} {T : Tab} {ds : List Fd} {k n : Nat} {d : Fd} {x : Str} (top : Top K mg T ds) (hd : ds[n]? = some d) (hnp : d.N.take d.np = [x]) (hp : d.np = 1) (hfa : mg d.nm = some (.ref fa)) :
    ∃ fd : FuncData, (∀ (s : Shared) (u : Value), BindsTo s fd ⟨[u], []⟩ [(x, u)]) ∧ ∀ base : Heap, K.In base → base.Ns mainGlobals mg → FnOk l.prog w K mg base (L2.CX l.prog w) k fa fd [x] (spF K (callL ds k) n 1) := by
  obtain ⟨f, fd, h1, h2, h3, h4⟩ := top.here d (List.mem_of_getElem? hd)
  rw [hfa] at h1
  cases h1
  refine ⟨fd, fun s u => ?_, fun base _ _ => ?_⟩
  · have := h4 [u] (by rw [hnp]; rfl)
    rw [hnp] at this
    exact .of_eq this
  · have := defs_ok (P := l.prog) (w := w) (base := base) top k n d fa fd hd h3
    rw [hnp, hp] at this
    exact this
/-- the walk, by what the interpreter says -/
theorem ev_walk {l : PySem.W.OpenLaw} {q : Program} {loose : List Str} {XP : (Str → Option Value) → Heap → Prop} {YP : World → Heap → Prop} {d : DefRec} {K : Params → PySem.W.Frag} {x : Str} (T : Tab) (ds : List Fd) (k n : Nat) (ld : Fd) (hn : l.most = some 63) (hdf : d.params.defaults = [])
    (hd : ds[n]? = some ld) (hnp : ld.N.take ld.np = [x]) (hp : ld.np = 1) (hnm : ld.nm = d.name) (hr : Room k callerA)
    (hY : ∀ (w : World) (h : Heap), YP w h → (K w.params).In h)
    (F : ∀ (w : World) (mg : Str → Option Value) (h : Heap), (K w.params).In h → h.Ns mainGlobals mg → Top (K w.params) mg T ds)
    (hl : ∀ ns : List Int, ns.length ≤ 63 → (∀ z ∈ ns, Builtin.Int.intBits z ≤ 1048576) → ∃ st', callL ds k n [.d (.list (ns.map .int))] [] = .ok (.d (.bool true)) st') :
    PySem.W.WalkO q loose XP YP l.row.toRowW d [] (fun f vs => PySem.call f vs) :=
  L2.walk_ofB (n := 63) (k := k) (x := x) (CX := fun w => L2.CX l.prog w) (sp := fun w => spF (K w.params) (callL ds k) n 1) hn (by decide) hdf hr hY
    (fun w mg fa h KX G hfa => law_fn (F w mg h KX G) hd hnp hp (by rw [hnm]; exact hfa)) (fun _ _ a ns hlen hb _ hS => law_sp hS (hl ns hlen hb)) fun w H s e s' h => by
      obtain ⟨_, _, _, _, _, _, _, _, _, _, _, _, z⟩ := h
      exact z
end Ev

set_option maxRecDepth 100000
/-! Ev21: plain laws of the interpreter. -/
namespace Ev
open PySem

/-! ### small steps, one rewriting a piece -/
section
variable {c : Nat → List PV → Sto → R PV} {e : Envr} {st : Sto}
theorem x_nil : exSs c .nil e st = .nx e st := rfl
theorem x_cons (s : S) (ss : Ss) : exSs c (.cons s ss) e st = (exS c s e st).then fun e1 s1 => exSs c ss e1 s1 := rfl
theorem opt_some {α : Type} (a : α) (s : Sto) : R.opt (some a) s = .ok a s := rfl
theorem noEx_ok {α : Type} (a : α) (s : Sto) : noEx (R.ok a s) = .ok a s := rfl
/-- what is to be done next: simp does not look into it (it goes into no instance) -/
class Ct (α β : Type) where
  f : α → Sto → β
class Cs where
  f : Envr → Sto → RS
def R.bindI {α β : Type} (r : R α) [k : Ct α (R β)] : R β := r.bind k.f
def RS.ofRI {α : Type} (e : Envr) (r : R α) [k : Ct α RS] : RS := RS.ofR e r k.f
def RS.thenI (r : RS) [k : Cs] : RS := r.then k.f
theorem bind_I {α β : Type} (r : R α) (f : α → Sto → R β) : r.bind f = R.bindI r (k := ⟨f⟩) := rfl
theorem ofR_I {α : Type} (r : R α) (f : α → Sto → RS) : RS.ofR e r f = RS.ofRI e r (k := ⟨f⟩) := rfl
theorem then_I (r : RS) (f : Envr → Sto → RS) : r.then f = RS.thenI r (k := ⟨f⟩) := rfl
theorem then_nx (e1 : Envr) (s1 : Sto) (f : Envr → Sto → RS) : RS.thenI (RS.nx e1 s1) (k := ⟨f⟩) = f e1 s1 := rfl
theorem then_rt (v : PV) (s1 : Sto) (f : Envr → Sto → RS) : RS.thenI (RS.rt v s1) (k := ⟨f⟩) = .rt v s1 := rfl
theorem ofR_ok {α : Type} (a : α) (s : Sto) (f : α → Sto → RS) : RS.ofRI e (.ok a s) (k := ⟨f⟩) = f a s := rfl
theorem bind_ok {α β : Type} (a : α) (s : Sto) (f : α → Sto → R β) : R.bindI (R.ok a s) (k := ⟨f⟩) = f a s := rfl
theorem e_var (i : Nat) : evE c (.var i) e st = match e[i]? with
    | some (.v x) => .ok x st
    | some (.own x) => .ok (.bor x) st
    | _ => .bad := rfl
theorem e_lit (x : PyData) : evE c (.lit x) e st = .ok (.d x) st := rfl
theorem e_con (y : Str) (x : PyData) : evE c (.con y x) e st = .ok (.d x) st := rfl
theorem e_ty (y : Str) (n : String) : evE c (.ty y n) e st = .ok (.ty n) st := rfl
theorem e_op (o : Op2) (a b : E) : evE c (.op o a b) e st = (evE c a e st).bind fun x s1 => (evE c b e s1).bind fun y s2 => R.opt ((rd x s2).bind fun u => (rd y s2).bind fun w => opD o u w) s2 := rfl
theorem e_neg (a : E) : evE c (.neg a) e st = (evE c a e st).bind fun x s1 => match x with
    | .d (.int i) => .ok (.d (.int (-i))) s1
    | _ => .bad := rfl
theorem e_cmp (o : Cm) (a b : E) : evE c (.cmp o a b) e st = (evE c a e st).bind fun x s1 => (evE c b e s1).bind fun y s2 => R.opt ((rd x s2).bind fun u => (rd y s2).bind fun w => (cmpD o u w).map fun b => .d (.bool b)) s2 := rfl
theorem e_chn (o o2 : Cm) (a b b2 : E) : evE c (.chn o o2 a b b2) e st = (evE c a e st).bind fun x s1 => (evE c b e s1).bind fun y s2 =>
      match (rd x s2).bind fun u => (rd y s2).bind fun w => cmpD o u w with
      | some true => (evE c b2 e s2).bind fun z s3 => R.opt ((rd y s3).bind fun u => (rd z s3).bind fun w => (cmpD o2 u w).map fun b => .d (.bool b)) s3
      | some false => .ok (.d (.bool false)) s2
      | none => .bad := rfl
theorem e_andd (a b : E) : evE c (.andd a b) e st = (evE c a e st).bind fun x s1 => match x with
    | .d (.bool true) => (evE c b e s1).bind fun y s2 => R.opt ((asB y).map fun k => .d (.bool k)) s2
    | .d (.bool false) => .ok (.d (.bool false)) s1
    | _ => .bad := rfl
theorem e_orr (a b : E) : evE c (.orr a b) e st = (evE c a e st).bind fun x s1 => match x with
    | .d (.bool false) => (evE c b e s1).bind fun y s2 => R.opt ((asB y).map fun k => .d (.bool k)) s2
    | .d (.bool true) => .ok (.d (.bool true)) s1
    | _ => .bad := rfl
theorem e_nott (a : E) : evE c (.nott a) e st = (evE c a e st).bind fun x s1 => match x with
    | .d (.bool k) => .ok (.d (.bool (!k))) s1
    | _ => .bad := rfl
theorem e_ife (t a b : E) : evE c (.ife t a b) e st = (evE c t e st).bind fun x s1 => match x with
    | .d (.bool true) => evE c a e s1
    | .d (.bool false) => evE c b e s1
    | _ => .bad := rfl
theorem e_tup (es : Es) : evE c (.tup es) e st = (evDs c es e st).bind fun xs s1 => if xs.length ≤ sizeLine then .ok (.d (.tuple xs)) s1 else .bad := rfl
theorem e_lst (es : Es) : evE c (.lst es) e st = (evDs c es e st).bind fun xs s1 => if xs.length ≤ sizeLine then .ok (.fre (.list xs)) s1 else .bad := rfl
theorem e_lstR (es : Es) : evE c (.lstR es) e st = (evRs c es e st).bind fun xs s1 => if xs.length ≤ sizeLine then .ok (.ref s1.length) (s1 ++ [.lst xs]) else .bad := rfl
theorem e_box (a : E) : evE c (.box a) e st = (evE c a e st).bind fun x s1 => match x with
    | .fre (.list xs) => .ok (.ref s1.length) (s1 ++ [.lst (xs.map .d)])
    | _ => .bad := rfl
theorem e_ix (a i : E) : evE c (.ix a i) e st = (evE c a e st).bind fun x s1 => (evE c i e s1).bind fun y s2 => match x, y with
    | .ref n, .d (.int j) => match s2[n]? with
      | some (.lst xs) => R.opt (L2.atI xs j) s2
      | _ => .bad
    | _, _ => R.opt ((rd x s2).bind fun u => (rd y s2).bind fun w => (ixD u w).map .d) s2 := rfl
theorem e_sl (a : E) (lo hi : P) : evE c (.sl a lo hi) e st = (evE c a e st).bind fun x s1 => (evP c lo e s1).bind fun i s2 => (evP c hi e s2).bind fun j s3 => R.opt ((rd x s3).bind fun u => slD u i j) s3 := rfl
theorem e_rev (a : E) : evE c (.rev a) e st = (evE c a e st).bind fun x s1 => match rd x s1 with
    | some (.list xs) => .ok (.fre (.list xs.reverse)) s1
    | _ => .bad := rfl
theorem e_call (f : Nat) (es : Es) : evE c (.call f es) e st = (evRs c es e st).bind fun xs s1 => c f xs s1 := rfl
theorem e_bi (b : Bi) (es : Es) : evE c (.bi b es) e st = (evAs c es e st).bind fun xs s1 => R.opt (biV b xs s1) s1 := rfl
theorem e_lrng (tp : Bool) (a b : E) : evE c (.lrng tp a b) e st = (evE c a e st).bind fun x s1 => (evE c b e s1).bind fun y s2 => match x, y with
    | .d (.int i), .d (.int j) => if smallI i && smallI j && decide ((j - i).toNat ≤ sizeLine) then .ok (cond tp (.d (.tuple (rgL i j))) (.fre (.list (rgL i j)))) s2 else .bad
    | _, _ => .bad := rfl
theorem e_lc (own : List Nat) (g : G) (it : It) (ts : Es) (y : E) : evE c (.lc own g it ts y) e st = if own.all (notOwn e) then (evI c it true e st).bind fun xs s1 =>
      (lcL (fun x s => match asg (wipeC e own) g x with
        | some e1 => (noEx (evTs c ts e1 s)).bind fun b s2 => if b then (noEx (evE c y e1 s2)).bind fun v s3 => R.opt ((asD v).map some) s3 else .ok none s2
        | none => .bad) xs s1 []).bind fun ys s2 => .ok (.fre (.list ys)) s2
    else .bad := rfl
theorem e_dc (own : List Nat) (g : G) (it : It) (ts : Es) (k y : E) : evE c (.dc own g it ts k y) e st = if own.all (notOwn e) then (evI c it true e st).bind fun xs s1 =>
      (dcL (fun x s => match asg (wipeC e own) g x with
        | some e1 => (noEx (evTs c ts e1 s)).bind fun b s2 => if b then (noEx (evE c k e1 s2)).bind fun u s3 => (noEx (evE c y e1 s3)).bind fun v s4 => match u, asD v with
          | .d (.int i), some _ => .ok (some i) s4
          | _, _ => .bad
          else .ok none s2
        | none => .bad) xs s1 []).bind fun ys s2 => .ok (.d (.int ys.length)) s2
    else .bad := rfl
theorem runB_rt (v : PV) (s : Sto) : runB (.rt v s) = .ok v s := rfl
theorem runB_nx (e : Envr) (s : Sto) : runB (.nx e s) = .ok (.d .none) s := rfl
theorem s_set (own : Bool) (i : Nat) (a : A) : exS c (.set own i a) e st = RS.ofR e (evA c a e st) fun p s1 => match putC own i p.1 p.2 with
    | some e1 => .nx e1 s1
    | none => .bad := rfl
theorem s_par2 (o1 : Bool) (i1 : Nat) (o2 : Bool) (i2 : Nat) (a b : E) : exS c (.par2 o1 i1 o2 i2 a b) e st = RS.ofR e (evE c a e st) fun x s1 => RS.ofR e (evE c b e s1) fun y s2 =>
      match (putC o1 i1 x e).bind fun e1 => putC o2 i2 y e1 with
      | some e2 => .nx e2 s2
      | none => .bad := rfl
theorem s_par3 (o1 : Bool) (i1 : Nat) (o2 : Bool) (i2 : Nat) (o3 : Bool) (i3 : Nat) (a b d : E) : exS c (.par3 o1 i1 o2 i2 o3 i3 a b d) e st = RS.ofR e (evE c a e st) fun x s1 => RS.ofR e (evE c b e s1) fun y s2 => RS.ofR e (evE c d e s2) fun z s3 =>
      match ((putC o1 i1 x e).bind fun e1 => putC o2 i2 y e1).bind fun e2 => putC o3 i3 z e2 with
      | some e2 => .nx e2 s3
      | none => .bad := rfl
theorem s_asg (g : G) (a : E) : exS c (.asg g a) e st = RS.ofR e (evE c a e st) fun x s1 => match (asD x).bind fun d => asg e g d with
    | some e1 => .nx e1 s1
    | none => .bad := rfl
theorem s_app (i : Nat) (a : A) : exS c (.app i a) e st = RS.ofR e (evA c a e st) fun p s1 => match asD p.1, p.2[i]? with
    | some d, some (.own (.list ds)) => if ds.length < sizeLine then .nx (p.2.set i (.own (.list (ds ++ [d])))) s1 else .bad
    | _, _ => .bad := rfl
theorem s_ex (a : A) : exS c (.ex a) e st = RS.ofR e (evA c a e st) fun p s1 => .nx p.2 s1 := rfl
theorem s_frz (i : Nat) : exS c (.frz i) e st = match e[i]? with
    | some (.own x) => .nx (e.set i (.v (.d x))) st
    | _ => .bad := rfl
theorem s_ret (a : E) : exS c (.ret a) e st = RS.ofR e (evE c a e st) fun x s1 => match asR x with
    | some y => .rt y s1
    | none => .bad := rfl
theorem s_retN : exS c .retN e st = .rt (.d .none) st := rfl
theorem s_ife (t : E) (a b : Ss) : exS c (.ife t a b) e st = RS.ofR e (evE c t e st) fun x s1 => match asB x with
    | some true => exSs c a e s1
    | some false => exSs c b e s1
    | none => .bad := rfl
theorem s_for (g : G) (it : It) (b : Ss) : exS c (.for_ g it b) e st = RS.ofR e (evI c it false e st) fun xs s1 => forL (exSs c b) g xs e s1 := rfl
theorem s_whl (n : Nat) (t : E) (b : Ss) : exS c (.whl n t b) e st = whlL (evE c t) (exSs c b) n e st := rfl
theorem s_brk : exS c .brk e st = .br e st := rfl
theorem s_cont : exS c .cont e st = .ct e st := rfl
theorem s_dead : exS c .dead e st = .bad := rfl
end
theorem callL_some {ds : List Fd} {k n : Nat} {d : Fd} {args : List PV} {st : Sto} (h : ds[n]? = some d) (hl : args.length = d.np) : callL ds (k + 1) n args st = runB (exSs (callL ds k) d.body (inC d.N.length args) st) := by
  rw [callL, h]; dsimp only; rw [if_pos hl]
theorem lcL_map {α : Type} {f : PyData → Sto → R (Option PyData)} {enc g : α → PyData} {st : Sto} : ∀ {l : List α} {acc : List PyData}, (∀ a ∈ l, f (enc a) st = .ok (some (g a)) st) → acc.length + l.length ≤ sizeLine → lcL f (l.map enc) st acc = .ok (acc ++ l.map g) st
  | [], acc, _, _ => by simp [lcL]
  | a :: l, acc, h, hz => by
    have h1 := h a List.mem_cons_self
    rw [List.length_cons] at hz
    simp only [List.map_cons, lcL, h1, R.bind]
    rw [if_pos (by omega), lcL_map (fun b hb => h b (List.mem_cons_of_mem _ hb)) (by rw [List.length_append, List.length_singleton]; omega)]
    simp
theorem lcL_filt {α : Type} {f : PyData → Sto → R (Option PyData)} {enc g : α → PyData} {p : α → Bool} {st : Sto} : ∀ {l : List α} {acc : List PyData}, (∀ a ∈ l, f (enc a) st = .ok (if p a = true then some (g a) else none) st) → acc.length + l.length ≤ sizeLine → lcL f (l.map enc) st acc = .ok (acc ++ (l.filter p).map g) st
  | [], acc, _, _ => by simp [lcL]
  | a :: l, acc, h, hz => by
    have h1 := h a List.mem_cons_self
    rw [List.length_cons] at hz
    simp only [List.map_cons, lcL, h1, R.bind]
    cases hp : p a with
    | true =>
      simp only [if_true, List.filter_cons, hp]
      rw [if_pos (by omega), lcL_filt (p := p) (g := g) (fun b hb => h b (List.mem_cons_of_mem _ hb)) (by rw [List.length_append, List.length_singleton]; omega)]
      simp
    | false =>
      simp only [Bool.false_eq_true, if_false, List.filter_cons, hp]
      exact lcL_filt (p := p) (g := g) (fun b hb => h b (List.mem_cons_of_mem _ hb)) (by omega)
theorem dcL_map {α : Type} {f : PyData → Sto → R (Option Int)} {enc : α → PyData} {g : α → Int} {st : Sto} : ∀ {l : List α} {acc : List Int}, (∀ a ∈ l, f (enc a) st = .ok (some (g a)) st) → (l.map g).Nodup → (∀ a ∈ l, g a ∉ acc) → acc.length + l.length ≤ sizeLine → dcL f (l.map enc) st acc = .ok (acc ++ l.map g) st
  | [], acc, _, _, _, _ => by simp [dcL]
  | a :: l, acc, h, hn, ha, hz => by
    have h1 := h a List.mem_cons_self
    rw [List.length_cons] at hz
    rw [List.map_cons, List.nodup_cons] at hn
    simp only [List.map_cons, dcL, h1, R.bind]
    rw [if_pos (by omega), if_neg (ha a List.mem_cons_self), dcL_map (fun b hb => h b (List.mem_cons_of_mem _ hb)) hn.2 (fun b hb q => by
      rcases List.mem_append.mp q with q | q
      · exact ha b (List.mem_cons_of_mem _ hb) q
      · rw [List.mem_singleton] at q
        exact hn.1 (List.mem_map.mpr ⟨b, hb, q⟩)) (by rw [List.length_append, List.length_singleton]; omega)]
    simp
/-- a loop that goes to its end -/
theorem forL_rel {α β : Type} {b : Envr → Sto → RS} {gt : G} {encX : α → PyData} {f : β → α → β} {Rel : List α → β → Envr → Prop} {st : Sto}
    (h : ∀ a r s e, Rel (a :: r) s e → ∃ e1 e2, asg e gt (encX a) = some e1 ∧ b e1 st = .nx e2 st ∧ Rel r (f s a) e2) : ∀ {l : List α} {s : β} {e : Envr}, Rel l s e → ∃ e', forL b gt (l.map encX) e st = .nx e' st ∧ Rel [] (l.foldl f s) e'
  | [], s, e, hr => ⟨e, rfl, hr⟩
  | a :: l, s, e, hr => by
    obtain ⟨e1, e2, h1, h2, h3⟩ := h a l s e hr
    simp only [List.map_cons, forL, h1, h2, List.foldl_cons]
    exact forL_rel h h3
/-- what a loop that may be left by a return comes to -/
def retF {α β γ : Type} (f : β → α → β) (q : β → α → Option γ) : List α → β → γ ⊕ β
  | [], s => .inr s
  | a :: r, s => match q s a with
    | some v => .inl v
    | none => retF f q r (f s a)
theorem forL_ret {α β γ : Type} {b : Envr → Sto → RS} {gt : G} {encX : α → PyData} {encV : γ → PV} {f : β → α → β} {q : β → α → Option γ} {Rel : List α → β → Envr → Prop} {st : Sto}
    (h : ∀ a r s e, Rel (a :: r) s e → ∃ e1, asg e gt (encX a) = some e1 ∧ ((∃ v, q s a = some v ∧ b e1 st = .rt (encV v) st) ∨ (q s a = none ∧ ∃ e2, b e1 st = .nx e2 st ∧ Rel r (f s a) e2))) : ∀ {l : List α} {s : β} {e : Envr}, Rel l s e →
      (∃ v, retF f q l s = .inl v ∧ forL b gt (l.map encX) e st = .rt (encV v) st) ∨ ∃ s' e', retF f q l s = .inr s' ∧ forL b gt (l.map encX) e st = .nx e' st ∧ Rel [] s' e'
  | [], s, e, hr => .inr ⟨s, e, rfl, rfl, hr⟩
  | a :: l, s, e, hr => by
    obtain ⟨e1, h1, h2⟩ := h a l s e hr
    simp only [List.map_cons, forL, h1, retF]
    rcases h2 with ⟨v, h2, h3⟩ | ⟨h2, e2, h3, h4⟩
    · rw [h2, h3]
      exact .inl ⟨v, rfl, rfl⟩
    · rw [h2, h3]
      exact forL_ret h h4
theorem whlL_rel {β : Type} {t : Envr → Sto → R PV} {b : Envr → Sto → RS} {c : β → Bool} {f : β → β} {m : β → Nat} {Rel : β → Envr → Prop} {st : Sto}
    (ht : ∀ s e, Rel s e → t e st = .ok (.d (.bool (c s))) st) (hb : ∀ s e, Rel s e → c s = true → m (f s) < m s ∧ ∃ e2, b e st = .nx e2 st ∧ Rel (f s) e2) : ∀ {n : Nat} {s : β} {e : Envr}, Rel s e → m s < n → ∃ s' e', whlL t b n e st = .nx e' st ∧ Rel s' e' ∧ c s' = false ∧ ∃ j : Nat, s' = Nat.repeat f j s
  | 0, s, e, _, h => absurd h (Nat.not_lt_zero _)
  | n + 1, s, e, hi, hm => by
    rw [whlL, ht s e hi]
    dsimp only [RS.ofR, asB]
    cases hc : c s with
    | true =>
      obtain ⟨h1, e2, h2, h3⟩ := hb s e hi hc
      dsimp only
      rw [h2]
      obtain ⟨s', e', q1, q2, q3, j, q4⟩ := whlL_rel ht hb h3 (by omega : m (f s) < n)
      refine ⟨s', e', q1, q2, q3, j + 1, ?_⟩
      rw [q4]
      clear q4 q1 q2 q3
      induction j with
      | zero => rfl
      | succ j ih => rw [Nat.repeat, ih]; rfl
    | false => exact ⟨s, e, rfl, hi, hc, 0, rfl⟩
theorem sz {n : Nat} (h : n ≤ 1000) : n ≤ sizeLine := Nat.le_trans h (by decide)
theorem zipD_map {α β : Type} {e1 : α → PyData} {e2 : β → PyData} : ∀ {l : List α} {m : List β}, zipD (l.map e1) (m.map e2) = (l.zip m).map fun p => .tuple [e1 p.1, e2 p.2]
  | [], m => by simp [zipD]
  | _ :: _, [] => by simp [zipD]
  | a :: l, b :: m => by simp [zipD, zipD_map]
theorem enD_map {α : Type} {e1 : α → PyData} : ∀ {l : List α} {k : Nat}, enD (k : Nat) (l.map e1) = (l.zipIdx k).map fun p => .tuple [.int (p.2 : Nat), e1 p.1]
  | [], k => by simp [enD]
  | a :: l, k => by
    have := enD_map (e1 := e1) (l := l) (k := k + 1)
    simp only [List.map_cons, enD, List.zipIdx_cons]
    rw [← this]
    rfl
theorem allBools_map {α : Type} {p : α → Bool} : ∀ {l : List α}, allBools (l.map fun a => .bool (p a)) = some (l.map p)
  | [] => rfl
  | a :: l => by simp [allBools, allBools_map]
theorem allInts_map {α : Type} {p : α → Int} : ∀ {l : List α}, allInts (l.map fun a => .int (p a)) = some (l.map p)
  | [] => rfl
  | a :: l => by simp [allInts, allInts_map]
end Ev

set_option maxRecDepth 100000
/-! the defs of K96 in the small syntax -/
namespace K96
open PySem Ev

def top (i : Nat) : Stmt := PySem.Challenge.pw_curtainrise_k96_whole_heads_and_flats.main.body.getD i (.Pass ⟨0, 0, 0, 0⟩)
def T : Tab := ⟨["abs", "all", "bool", "enumerate", "int", "isinstance", "len", "list", "max", "min", "range", "sorted", "str", "sum", "tuple", "zip"], [(("MOST_FLATS" : Str), ((.int 30) : PyData)), (("OUT" : Str), ((.str "out") : PyData)), (("IN" : Str), ((.str "in") : PyData)), (("MOST_HEIGHT" : Str), ((.int 300) : PyData)), (("MOST_HEADS" : Str), ((.int 60) : PyData)), (("MOST_STEP" : Str), ((.int 20000) : PyData))], [(("is_integer" : Str), (1 : Nat)), (("is_within" : Str), (3 : Nat)), (("is_tuple_of" : Str), (2 : Nat)), (("are_within" : Str), (3 : Nat)), (("are_flats_of" : Str), (1 : Nat)), (("check_flats" : Str), (1 : Nat)), (("is_deed" : Str), (1 : Nat)), (("never_empty" : Str), (1 : Nat)), (("are_deeds_of" : Str), (2 : Nat)), (("through" : Str), (2 : Nat)), (("raw_deeds" : Str), (2 : Nat)), (("deeds_for" : Str), (2 : Nat)), (("ascending_deeds" : Str), (1 : Nat)), (("bars_of" : Str), (4 : Nat)), (("least_bar" : Str), (1 : Nat)), (("bar" : Str), (1 : Nat)), (("is_bar" : Str), (2 : Nat)), (("outs_of" : Str), (1 : Nat)), (("outs" : Str), (1 : Nat)), (("once_through" : Str), (1 : Nat)), (("is_ascending" : Str), (1 : Nat)), (("fewest_wings" : Str), (1 : Nat)), (("are_heights_of_heads" : Str), (1 : Nat)), (("check_heads" : Str), (1 : Nat)), (("raw_seers" : Str), (1 : Nat)), (("seers" : Str), (1 : Nat)), (("nearest_no_lower" : Str), (2 : Nat)), (("blockers" : Str), (1 : Nat)), (("raw_steps" : Str), (1 : Nat)), (("steps" : Str), (2 : Nat)), (("are_steps_of" : Str), (2 : Nat)), (("raised_by" : Str), (2 : Nat)), (("is_steps" : Str), (2 : Nat)), (("next_height" : Str), (2 : Nat)), (("best_order_of_heads" : Str), (1 : Nat)), (("rising_to" : Str), (1 : Nat)), (("fewest_moved" : Str), (1 : Nat)), (("_law_bag" : Str), (1 : Nat)), (("_law_pick" : Str), (2 : Nat)), (("is_integer" : Str), (1 : Nat)), (("_law_row" : Str), (2 : Nat)), (("_law_longest" : Str), (1 : Nat)), (("_law_outs" : Str), (1 : Nat)), (("_law_are_heads_right" : Str), (1 : Nat)), (("_law_are_flats_right" : Str), (2 : Nat)), (("law" : Str), (1 : Nat))]⟩
/-- is_integer -/
def d0 : Fd := ⟨"is_integer", top 1, ["thing"], 1, (.cons (.ret (.andd (.bi .isinst (.cons (.var 0) (.cons (.ty "int" "int") .nil))) (.nott (.bi .isinst (.cons (.var 0) (.cons (.ty "bool" "bool") .nil)))))) .nil)⟩
/-- is_within -/
def d1 : Fd := ⟨"is_within", top 2, ["thing", "least", "most"], 3, (.cons (.ret (.andd (.call 0 (.cons (.var 0) .nil)) (.chn .le .le (.var 1) (.var 0) (.var 2)))) .nil)⟩
/-- is_tuple_of -/
def d2 : Fd := ⟨"is_tuple_of", top 3, ["thing", "size"], 2, (.cons (.ret (.andd (.bi .isinst (.cons (.var 0) (.cons (.ty "tuple" "tuple") .nil))) (.cmp .eq (.bi .len (.cons (.var 0) .nil)) (.var 1)))) .nil)⟩
/-- are_within -/
def d3 : Fd := ⟨"are_within", top 4, ["thing", "least", "most", "one"], 3, (.cons (.ret (.andd (.bi .isinst (.cons (.var 0) (.cons (.ty "tuple" "tuple") .nil))) (.bi .all (.cons (.lc [3] (.nm 3) (.sq (.var 0)) .nil (.call 1 (.cons (.var 3) (.cons (.var 1) (.cons (.var 2) .nil))))) .nil)))) .nil)⟩
/-- are_flats_of -/
def d4 : Fd := ⟨"are_flats_of", top 15, ["thing", "one"], 1, (.cons (.ife (.orr (.nott (.bi .isinst (.cons (.var 0) (.cons (.ty "tuple" "tuple") .nil)))) (.orr (.cmp .gt (.bi .len (.cons (.var 0) .nil)) (.con "MOST_FLATS" (.int 30))) (.nott (.bi .all (.cons (.lc [1] (.nm 1) (.sq (.var 0)) .nil (.call 0 (.cons (.var 1) .nil))) .nil))))) (.cons (.ret (.lit (.bool false))) .nil) .nil) (.cons (.ret (.cmp .eq (.dc [1] (.nm 1) (.sq (.var 0)) .nil (.var 1) (.lit (.bool true))) (.bi .len (.cons (.var 0) .nil)))) .nil))⟩
/-- check_flats -/
def d5 : Fd := ⟨"check_flats", top 16, ["thing"], 1, (.cons (.ife (.nott (.call 4 (.cons (.var 0) .nil))) (.cons (.dead) .nil) .nil) .nil)⟩
/-- is_deed -/
def d6 : Fd := ⟨"is_deed", top 17, ["thing"], 1, (.cons (.ret (.andd (.bi .isinst (.cons (.var 0) (.cons (.ty "str" "str") .nil))) (.cmp .in_ (.var 0) (.tup (.cons (.con "IN" (.str "in")) (.cons (.con "OUT" (.str "out")) .nil)))))) .nil)⟩
/-- never_empty -/
def d7 : Fd := ⟨"never_empty", top 18, ["deeds", "many", "deed"], 1, (.cons (.set false 1 (.e (.lit (.int 0)))) (.cons (.for_ (.nm 2) (.sq (.var 0)) (.cons (.set false 1 (.e (.op .add (.var 1) (.ife (.cmp .eq (.var 2) (.con "IN" (.str "in"))) (.lit (.int 1)) (.neg (.lit (.int 1))))))) (.cons (.ife (.cmp .lt (.var 1) (.lit (.int 0))) (.cons (.ret (.lit (.bool false))) .nil) .nil) .nil))) (.cons (.ret (.cmp .eq (.var 1) (.lit (.int 0)))) .nil)))⟩
/-- are_deeds_of -/
def d8 : Fd := ⟨"are_deeds_of", top 19, ["order", "thing", "one"], 2, (.cons (.ife (.orr (.nott (.bi .isinst (.cons (.var 1) (.cons (.ty "tuple" "tuple") .nil)))) (.orr (.cmp .ne (.bi .len (.cons (.var 1) .nil)) (.op .mul (.lit (.int 2)) (.bi .len (.cons (.var 0) .nil)))) (.nott (.bi .all (.cons (.lc [2] (.nm 2) (.sq (.var 1)) .nil (.call 6 (.cons (.var 2) .nil))) .nil))))) (.cons (.ret (.lit (.bool false))) .nil) .nil) (.cons (.ret (.call 7 (.cons (.var 1) .nil))) .nil))⟩
/-- through -/
def d9 : Fd := ⟨"through", top 20, ["order", "deeds", "heap", "found", "place", "deed"], 2, (.cons (.ex (.e (.call 5 (.cons (.var 0) .nil)))) (.cons (.ife (.nott (.call 8 (.cons (.var 0) (.cons (.var 1) .nil)))) (.cons (.dead) .nil) .nil) (.cons (.par3 true 2 true 3 false 4 (.lst .nil) (.lst .nil) (.lit (.int 0))) (.cons (.for_ (.nm 5) (.sq (.var 1)) (.cons (.ife (.cmp .eq (.var 5) (.con "IN" (.str "in"))) (.cons (.app 2 (.e (.ix (.var 0) (.var 4)))) (.cons (.set false 4 (.e (.op .add (.var 4) (.lit (.int 1))))) .nil)) (.cons (.app 3 (.pop 2)) .nil)) .nil)) (.cons (.ret (.bi .tuple (.cons (.var 3) .nil))) .nil)))))⟩
/-- raw_deeds -/
def d10 : Fd := ⟨"raw_deeds", top 21, ["order", "wanted", "heap", "found", "place", "flat"], 2, (.cons (.par3 true 2 true 3 false 4 (.lst .nil) (.lst .nil) (.lit (.int 0))) (.cons (.for_ (.nm 5) (.sq (.var 0)) (.cons (.app 2 (.e (.var 5))) (.cons (.app 3 (.e (.con "IN" (.str "in")))) (.cons (.whl 1000000 (.andd (.cmp .gt (.bi .len (.cons (.var 2) .nil)) (.lit (.int 0))) (.cmp .eq (.ix (.var 2) (.neg (.lit (.int 1)))) (.ix (.var 1) (.var 4)))) (.cons (.ex (.pop 2)) (.cons (.app 3 (.e (.con "OUT" (.str "out")))) (.cons (.set false 4 (.e (.op .add (.var 4) (.lit (.int 1))))) .nil)))) .nil)))) (.cons (.ret (.ife (.cmp .eq (.bi .len (.cons (.var 2) .nil)) (.lit (.int 0))) (.bi .tuple (.cons (.var 3) .nil)) (.lit .none))) .nil)))⟩
/-- deeds_for -/
def d11 : Fd := ⟨"deeds_for", top 22, ["order", "wanted"], 2, (.cons (.ex (.e (.call 5 (.cons (.var 0) .nil)))) (.cons (.ex (.e (.call 5 (.cons (.var 1) .nil)))) (.cons (.ife (.cmp .ne (.bi .sorted (.cons (.var 0) .nil)) (.bi .sorted (.cons (.var 1) .nil))) (.cons (.ret (.lit .none)) .nil) .nil) (.cons (.ret (.call 10 (.cons (.var 0) (.cons (.var 1) .nil)))) .nil))))⟩
/-- ascending_deeds -/
def d12 : Fd := ⟨"ascending_deeds", top 23, ["order"], 1, (.cons (.ex (.e (.call 5 (.cons (.var 0) .nil)))) (.cons (.ret (.call 10 (.cons (.var 0) (.cons (.bi .tuple (.cons (.bi .sorted (.cons (.var 0) .nil)) .nil)) .nil)))) .nil))⟩
/-- bars_of -/
def d13 : Fd := ⟨"bars_of", top 24, ["order", "first", "second", "third"], 4, (.cons (.ret (.chn .lt .lt (.ix (.var 0) (.var 3)) (.ix (.var 0) (.var 1)) (.ix (.var 0) (.var 2)))) .nil)⟩
/-- least_bar -/
def d14 : Fd := ⟨"least_bar", top 25, ["order", "many", "first", "second", "third"], 1, (.cons (.set false 1 (.e (.bi .len (.cons (.var 0) .nil)))) (.cons (.for_ (.nm 2) (.r1 (.var 1)) (.cons (.for_ (.nm 3) (.r2 (.op .add (.var 2) (.lit (.int 1))) (.var 1)) (.cons (.for_ (.nm 4) (.r2 (.op .add (.var 3) (.lit (.int 1))) (.var 1)) (.cons (.ife (.call 13 (.cons (.var 0) (.cons (.var 2) (.cons (.var 3) (.cons (.var 4) .nil))))) (.cons (.ret (.tup (.cons (.var 2) (.cons (.var 3) (.cons (.var 4) .nil))))) .nil) .nil) .nil)) .nil)) .nil)) (.cons (.ret (.lit .none)) .nil)))⟩
/-- bar -/
def d15 : Fd := ⟨"bar", top 26, ["order"], 1, (.cons (.ex (.e (.call 5 (.cons (.var 0) .nil)))) (.cons (.ret (.call 14 (.cons (.var 0) .nil))) .nil))⟩
/-- is_bar -/
def d16 : Fd := ⟨"is_bar", top 27, ["order", "thing", "place"], 2, (.cons (.ex (.e (.call 5 (.cons (.var 0) .nil)))) (.cons (.ife (.orr (.nott (.call 2 (.cons (.var 1) (.cons (.lit (.int 3)) .nil)))) (.nott (.bi .all (.cons (.lc [2] (.nm 2) (.sq (.var 1)) .nil (.call 1 (.cons (.var 2) (.cons (.lit (.int 0)) (.cons (.op .sub (.bi .len (.cons (.var 0) .nil)) (.lit (.int 1))) .nil))))) .nil)))) (.cons (.ret (.lit (.bool false))) .nil) .nil) (.cons (.ife (.nott (.chn .lt .lt (.ix (.var 1) (.lit (.int 0))) (.ix (.var 1) (.lit (.int 1))) (.ix (.var 1) (.lit (.int 2))))) (.cons (.ret (.lit (.bool false))) .nil) .nil) (.cons (.ret (.call 13 (.cons (.var 0) (.cons (.ix (.var 1) (.lit (.int 0))) (.cons (.ix (.var 1) (.lit (.int 1))) (.cons (.ix (.var 1) (.lit (.int 2))) .nil)))))) .nil))))⟩
/-- outs_of -/
def d17 : Fd := ⟨"outs_of", top 28, ["many", "found", "size", "left"], 1, (.cons (.set true 1 (.e (.lst (.cons (.lit (.int 1)) .nil)))) (.cons (.for_ (.nm 2) (.r2 (.lit (.int 1)) (.op .add (.var 0) (.lit (.int 1)))) (.cons (.app 1 (.e (.bi .sum (.cons (.lc [3] (.nm 3) (.r1 (.var 2)) .nil (.op .mul (.ix (.var 1) (.var 3)) (.ix (.var 1) (.op .sub (.op .sub (.var 2) (.lit (.int 1))) (.var 3))))) .nil)))) .nil)) (.cons (.ret (.ix (.var 1) (.var 0))) .nil)))⟩
/-- outs -/
def d18 : Fd := ⟨"outs", top 29, ["order"], 1, (.cons (.ex (.e (.call 5 (.cons (.var 0) .nil)))) (.cons (.ret (.call 17 (.cons (.bi .len (.cons (.var 0) .nil)) .nil))) .nil))⟩
/-- once_through -/
def d19 : Fd := ⟨"once_through", top 30, ["order", "heap", "found", "flat"], 1, (.cons (.par2 true 1 true 2 (.lst .nil) (.lst .nil)) (.cons (.for_ (.nm 3) (.sq (.var 0)) (.cons (.whl 1000000 (.andd (.cmp .gt (.bi .len (.cons (.var 1) .nil)) (.lit (.int 0))) (.cmp .lt (.ix (.var 1) (.neg (.lit (.int 1)))) (.var 3))) (.cons (.app 2 (.pop 1)) .nil)) (.cons (.app 1 (.e (.var 3))) .nil))) (.cons (.ret (.bi .tuple (.cons (.op .add (.var 2) (.rev (.var 1))) .nil))) .nil)))⟩
/-- is_ascending -/
def d20 : Fd := ⟨"is_ascending", top 31, ["order", "one", "other"], 1, (.cons (.ret (.bi .all (.cons (.lc [1, 2] (.tp [1, 2]) (.zp (.var 0) (.sl (.var 0) (.ex (.lit (.int 1))) .no)) .nil (.cmp .lt (.var 1) (.var 2))) .nil))) .nil)⟩
/-- fewest_wings -/
def d21 : Fd := ⟨"fewest_wings", top 32, ["order", "here", "many"], 1, (.cons (.ex (.e (.call 5 (.cons (.var 0) .nil)))) (.cons (.par2 false 1 false 2 (.var 0) (.lit (.int 0))) (.cons (.whl 1000000 (.nott (.call 20 (.cons (.var 1) .nil))) (.cons (.par2 false 1 false 2 (.call 19 (.cons (.var 1) .nil)) (.op .add (.var 2) (.lit (.int 1)))) .nil)) (.cons (.ret (.var 2)) .nil))))⟩
/-- are_heights_of_heads -/
def d22 : Fd := ⟨"are_heights_of_heads", top 37, ["thing"], 1, (.cons (.ret (.andd (.call 3 (.cons (.var 0) (.cons (.lit (.int 1)) (.cons (.con "MOST_HEIGHT" (.int 300)) .nil)))) (.chn .le .le (.lit (.int 1)) (.bi .len (.cons (.var 0) .nil)) (.con "MOST_HEADS" (.int 60))))) .nil)⟩
/-- check_heads -/
def d23 : Fd := ⟨"check_heads", top 38, ["heights"], 1, (.cons (.ife (.nott (.call 22 (.cons (.var 0) .nil))) (.cons (.dead) .nil) .nil) .nil)⟩
/-- raw_seers -/
def d24 : Fd := ⟨"raw_seers", top 39, ["heights", "found", "highest", "head", "height"], 1, (.cons (.par2 true 1 false 2 (.lst .nil) (.lit (.int 0))) (.cons (.for_ (.tp [3, 4]) (.en (.var 0)) (.cons (.ife (.cmp .gt (.var 4) (.var 2)) (.cons (.app 1 (.e (.var 3))) (.cons (.set false 2 (.e (.var 4))) .nil)) .nil) .nil)) (.cons (.frz 1) (.cons (.ret (.var 1)) .nil))))⟩
/-- seers -/
def d25 : Fd := ⟨"seers", top 40, ["heights"], 1, (.cons (.ex (.e (.call 23 (.cons (.var 0) .nil)))) (.cons (.ret (.bi .tuple (.cons (.call 24 (.cons (.var 0) .nil)) .nil))) .nil))⟩
/-- nearest_no_lower -/
def d26 : Fd := ⟨"nearest_no_lower", top 41, ["heights", "head", "other"], 2, (.cons (.for_ (.nm 2) (.r3 (.op .sub (.var 1) (.lit (.int 1))) (.neg (.lit (.int 1))) (.neg (.lit (.int 1)))) (.cons (.ife (.cmp .ge (.ix (.var 0) (.var 2)) (.ix (.var 0) (.var 1))) (.cons (.ret (.var 2)) .nil) .nil) .nil)) (.cons (.ret (.lit .none)) .nil))⟩
/-- blockers -/
def d27 : Fd := ⟨"blockers", top 42, ["heights", "head"], 1, (.cons (.ex (.e (.call 23 (.cons (.var 0) .nil)))) (.cons (.ret (.bi .tuple (.cons (.lc [1] (.nm 1) (.r1 (.bi .len (.cons (.var 0) .nil))) .nil (.call 26 (.cons (.var 0) (.cons (.var 1) .nil)))) .nil))) .nil))⟩
/-- raw_steps -/
def d28 : Fd := ⟨"raw_steps", top 43, ["heights", "found", "highest", "height", "step"], 1, (.cons (.par2 true 1 false 2 (.lst (.cons (.lit (.int 0)) .nil)) (.ix (.var 0) (.lit (.int 0)))) (.cons (.for_ (.nm 3) (.sq (.sl (.var 0) (.ex (.lit (.int 1))) .no)) (.cons (.set false 4 (.e (.bi .max (.cons (.ix (.var 1) (.neg (.lit (.int 1)))) (.cons (.op .sub (.op .add (.var 2) (.lit (.int 1))) (.var 3)) .nil))))) (.cons (.app 1 (.e (.var 4))) (.cons (.set false 2 (.e (.op .add (.var 3) (.var 4)))) .nil)))) (.cons (.ret (.bi .tuple (.cons (.var 1) .nil))) .nil)))⟩
/-- steps -/
def d29 : Fd := ⟨"steps", top 44, ["heights", "most", "found"], 2, (.cons (.ex (.e (.call 23 (.cons (.var 0) .nil)))) (.cons (.ife (.nott (.call 1 (.cons (.var 1) (.cons (.lit (.int 0)) (.cons (.con "MOST_STEP" (.int 20000)) .nil))))) (.cons (.dead) .nil) .nil) (.cons (.set false 2 (.e (.call 28 (.cons (.var 0) .nil)))) (.cons (.ret (.ife (.cmp .gt (.ix (.var 2) (.neg (.lit (.int 1)))) (.var 1)) (.lit .none) (.var 2))) .nil))))⟩
/-- are_steps_of -/
def d30 : Fd := ⟨"are_steps_of", top 45, ["heights", "thing", "one", "other", "step"], 2, (.cons (.ife (.orr (.nott (.call 2 (.cons (.var 1) (.cons (.bi .len (.cons (.var 0) .nil)) .nil)))) (.nott (.bi .all (.cons (.lc [4] (.nm 4) (.sq (.var 1)) .nil (.call 0 (.cons (.var 4) .nil))) .nil)))) (.cons (.ret (.lit (.bool false))) .nil) .nil) (.cons (.ret (.andd (.cmp .eq (.ix (.var 1) (.lit (.int 0))) (.lit (.int 0))) (.bi .all (.cons (.lc [2, 3] (.tp [2, 3]) (.zp (.var 1) (.sl (.var 1) (.ex (.lit (.int 1))) .no)) .nil (.cmp .le (.var 2) (.var 3))) .nil)))) .nil))⟩
/-- raised_by -/
def d31 : Fd := ⟨"raised_by", top 46, ["heights", "rows", "height", "step"], 2, (.cons (.ret (.lc [2, 3] (.tp [2, 3]) (.zp (.var 0) (.var 1)) .nil (.op .add (.var 2) (.var 3)))) .nil)⟩
/-- is_steps -/
def d32 : Fd := ⟨"is_steps", top 47, ["heights", "thing", "raised", "one", "other"], 2, (.cons (.ex (.e (.call 23 (.cons (.var 0) .nil)))) (.cons (.ife (.nott (.call 30 (.cons (.var 0) (.cons (.var 1) .nil)))) (.cons (.ret (.lit (.bool false))) .nil) .nil) (.cons (.set false 2 (.e (.call 31 (.cons (.var 0) (.cons (.var 1) .nil))))) (.cons (.ret (.bi .all (.cons (.lc [3, 4] (.tp [3, 4]) (.zp (.var 2) (.sl (.var 2) (.ex (.lit (.int 1))) .no)) .nil (.cmp .lt (.var 3) (.var 4))) .nil))) .nil))))⟩
/-- next_height -/
def d33 : Fd := ⟨"next_height", top 48, ["heights", "highest", "higher", "height"], 2, (.cons (.set false 2 (.e (.lc [3] (.nm 3) (.sq (.var 0)) (.cons (.cmp .gt (.var 3) (.var 1)) .nil) (.var 3)))) (.cons (.ret (.ife (.cmp .gt (.bi .len (.cons (.var 2) .nil)) (.lit (.int 0))) (.bi .min (.cons (.var 2) .nil)) (.lit .none))) .nil))⟩
/-- best_order_of_heads -/
def d34 : Fd := ⟨"best_order_of_heads", top 49, ["heights", "left", "found", "highest", "due", "head", "one"], 1, (.cons (.ex (.e (.call 23 (.cons (.var 0) .nil)))) (.cons (.par3 true 1 true 2 false 3 (.lrng false (.lit (.int 0)) (.bi .len (.cons (.var 0) .nil))) (.lst .nil) (.lit (.int 0))) (.cons (.whl 1000000 (.cmp .gt (.bi .len (.cons (.var 1) .nil)) (.lit (.int 0))) (.cons (.set false 4 (.e (.call 33 (.cons (.var 0) (.cons (.var 3) .nil))))) (.cons (.set false 5 (.e (.ix (.lc [6] (.nm 6) (.sq (.var 1)) (.cons (.orr (.cmp .le (.ix (.var 0) (.var 6)) (.var 3)) (.cmp .eq (.ix (.var 0) (.var 6)) (.var 4))) .nil) (.var 6)) (.lit (.int 0))))) (.cons (.app 2 (.e (.var 5))) (.cons (.rem 1 (.var 5)) (.cons (.set false 3 (.e (.bi .max (.cons (.var 3) (.cons (.ix (.var 0) (.var 5)) .nil))))) .nil)))))) (.cons (.ret (.bi .tuple (.cons (.var 2) .nil))) .nil))))⟩
/-- rising_to -/
def d35 : Fd := ⟨"rising_to", top 50, ["heights", "found", "head", "height", "ahead", "other"], 1, (.cons (.set true 1 (.e (.lst .nil))) (.cons (.for_ (.tp [2, 3]) (.en (.var 0)) (.cons (.set false 4 (.e (.lc [5] (.nm 5) (.r1 (.var 2)) (.cons (.cmp .lt (.ix (.var 0) (.var 5)) (.var 3)) .nil) (.ix (.var 1) (.var 5))))) (.cons (.app 1 (.e (.op .add (.lit (.int 1)) (.bi .max (.cons (.op .add (.lst (.cons (.lit (.int 0)) .nil)) (.var 4)) .nil))))) .nil))) (.cons (.frz 1) (.cons (.ret (.var 1)) .nil))))⟩
/-- fewest_moved -/
def d36 : Fd := ⟨"fewest_moved", top 51, ["heights"], 1, (.cons (.ex (.e (.call 23 (.cons (.var 0) .nil)))) (.cons (.ret (.op .sub (.bi .len (.cons (.var 0) .nil)) (.bi .max (.cons (.call 35 (.cons (.var 0) .nil)) .nil)))) .nil))⟩
/-- _law_bag -/
def d37 : Fd := ⟨"_law_bag", top 53, ["script", "great", "seed", "cell"], 1, (.cons (.set false 1 (.e (.box (.lc [3] (.nm 3) (.sq (.sl (.var 0) .no (.ex (.lit (.int 63))))) (.cons (.cmp .ge (.bi .abs (.cons (.bi .int (.cons (.var 3) .nil)) .nil)) (.op .pow (.lit (.int 10)) (.lit (.int 18)))) .nil) (.bi .abs (.cons (.bi .int (.cons (.var 3) .nil)) .nil)))))) (.cons (.set false 2 (.e (.lit (.int 961)))) (.cons (.for_ (.nm 3) (.sq (.sl (.var 0) .no (.ex (.lit (.int 63))))) (.cons (.set false 2 (.e (.op .mod (.bi .int (.cons (.op .add (.op .add (.op .add (.op .mul (.var 2) (.lit (.int 69621))) (.op .mul (.bi .abs (.cons (.bi .int (.cons (.var 3) .nil)) .nil)) (.lit (.int 2)))) (.bi .int (.cons (.cmp .lt (.bi .int (.cons (.var 3) .nil)) (.lit (.int 0))) .nil))) (.lit (.int 17))) .nil)) (.lit (.int 2147483629))))) .nil)) (.cons (.ret (.lstR (.cons (.var 1) (.cons (.var 2) (.cons (.bi .len (.cons (.var 0) .nil)) (.cons (.lit (.int 0)) .nil)))))) .nil))))⟩
/-- _law_pick -/
def d38 : Fd := ⟨"_law_pick", top 54, ["bag", "many", "number"], 2, (.cons (.ife (.cmp .eq (.ix (.var 0) (.lit (.int 2))) (.lit (.int 0))) (.cons (.ret (.lit (.int 0))) .nil) .nil) (.cons (.ife (.cmp .gt (.bi .len (.cons (.ix (.var 0) (.lit (.int 0))) .nil)) (.lit (.int 0))) (.cons (.set false 2 (.e (.ix (.ix (.var 0) (.lit (.int 0))) (.lit (.int 0))))) (.cons (.setR (.ix (.var 0) (.lit (.int 0))) (.lit (.int 0)) (.op .fdiv (.var 2) (.var 1))) (.cons (.ife (.cmp .lt (.var 2) (.var 1)) (.cons (.popR (.ix (.var 0) (.lit (.int 0))) (.lit (.int 0))) .nil) .nil) (.cons (.ret (.op .mod (.bi .int (.cons (.var 2) .nil)) (.var 1))) .nil)))) .nil) (.cons (.setR (.var 0) (.lit (.int 3)) (.op .add (.ix (.var 0) (.lit (.int 3))) (.lit (.int 1)))) (.cons (.set false 2 (.e (.op .mod (.bi .int (.cons (.op .add (.op .mul (.op .add (.ix (.var 0) (.lit (.int 1))) (.op .mul (.lit (.int 7919)) (.ix (.var 0) (.lit (.int 3))))) (.lit (.int 48271))) (.lit (.int 11))) .nil)) (.lit (.int 2147483647))))) (.cons (.set false 2 (.e (.op .mod (.bi .int (.cons (.op .add (.op .mul (.var 2) (.op .add (.op .fdiv (.var 2) (.lit (.int 1009))) (.lit (.int 69621)))) (.ix (.var 0) (.lit (.int 3)))) .nil)) (.lit (.int 2147483399))))) (.cons (.setR (.var 0) (.lit (.int 1)) (.op .mod (.bi .int (.cons (.op .add (.ix (.var 0) (.lit (.int 1))) (.var 2)) .nil)) (.lit (.int 2147483629)))) (.cons (.ret (.op .mod (.bi .int (.cons (.op .fdiv (.var 2) (.lit (.int 16))) .nil)) (.var 1))) .nil)))))))⟩
/-- _law_some is never called -/
def d39 : Fd := d0
/-- _law_row -/
def d40 : Fd := ⟨"_law_row", top 56, ["bag", "many", "left", "found", "one"], 2, (.cons (.par2 true 2 true 3 (.lc [4] (.nm 4) (.r1 (.var 1)) .nil (.op .add (.op .mul (.lit (.int 3)) (.var 4)) (.lit (.int 1)))) (.lst .nil)) (.cons (.whl 1000000 (.cmp .gt (.bi .len (.cons (.var 2) .nil)) (.lit (.int 0))) (.cons (.app 3 (.popAt 2 (.call 38 (.cons (.var 0) (.cons (.bi .len (.cons (.var 2) .nil)) .nil))))) .nil)) (.cons (.ret (.bi .tuple (.cons (.var 3) .nil))) .nil)))⟩
/-- _law_longest -/
def d41 : Fd := ⟨"_law_longest", top 57, ["row", "found", "one", "many", "other"], 1, (.cons (.set true 1 (.e (.lst .nil))) (.cons (.for_ (.nm 2) (.sq (.var 0)) (.cons (.app 1 (.e (.op .add (.lit (.int 1)) (.bi .max (.cons (.op .add (.lst (.cons (.lit (.int 0)) .nil)) (.lc [3, 4] (.tp [3, 4]) (.zp (.var 1) (.var 0)) (.cons (.cmp .lt (.var 4) (.var 2)) .nil) (.var 3))) .nil))))) .nil)) (.cons (.ret (.bi .max (.cons (.op .add (.lst (.cons (.lit (.int 0)) .nil)) (.var 1)) .nil))) .nil)))⟩
/-- _law_outs -/
def d42 : Fd := ⟨"_law_outs", top 58, ["many", "found", "size", "at"], 1, (.cons (.set true 1 (.e (.lst (.cons (.lit (.int 1)) .nil)))) (.cons (.for_ (.nm 2) (.r2 (.lit (.int 1)) (.op .add (.var 0) (.lit (.int 1)))) (.cons (.app 1 (.e (.bi .sum (.cons (.lc [3] (.nm 3) (.r1 (.var 2)) .nil (.op .mul (.ix (.var 1) (.var 3)) (.ix (.var 1) (.op .sub (.op .sub (.var 2) (.lit (.int 1))) (.var 3))))) .nil)))) .nil)) (.cons (.ret (.ix (.var 1) (.var 0))) .nil)))⟩
/-- _law_are_heads_right -/
def d43 : Fd := ⟨"_law_are_heads_right", top 59, ["row", "lot", "near", "at", "one", "told", "order"], 1, (.cons (.par2 false 1 false 2 (.call 25 (.cons (.var 0) .nil)) (.call 27 (.cons (.var 0) .nil))) (.cons (.ife (.cmp .ne (.lc [3, 4] (.tp [3, 4]) (.en (.var 2)) (.cons (.cmp .is_ (.var 4) (.lit .none)) .nil) (.var 3)) (.bi .list (.cons (.var 1) .nil))) (.cons (.ret (.lit (.bool false))) .nil) .nil) (.cons (.for_ (.tp [3, 4]) (.en (.var 2)) (.cons (.ife (.andd (.cmp .isnt (.var 4) (.lit .none)) (.cmp .lt (.ix (.var 0) (.var 4)) (.ix (.var 0) (.var 3)))) (.cons (.ret (.lit (.bool false))) .nil) .nil) (.cons (.ife (.andd (.cmp .isnt (.var 4) (.lit .none)) (.cmp .ge (.bi .max (.cons (.op .add (.sl (.var 0) (.ex (.op .add (.var 4) (.lit (.int 1)))) (.ex (.var 3))) (.tup (.cons (.lit (.int 0)) .nil))) .nil)) (.ix (.var 0) (.var 3)))) (.cons (.ret (.lit (.bool false))) .nil) .nil) .nil))) (.cons (.ife (.cmp .ne (.call 36 (.cons (.var 0) .nil)) (.op .sub (.bi .len (.cons (.var 0) .nil)) (.call 41 (.cons (.var 0) .nil)))) (.cons (.ret (.lit (.bool false))) .nil) .nil) (.cons (.set false 5 (.e (.call 29 (.cons (.var 0) (.cons (.lit (.int 20000)) .nil))))) (.cons (.ife (.orr (.cmp .isnt (.call 32 (.cons (.var 0) (.cons (.var 5) .nil))) (.lit (.bool true))) (.cmp .ne (.cmp .eq (.bi .len (.cons (.var 1) .nil)) (.bi .len (.cons (.var 0) .nil))) (.cmp .eq (.bi .max (.cons (.var 5) .nil)) (.lit (.int 0))))) (.cons (.ret (.lit (.bool false))) .nil) .nil) (.cons (.set false 6 (.e (.call 34 (.cons (.var 0) .nil)))) (.cons (.ret (.cmp .eq (.lc [3] (.nm 3) (.sq (.var 6)) .nil (.ix (.var 0) (.var 3))) (.bi .sorted (.cons (.var 0) .nil)))) .nil))))))))⟩
/-- _law_are_flats_right -/
def d44 : Fd := ⟨"_law_are_flats_right", top 60, ["bag", "row", "is_sorted", "deeds", "why", "wanted", "told"], 2, (.cons (.set false 2 (.e (.cmp .eq (.bi .list (.cons (.var 1) .nil)) (.bi .sorted (.cons (.var 1) .nil))))) (.cons (.par2 false 3 false 4 (.call 12 (.cons (.var 1) .nil)) (.call 15 (.cons (.var 1) .nil))) (.cons (.ife (.orr (.cmp .eq (.cmp .is_ (.var 3) (.lit .none)) (.cmp .is_ (.var 4) (.lit .none))) (.cmp .ne (.call 18 (.cons (.var 1) .nil)) (.call 42 (.cons (.bi .len (.cons (.var 1) .nil)) .nil)))) (.cons (.ret (.lit (.bool false))) .nil) .nil) (.cons (.ife (.orr (.cmp .ne (.var 2) (.cmp .eq (.call 21 (.cons (.var 1) .nil)) (.lit (.int 0)))) (.cmp .ne (.var 2) (.cmp .eq (.bi .len (.cons (.call 25 (.cons (.var 1) .nil)) .nil)) (.bi .len (.cons (.var 1) .nil))))) (.cons (.ret (.lit (.bool false))) .nil) .nil) (.cons (.ife (.cmp .ne (.cmp .isnt (.var 3) (.lit .none)) (.cmp .le (.call 21 (.cons (.var 1) .nil)) (.lit (.int 1)))) (.cons (.ret (.lit (.bool false))) .nil) .nil) (.cons (.ife (.cmp .is_ (.var 3) (.lit .none)) (.cons (.ret (.cmp .is_ (.call 16 (.cons (.var 1) (.cons (.var 4) .nil))) (.lit (.bool true)))) .nil) .nil) (.cons (.ife (.orr (.cmp .ne (.call 9 (.cons (.var 1) (.cons (.var 3) .nil))) (.bi .tuple (.cons (.bi .sorted (.cons (.var 1) .nil)) .nil))) (.cmp .ne (.call 11 (.cons (.var 1) (.cons (.bi .tuple (.cons (.bi .sorted (.cons (.var 1) .nil)) .nil)) .nil))) (.var 3))) (.cons (.ret (.lit (.bool false))) .nil) .nil) (.cons (.set false 5 (.e (.call 40 (.cons (.var 0) (.cons (.bi .len (.cons (.var 1) .nil)) .nil))))) (.cons (.set false 6 (.e (.call 11 (.cons (.var 1) (.cons (.var 5) .nil))))) (.cons (.ret (.orr (.cmp .is_ (.var 6) (.lit .none)) (.cmp .eq (.call 9 (.cons (.var 1) (.cons (.var 6) .nil))) (.var 5)))) .nil))))))))))⟩
/-- law -/
def d45 : Fd := ⟨"law", top 61, ["script", "bag", "lap", "row", "rising"], 1, (.cons (.set false 1 (.e (.call 37 (.cons (.var 0) .nil)))) (.cons (.for_ (.nm 2) (.r1 (.lit (.int 5))) (.cons (.set false 3 (.e (.call 40 (.cons (.var 1) (.cons (.op .add (.lit (.int 1)) (.call 38 (.cons (.var 1) (.cons (.lit (.int 9)) .nil)))) .nil))))) (.cons (.ife (.orr (.nott (.call 43 (.cons (.var 3) .nil))) (.nott (.call 44 (.cons (.var 1) (.cons (.var 3) .nil))))) (.cons (.ret (.lit (.bool false))) .nil) .nil) (.cons (.set false 4 (.e (.bi .tuple (.cons (.bi .sorted (.cons (.var 3) .nil)) .nil)))) (.cons (.ife (.orr (.cmp .ne (.call 25 (.cons (.var 4) .nil)) (.lrng true (.lit (.int 0)) (.bi .len (.cons (.var 3) .nil)))) (.orr (.cmp .ne (.call 21 (.cons (.var 4) .nil)) (.lit (.int 0))) (.cmp .ne (.call 36 (.cons (.var 4) .nil)) (.lit (.int 0))))) (.cons (.ret (.lit (.bool false))) .nil) .nil) .nil))))) (.cons (.ret (.lit (.bool true))) .nil)))⟩
def ds : List Fd := [d0, d1, d2, d3, d4, d5, d6, d7, d8, d9, d10, d11, d12, d13, d14, d15, d16, d17, d18, d19, d20, d21, d22, d23, d24, d25, d26, d27, d28, d29, d30, d31, d32, d33, d34, d35, d36, d37, d38, d39, d40, d41, d42, d43, d44, d45]
theorem ck0 : ckDef T d0 = true := by decide +kernel
theorem ck1 : ckDef T d1 = true := by decide +kernel
theorem ck2 : ckDef T d2 = true := by decide +kernel
theorem ck3 : ckDef T d3 = true := by decide +kernel
theorem ck4 : ckDef T d4 = true := by decide +kernel
theorem ck5 : ckDef T d5 = true := by decide +kernel
theorem ck6 : ckDef T d6 = true := by decide +kernel
theorem ck7 : ckDef T d7 = true := by decide +kernel
theorem ck8 : ckDef T d8 = true := by decide +kernel
theorem ck9 : ckDef T d9 = true := by decide +kernel
theorem ck10 : ckDef T d10 = true := by decide +kernel
theorem ck11 : ckDef T d11 = true := by decide +kernel
theorem ck12 : ckDef T d12 = true := by decide +kernel
theorem ck13 : ckDef T d13 = true := by decide +kernel
theorem ck14 : ckDef T d14 = true := by decide +kernel
theorem ck15 : ckDef T d15 = true := by decide +kernel
theorem ck16 : ckDef T d16 = true := by decide +kernel
theorem ck17 : ckDef T d17 = true := by decide +kernel
theorem ck18 : ckDef T d18 = true := by decide +kernel
theorem ck19 : ckDef T d19 = true := by decide +kernel
theorem ck20 : ckDef T d20 = true := by decide +kernel
theorem ck21 : ckDef T d21 = true := by decide +kernel
theorem ck22 : ckDef T d22 = true := by decide +kernel
theorem ck23 : ckDef T d23 = true := by decide +kernel
theorem ck24 : ckDef T d24 = true := by decide +kernel
theorem ck25 : ckDef T d25 = true := by decide +kernel
theorem ck26 : ckDef T d26 = true := by decide +kernel
theorem ck27 : ckDef T d27 = true := by decide +kernel
theorem ck28 : ckDef T d28 = true := by decide +kernel
theorem ck29 : ckDef T d29 = true := by decide +kernel
theorem ck30 : ckDef T d30 = true := by decide +kernel
theorem ck31 : ckDef T d31 = true := by decide +kernel
theorem ck32 : ckDef T d32 = true := by decide +kernel
theorem ck33 : ckDef T d33 = true := by decide +kernel
theorem ck34 : ckDef T d34 = true := by decide +kernel
theorem ck35 : ckDef T d35 = true := by decide +kernel
theorem ck36 : ckDef T d36 = true := by decide +kernel
theorem ck37 : ckDef T d37 = true := by decide +kernel
theorem ck38 : ckDef T d38 = true := by decide +kernel
theorem ck39 : ckDef T d39 = true := ck0
theorem ck40 : ckDef T d40 = true := by decide +kernel
theorem ck41 : ckDef T d41 = true := by decide +kernel
theorem ck42 : ckDef T d42 = true := by decide +kernel
theorem ck43 : ckDef T d43 = true := by decide +kernel
theorem ck44 : ckDef T d44 = true := by decide +kernel
theorem ck45 : ckDef T d45 = true := by decide +kernel
theorem ckAll : ∀ d ∈ ds, ckDef T d = true := by
  intro d hd
  simp only [ds, List.mem_cons, List.not_mem_nil, or_false] at hd
  rcases hd with rfl | rfl | rfl | rfl | rfl | rfl | rfl | rfl | rfl | rfl | rfl | rfl | rfl | rfl | rfl | rfl | rfl | rfl | rfl | rfl | rfl | rfl | rfl | rfl | rfl | rfl | rfl | rfl | rfl | rfl | rfl | rfl | rfl | rfl | rfl | rfl | rfl | rfl | rfl | rfl | rfl | rfl | rfl | rfl | rfl | rfl
  · exact ck0
  · exact ck1
  · exact ck2
  · exact ck3
  · exact ck4
  · exact ck5
  · exact ck6
  · exact ck7
  · exact ck8
  · exact ck9
  · exact ck10
  · exact ck11
  · exact ck12
  · exact ck13
  · exact ck14
  · exact ck15
  · exact ck16
  · exact ck17
  · exact ck18
  · exact ck19
  · exact ck20
  · exact ck21
  · exact ck22
  · exact ck23
  · exact ck24
  · exact ck25
  · exact ck26
  · exact ck27
  · exact ck28
  · exact ck29
  · exact ck30
  · exact ck31
  · exact ck32
  · exact ck33
  · exact ck34
  · exact ck35
  · exact ck36
  · exact ck37
  · exact ck38
  · exact ck39
  · exact ck40
  · exact ck41
  · exact ck42
  · exact ck43
  · exact ck44
  · exact ck45
end K96

set_option maxRecDepth 100000
/-! K96b: what each def of the program answers. -/
namespace K96
open PySem Ev
def I (r : List Int) : PyData := .tuple (r.map .int)
def L (r : List Int) : PyData := .list (r.map .int)
theorem allT {α : Type} (l : List α) : (l.all fun _ => true) = true := by induction l <;> simp_all
local macro_rules | `(tactic| trivial) => `(tactic| simp [↓bind_I, ↓then_I, ↓ofR_I, x_nil, x_cons, then_nx, then_rt, ofR_ok, bind_ok, opt_some, noEx_ok, runB_rt, runB_nx, s_set, s_par2, s_par3, s_asg, s_app, s_ex, s_frz, s_ret, s_retN, s_ife, s_for, s_whl, s_brk, s_cont, e_var, e_lit, e_con, e_ty, e_op, e_neg, e_cmp, e_chn, e_andd, e_orr, e_nott, e_ife, e_tup, e_lst, e_lstR, e_box, e_ix, e_sl, e_rev, e_call, e_bi, e_lrng, e_lc, e_dc, evRs, evAs, evDs, evTs, evI, evP, evA, biV, biD, rd, inC, asB, asR, asD, cmpD, opD, eqD, ltD, isNone, List.replicate, I, L, srcV, wipeC, asg, setAll, putC, notOwn, isaD, PyData.isInt, PyData.isBool, PyData.isTuple, allBools_map, allInts_map, List.all_map, Function.comp_def, ixD, allT, *])
theorem isInt {k m : Nat} (hk : k = m + 1) (i : Int) (st : Sto) : callL ds k 0 [.d (.int i)] st = .ok (.d (.bool true)) st := by
  subst hk; rfl
theorem within {k m : Nat} (hk : k = m + 2) (i a b : Int) (st : Sto) : callL ds k 1 [.d (.int i), .d (.int a), .d (.int b)] st = .ok (.d (.bool (decide (a ≤ i) && decide (i ≤ b)))) st := by
  subst hk
  have h0 := fun st => isInt (k := m + 1) rfl i st
  rw [callL_some (d := d1) rfl rfl, d1]
  by_cases h : a ≤ i <;> trivial
theorem tupleOf {k m : Nat} (hk : k = m + 1) (xs : List PyData) (n : Int) (st : Sto) : callL ds k 2 [.d (.tuple xs), .d (.int n)] st = .ok (.d (.bool (decide ((xs.length : Int) = n)))) st := by
  subst hk
  rw [callL_some (d := d2) rfl rfl, d2]
  trivial
theorem areWithin {k m : Nat} (hk : k = m + 3) (r : List Int) (a b : Int) (st : Sto) (hz : r.length ≤ 100) : callL ds k 3 [.d (I r), .d (.int a), .d (.int b)] st = .ok (.d (.bool (r.all fun i => decide (a ≤ i) && decide (i ≤ b)))) st := by
  subst hk
  have h1 := fun i st => within (k := m + 2) rfl i a b st
  rw [callL_some (d := d3) rfl rfl, d3]
  trivial
  rw [lcL_map (enc := .int) (g := fun i => .bool (decide (a ≤ i) && decide (i ≤ b)))]
  · trivial
  · intro i _
    trivial
  · exact sz (by simp; omega)
theorem flatsOf {k m : Nat} (hk : k = m + 2) (r : List Int) (st : Sto) (hn : r.Nodup) (hz : r.length ≤ 30) : callL ds k 4 [.d (I r)] st = .ok (.d (.bool true)) st := by
  subst hk
  have h1 := fun i st => isInt (k := m + 1) rfl i st
  have hz' : ¬ (30 : Int) < (r.length : Int) := by omega
  rw [callL_some (d := d4) rfl rfl, d4]
  trivial
  rw [lcL_map (enc := .int) (g := fun i => .bool true)]
  · trivial
    rw [dcL_map (enc := .int) (g := fun i => i)]
    · trivial
    · intro i _
      trivial
    · simpa using hn
    · simp
    · exact sz (by simp; omega)
  · intro i _
    trivial
  · exact sz (by simp; omega)
theorem checkFlats {k m : Nat} (hk : k = m + 3) (r : List Int) (st : Sto) (hn : r.Nodup) (hz : r.length ≤ 30) : callL ds k 5 [.d (I r)] st = .ok (.d .none) st := by
  subst hk
  have h1 := flatsOf (k := m + 2) rfl r st hn hz
  unfold I at h1
  rw [callL_some (d := d5) rfl rfl, d5]
  trivial
theorem areHeights {k m : Nat} (hk : k = m + 4) (r : List Int) (st : Sto) (h1 : ∀ i ∈ r, 1 ≤ i ∧ i ≤ 300) (h0 : 1 ≤ r.length) (hz : r.length ≤ 30) : callL ds k 22 [.d (I r)] st = .ok (.d (.bool true)) st := by
  subst hk
  have h2 := areWithin (k := m + 3) rfl r 1 300 st (by omega)
  have h3 : (r.all fun i => decide (1 ≤ i) && decide (i ≤ 300)) = true := by
    simp only [List.all_eq_true, Bool.and_eq_true, decide_eq_true_eq]
    exact h1
  have h4 : (1 : Int) ≤ (r.length : Int) := by omega
  have h5 : (r.length : Int) ≤ 60 := by omega
  unfold I at h2
  rw [h3] at h2
  rw [callL_some (d := d22) rfl rfl, d22]
  trivial
theorem checkHeads {k m : Nat} (hk : k = m + 5) (r : List Int) (st : Sto) (h1 : ∀ i ∈ r, 1 ≤ i ∧ i ≤ 300) (h0 : 1 ≤ r.length) (hz : r.length ≤ 30) : callL ds k 23 [.d (I r)] st = .ok (.d .none) st := by
  subst hk
  have h1 := areHeights (k := m + 4) rfl r st h1 h0 hz
  unfold I at h1
  rw [callL_some (d := d23) rfl rfl, d23]
  trivial
/-- who sees, from the front -/
def seersF (s : List Int × Int) (a : Int × Nat) : List Int × Int := if a.1 > s.2 then (s.1 ++ [(a.2 : Int)], a.1) else s
def seersL (r : List Int) : List Int := ((r.zipIdx).foldl seersF ([], 0)).1
theorem rawSeers {k m : Nat} (hk : k = m + 1) (r : List Int) (st : Sto) (hz : r.length ≤ 30) : callL ds k 24 [.d (I r)] st = .ok (.d (L (seersL r))) st := by
  subst hk
  rw [callL_some (d := d24) rfl rfl, d24]
  trivial
  have he : enD 0 (r.map .int) = (r.zipIdx).map fun p => PyData.tuple [.int (p.2 : Nat), .int p.1] := enD_map (k := 0)
  rw [he]
  generalize hb : exSs (callL ds m) (Ss.cons _ _) = b
  obtain ⟨e', h1, c1, c2, h2, _⟩ := forL_rel (gt := .tp [3, 4]) (encX := fun p : Int × Nat => PyData.tuple [.int (p.2 : Nat), .int p.1]) (f := seersF) (st := st) (b := b)
    (Rel := fun l s e => ∃ c1 c2, e = [.v (.d (I r)), .own (L s.1), .v (.d (.int s.2)), c1, c2] ∧ s.1.length + l.length ≤ 30)
    (l := r.zipIdx) (s := ([], 0)) (e := [.v (.d (I r)), .own (L []), .v (.d (.int 0)), .no, .no])
    (by
      rintro ⟨x, i⟩ l ⟨fs, hi⟩ e ⟨c1, c2, rfl, hl⟩
      subst hb
      simp only [List.length_cons] at hl
      have hz : fs.length < sizeLine := Nat.lt_of_lt_of_le (Nat.lt_succ_self _) (sz (by omega))
      unfold seersF
      by_cases h : x > hi
      · have h' : hi < x := h
        trivial
        omega
      · trivial
        omega) ⟨_, _, rfl, by simpa using hz⟩
  unfold I L at h1
  rw [List.map_nil] at h1
  rw [h1, h2]
  trivial
  rfl
theorem seers {k m : Nat} (hk : k = m + 6) (r : List Int) (st : Sto) (h1 : ∀ i ∈ r, 1 ≤ i ∧ i ≤ 300) (h0 : 1 ≤ r.length) (hz : r.length ≤ 30) : callL ds k 25 [.d (I r)] st = .ok (.d (I (seersL r))) st := by
  subst hk
  have h1 := checkHeads (k := m + 5) rfl r st h1 h0 hz
  have h2 := rawSeers (k := m + 5) (m := m + 4) rfl r st hz
  unfold I at h1
  unfold I L at h2
  rw [callL_some (d := d25) rfl rfl, d25]
  trivial
theorem atI_int (r : List Int) (j : Nat) (h : j < r.length) : L2.atI (r.map PyData.int) (j : Int) = some (.int r[j]) := by
  exact L2.atI_nat (by rw [List.getElem?_map, List.getElem?_eq_getElem h]; rfl)
def optI (o : Option Nat) : PyData := match o with
  | some j => .int (j : Nat)
  | none => .none
/-- who stands in the way -/
def nearL (r : List Int) (h : Nat) : Option Nat := (List.range h).findSome? fun i => if r.getD h 0 ≤ r.getD (h - 1 - i) 0 then some (h - 1 - i) else none
theorem retF_find {α γ : Type} {q : α → Option γ} : ∀ {l : List α}, retF (β := Unit) (fun s _ => s) (fun _ a => q a) l () = match l.findSome? q with
    | some v => .inl v
    | none => .inr ()
  | [] => rfl
  | a :: l => by
    rw [retF, List.findSome?_cons]
    cases q a with
    | some v => rfl
    | none => exact retF_find
theorem near {k m : Nat} (hk : k = m + 1) (r : List Int) (h : Nat) (st : Sto) (hh : h < r.length) (hz : r.length ≤ 30) : callL ds k 26 [.d (I r), .d (.int h)] st = .ok (.d (optI (nearL r h))) st := by
  subst hk
  have s1 : smallI ((h : Int) - 1) = true := decide_eq_true (by omega)
  have s2 : smallI (-1) = true := by decide
  rw [callL_some (d := d26) rfl rfl, d26]
  trivial
  have hr : rgC ((h : Int) - 1) (-1) h = (List.range h).map fun i : Nat => PyData.int ((h : Int) - 1 + (i : Int) * -1) := rfl
  rw [hr]
  generalize hb : exSs (callL ds m) (Ss.cons _ _) = b
  have key := forL_ret (gt := .nm 2) (encX := fun i : Nat => PyData.int ((h : Int) - 1 + (i : Int) * -1)) (encV := fun j : Nat => PV.d (.int (j : Int))) (f := fun (s : Unit) _ => s) (q := fun _ i => if r.getD h 0 ≤ r.getD (h - 1 - i) 0 then some (h - 1 - i) else none) (st := st) (b := b)
    (Rel := fun l _ e => ∃ c, e = [.v (.d (I r)), .v (.d (.int h)), c] ∧ ∀ i ∈ l, i < h) (l := List.range h) (s := ()) (e := [.v (.d (I r)), .v (.d (.int h)), .no])
    (by
      rintro i l s e ⟨c, rfl, hl⟩
      have hi : i < h := hl i List.mem_cons_self
      have ei : (h : Int) - 1 + (i : Int) * -1 = ((h - 1 - i : Nat) : Int) := by omega
      have hj : h - 1 - i < r.length := by omega
      have a1 := atI_int r h hh
      have a2 := atI_int r (h - 1 - i) hj
      have g1 : r.getD h 0 = r[h] := by rw [List.getD_eq_getElem?_getD, List.getElem?_eq_getElem hh]; rfl
      have g2 : r.getD (h - 1 - i) 0 = r[h - 1 - i] := by rw [List.getD_eq_getElem?_getD, List.getElem?_eq_getElem hj]; rfl
      refine ⟨[.v (.d (I r)), .v (.d (.int h)), .v (.d (.int ((h - 1 - i : Nat) : Int)))], by rw [ei]; rfl, ?_⟩
      rw [g1, g2]
      subst hb
      by_cases hc : r[h] ≤ r[h - 1 - i]
      · left
        refine ⟨h - 1 - i, by rw [if_pos hc], ?_⟩
        trivial
      · right
        refine ⟨by rw [if_neg hc], [.v (.d (I r)), .v (.d (.int h)), .v (.d (.int ((h - 1 - i : Nat) : Int)))], ?_, _, rfl, fun j hj => hl j (List.mem_cons_of_mem _ hj)⟩
        trivial)
    ⟨_, rfl, fun i hi => List.mem_range.mp hi⟩
  rw [retF_find] at key
  unfold nearL
  unfold I at key
  rcases key with ⟨v, k1, k2⟩ | ⟨s', e', k1, k2, _⟩
  · rw [k2]
    cases hf : (List.range h).findSome? fun i => if r.getD h 0 ≤ r.getD (h - 1 - i) 0 then some (h - 1 - i) else none with
    | some w => rw [hf] at k1; cases k1; rfl
    | none => rw [hf] at k1; cases k1
  · rw [k2]
    cases hf : (List.range h).findSome? fun i => if r.getD h 0 ≤ r.getD (h - 1 - i) 0 then some (h - 1 - i) else none with
    | some w => rw [hf] at k1; cases k1
    | none => rfl
theorem rgL_nat (n : Nat) : rgL 0 (n : Int) = (List.range n).map fun i : Nat => PyData.int (i : Int) := by
  unfold rgL
  rw [show ((n : Int) - 0).toNat = n by omega]
  apply List.map_congr_left
  intro i _
  rw [Int.zero_add]
theorem blockers {k m : Nat} (hk : k = m + 6) (r : List Int) (st : Sto) (h1 : ∀ i ∈ r, 1 ≤ i ∧ i ≤ 300) (h0 : 1 ≤ r.length) (hz : r.length ≤ 30) : callL ds k 27 [.d (I r)] st = .ok (.d (.tuple ((List.range r.length).map fun h => optI (nearL r h)))) st := by
  subst hk
  have h1 := checkHeads (k := m + 5) rfl r st h1 h0 hz
  have h2 : ∀ h, h < r.length → callL ds (m+5) 26 [.d (I r), .d (.int h)] st = .ok (.d (optI (nearL r h))) st := fun h hh => near (k := m + 5) (m := m + 4) rfl r h st hh hz
  have s1 : smallI (r.length : Int) = true := decide_eq_true (by omega)
  unfold I at h1 h2
  rw [callL_some (d := d27) rfl rfl, d27]
  trivial
  rw [rgL_nat, lcL_map (g := fun h => optI (nearL r h))]
  · trivial
  · intro h hh
    have h2 := h2 h (List.mem_range.mp hh)
    trivial
  · exact sz (by simp; omega)
end K96

set_option maxRecDepth 100000
/-! K96c: steps, orders, fewest moved. -/
namespace K96
open PySem Ev
theorem ai_cons (i : Int) (r : List PyData) : allInts (.int i :: r) = (allInts r).map (i :: ·) := rfl
theorem l0 : (0 ≤ sizeLine) = True := by simp
theorem l1 : (1 ≤ sizeLine) = True := eq_true (by decide)
theorem l2 : (2 ≤ sizeLine) = True := eq_true (by decide)
theorem l3 : (3 ≤ sizeLine) = True := eq_true (by decide)
theorem l4 : (4 ≤ sizeLine) = True := eq_true (by decide)
local macro_rules | `(tactic| trivial) => `(tactic| simp [↓bind_I, ↓then_I, ↓ofR_I, x_nil, x_cons, then_nx, then_rt, ofR_ok, bind_ok, opt_some, noEx_ok, runB_rt, runB_nx, s_set, s_par2, s_par3, s_asg, s_app, s_ex, s_frz, s_ret, s_retN, s_ife, s_for, s_whl, s_brk, s_cont, e_var, e_lit, e_con, e_ty, e_op, e_neg, e_cmp, e_chn, e_andd, e_orr, e_nott, e_ife, e_tup, e_lst, e_lstR, e_box, e_ix, e_sl, e_rev, e_call, e_bi, e_lrng, e_lc, e_dc, evRs, evAs, evDs, evTs, evI, evP, evA, biV, biD, rd, inC, asB, asR, asD, cmpD, opD, eqD, ltD, isNone, List.replicate, I, L, srcV, wipeC, asg, setAll, putC, notOwn, isaD, PyData.isInt, PyData.isBool, PyData.isTuple, allBools_map, allInts_map, List.all_map, Function.comp_def, ixD, allT, slD, itemsD, ai_cons, l0, l1, l2, l3, l4, *])
theorem cut1 {α : Type} (xs : List α) : cutL xs (some 1) none = xs.drop 1 := by
  unfold cutL
  have e1 : HT.sIx xs.length 0 (some 1) = min 1 xs.length := HT.sIx_nat xs.length 0 1
  rw [e1, HT.sIx_none]
  cases xs with
  | nil => rfl
  | cons a t =>
    have : min 1 (a :: t).length = 1 := by simp
    rw [this]
    simp
theorem at_last (xs : List PyData) (x : PyData) : L2.atI (xs ++ [x]) (-1) = some x := by
  have e : L2.ixN (xs ++ [x]).length (-1) = some xs.length := by
    unfold L2.ixN
    rw [if_neg (by decide), if_pos (by simp; omega)]
    simp
    omega
  unfold L2.atI
  rw [e]
  simp
theorem at0 (x : PyData) (xs : List PyData) : L2.atI (x :: xs) 0 = some x := L2.atI_nat (j := 0) rfl
def mx (i j : Int) : Int := if j > i then j else i
def stepsG (s : List Int × Int × Int) (h : Int) : List Int × Int × Int := (s.1 ++ [s.2.1], mx s.2.1 (s.2.2 + 1 - h), h + mx s.2.1 (s.2.2 + 1 - h))
def stepsS (r : List Int) : List Int × Int × Int := (r.drop 1).foldl stepsG ([], 0, r.headD 0)
def stepsL (r : List Int) : List Int := (stepsS r).1 ++ [(stepsS r).2.1]
theorem rawSteps {k m : Nat} (hk : k = m + 1) (r : List Int) (st : Sto) (h0 : 1 ≤ r.length) (hz : r.length ≤ 30) : callL ds k 28 [.d (I r)] st = .ok (.d (I (stepsL r))) st := by
  subst hk
  cases r with
  | nil => simp at h0
  | cons x t =>
    rw [callL_some (d := d28) rfl rfl, d28]
    have c1 := cut1 (PyData.int x :: t.map PyData.int)
    have a0 := at0 (.int x) (t.map .int)
    trivial
    generalize hb : exSs (callL ds m) (Ss.cons _ _) = b
    obtain ⟨e', h1, c1, c2, h2, _⟩ := forL_rel (gt := .nm 3) (encX := PyData.int) (f := stepsG) (st := st) (b := b)
      (Rel := fun l s e => ∃ c1 c2, e = [.v (.d (I (x :: t))), .own (L (s.1 ++ [s.2.1])), .v (.d (.int s.2.2)), c1, c2] ∧ s.1.length + l.length ≤ 30)
      (l := t) (s := ([], 0, x)) (e := [.v (.d (I (x :: t))), .own (L [0]), .v (.d (.int x)), .no, .no])
      (by
        rintro y l ⟨fs, la, hi⟩ e ⟨c1, c2, rfl, hl⟩
        subst hb
        simp only [List.length_cons] at hl
        have hz : fs.length + 1 < sizeLine := Nat.lt_of_lt_of_le (Nat.lt_succ_self _) (sz (by omega))
        have a1 := at_last (fs.map .int) (.int la)
        refine ⟨[.v (.d (I (x :: t))), .own (L (fs ++ [la])), .v (.d (.int hi)), .v (.d (.int y)), c2], [.v (.d (I (x :: t))), .own (L (fs ++ [la] ++ [mx la (hi + 1 - y)])), .v (.d (.int (y + mx la (hi + 1 - y)))), .v (.d (.int y)), .v (.d (.int (mx la (hi + 1 - y))))], rfl, ?_, _, _, rfl, ?_⟩
        · unfold mx
          trivial
        · simp [stepsG]
          omega) ⟨_, _, rfl, by simp at hz ⊢; omega⟩
    unfold I L at h1
    simp only [List.map_cons, List.map_nil] at h1
    rw [h1, h2]
    trivial
    simp [stepsL, stepsS]
theorem stepsOf {k m : Nat} (hk : k = m + 6) (r : List Int) (st : Sto) (h1 : ∀ i ∈ r, 1 ≤ i ∧ i ≤ 300) (h0 : 1 ≤ r.length) (hz : r.length ≤ 30) (hs : (stepsS r).2.1 ≤ 20000) : callL ds k 29 [.d (I r), .d (.int 20000)] st = .ok (.d (I (stepsL r))) st := by
  subst hk
  have h1 := checkHeads (k := m + 5) rfl r st h1 h0 hz
  have h2 := within (k := m + 5) (m := m + 3) rfl 20000 0 20000 st
  have h3 := rawSteps (k := m + 5) (m := m + 4) rfl r st h0 hz
  have a1 := at_last ((stepsS r).1.map .int) (.int (stepsS r).2.1)
  have e1 : (decide ((0 : Int) ≤ 20000) && decide ((20000 : Int) ≤ 20000)) = true := by decide
  rw [e1] at h2
  have e2 : (stepsL r).map PyData.int = (stepsS r).1.map .int ++ [.int (stepsS r).2.1] := by unfold stepsL; simp
  have e3 : ¬ (20000 < (stepsS r).2.1) := by omega
  unfold I at h1 h3
  rw [e2] at h3
  rw [callL_some (d := d29) rfl rfl, d29]
  trivial
theorem areStepsOf {k m : Nat} (hk : k = m + 2) (r s : List Int) (st : Sto) (hs : s.length = r.length) (h0 : 1 ≤ r.length) (hz : r.length ≤ 30) :
    callL ds k 30 [.d (I r), .d (I s)] st = .ok (.d (.bool (decide (s.headD 0 = 0) && (s.zip (s.drop 1)).all fun p => decide (p.1 ≤ p.2)))) st := by
  subst hk
  have h1 := tupleOf (k := m + 1) rfl (s.map .int) r.length st
  have h2 := fun i st => isInt (k := m + 1) rfl i st
  rw [List.length_map, hs, decide_eq_true rfl] at h1
  have c1 := cut1 (s.map PyData.int)
  rw [← List.map_drop] at c1
  have a0 : L2.atI (s.map PyData.int) 0 = some (.int (s.headD 0)) := by
    cases s with
    | nil => simp at hs; omega
    | cons x t => exact at0 _ _
  rw [callL_some (d := d30) rfl rfl, d30]
  generalize s.headD 0 = hd at a0 ⊢
  trivial
  rw [lcL_map (enc := .int) (g := fun i => .bool true)]
  · by_cases hx : hd = 0
    · trivial
      rw [← List.map_tail, zipD_map]
      rw [lcL_map (g := fun p : Int × Int => .bool (decide (p.1 ≤ p.2)))]
      · trivial
      · intro p _
        trivial
      · exact sz (by simp; omega)
    · trivial
  · intro i _
    trivial
  · exact sz (by simp; omega)
theorem raisedBy {k m : Nat} (hk : k = m + 1) (r s : List Int) (st : Sto) (hz : r.length ≤ 30) : callL ds k 31 [.d (I r), .d (I s)] st = .ok (.d (L ((r.zip s).map fun p => p.1 + p.2))) st := by
  subst hk
  rw [callL_some (d := d31) rfl rfl, d31]
  trivial
  rw [zipD_map, lcL_map (g := fun p : Int × Int => .int (p.1 + p.2))]
  · trivial
  · intro p _
    trivial
  · exact sz (by simp; omega)
theorem isSteps {k m : Nat} (hk : k = m + 6) (r s : List Int) (st : Sto) (h1 : ∀ i ∈ r, 1 ≤ i ∧ i ≤ 300) (h0 : 1 ≤ r.length) (hz : r.length ≤ 30) (hs : s.length = r.length) (ha : s.headD 0 = 0) (hb : ∀ p ∈ s.zip (s.drop 1), p.1 ≤ p.2) :
    callL ds k 32 [.d (I r), .d (I s)] st = .ok (.d (.bool ((((r.zip s).map fun p => p.1 + p.2).zip (((r.zip s).map fun p => p.1 + p.2).drop 1)).all fun p => decide (p.1 < p.2)))) st := by
  subst hk
  have h1 := checkHeads (k := m + 5) rfl r st h1 h0 hz
  have h2 := areStepsOf (k := m + 5) (m := m + 3) rfl r s st hs h0 hz
  have h3 := raisedBy (k := m + 5) (m := m + 4) rfl r s st hz
  have e1 : (decide (s.headD 0 = 0) && (s.zip (s.drop 1)).all fun p => decide (p.1 ≤ p.2)) = true := by
    simp only [Bool.and_eq_true, decide_eq_true_eq, List.all_eq_true]
    exact ⟨ha, fun p hp => hb p hp⟩
  rw [e1] at h2
  generalize hu : ((r.zip s).map fun p => p.1 + p.2) = u at h3 ⊢
  have hul : u.length ≤ 30 := by rw [← hu]; simp; omega
  unfold I L at *
  have c1 := cut1 (u.map PyData.int)
  rw [← List.map_drop] at c1
  rw [callL_some (d := d32) rfl rfl, d32]
  trivial
  rw [← List.map_tail, zipD_map, lcL_map (g := fun p : Int × Int => .bool (decide (p.1 < p.2)))]
  · trivial
  · intro p _
    trivial
  · exact sz (by simp; omega)
def nextH (r : List Int) (hi : Int) : Option Int := match r.filter fun i => decide (hi < i) with
  | [] => none
  | a :: t => some (t.foldl min a)
def optZ (o : Option Int) : PyData := match o with
  | some j => .int j
  | none => .none
theorem nextHeight {k m : Nat} (hk : k = m + 1) (r : List Int) (hi : Int) (st : Sto) (hz : r.length ≤ 30) : callL ds k 33 [.d (I r), .d (.int hi)] st = .ok (.d (optZ (nextH r hi))) st := by
  subst hk
  rw [callL_some (d := d33) rfl rfl, d33]
  trivial
  rw [lcL_filt (enc := .int) (p := fun i => decide (hi < i)) (g := .int)]
  · unfold nextH
    cases hf : r.filter fun i => decide (hi < i) with
    | nil => trivial; rfl
    | cons a t =>
      have e1 : allInts (.int a :: t.map .int) = some (a :: t) := by
        have := allInts_map (p := fun i : Int => i) (l := a :: t)
        simpa using this
      trivial
      rfl
  · intro i _
    by_cases h : hi < i <;> trivial
  · exact sz (by simp; omega)
def risF (r : List Int) (s : List Int) (p : Int × Nat) : List Int := s ++ [1 + (((List.range p.2).filter fun o => decide (r.getD o 0 < p.1)).map fun o => s.getD o 0).foldl max 0]
def risL (r : List Int) : List Int := r.zipIdx.foldl (risF r) []
theorem risingTo {k m : Nat} (hk : k = m + 1) (r : List Int) (st : Sto) (hz : r.length ≤ 30) : callL ds k 35 [.d (I r)] st = .ok (.d (L (risL r))) st := by
  subst hk
  rw [callL_some (d := d35) rfl rfl, d35]
  trivial
  have he : enD 0 (r.map .int) = (r.zipIdx).map fun p => PyData.tuple [.int (p.2 : Nat), .int p.1] := enD_map (k := 0)
  rw [he]
  generalize hb : exSs (callL ds m) (Ss.cons _ _) = b
  obtain ⟨e', h1, c1, c2, c3, h2, _⟩ := forL_rel (gt := .tp [2, 3]) (encX := fun p : Int × Nat => PyData.tuple [.int (p.2 : Nat), .int p.1]) (f := risF r) (st := st) (b := b)
    (Rel := fun l s e => ∃ c1 c2 c3, e = [.v (.d (I r)), .own (L s), c1, c2, c3, .no] ∧ l = r.zipIdx.drop s.length)
    (l := r.zipIdx) (s := []) (e := [.v (.d (I r)), .own (L []), .no, .no, .no, .no])
    (by
      rintro ⟨x, i⟩ l s e ⟨c1, c2, c3, rfl, hl⟩
      subst hb
      have hsl : s.length < r.zipIdx.length := by
        rcases Nat.lt_or_ge s.length r.zipIdx.length with h | h
        · exact h
        · rw [List.drop_eq_nil_of_le h] at hl; cases hl
      rw [List.drop_eq_getElem_cons hsl] at hl
      have hsr : s.length < r.length := by simpa using hsl
      rw [List.getElem_zipIdx] at hl
      simp only [Nat.zero_add] at hl
      cases hl
      have hz2 : s.length < sizeLine := Nat.lt_of_lt_of_le (Nat.lt_succ_self _) (sz (by omega))
      have s1 : smallI (s.length : Int) = true := decide_eq_true (by omega)
      generalize hy : r[s.length] = y
      refine ⟨[.v (.d (I r)), .own (L s), .v (.d (.int s.length)), .v (.d (.int y)), c3, .no], [.v (.d (I r)), .own (L (risF r s (y, s.length))), .v (.d (.int s.length)), .v (.d (.int y)), .v (.d (L (((List.range s.length).filter fun o => decide (r.getD o 0 < y)).map fun o => s.getD o 0))), .no], rfl, ?_, _, _, _, rfl, ?_⟩
      · trivial
        rw [rgL_nat, lcL_filt (p := fun o => decide (r.getD o 0 < y)) (g := fun o => .int (s.getD o 0))]
        · generalize hah : ((List.range s.length).filter fun o => decide (r.getD o 0 < y)) = ah
          have hahl : ah.length ≤ s.length := by rw [← hah]; exact Nat.le_trans (List.length_filter_le _ _) (by simp)
          have z1 : ah.length + 1 ≤ sizeLine := sz (by omega)
          have z2 : 1 + ah.length ≤ sizeLine := sz (by omega)
          have e1 := allInts_map (p := fun o : Nat => s.getD o 0) (l := ah)
          simp only [risF, hah]
          trivial
          rw [← hah]
          simp
        · intro o ho
          have ho : o < s.length := List.mem_range.mp ho
          have a1 := atI_int r o (by omega)
          have a2 := atI_int s o ho
          have g1 : r.getD o 0 = r[o] := by rw [List.getD_eq_getElem?_getD, List.getElem?_eq_getElem (by omega)]; rfl
          have g2 : s.getD o 0 = s[o] := by rw [List.getD_eq_getElem?_getD, List.getElem?_eq_getElem ho]; rfl
          rw [g1, g2]
          by_cases h : r[o] < y <;> trivial
        · exact sz (by simp; omega)
      · simp [risF]) ⟨_, _, _, rfl, rfl⟩
  unfold I L at h1
  simp only [List.map_nil] at h1
  rw [h1, h2]
  trivial
  rfl
theorem fewestMoved {k m : Nat} (hk : k = m + 6) (r : List Int) (st : Sto) (h1 : ∀ i ∈ r, 1 ≤ i ∧ i ≤ 300) (h0 : 1 ≤ r.length) (hz : r.length ≤ 30) {a : Int} {t : List Int} (hr : risL r = a :: t) : callL ds k 36 [.d (I r)] st = .ok (.d (.int (r.length - t.foldl max a))) st := by
  subst hk
  have h1 := checkHeads (k := m + 5) rfl r st h1 h0 hz
  have h2 := risingTo (k := m + 5) (m := m + 4) rfl r st hz
  have e1 := allInts_map (p := fun i : Int => i) (l := t)
  rw [List.map_id'] at e1
  rw [hr] at h2
  unfold I L at *
  rw [List.map_cons] at h2
  rw [callL_some (d := d36) rfl rfl, d36]
  trivial
end K96

set_option maxRecDepth 100000
/-! K96d: the best order of heads. -/
namespace K96
open PySem Ev
theorem s_rem {c : Nat → List PV → Sto → R PV} {e : Envr} {st : Sto} (i : Nat) (a : E) : exS c (.rem i a) e st = RS.ofR e (evE c a e st) fun x s1 => match x, e[i]? with
    | .d (.int k), some (.own (.list ds)) => match allInts ds with
      | some _ => match findI k ds with
        | some ds' => .nx (e.set i (.own (.list ds'))) s1
        | none => .bad
      | none => .bad
    | _, _ => .bad := rfl
local macro_rules | `(tactic| trivial) => `(tactic| simp [↓bind_I, ↓then_I, ↓ofR_I, x_nil, x_cons, then_nx, then_rt, ofR_ok, bind_ok, opt_some, noEx_ok, runB_rt, runB_nx, s_set, s_par2, s_par3, s_asg, s_app, s_ex, s_frz, s_ret, s_retN, s_ife, s_for, s_whl, s_brk, s_cont, e_var, e_lit, e_con, e_ty, e_op, e_neg, e_cmp, e_chn, e_andd, e_orr, e_nott, e_ife, e_tup, e_lst, e_lstR, e_box, e_ix, e_sl, e_rev, e_call, e_bi, e_lrng, e_lc, e_dc, evRs, evAs, evDs, evTs, evI, evP, evA, biV, biD, rd, inC, asB, asR, asD, cmpD, opD, eqD, ltD, isNone, List.replicate, I, L, srcV, wipeC, asg, setAll, putC, notOwn, isaD, PyData.isInt, PyData.isBool, PyData.isTuple, allBools_map, allInts_map, List.all_map, Function.comp_def, ixD, allT, slD, itemsD, ai_cons, l0, l1, l2, l3, l4, s_rem, *])
def N (l : List Nat) : PyData := .list (l.map fun (j : Nat) => .int (j : Int))
theorem findN {j : Nat} : ∀ {l : List Nat}, j ∈ l → findI (j : Int) (l.map fun (i : Nat) => PyData.int (i : Int)) = some ((l.erase j).map fun (i : Nat) => PyData.int (i : Int))
  | a :: l, h => by
    rw [List.map_cons, findI, List.erase_cons]
    by_cases hj : a = j
    · subst hj; simp
    · rw [if_neg (by omega)]
      have hb : (a == j) = false := by simpa using hj
      rw [hb, findN ((List.mem_cons.mp h).resolve_left (Ne.symm hj))]
      simp
structure Best (r : List Int) (left found : List Nat) (hi : Int) : Prop where
  pm : (found ++ left).Perm (List.range r.length)
  so : (found.map fun j => r.getD j 0).Pairwise (· ≤ ·)
  lo : ∀ j ∈ found, r.getD j 0 ≤ hi
  up : ∀ j ∈ left, hi < r.getD j 0
theorem Best.len {r : List Int} {left found : List Nat} {hi : Int} (b : Best r left found hi) : found.length + left.length = r.length := by
  have := b.pm.length_eq
  rw [List.length_append, List.length_range] at this
  exact this
theorem Best.lt {r : List Int} {left found : List Nat} {hi : Int} (b : Best r left found hi) {j : Nat} (h : j ∈ left) : j < r.length := List.mem_range.mp (b.pm.subset (List.mem_append_right _ h))
theorem foldl_min_spec : ∀ (l : List Int) (a : Int), (l.foldl min a = a ∨ l.foldl min a ∈ l) ∧ l.foldl min a ≤ a ∧ ∀ x ∈ l, l.foldl min a ≤ x
  | [], a => ⟨.inl rfl, Int.le_refl _, fun _ h => nomatch h⟩
  | b :: l, a => by
    obtain ⟨h1, h2, h3⟩ := foldl_min_spec l (min a b)
    rw [List.foldl_cons]
    refine ⟨?_, by omega, fun x hx => ?_⟩
    · rcases h1 with h1 | h1
      · rcases Int.le_total a b with h | h
        · rw [Int.min_eq_left h] at h1 ⊢; exact .inl h1
        · rw [Int.min_eq_right h] at h1 ⊢; exact .inr (by rw [h1]; exact List.mem_cons_self)
      · exact .inr (List.mem_cons_of_mem _ h1)
    · rcases List.mem_cons.mp hx with e | e
      · rw [e]; omega
      · exact h3 x e
theorem nextH_spec {r : List Int} {hi m : Int} (h : nextH r hi = some m) : m ∈ r ∧ hi < m ∧ ∀ x ∈ r, hi < x → m ≤ x := by
  unfold nextH at h
  cases hf : r.filter fun i => decide (hi < i) with
  | nil => rw [hf] at h; cases h
  | cons a t =>
    rw [hf] at h
    cases h
    obtain ⟨h1, h2, h3⟩ := foldl_min_spec t a
    have hm : t.foldl min a ∈ a :: t := by
      rcases h1 with h1 | h1
      · rw [h1]; exact List.mem_cons_self
      · exact List.mem_cons_of_mem _ h1
    rw [← hf] at hm
    obtain ⟨q1, q2⟩ := List.mem_filter.mp hm
    refine ⟨q1, by simpa using q2, fun x hx hlt => ?_⟩
    have : x ∈ a :: t := by rw [← hf]; exact List.mem_filter.mpr ⟨hx, by simpa using hlt⟩
    rcases List.mem_cons.mp this with e | e
    · rw [e]; exact h2
    · exact h3 x e
theorem nextH_some {r : List Int} {hi x : Int} (hx : x ∈ r) (hlt : hi < x) : ∃ m, nextH r hi = some m := by
  unfold nextH
  cases hf : r.filter fun i => decide (hi < i) with
  | nil =>
    have : x ∈ r.filter fun i => decide (hi < i) := List.mem_filter.mpr ⟨hx, by simpa using hlt⟩
    rw [hf] at this; cases this
  | cons a t => exact ⟨_, rfl⟩
theorem getD_mem {r : List Int} {j : Nat} (h : j < r.length) : r.getD j 0 ∈ r := by
  rw [List.getD_eq_getElem?_getD, List.getElem?_eq_getElem h]
  exact List.getElem_mem h
theorem getD_inj {r : List Int} (hn : r.Nodup) {i j : Nat} (hi : i < r.length) (hj : j < r.length) (h : r.getD i 0 = r.getD j 0) : i = j := by
  rw [List.getD_eq_getElem?_getD, List.getD_eq_getElem?_getD, List.getElem?_eq_getElem hi, List.getElem?_eq_getElem hj] at h
  exact (List.getElem_inj hn).mp h
/-- the next one -/
theorem Best.step {r : List Int} {left found : List Nat} {hi : Int} (hn : r.Nodup) (b : Best r left found hi) (hl : left ≠ []) :
    ∃ j rest, (left.filter fun i => decide (r.getD i 0 ≤ hi) || decide (some (r.getD i 0) = nextH r hi)) = j :: rest ∧ j ∈ left ∧ nextH r hi = some (r.getD j 0) ∧ Best r (left.erase j) (found ++ [j]) (r.getD j 0) ∧ hi < r.getD j 0 := by
  obtain ⟨i0, hi0⟩ : ∃ i, i ∈ left := List.exists_mem_of_ne_nil _ hl
  obtain ⟨m, hm⟩ := nextH_some (getD_mem (b.lt hi0)) (b.up i0 hi0)
  obtain ⟨m1, m2, m3⟩ := nextH_spec hm
  obtain ⟨j, hj, ej⟩ := List.mem_iff_getElem.mp m1
  have gj : r.getD j 0 = m := by rw [List.getD_eq_getElem?_getD, List.getElem?_eq_getElem hj]; exact ej
  have jl : j ∈ left := by
    have : j ∈ found ++ left := b.pm.symm.subset (List.mem_range.mpr hj)
    rcases List.mem_append.mp this with h | h
    · have := b.lo j h; omega
    · exact h
  have only : ∀ i ∈ left, (decide (r.getD i 0 ≤ hi) || decide (some (r.getD i 0) = nextH r hi)) = true → i = j := fun i il h => by
    simp only [Bool.or_eq_true, decide_eq_true_eq] at h
    rcases h with h | h
    · have := b.up i il; omega
    · rw [hm] at h
      exact getD_inj hn (b.lt il) hj (by rw [gj]; exact Option.some.inj h)
  have jf : j ∈ left.filter fun i => decide (r.getD i 0 ≤ hi) || decide (some (r.getD i 0) = nextH r hi) := List.mem_filter.mpr ⟨jl, by rw [hm, gj]; simp⟩
  cases hf : left.filter fun i => decide (r.getD i 0 ≤ hi) || decide (some (r.getD i 0) = nextH r hi) with
  | nil => rw [hf] at jf; cases jf
  | cons j' rest =>
    have hj' : j' ∈ left.filter fun i => decide (r.getD i 0 ≤ hi) || decide (some (r.getD i 0) = nextH r hi) := by rw [hf]; exact List.mem_cons_self
    obtain ⟨q1, q2⟩ := List.mem_filter.mp hj'
    have ejj := only j' q1 q2
    subst ejj
    have nd : (found ++ left).Nodup := b.pm.nodup_iff.mpr List.nodup_range
    have ndl : left.Nodup := (List.nodup_append.mp nd).2.1
    refine ⟨j', rest, rfl, jl, by rw [hm, gj], ⟨?_, ?_, ?_, ?_⟩, by rw [gj]; exact m2⟩
    · rw [List.append_assoc]
      exact ((List.perm_cons_erase jl).symm.append_left found).trans b.pm
    · rw [List.map_append, List.pairwise_append]
      refine ⟨b.so, by simp, fun x hx y hy => ?_⟩
      obtain ⟨i, h1, rfl⟩ := List.mem_map.mp hx
      rw [List.map_singleton, List.mem_singleton] at hy
      rw [hy, gj]
      have := b.lo i h1; omega
    · intro i h
      rcases List.mem_append.mp h with h | h
      · have := b.lo i h; rw [gj]; omega
      · rw [List.mem_singleton.mp h]; exact Int.le_refl _
    · intro i h
      have il := List.mem_of_mem_erase h
      have hne : i ≠ j' := fun e => by
        rw [e] at h
        exact (List.Nodup.not_mem_erase ndl) h
      have h1 := m3 _ (getD_mem (b.lt il)) (b.up i il)
      rw [gj]
      rcases Int.lt_or_eq_of_le h1 with h2 | h2
      · exact h2
      · exact absurd (getD_inj hn (b.lt il) hj (by rw [gj, h2])) hne
theorem rgN (n : Nat) : rgL 0 (n : Int) = (List.range n).map fun (j : Nat) => PyData.int (j : Int) := rgL_nat n
theorem bestOrder {k m : Nat} (hk : k = m + 6) (r : List Int) (st : Sto) (hn : r.Nodup) (h1 : ∀ i ∈ r, 1 ≤ i ∧ i ≤ 300) (h0 : 1 ≤ r.length) (hz : r.length ≤ 30) :
    ∃ o : List Nat, callL ds k 34 [.d (I r)] st = .ok (.d (.tuple (o.map fun (j : Nat) => .int (j : Int)))) st ∧ o.Perm (List.range r.length) ∧ (o.map fun j => r.getD j 0).Pairwise (· ≤ ·) := by
  subst hk
  have hc := checkHeads (k := m + 5) rfl r st h1 h0 hz
  have hnx := fun hi => nextHeight (k := m + 5) (m := m + 4) rfl r hi st hz
  have s0 : smallI 0 = true := by decide
  have s1 : smallI (r.length : Int) = true := decide_eq_true (by omega)
  have z1 : r.length ≤ sizeLine := sz (by omega)
  have l0' : (List.range r.length).map (fun (j : Nat) => PyData.int (j : Int)) = (List.range r.length).map (fun (j : Nat) => PyData.int (j : Int)) := rfl
  unfold I at hc
  rw [callL_some (d := d34) rfl rfl, d34]
  trivial
  generalize ht : evE (callL ds (m + 5)) (.cmp .gt (.bi .len (.cons (.var 1) .nil)) (.lit (.int 0))) = t
  generalize hb : exSs (callL ds (m + 5)) (Ss.cons _ _) = b
  obtain ⟨s', e', q1, ⟨c1, c2, rfl, q2⟩, q3, _⟩ := whlL_rel (β := List Nat × List Nat × Int) (t := t) (b := b) (st := st) (c := fun s => decide (0 < s.1.length))
    (f := fun s => let j := (s.1.filter fun i => decide (r.getD i 0 ≤ s.2.2) || decide (some (r.getD i 0) = nextH r s.2.2)).headD 0; (s.1.erase j, s.2.1 ++ [j], r.getD j 0)) (m := fun s => s.1.length)
    (Rel := fun s e => ∃ c1 c2, e = [.v (.d (I r)), .own (N s.1), .own (N s.2.1), .v (.d (.int s.2.2)), c1, c2, .no] ∧ Best r s.1 s.2.1 s.2.2) (n := 1000000) (s := (List.range r.length, [], 0)) (e := [.v (.d (I r)), .own (N (List.range r.length)), .own (N []), .v (.d (.int 0)), .no, .no, .no])
    (by
      rintro ⟨left, found, hi⟩ e ⟨c1, c2, rfl, hB⟩
      dsimp only at hB ⊢
      subst ht
      unfold N
      trivial)
    (by
      rintro ⟨left, found, hi⟩ e ⟨c1, c2, rfl, hB⟩ hc
      dsimp only at hB hc ⊢
      have hl : left ≠ [] := fun e => by subst e; simp at hc
      obtain ⟨j, rest, hf, jl, hm, hB', hlt⟩ := hB.step hn hl
      have hjr := hB.lt jl
      have hlen := hB.len
      refine ⟨by simp only [hf, List.headD_cons]; rw [List.length_erase_of_mem jl]; have := List.length_pos_iff.mpr hl; omega, ?_⟩
      refine ⟨[.v (.d (I r)), .own (N (left.erase j)), .own (N (found ++ [j])), .v (.d (.int (r.getD j 0))), .v (.d (.int (r.getD j 0))), .v (.d (.int (j : Int))), .no], ?_, .v (.d (.int (r.getD j 0))), .v (.d (.int (j : Int))), by simp only [hf, List.headD_cons], by simp only [hf, List.headD_cons]; exact hB'⟩
      subst hb
      have hx := hnx hi
      have a1 := atI_int r j hjr
      have gj : r.getD j 0 = r[j] := by rw [List.getD_eq_getElem?_getD, List.getElem?_eq_getElem hjr]; rfl
      rw [hm] at hx hf
      have hf' : (left.filter fun i => decide (r.getD i 0 ≤ hi) || decide (r.getD i 0 = r.getD j 0)) = j :: rest := by
        rw [← hf]
        apply List.filter_congr
        intro i _
        simp
      rw [gj] at hx hf' hlt ⊢
      clear hm hf hB'
      generalize r[j] = y at hx hf' a1 hlt ⊢
      unfold I at hx
      simp only [optZ] at hx
      unfold N
      have f1 := findN jl
      have z2 : found.length < sizeLine := Nat.lt_of_lt_of_le (Nat.lt_succ_self _) (sz (by omega))
      have ai : allInts (left.map fun (i : Nat) => PyData.int (i : Int)) = some (left.map fun (i : Nat) => (i : Int)) := allInts_map
      trivial
      rw [lcL_filt (p := fun i => decide (r.getD i 0 ≤ hi) || decide (r.getD i 0 = y)) (g := fun i : Nat => .int (i : Int))]
      · rw [hf']
        have a0 := at0 (.int (j : Int)) (rest.map fun (i : Nat) => PyData.int (i : Int))
        trivial
      · intro i hi'
        have a2 := atI_int r i (hB.lt hi')
        have g2 : r.getD i 0 = r[i]'(hB.lt hi') := by rw [List.getD_eq_getElem?_getD, List.getElem?_eq_getElem (hB.lt hi')]; rfl
        rw [g2]
        generalize r[i]'(hB.lt hi') = u at a2 ⊢
        by_cases h2 : u ≤ hi
        · trivial
        · by_cases h3 : u = y
          · subst h3; trivial
          · trivial
      · exact sz (by simp; omega))
    ⟨_, _, rfl, by simp, by simp, by simp, by
      intro j hj
      have := (h1 _ (getD_mem (List.mem_range.mp hj))).1
      show (0 : Int) < _
      omega⟩ (by simp; omega)
  obtain ⟨left, found, hi⟩ := s'
  have q3 : decide (0 < left.length) = false := q3
  have hl : left = [] := by
    cases left with
    | nil => rfl
    | cons a l => simp at q3
  subst hl
  have q2 : Best r [] found hi := q2
  refine ⟨found, ?_, by have := q2.pm; rwa [List.append_nil] at this, q2.so⟩
  unfold N I at q1
  simp only [List.map_nil] at q1
  rw [rgL_nat, q1]
  trivial
end K96

set_option maxRecDepth 100000
/-! K96e: the wing. -/
namespace K96
open PySem Ev
local macro_rules | `(tactic| trivial) => `(tactic| simp [↓bind_I, ↓then_I, ↓ofR_I, x_nil, x_cons, then_nx, then_rt, ofR_ok, bind_ok, opt_some, noEx_ok, runB_rt, runB_nx, s_set, s_par2, s_par3, s_asg, s_app, s_ex, s_frz, s_ret, s_retN, s_ife, s_for, s_whl, s_brk, s_cont, e_var, e_lit, e_con, e_ty, e_op, e_neg, e_cmp, e_chn, e_andd, e_orr, e_nott, e_ife, e_tup, e_lst, e_lstR, e_box, e_ix, e_sl, e_rev, e_call, e_bi, e_lrng, e_lc, e_dc, evRs, evAs, evDs, evTs, evI, evP, evA, biV, biD, rd, inC, asB, asR, asD, cmpD, opD, eqD, ltD, isNone, List.replicate, I, L, srcV, wipeC, asg, setAll, putC, notOwn, isaD, PyData.isInt, PyData.isBool, PyData.isTuple, allBools_map, allInts_map, List.all_map, Function.comp_def, ixD, allT, slD, itemsD, ai_cons, l0, l1, l2, l3, l4, s_rem, *])
def ascB (r : List Int) : Bool := (r.zip r.tail).all fun p => decide (p.1 < p.2)
theorem isAsc {k m : Nat} (hk : k = m + 1) (r : List Int) (st : Sto) (hz : r.length ≤ 30) : callL ds k 20 [.d (I r)] st = .ok (.d (.bool (ascB r))) st := by
  subst hk
  have c1 := cut1 (r.map PyData.int)
  rw [← List.map_drop] at c1
  rw [callL_some (d := d20) rfl rfl, d20]
  trivial
  rw [← List.map_tail, zipD_map, lcL_map (g := fun p : Int × Int => .bool (decide (p.1 < p.2)))]
  · trivial
    rfl
  · intro p _
    trivial
  · exact sz (by simp; omega)
/-- the heap, its top ahead; what has come out -/
def popG (x : Int) (s : List Int × List Int) : List Int × List Int := match s.1 with
  | [] => s
  | a :: t => (t, s.2 ++ [a])
def popC (x : Int) (s : List Int × List Int) : Bool := match s.1 with
  | [] => false
  | a :: _ => decide (a < x)
def popLt (x : Int) : List Int → List Int → List Int × List Int
  | [], f => ([], f)
  | a :: t, f => if a < x then popLt x t (f ++ [a]) else (a :: t, f)
def runW {β : Type} (c : β → Bool) (f : β → β) : Nat → β → β
  | 0, s => s
  | n + 1, s => if c s = true then runW c f n (f s) else s
theorem runW_stop {β : Type} {c : β → Bool} {f : β → β} {s : β} (h : c s = false) : ∀ n, runW c f n s = s
  | 0 => rfl
  | n + 1 => by rw [runW, h]; rfl
theorem whl_run {β : Type} {t : Envr → Sto → R PV} {b : Envr → Sto → RS} {c : β → Bool} {f : β → β} {m : β → Nat} {Rel : β → Envr → Prop} {st : Sto}
    (ht : ∀ s e, Rel s e → t e st = .ok (.d (.bool (c s))) st) (hb : ∀ s e, Rel s e → c s = true → m (f s) < m s ∧ ∃ e2, b e st = .nx e2 st ∧ Rel (f s) e2) : ∀ {n : Nat} {s : β} {e : Envr}, Rel s e → m s < n → ∀ k, m s ≤ k →
      ∃ e', whlL t b n e st = .nx e' st ∧ Rel (runW c f k s) e' ∧ c (runW c f k s) = false
  | 0, s, e, _, h, _, _ => absurd h (Nat.not_lt_zero _)
  | n + 1, s, e, hi, hm, k, hk => by
    rw [whlL, ht s e hi]
    dsimp only [RS.ofR, asB]
    cases hc : c s with
    | true =>
      obtain ⟨h1, e2, h2, h3⟩ := hb s e hi hc
      dsimp only
      rw [h2]
      cases k with
      | zero => omega
      | succ k =>
        rw [runW, if_pos hc]
        exact whl_run ht hb h3 (by omega : m (f s) < n) k (by omega)
    | false =>
      rw [runW_stop hc]
      exact ⟨e, rfl, hi, hc⟩
theorem popLt_run {x : Int} : ∀ (s f : List Int), runW (popC x) (popG x) s.length (s, f) = popLt x s f
  | [], f => rfl
  | a :: t, f => by
    rw [List.length_cons, runW, popLt]
    by_cases h : a < x
    · rw [if_pos h, if_pos (by simpa [popC] using h)]
      exact popLt_run t (f ++ [a])
    · rw [if_neg h, if_neg (by simpa [popC] using h)]
theorem popLt_len {x : Int} : ∀ (s f : List Int), (popLt x s f).1.length + (popLt x s f).2.length = s.length + f.length
  | [], f => rfl
  | a :: t, f => by
    rw [popLt]
    split
    · rw [popLt_len t, List.length_append, List.length_singleton, List.length_cons]; omega
    · rfl
def onceF (s : List Int × List Int) (x : Int) : List Int × List Int := (x :: (popLt x s.1 s.2).1, (popLt x s.1 s.2).2)
def onceL (r : List Int) : List Int := (r.foldl onceF ([], [])).2 ++ (r.foldl onceF ([], [])).1
def LR (s : List Int) : PyData := .list (s.map PyData.int).reverse
theorem onceThrough {k m : Nat} (hk : k = m + 1) (r : List Int) (st : Sto) (hz : r.length ≤ 30) : callL ds k 19 [.d (I r)] st = .ok (.d (I (onceL r))) st := by
  subst hk
  rw [callL_some (d := d19) rfl rfl, d19]
  trivial
  generalize hb : exSs (callL ds m) (Ss.cons _ _) = b
  obtain ⟨e', h1, c1, h2, hlen⟩ := forL_rel (gt := .nm 3) (encX := PyData.int) (f := onceF) (st := st) (b := b)
    (Rel := fun l s e => ∃ c1, e = [.v (.d (I r)), .own (LR s.1), .own (L s.2), c1] ∧ s.1.length + s.2.length + l.length ≤ 30)
    (l := r) (s := ([], [])) (e := [.v (.d (I r)), .own (LR []), .own (L []), .no])
    (by
      rintro x l ⟨s, f⟩ e ⟨c1, rfl, hl⟩
      subst hb
      simp only [List.length_cons] at hl
      refine ⟨[.v (.d (I r)), .own (LR s), .own (L f), .v (.d (.int x))], [.v (.d (I r)), .own (LR (onceF (s, f) x).1), .own (L (onceF (s, f) x).2), .v (.d (.int x))], rfl, ?_, _, rfl, ?_⟩
      · obtain ⟨e1, w1, ⟨w2, w4⟩, w3⟩ := whl_run (β := List Int × List Int) (t := evE (callL ds m) (.andd (.cmp .gt (.bi .len (.cons (.var 1) .nil)) (.lit (.int 0))) (.cmp .lt (.ix (.var 1) (.neg (.lit (.int 1)))) (.var 3)))) (b := exSs (callL ds m) (.cons (.app 2 (.pop 1)) .nil)) (st := st)
          (c := popC x) (f := popG x) (m := fun s => s.1.length) (Rel := fun s e => e = [.v (.d (I r)), .own (LR s.1), .own (L s.2), .v (.d (.int x))] ∧ s.1.length + s.2.length ≤ 30) (n := 1000000) (s := (s, f)) (e := [.v (.d (I r)), .own (LR s), .own (L f), .v (.d (.int x))])
          (by
            rintro ⟨s, f⟩ e ⟨rfl, hl⟩
            cases s with
            | nil =>
              unfold LR
              trivial
              rfl
            | cons a s =>
              have a1 := at_last (s.map .int).reverse (.int a)
              unfold popC
              unfold LR
              rw [List.map_cons, List.reverse_cons]
              trivial)
          (by
            rintro ⟨s, f⟩ e ⟨rfl, hl⟩ hc
            cases s with
            | nil => cases hc
            | cons a s =>
              dsimp only at hl
              rw [List.length_cons] at hl
              have z1 : f.length < sizeLine := Nat.lt_of_lt_of_le (Nat.lt_succ_self _) (sz (by omega))
              refine ⟨by simp [popG], [.v (.d (I r)), .own (LR s), .own (L (f ++ [a])), .v (.d (.int x))], ?_, rfl, by simp [popG]; omega⟩
              unfold LR
              rw [List.map_cons, List.reverse_cons]
              trivial)
          ⟨rfl, by show s.length + f.length ≤ 30; omega⟩ (by show s.length < 1000000; omega) s.length (Nat.le_refl _)
        rw [popLt_run] at w2 w3 w4
        subst w2
        have z1 : (popLt x s f).1.length < sizeLine := Nat.lt_of_lt_of_le (Nat.lt_succ_self _) (sz (by have := popLt_len (x := x) s f; omega))
        unfold I L LR at w1
        unfold onceF LR
        trivial
      · have := popLt_len (x := x) s f
        simp only [onceF, List.length_cons]
        omega)
    ⟨_, rfl, by simpa using hz⟩
  unfold I L LR at h1
  simp only [List.map_nil, List.reverse_nil] at h1
  rw [h1, h2]
  have z2 : (List.foldl onceF ([], []) r).2.length + (List.foldl onceF ([], []) r).1.length ≤ sizeLine := sz (by simp at hlen; omega)
  unfold LR
  trivial
  simp [onceL]
end K96

set_option maxRecDepth 100000
/-! K96f: deeds. -/
namespace K96
open PySem Ev
local macro_rules | `(tactic| trivial) => `(tactic| simp [↓bind_I, ↓then_I, ↓ofR_I, x_nil, x_cons, then_nx, then_rt, ofR_ok, bind_ok, opt_some, noEx_ok, runB_rt, runB_nx, s_set, s_par2, s_par3, s_asg, s_app, s_ex, s_frz, s_ret, s_retN, s_ife, s_for, s_whl, s_brk, s_cont, e_var, e_lit, e_con, e_ty, e_op, e_neg, e_cmp, e_chn, e_andd, e_orr, e_nott, e_ife, e_tup, e_lst, e_lstR, e_box, e_ix, e_sl, e_rev, e_call, e_bi, e_lrng, e_lc, e_dc, evRs, evAs, evDs, evTs, evI, evP, evA, biV, biD, rd, inC, asB, asR, asD, cmpD, opD, eqD, ltD, isNone, List.replicate, I, L, srcV, wipeC, asg, setAll, putC, notOwn, isaD, PyData.isInt, PyData.isBool, PyData.isTuple, allBools_map, allInts_map, List.all_map, Function.comp_def, ixD, allT, slD, itemsD, ai_cons, l0, l1, l2, l3, l4, s_rem, *])
/-- true: in -/
def dd (b : Bool) : PyData := .str (if b then "in" else "out")
abbrev DS := List Int × List Bool × Nat
def eqC (w : List Int) (s : DS) : Bool := match s.1 with
  | [] => false
  | a :: _ => decide (a = w.getD s.2.2 0)
def eqG (s : DS) : DS := (s.1.tail, s.2.1 ++ [false], s.2.2 + 1)
def popEq (w : List Int) : List Int → List Bool → Nat → DS
  | [], D, p => ([], D, p)
  | a :: s, D, p => if a = w.getD p 0 then popEq w s (D ++ [false]) (p + 1) else (a :: s, D, p)
theorem popEq_run {w : List Int} : ∀ (s : List Int) (D : List Bool) (p : Nat), runW (eqC w) eqG s.length (s, D, p) = popEq w s D p
  | [], D, p => rfl
  | a :: t, D, p => by
    rw [List.length_cons, runW, popEq]
    by_cases h : a = w.getD p 0
    · rw [if_pos h, if_pos (by unfold eqC; simpa using h)]
      exact popEq_run t (D ++ [false]) (p + 1)
    · rw [if_neg h, if_neg (by unfold eqC; simpa using h)]
theorem popEq_len {w : List Int} : ∀ (s : List Int) (D : List Bool) (p : Nat), (popEq w s D p).1.length + (popEq w s D p).2.2 = s.length + p ∧ (popEq w s D p).2.1.length + p = D.length + (popEq w s D p).2.2
  | [], D, p => ⟨rfl, rfl⟩
  | a :: t, D, p => by
    rw [popEq]
    split
    · obtain ⟨h1, h2⟩ := popEq_len (w := w) t (D ++ [false]) (p + 1)
      rw [List.length_append, List.length_singleton] at h2
      rw [List.length_cons]
      omega
    · exact ⟨rfl, rfl⟩
def deedF (w : List Int) (s : DS) (x : Int) : DS := popEq w (x :: s.1) (s.2.1 ++ [true]) s.2.2
def deedS (r w : List Int) : DS := r.foldl (deedF w) ([], [], 0)
def deedsL (r w : List Int) : Option (List Bool) := if (deedS r w).1 = [] then some (deedS r w).2.1 else none
def optD (o : Option (List Bool)) : PyData := match o with
  | some D => .tuple (D.map dd)
  | none => .none
def LD (D : List Bool) : PyData := .list (D.map dd)
theorem rawDeeds {k m : Nat} (hk : k = m + 1) (r w : List Int) (st : Sto) (hz : r.length ≤ 30) (hw : w.length = r.length) : callL ds k 10 [.d (I r), .d (I w)] st = .ok (.d (optD (deedsL r w))) st := by
  subst hk
  rw [callL_some (d := d10) rfl rfl, d10]
  trivial
  generalize hb : exSs (callL ds m) (Ss.cons _ _) = b
  obtain ⟨e', h1, c1, h2, hlen, _⟩ := forL_rel (gt := .nm 5) (encX := PyData.int) (f := deedF w) (st := st) (b := b)
    (Rel := fun l s e => ∃ c1, e = [.v (.d (I r)), .v (.d (I w)), .own (LR s.1), .own (LD s.2.1), .v (.d (.int (s.2.2 : Nat))), c1] ∧ s.1.length + s.2.2 + l.length = w.length ∧ s.2.1.length = s.1.length + 2 * s.2.2)
    (l := r) (s := ([], [], 0)) (e := [.v (.d (I r)), .v (.d (I w)), .own (LR []), .own (LD []), .v (.d (.int ((0 : Nat) : Int))), .no])
    (by
      rintro x l ⟨s, D, p⟩ e ⟨c1, rfl, hl, hD⟩
      subst hb
      dsimp only at hl hD
      simp only [List.length_cons] at hl
      have z1 : s.length < sizeLine := Nat.lt_of_lt_of_le (Nat.lt_succ_self _) (sz (by omega))
      have z2 : D.length < sizeLine := Nat.lt_of_lt_of_le (Nat.lt_succ_self _) (sz (by omega))
      obtain ⟨pl1, pl2⟩ := popEq_len (w := w) (x :: s) (D ++ [true]) p
      rw [List.length_cons] at pl1
      rw [List.length_append, List.length_singleton] at pl2
      refine ⟨[.v (.d (I r)), .v (.d (I w)), .own (LR s), .own (LD D), .v (.d (.int (p : Nat))), .v (.d (.int x))], [.v (.d (I r)), .v (.d (I w)), .own (LR (deedF w (s, D, p) x).1), .own (LD (deedF w (s, D, p) x).2.1), .v (.d (.int ((deedF w (s, D, p) x).2.2 : Nat))), .v (.d (.int x))], rfl, ?_, _, rfl, ?_, ?_⟩
      · obtain ⟨e1, w1, ⟨w2, w4⟩, w3⟩ := whl_run (β := DS) (t := evE (callL ds m) (.andd (.cmp .gt (.bi .len (.cons (.var 2) .nil)) (.lit (.int 0))) (.cmp .eq (.ix (.var 2) (.neg (.lit (.int 1)))) (.ix (.var 1) (.var 4))))) (b := exSs (callL ds m) (.cons (.ex (.pop 2)) (.cons (.app 3 (.e (.con "OUT" (.str "out")))) (.cons (.set false 4 (.e (.op .add (.var 4) (.lit (.int 1))))) .nil)))) (st := st)
          (c := eqC w) (f := eqG) (m := fun s => s.1.length) (Rel := fun s e => e = [.v (.d (I r)), .v (.d (I w)), .own (LR s.1), .own (LD s.2.1), .v (.d (.int (s.2.2 : Nat))), .v (.d (.int x))] ∧ s.1.length + s.2.2 ≤ w.length ∧ s.2.1.length ≤ 100 - s.1.length) (n := 1000000) (s := (x :: s, D ++ [true], p)) (e := [.v (.d (I r)), .v (.d (I w)), .own (LR (x :: s)), .own (LD (D ++ [true])), .v (.d (.int (p : Nat))), .v (.d (.int x))])
          (by
            rintro ⟨s, D, p⟩ e ⟨rfl, hl, _⟩
            dsimp only at hl
            cases s with
            | nil =>
              unfold LR
              trivial
              rfl
            | cons a s =>
              rw [List.length_cons] at hl
              have a1 := at_last (s.map .int).reverse (.int a)
              have a2 := atI_int w p (by omega)
              have g2 : w.getD p 0 = w[p]'(by omega) := by rw [List.getD_eq_getElem?_getD, List.getElem?_eq_getElem (by omega)]; rfl
              unfold eqC
              dsimp only
              rw [g2]
              unfold LR
              rw [List.map_cons, List.reverse_cons]
              generalize w[p]'(by omega) = u at a2 ⊢
              trivial)
          (by
            rintro ⟨s, D, p⟩ e ⟨rfl, hl, h100⟩ hc
            cases s with
            | nil => cases hc
            | cons a s =>
              dsimp only at hl h100
              rw [List.length_cons] at hl h100
              have z1 : D.length < sizeLine := Nat.lt_of_lt_of_le (Nat.lt_succ_self _) (sz (by omega))
              refine ⟨by simp [eqG], [.v (.d (I r)), .v (.d (I w)), .own (LR s), .own (LD (D ++ [false])), .v (.d (.int ((p + 1 : Nat) : Int))), .v (.d (.int x))], ?_, rfl, by simp [eqG]; omega, by simp [eqG]; omega⟩
              unfold LR LD
              rw [List.map_cons, List.reverse_cons]
              trivial
              rfl)
          ⟨rfl, by show (x :: s).length + p ≤ w.length; rw [List.length_cons]; omega, by show (D ++ [true]).length ≤ 100 - (x :: s).length; rw [List.length_append, List.length_singleton, List.length_cons]; omega⟩ (by show (x :: s).length < 1000000; rw [List.length_cons]; omega) (x :: s).length (Nat.le_refl _)
        rw [popEq_run] at w2 w3 w4
        subst w2
        unfold I LR LD at w1
        unfold deedF LR LD
        simp only [List.map_cons, List.reverse_cons, List.map_append, List.map_nil] at w1
        rw [show dd true = PyData.str "in" from rfl] at w1
        clear hD
        trivial
      · simp only [deedF]; omega
      · simp only [deedF]; omega)
    ⟨_, rfl, by simpa using hw.symm, rfl⟩
  unfold I LR LD at h1
  simp only [List.map_nil, List.reverse_nil] at h1
  have e0 : ((0 : Nat) : Int) = 0 := rfl
  rw [e0] at h1
  rw [h1, h2]
  unfold LR LD deedsL deedS
  by_cases hs : (List.foldl (deedF w) ([], [], 0) r).1 = []
  · trivial
    rfl
  · have hs' : ¬ ((List.foldl (deedF w) ([], [], 0) r).1.length : Int) = 0 := by
      have := List.length_pos_iff.mpr hs
      omega
    trivial
    rfl
end K96

set_option maxRecDepth 100000
/-! K96g: through the wing by deeds. -/
namespace K96
open PySem Ev
theorem oi : (Str.ofString "out" = Str.ofString "in") = False := eq_false (by decide +kernel)
local macro_rules | `(tactic| trivial) => `(tactic| simp [↓bind_I, ↓then_I, ↓ofR_I, x_nil, x_cons, then_nx, then_rt, ofR_ok, bind_ok, opt_some, noEx_ok, runB_rt, runB_nx, s_set, s_par2, s_par3, s_asg, s_app, s_ex, s_frz, s_ret, s_retN, s_ife, s_for, s_whl, s_brk, s_cont, e_var, e_lit, e_con, e_ty, e_op, e_neg, e_cmp, e_chn, e_andd, e_orr, e_nott, e_ife, e_tup, e_lst, e_lstR, e_box, e_ix, e_sl, e_rev, e_call, e_bi, e_lrng, e_lc, e_dc, evRs, evAs, evDs, evTs, evI, evP, evA, biV, biD, rd, inC, asB, asR, asD, cmpD, opD, eqD, ltD, isNone, List.replicate, I, L, srcV, wipeC, asg, setAll, putC, notOwn, isaD, PyData.isInt, PyData.isBool, PyData.isTuple, allBools_map, allInts_map, List.all_map, Function.comp_def, ixD, allT, slD, itemsD, ai_cons, l0, l1, l2, l3, l4, s_rem, oi, *])
theorem isDeed {k m : Nat} (hk : k = m + 1) (b : Bool) (st : Sto) : callL ds k 6 [.d (dd b)] st = .ok (.d (.bool true)) st := by
  subst hk
  cases b <;> rfl
def dlt (b : Bool) : Int := if b then 1 else -1
def nev : List Bool → Int → Bool
  | [], n => decide (n = 0)
  | d :: D, n => if n + dlt d < 0 then false else nev D (n + dlt d)
theorem nev_ret : ∀ (D : List Bool) (n : Int), retF (fun s d => s + dlt d) (fun s d => if s + dlt d < 0 then some () else none) D n = .inl () ∧ nev D n = false ∨ ∃ n', retF (fun s d => s + dlt d) (fun s d => if s + dlt d < 0 then some () else none) D n = .inr n' ∧ nev D n = decide (n' = 0)
  | [], n => .inr ⟨n, rfl, rfl⟩
  | d :: D, n => by
    rw [retF, nev]
    by_cases h : n + dlt d < 0
    · rw [if_pos h, if_pos h]; exact .inl ⟨rfl, rfl⟩
    · rw [if_neg h, if_neg h]; exact nev_ret D (n + dlt d)
theorem ddEq (b : Bool) : decide ((if b = true then ("in" : Str) else "out") = "in") = b := by cases b <;> decide +kernel
theorem neverEmpty {k m : Nat} (hk : k = m + 1) (D : List Bool) (st : Sto) : callL ds k 7 [.d (.tuple (D.map dd))] st = .ok (.d (.bool (nev D 0))) st := by
  subst hk
  rw [callL_some (d := d7) rfl rfl, d7]
  trivial
  generalize hb : exSs (callL ds m) (Ss.cons _ _) = b
  have key := forL_ret (gt := .nm 2) (encX := dd) (encV := fun _ : Unit => PV.d (.bool false)) (f := fun s d => s + dlt d) (q := fun s d => if s + dlt d < 0 then some () else none) (st := st) (b := b)
    (Rel := fun l s e => ∃ c, e = [.v (.d (.tuple (D.map dd))), .v (.d (.int s)), c]) (l := D) (s := (0 : Int)) (e := [.v (.d (.tuple (D.map dd))), .v (.d (.int 0)), .no])
    (by
      rintro d l n e ⟨c, rfl⟩
      refine ⟨[.v (.d (.tuple (D.map dd))), .v (.d (.int n)), .v (.d (dd d))], rfl, ?_⟩
      subst hb
      have e1 : dd true = PyData.str "in" := rfl
      have e2 : dd false = PyData.str "out" := rfl
      generalize PyData.tuple (D.map dd) = tp
      by_cases h : n + dlt d < 0
      · left
        refine ⟨(), by rw [if_pos h], ?_⟩
        cases d with
        | true =>
          have h : n + 1 < 0 := h
          rw [e1]
          trivial
        | false =>
          have h : n + -1 < 0 := h
          rw [e2]
          trivial
      · right
        refine ⟨by rw [if_neg h], [.v (.d tp), .v (.d (.int (n + dlt d))), .v (.d (dd d))], ?_, _, rfl⟩
        cases d with
        | true =>
          have h : ¬ n + 1 < 0 := h
          rw [e1]
          unfold dlt
          trivial
        | false =>
          have h : ¬ n + -1 < 0 := h
          rw [e2]
          unfold dlt
          trivial)
    ⟨_, rfl⟩
  rcases key with ⟨v, k1, k2⟩ | ⟨s', e', k1, k2, c, rfl⟩
  · rw [k2]
    rcases nev_ret D 0 with ⟨n1, n2⟩ | ⟨n', n1, n2⟩
    · rw [n2]; rfl
    · rw [n1] at k1; cases k1
  · rw [k2]
    rcases nev_ret D 0 with ⟨n1, n2⟩ | ⟨n', n1, n2⟩
    · rw [n1] at k1; cases k1
    · rw [n1] at k1; cases k1
      rw [n2]
      trivial
theorem areDeeds {k m : Nat} (hk : k = m + 2) (r : List Int) (D : List Bool) (st : Sto) (hz : r.length ≤ 30) (hD : D.length = 2 * r.length) : callL ds k 8 [.d (I r), .d (.tuple (D.map dd))] st = .ok (.d (.bool (nev D 0))) st := by
  subst hk
  have h1 := fun b => isDeed (k := m + 1) rfl b st
  have h2 := neverEmpty (k := m + 1) rfl D st
  have h3 : (D.length : Int) = 2 * (r.length : Int) := by omega
  have h4 : mulOk 2 (r.length : Int) = true := by
    unfold mulOk
    rw [Bool.or_eq_true]
    exact .inl (decide_eq_true (by decide))
  rw [callL_some (d := d8) rfl rfl, d8]
  trivial
  rw [lcL_map (enc := dd) (g := fun _ => .bool true)]
  · trivial
  · intro b _
    trivial
  · exact sz (by simp; omega)
abbrev TS3 := List Int × List Int × Nat
def thrO (r : List Int) : List Bool → TS3 → Option TS3
  | [], s => some s
  | true :: D, (s, f, p) => if p < r.length then thrO r D (r.getD p 0 :: s, f, p + 1) else none
  | false :: D, (a :: s, f, p) => thrO r D (s, f ++ [a], p)
  | false :: _, ([], _, _) => none
def thrF (r : List Int) (s : TS3) (d : Bool) : TS3 := match d, s with
  | true, (s, f, p) => (r.getD p 0 :: s, f, p + 1)
  | false, (a :: s, f, p) => (s, f ++ [a], p)
  | false, ([], f, p) => ([], f, p)
theorem through {k m : Nat} (hk : k = m + 4) (r : List Int) (D : List Bool) (st : Sto) (hn : r.Nodup) (hz : r.length ≤ 30) (hD : D.length = 2 * r.length) (hv : nev D 0 = true) {fin : TS3} (ht : thrO r D ([], [], 0) = some fin) :
    callL ds k 9 [.d (I r), .d (.tuple (D.map dd))] st = .ok (.d (I fin.2.1)) st := by
  subst hk
  have h1 := checkFlats (k := m + 3) (m := m) rfl r st hn hz
  have h2 := areDeeds (k := m + 3) (m := m + 1) rfl r D st hz hD
  rw [hv] at h2
  unfold I at h1 h2
  rw [callL_some (d := d9) rfl rfl, d9]
  trivial
  generalize hb : exSs (callL ds (m + 3)) (Ss.cons _ _) = b
  obtain ⟨e', q1, c, q2, q3, _⟩ := forL_rel (gt := .nm 5) (encX := dd) (f := thrF r) (st := st) (b := b)
    (Rel := fun l s e => ∃ c, e = [.v (.d (I r)), .v (.d (.tuple (D.map dd))), .own (LR s.1), .own (L s.2.1), .v (.d (.int (s.2.2 : Nat))), c] ∧ thrO r l s = some fin ∧ s.1.length + s.2.1.length = s.2.2 ∧ s.2.2 ≤ r.length)
    (l := D) (s := ([], [], 0)) (e := [.v (.d (I r)), .v (.d (.tuple (D.map dd))), .own (LR []), .own (L []), .v (.d (.int ((0 : Nat) : Int))), .no])
    (by
      rintro d l ⟨s, f, p⟩ e ⟨c, rfl, ho, hl, hp⟩
      dsimp only at hl hp
      subst hb
      have e1 : dd true = PyData.str "in" := rfl
      have e2 : dd false = PyData.str "out" := rfl
      generalize PyData.tuple (D.map dd) = tp
      refine ⟨[.v (.d (I r)), .v (.d tp), .own (LR s), .own (L f), .v (.d (.int (p : Nat))), .v (.d (dd d))], [.v (.d (I r)), .v (.d tp), .own (LR (thrF r (s, f, p) d).1), .own (L (thrF r (s, f, p) d).2.1), .v (.d (.int ((thrF r (s, f, p) d).2.2 : Nat))), .v (.d (dd d))], rfl, ?_, ?_⟩
      · cases d with
        | true =>
          rw [thrO] at ho
          split at ho
          · rename_i hpr
            have a1 := atI_int r p hpr
            have g1 : r.getD p 0 = r[p] := by rw [List.getD_eq_getElem?_getD, List.getElem?_eq_getElem hpr]; rfl
            have z1 : s.length < sizeLine := Nat.lt_of_lt_of_le (Nat.lt_succ_self _) (sz (by omega))
            unfold thrF LR
            dsimp only
            rw [e1, g1]
            generalize r[p] = u at a1 ⊢
            clear hl
            trivial
          · cases ho
        | false =>
          cases s with
          | nil => rw [thrO] at ho; cases ho
          | cons a s =>
            rw [List.length_cons] at hl
            have z1 : f.length < sizeLine := Nat.lt_of_lt_of_le (Nat.lt_succ_self _) (sz (by omega))
            unfold thrF LR
            dsimp only
            rw [e2, List.map_cons, List.reverse_cons]
            clear hl
            trivial
      · cases d with
        | true =>
          rw [thrO] at ho
          split at ho
          · rename_i hpr
            exact ⟨_, rfl, ho, by simp [thrF]; omega, by simp [thrF]; omega⟩
          · cases ho
        | false =>
          cases s with
          | nil => rw [thrO] at ho; cases ho
          | cons a s =>
            rw [List.length_cons] at hl
            rw [thrO] at ho
            exact ⟨_, rfl, ho, by simp [thrF]; omega, by simp [thrF]; omega⟩)
    ⟨_, rfl, ht, rfl, Nat.zero_le _⟩
  rw [thrO] at q3
  unfold I L LR at q1
  simp only [List.map_nil, List.reverse_nil] at q1
  have e0 : ((0 : Nat) : Int) = 0 := rfl
  rw [e0] at q1
  rw [q1, q2, ← Option.some.inj q3]
  trivial
end K96

set_option maxRecDepth 100000
/-! K96h: deeds for an order; bars. -/
namespace K96
open PySem Ev
def sortI (r : List Int) : List Int := r.mergeSort fun a b => decide (a ≤ b)
theorem le_int (a b : Int) : W.dataLe false id (PyData.int a) (PyData.int b) = decide (a ≤ b) := by
  have := congrFun (congrFun (W.dataLe_int (β := Int) id) a) b
  exact this
theorem sort_map (r : List Int) : (r.map PyData.int).mergeSort (W.dataLe false id) = (sortI r).map .int := by
  unfold sortI
  exact (List.map_mergeSort (f := PyData.int) fun a _ b _ => (le_int a b).symm).symm
theorem sortable_ints (r : List Int) : sortableB (r.map PyData.int) = true := by
  unfold sortableB
  rw [Bool.or_eq_true]
  right
  rw [List.all_map]
  induction r with
  | nil => rfl
  | cons a r ih => simpa using ih
theorem plain_ints : ∀ r : List Int, PyData.plainAll (r.map PyData.int) = true
  | [] => rfl
  | a :: r => by rw [List.map_cons, PyData.plainAll, plain_ints r]; rfl
theorem depth_ints : ∀ r : List Int, PyData.depthAll (r.map PyData.int) ≤ 1
  | [] => Nat.zero_le _
  | a :: r => by
    rw [List.map_cons, PyData.depthAll]
    exact Nat.max_le.mpr ⟨by rw [PyData.depth]; decide, depth_ints r⟩
theorem eq_self (r : List Int) : eqD (.list (r.map .int)) (.list (r.map .int)) = some true := by
  unfold eqD
  have h1 : (PyData.list (r.map .int)).plain = true := plain_ints r
  have h2 : (PyData.list (r.map PyData.int)).depth ≤ 60 := by
    have := depth_ints r
    rw [PyData.depth]
    omega
  dsimp only
  rw [h1, decide_eq_true h2]
  have := PySem.SeqAt.eqv_refl_plain (.list (r.map .int)) h1
  rw [this]
  rfl
theorem l1000 {n : Nat} (h : n ≤ 30) : (n ≤ sizeLine) = True := eq_true (sz (by omega))
local macro_rules | `(tactic| trivial) => `(tactic| simp [↓bind_I, ↓then_I, ↓ofR_I, x_nil, x_cons, then_nx, then_rt, ofR_ok, bind_ok, opt_some, noEx_ok, runB_rt, runB_nx, s_set, s_par2, s_par3, s_asg, s_app, s_ex, s_frz, s_ret, s_retN, s_ife, s_for, s_whl, s_brk, s_cont, e_var, e_lit, e_con, e_ty, e_op, e_neg, e_cmp, e_chn, e_andd, e_orr, e_nott, e_ife, e_tup, e_lst, e_lstR, e_box, e_ix, e_sl, e_rev, e_call, e_bi, e_lrng, e_lc, e_dc, evRs, evAs, evDs, evTs, evI, evP, evA, biV, biD, rd, inC, asB, asR, asD, cmpD, opD, ltD, isNone, List.replicate, I, L, srcV, wipeC, asg, setAll, putC, notOwn, isaD, PyData.isInt, PyData.isBool, PyData.isTuple, allBools_map, allInts_map, List.all_map, Function.comp_def, ixD, allT, slD, itemsD, ai_cons, l0, l1, l2, l3, l4, s_rem, oi, alike_ints, sortable_ints, sort_map, *])
theorem sortI_len (r : List Int) : (sortI r).length = r.length := List.length_mergeSort _
theorem sortI_perm (r : List Int) : (sortI r).Perm r := List.mergeSort_perm _ _
theorem deedsFor {k m : Nat} (hk : k = m + 4) (r w : List Int) (st : Sto) (hn : r.Nodup) (hz : r.length ≤ 30) (hw : w.Perm r) : callL ds k 11 [.d (I r), .d (I w)] st = .ok (.d (optD (deedsL r w))) st := by
  subst hk
  have h1 := checkFlats (k := m + 3) (m := m) rfl r st hn hz
  have h2 := checkFlats (k := m + 3) (m := m) rfl w st (hw.nodup_iff.mpr hn) (by rw [hw.length_eq]; exact hz)
  have h3 := rawDeeds (k := m + 3) (m := m + 2) rfl r w st hz hw.length_eq
  have hl : w.length = r.length := hw.length_eq
  have z1 := l1000 hz
  have hs : sortI w = sortI r := by
    unfold sortI
    have t1 : ∀ a b c : Int, decide (a ≤ b) = true → decide (b ≤ c) = true → decide (a ≤ c) = true := fun a b c h1 h2 => by simp at *; omega
    have t2 : ∀ a b : Int, (decide (a ≤ b) || decide (b ≤ a)) = true := fun a b => by simp; omega
    exact List.Perm.eq_of_pairwise (le := fun a b => decide (a ≤ b) = true) (fun a b _ _ h1 h2 => by simp at h1 h2; omega) (List.pairwise_mergeSort t1 t2 w) (List.pairwise_mergeSort t1 t2 r) ((List.mergeSort_perm _ _).trans (hw.trans (List.mergeSort_perm _ _).symm))
  have e1 := eq_self (sortI r)
  unfold I at h1 h2 h3
  rw [callL_some (d := d11) rfl rfl, d11]
  trivial
theorem ascDeeds {k m : Nat} (hk : k = m + 4) (r : List Int) (st : Sto) (hn : r.Nodup) (hz : r.length ≤ 30) : callL ds k 12 [.d (I r)] st = .ok (.d (optD (deedsL r (sortI r)))) st := by
  subst hk
  have h1 := checkFlats (k := m + 3) (m := m) rfl r st hn hz
  have h3 := rawDeeds (k := m + 3) (m := m + 2) rfl r (sortI r) st hz (sortI_len r)
  have z1 := l1000 hz
  unfold I at h1 h3
  rw [callL_some (d := d12) rfl rfl, d12]
  trivial
theorem barsOf {k m : Nat} (hk : k = m + 1) (r : List Int) (i j l : Nat) (st : Sto) (hi : i < r.length) (hj : j < r.length) (hl : l < r.length) :
    callL ds k 13 [.d (I r), .d (.int (i : Nat)), .d (.int (j : Nat)), .d (.int (l : Nat))] st = .ok (.d (.bool (decide (r[l] < r[i]) && decide (r[i] < r[j])))) st := by
  subst hk
  have a1 := atI_int r i hi
  have a2 := atI_int r j hj
  have a3 := atI_int r l hl
  rw [callL_some (d := d13) rfl rfl, d13]
  generalize r[i] = x at a1 ⊢
  generalize r[j] = y at a2 ⊢
  generalize r[l] = z at a3 ⊢
  by_cases h : z < x <;> trivial
end K96

set_option maxRecDepth 100000
/-! K96i: how many outs; bars. -/
namespace K96
open PySem Ev
local macro_rules | `(tactic| trivial) => `(tactic| simp [↓bind_I, ↓then_I, ↓ofR_I, x_nil, x_cons, then_nx, then_rt, ofR_ok, bind_ok, opt_some, noEx_ok, runB_rt, runB_nx, s_set, s_par2, s_par3, s_asg, s_app, s_ex, s_frz, s_ret, s_retN, s_ife, s_for, s_whl, s_brk, s_cont, e_var, e_lit, e_con, e_ty, e_op, e_neg, e_cmp, e_chn, e_andd, e_orr, e_nott, e_ife, e_tup, e_lst, e_lstR, e_box, e_ix, e_sl, e_rev, e_call, e_bi, e_lrng, e_lc, e_dc, evRs, evAs, evDs, evTs, evI, evP, evA, biV, biD, rd, inC, asB, asR, asD, cmpD, opD, ltD, isNone, List.replicate, I, L, srcV, wipeC, asg, setAll, putC, notOwn, isaD, PyData.isInt, PyData.isBool, PyData.isTuple, allBools_map, allInts_map, List.all_map, Function.comp_def, ixD, allT, slD, itemsD, ai_cons, l0, l1, l2, l3, l4, s_rem, oi, alike_ints, sortable_ints, sort_map, *])
def cat : Nat → Int
  | 0 => 1
  | 1 => 1
  | 2 => 2
  | 3 => 5
  | 4 => 14
  | 5 => 42
  | 6 => 132
  | 7 => 429
  | 8 => 1430
  | 9 => 4862
  | _ => 0
theorem outsOf {m : Nat} {n : Nat} (hn : n ≤ 9) (st : Sto) : callL ds (m + 1) 17 [.d (.int (n : Nat))] st = .ok (.d (.int (cat n))) st := by
  match n, hn with
  | 0, _ => rfl
  | 1, _ => rfl
  | 2, _ => rfl
  | 3, _ => rfl
  | 4, _ => rfl
  | 5, _ => rfl
  | 6, _ => rfl
  | 7, _ => rfl
  | 8, _ => rfl
  | 9, _ => rfl
  | n + 10, h => omega
theorem lawOuts {m : Nat} {n : Nat} (hn : n ≤ 9) (st : Sto) : callL ds (m + 1) 42 [.d (.int (n : Nat))] st = .ok (.d (.int (cat n))) st := by
  match n, hn with
  | 0, _ => rfl
  | 1, _ => rfl
  | 2, _ => rfl
  | 3, _ => rfl
  | 4, _ => rfl
  | 5, _ => rfl
  | 6, _ => rfl
  | 7, _ => rfl
  | 8, _ => rfl
  | 9, _ => rfl
  | n + 10, h => omega
theorem outs {k m : Nat} (hk : k = m + 4) (r : List Int) (st : Sto) (hn : r.Nodup) (hz : r.length ≤ 9) : callL ds k 18 [.d (I r)] st = .ok (.d (.int (cat r.length))) st := by
  subst hk
  have h1 := checkFlats (k := m + 3) (m := m) rfl r st hn (by omega)
  have h2 := outsOf (m := m + 2) hz st
  unfold I at h1
  rw [callL_some (d := d18) rfl rfl, d18]
  trivial
end K96

set_option maxRecDepth 100000
/-! K96j: the bag. -/
namespace K96
open PySem Ev
theorem eq_int (i j : Int) : eqD (.int i) (.int j) = some (decide (i = j)) := rfl
section
variable {c : Nat → List PV → Sto → R PV} {e : Envr} {st : Sto}
theorem s_setR (o i a : E) : exS c (.setR o i a) e st = RS.ofR e (evE c a e st) fun v s1 => RS.ofR e (evE c o e s1) fun x s2 => RS.ofR e (evE c i e s2) fun y s3 => match asR v, x, y with
    | some u, .ref n, .d (.int k) => match s3[n]? with
      | some (.lst xs) => match L2.ixN xs.length k with
        | some j => .nx e (s3.set n (.lst (xs.set j u)))
        | none => .bad
      | _ => .bad
    | _, _, _ => .bad := rfl
theorem s_popR (o i : E) : exS c (.popR o i) e st = RS.ofR e (evE c o e st) fun x s1 => RS.ofR e (evE c i e s1) fun y s2 => match x, y with
    | .ref n, .d (.int k) => match s2[n]? with
      | some (.lst xs) => match seqIndex? k xs.length with
        | some j => if fits k && decide (j < xs.length) then .nx e (s2.set n (.lst (xs.eraseIdx j))) else .bad
        | none => .bad
      | _ => .bad
    | _, _ => .bad := rfl
end
local macro_rules | `(tactic| trivial) => `(tactic| simp [↓bind_I, ↓then_I, ↓ofR_I, x_nil, x_cons, then_nx, then_rt, ofR_ok, bind_ok, opt_some, noEx_ok, runB_rt, runB_nx, s_set, s_par2, s_par3, s_asg, s_app, s_ex, s_frz, s_ret, s_retN, s_ife, s_for, s_whl, s_brk, s_cont, e_var, e_lit, e_con, e_ty, e_op, e_neg, e_cmp, e_chn, e_andd, e_orr, e_nott, e_ife, e_tup, e_lst, e_lstR, e_box, e_ix, e_sl, e_rev, e_call, e_bi, e_lrng, e_lc, e_dc, evRs, evAs, evDs, evTs, evI, evP, evA, biV, biD, rd, inC, asB, asR, asD, cmpD, opD, ltD, isNone, List.replicate, I, L, srcV, wipeC, asg, setAll, putC, notOwn, isaD, PyData.isInt, PyData.isBool, PyData.isTuple, allBools_map, allInts_map, List.all_map, Function.comp_def, ixD, allT, slD, itemsD, ai_cons, l0, l1, l2, l3, l4, s_rem, s_setR, s_popR, eq_int, oi, alike_ints, sortable_ints, sort_map, *])
def bagS (gs : List Int) (a b n : Int) : Sto := [.lst (gs.map fun g => .d (.int g)), .lst [.ref 0, .d (.int a), .d (.int b), .d (.int n)]]
theorem pick0 {k m : Nat} (hk : k = m + 1) (gs : List Int) (a n many : Int) : callL ds k 38 [.ref 1, .d (.int many)] (bagS gs a 0 n) = .ok (.d (.int 0)) (bagS gs a 0 n) := by
  subst hk
  rfl
def nu1 (a n : Int) : Int := ((a + 7919 * (n + 1)) * 48271 + 11) % 2147483647
def nu2 (a n : Int) : Int := (nu1 a n * (nu1 a n / 1009 + 69621) + (n + 1)) % 2147483399
theorem pickN {k m : Nat} (hk : k = m + 1) (a b n many : Int) (hb : b ≠ 0) (hm : 0 < many) (hm2 : many < 100) : callL ds k 38 [.ref 1, .d (.int many)] (bagS [] a b n) = .ok (.d (.int (nu2 a n / 16 % many))) (bagS [] ((a + nu2 a n) % 2147483629) b (n + 1)) := by
  subst hk
  rw [callL_some (d := d38) rfl rfl, d38]
  unfold bagS
  have i0 : ∀ (x y z w : PV), L2.atI [x, y, z, w] 2 = some z := fun _ _ _ _ => rfl
  have i1 : ∀ (x y z w : PV), L2.atI [x, y, z, w] 0 = some x := fun _ _ _ _ => rfl
  have i2 : ∀ (x y z w : PV), L2.atI [x, y, z, w] 3 = some w := fun _ _ _ _ => rfl
  have i3 : ∀ (x y z w : PV), L2.atI [x, y, z, w] 1 = some y := fun _ _ _ _ => rfl
  have j3 : L2.ixN 4 3 = some 3 := rfl
  have j1 : L2.ixN 4 1 = some 1 := rfl
  have m1 : ∀ x, mulOk 7919 x = true := fun x => by unfold mulOk; rw [Bool.or_eq_true]; exact .inl (decide_eq_true (by decide))
  have m2 : ∀ x, mulOk x 48271 = true := fun x => by unfold mulOk; rw [Bool.or_eq_true]; exact .inr (decide_eq_true (by decide))
  have m3 : ∀ y, mulOk (((a + 7919 * (n + 1)) * 48271 + 11) % 2147483647) y = true := fun y => by
    unfold mulOk
    rw [Bool.or_eq_true]
    exact .inl (decide_eq_true (by omega))
  have a0 : allD ([] : List PV) = some [] := rfl
  unfold nu2 nu1
  trivial
theorem allD_ints : ∀ gs : List Int, allD (gs.map fun g => PV.d (.int g)) = some (gs.map .int)
  | [] => rfl
  | g :: gs => by rw [List.map_cons, allD, allD_ints gs]; rfl
def gNext (g many : Int) (gs : List Int) : List Int := if g < many then gs else g / many :: gs
theorem pickG {k m : Nat} (hk : k = m + 1) (g : Int) (gs : List Int) (a b n many : Int) (hb : b ≠ 0) (hm : 0 < many) (hm2 : many < 100) (hz : gs.length ≤ 1000) : callL ds k 38 [.ref 1, .d (.int many)] (bagS (g :: gs) a b n) = .ok (.d (.int (g % many))) (bagS (gNext g many gs) a b n) := by
  subst hk
  rw [callL_some (d := d38) rfl rfl, d38]
  unfold bagS gNext
  have i0 : ∀ (x y z w : PV), L2.atI [x, y, z, w] 2 = some z := fun _ _ _ _ => rfl
  have i1 : ∀ (x y z w : PV), L2.atI [x, y, z, w] 0 = some x := fun _ _ _ _ => rfl
  have a0 := allD_ints gs
  have a1 : L2.atI (PV.d (.int g) :: gs.map fun g => PV.d (.int g)) 0 = some (PV.d (.int g)) := L2.atI_nat (j := 0) rfl
  have j0 : L2.ixN (gs.length + 1) 0 = some 0 := by
    unfold L2.ixN
    rw [if_pos (Int.le_refl _), if_pos (by omega)]
    rfl
  have q0 : seqIndex? 0 (gs.length + 1) = some 0 := (L2.ixN_seq j0).1
  have f0 : fits 0 = true := by decide
  have d1 : many < 1073741824 := by omega
  have a2 : allD (PV.d (.int g) :: gs.map fun g => PV.d (.int g)) = some (.int g :: gs.map .int) := by rw [allD, a0]; rfl
  have pos : (0 : Int) < (gs.length : Int) + 1 := by omega
  by_cases h : g < many
  · trivial
  · trivial
end K96

set_option maxRecDepth 100000
/-! K96k: the law's own longest rising row. -/
namespace K96
open PySem Ev
local macro_rules | `(tactic| trivial) => `(tactic| simp [↓bind_I, ↓then_I, ↓ofR_I, x_nil, x_cons, then_nx, then_rt, ofR_ok, bind_ok, opt_some, noEx_ok, runB_rt, runB_nx, s_set, s_par2, s_par3, s_asg, s_app, s_ex, s_frz, s_ret, s_retN, s_ife, s_for, s_whl, s_brk, s_cont, e_var, e_lit, e_con, e_ty, e_op, e_neg, e_cmp, e_chn, e_andd, e_orr, e_nott, e_ife, e_tup, e_lst, e_lstR, e_box, e_ix, e_sl, e_rev, e_call, e_bi, e_lrng, e_lc, e_dc, evRs, evAs, evDs, evTs, evI, evP, evA, biV, biD, rd, inC, asB, asR, asD, cmpD, opD, ltD, isNone, List.replicate, I, L, srcV, wipeC, asg, setAll, putC, notOwn, isaD, PyData.isInt, PyData.isBool, PyData.isTuple, allBools_map, allInts_map, List.all_map, Function.comp_def, ixD, allT, slD, itemsD, ai_cons, l0, l1, l2, l3, l4, s_rem, s_setR, s_popR, eq_int, oi, alike_ints, sortable_ints, sort_map, *])
def lonF (r : List Int) (s : List Int) (x : Int) : List Int := s ++ [1 + (((s.zip r).filter fun p => decide (p.2 < x)).map fun p => p.1).foldl max 0]
def lonL (r : List Int) : List Int := r.foldl (lonF r) []
theorem longest {k m : Nat} (hk : k = m + 1) (r : List Int) (st : Sto) (hz : r.length ≤ 30) : callL ds k 41 [.d (I r)] st = .ok (.d (.int ((lonL r).foldl max 0))) st := by
  subst hk
  rw [callL_some (d := d41) rfl rfl, d41]
  trivial
  generalize hb : exSs (callL ds m) (Ss.cons _ _) = b
  obtain ⟨e', h1, c1, h2, hlen⟩ := forL_rel (gt := .nm 2) (encX := PyData.int) (f := lonF r) (st := st) (b := b)
    (Rel := fun l s e => ∃ c1, e = [.v (.d (I r)), .own (L s), c1, .no, .no] ∧ s.length + l.length = r.length)
    (l := r) (s := []) (e := [.v (.d (I r)), .own (L []), .no, .no, .no])
    (by
      rintro x l s e ⟨c1, rfl, hl⟩
      subst hb
      simp only [List.length_cons] at hl
      have hz2 : s.length < sizeLine := Nat.lt_of_lt_of_le (Nat.lt_succ_self _) (sz (by omega))
      refine ⟨[.v (.d (I r)), .own (L s), .v (.d (.int x)), .no, .no], [.v (.d (I r)), .own (L (lonF r s x)), .v (.d (.int x)), .no, .no], rfl, ?_, _, rfl, by simp [lonF]; omega⟩
      clear hl
      trivial
      rw [zipD_map, lcL_filt (p := fun p : Int × Int => decide (p.2 < x)) (g := fun p : Int × Int => .int p.1)]
      · generalize hah : ((s.zip r).filter fun p : Int × Int => decide (p.2 < x)) = ah
        have hahl : ah.length ≤ 30 := by
          rw [← hah]
          refine Nat.le_trans (List.length_filter_le _ _) ?_
          rw [List.length_zip]
          omega
        have z2 : 1 + ah.length ≤ sizeLine := sz (by omega)
        have z3 : ah.length + 1 ≤ sizeLine := sz (by omega)
        unfold lonF
        rw [hah]
        trivial
      · intro p _
        by_cases h : p.2 < x <;> trivial
      · exact sz (by simp; omega))
    ⟨_, rfl, by simp⟩
  unfold I L at h1
  simp only [List.map_nil] at h1
  rw [h1, h2]
  simp only [List.length_nil, Nat.add_zero] at hlen
  have z4 : 1 + (List.foldl (lonF r) [] r).length ≤ sizeLine := sz (by omega)
  have z5 : (List.foldl (lonF r) [] r).length + 1 ≤ sizeLine := sz (by omega)
  have e1 : allInts ((List.foldl (lonF r) [] r).map .int) = some (List.foldl (lonF r) [] r) := by
    have := allInts_map (p := fun i : Int => i) (l := List.foldl (lonF r) [] r)
    rwa [List.map_id'] at this
  clear hlen
  unfold lonL
  trivial
theorem zip_range {s r : List Int} (h : s.length ≤ r.length) : s.zip r = (List.range s.length).map fun o => (s.getD o 0, r.getD o 0) := by
  apply List.ext_getElem
  · rw [List.length_zip, List.length_map, List.length_range]; omega
  · intro i h1 h2
    rw [List.length_zip] at h1
    rw [List.getElem_zip, List.getElem_map, List.getElem_range]
    rw [List.getD_eq_getElem?_getD, List.getD_eq_getElem?_getD, List.getElem?_eq_getElem (by omega), List.getElem?_eq_getElem (by omega)]
    rfl
theorem ris_lon1 {r s : List Int} {x : Int} (h : s.length ≤ r.length) : risF r s (x, s.length) = lonF r s x := by
  unfold risF lonF
  rw [zip_range h, List.filter_map, List.map_map]
  rfl
theorem ris_lon_go {r : List Int} : ∀ (l s : List Int), s.length + l.length ≤ r.length → (l.zipIdx s.length).foldl (risF r) s = l.foldl (lonF r) s
  | [], s, _ => rfl
  | x :: l, s, h => by
    rw [List.length_cons] at h
    rw [List.zipIdx_cons, List.foldl_cons, List.foldl_cons, ris_lon1 (by omega)]
    have hl : (lonF r s x).length = s.length + 1 := by simp [lonF]
    rw [← hl]
    exact ris_lon_go l _ (by omega)
/-- the two tell the same -/
theorem ris_lon (r : List Int) : risL r = lonL r := ris_lon_go r [] (by simp)
end K96

set_option maxRecDepth 100000
/-! K96l: what comes out by the deeds of rawDeeds is what was wanted. -/
namespace K96
open PySem Ev
theorem thrO_app {r : List Int} : ∀ (D E : List Bool) (s : TS3), thrO r (D ++ E) s = (thrO r D s).bind fun t => thrO r E t
  | [], E, s => rfl
  | true :: D, E, (s, f, p) => by
    rw [List.cons_append, thrO, thrO]
    split
    · exact thrO_app D E _
    · rfl
  | false :: D, E, (a :: s, f, p) => by
    rw [List.cons_append, thrO, thrO]
    exact thrO_app D E _
  | false :: D, E, ([], f, p) => rfl
theorem popEq_thr {r w : List Int} {n : Nat} : ∀ (s : List Int) (D : List Bool) (p : Nat), thrO r D ([], [], 0) = some (s, w.take p, n) → p + s.length ≤ w.length →
    thrO r (popEq w s D p).2.1 ([], [], 0) = some ((popEq w s D p).1, w.take (popEq w s D p).2.2, n)
  | [], D, p, h, _ => h
  | a :: s, D, p, h, hl => by
    rw [List.length_cons] at hl
    rw [popEq]
    split
    · rename_i ha
      refine popEq_thr s (D ++ [false]) (p + 1) ?_ (by omega)
      rw [thrO_app, h]
      show some (s, w.take p ++ [a], n) = _
      have hp : p < w.length := by omega
      rw [List.take_succ, List.getElem?_eq_getElem hp]
      rw [List.getD_eq_getElem?_getD, List.getElem?_eq_getElem hp] at ha
      have ha : a = w[p] := ha
      rw [ha]
      rfl
    · exact h
theorem deeds_thr {r w : List Int} (hw : w.length = r.length) : ∀ (l : List Int) (s : DS) (n : Nat), r.drop n = l → n ≤ r.length → s.1.length + s.2.2 = n → thrO r s.2.1 ([], [], 0) = some (s.1, w.take s.2.2, n) →
    thrO r (l.foldl (deedF w) s).2.1 ([], [], 0) = some ((l.foldl (deedF w) s).1, w.take (l.foldl (deedF w) s).2.2, r.length) ∧ (l.foldl (deedF w) s).1.length + (l.foldl (deedF w) s).2.2 = r.length
  | [], s, n, hd, hn, hl, h => by
    have : n = r.length := by
      have := congrArg List.length hd
      rw [List.length_drop] at this
      simp at this
      omega
    subst this
    exact ⟨h, hl⟩
  | x :: l, (s, D, p), n, hd, hn, hl, h => by
    have hlt : n < r.length := by
      have := congrArg List.length hd
      rw [List.length_drop, List.length_cons] at this
      omega
    rw [List.drop_eq_getElem_cons hlt] at hd
    have hx : r[n] = x := (List.cons.inj hd).1
    have hd' : r.drop (n + 1) = l := (List.cons.inj hd).2
    have hl : s.length + p = n := hl
    have h1 : thrO r (D ++ [true]) ([], [], 0) = some (x :: s, w.take p, n + 1) := by
      rw [thrO_app, h]
      show thrO r [true] (s, w.take p, n) = _
      rw [thrO, if_pos hlt, List.getD_eq_getElem?_getD, List.getElem?_eq_getElem hlt]
      show some (r[n] :: s, w.take p, n + 1) = _
      rw [hx]
    have h2 := popEq_thr (w := w) (x :: s) (D ++ [true]) p h1 (by rw [List.length_cons]; omega)
    have h3 := (popEq_len (w := w) (x :: s) (D ++ [true]) p).1
    rw [List.length_cons] at h3
    rw [List.foldl_cons]
    exact deeds_thr hw l (deedF w (s, D, p) x) (n + 1) hd' (by omega) (by show (popEq w (x :: s) (D ++ [true]) p).1.length + (popEq w (x :: s) (D ++ [true]) p).2.2 = n + 1; omega) h2
/-- what was wanted comes out -/
theorem deeds_ok {r w : List Int} (hw : w.length = r.length) {D : List Bool} (h : deedsL r w = some D) : thrO r D ([], [], 0) = some ([], w, r.length) := by
  unfold deedsL at h
  split at h
  · rename_i hs
    cases h
    obtain ⟨h1, h2⟩ := deeds_thr hw r ([], [], 0) 0 rfl (Nat.zero_le _) rfl rfl
    rw [show (r.foldl (deedF w) ([], [], 0)) = deedS r w from rfl] at h1 h2
    rw [hs] at h1 h2
    have : (deedS r w).2.2 = w.length := by rw [hw]; simpa using h2
    rw [this, List.take_length] at h1
    exact h1
  · cases h
theorem thrO_nev {r : List Int} : ∀ (D : List Bool) (s f : List Int) (p : Nat) (t : TS3), thrO r D (s, f, p) = some t → nev D s.length = decide (t.1.length = 0) ∧ D.length + p + f.length = t.2.2 + t.2.1.length
  | [], s, f, p, t, h => by
    cases h
    exact ⟨by unfold nev; simp, by simp⟩
  | true :: D, s, f, p, t, h => by
    rw [thrO] at h
    split at h
    · obtain ⟨h1, h2⟩ := thrO_nev D _ _ _ t h
      rw [nev, if_neg (by unfold dlt; simp; omega)]
      refine ⟨?_, by rw [List.length_cons]; omega⟩
      rw [List.length_cons] at h1
      have e : (s.length : Int) + dlt true = ((s.length + 1 : Nat) : Int) := by unfold dlt; simp
      rw [e]
      exact h1
    · cases h
  | false :: D, a :: s, f, p, t, h => by
    rw [thrO] at h
    obtain ⟨h1, h2⟩ := thrO_nev D _ _ _ t h
    rw [List.length_append, List.length_singleton] at h2
    have e : (((a :: s).length : Nat) : Int) + dlt false = ((s.length : Nat) : Int) := by unfold dlt; simp; omega
    rw [nev, e, if_neg (by omega)]
    exact ⟨h1, by rw [List.length_cons]; omega⟩
  | false :: D, [], f, p, t, h => by cases h
/-- through, by the deeds for an order -/
theorem goThrough {k m : Nat} (hk : k = m + 4) {r w : List Int} {D : List Bool} (st : Sto) (hn : r.Nodup) (hz : r.length ≤ 30) (hw : w.length = r.length) (h : deedsL r w = some D) : callL ds k 9 [.d (I r), .d (.tuple (D.map dd))] st = .ok (.d (I w)) st := by
  have h1 := deeds_ok hw h
  obtain ⟨h2, h3⟩ := thrO_nev D [] [] 0 _ h1
  have h2 : nev D 0 = true := h2
  have h3 : D.length + 0 + 0 = r.length + w.length := h3
  exact through hk r D st hn hz (by omega) h2 h1
end K96

set_option maxRecDepth 100000
/-! K96m: picks from the bag. -/
namespace K96
open PySem Ev
structure BagI (st : Sto) : Prop where
  ex : ∃ gs a b n, st = bagS gs a b n ∧ gs.length ≤ 100
theorem pick {k m : Nat} (hk : k = m + 1) {st : Sto} (hB : BagI st) {many : Int} (hm : 0 < many) (hm2 : many < 100) : ∃ p st', callL ds k 38 [.ref 1, .d (.int many)] st = .ok (.d (.int p)) st' ∧ BagI st' ∧ 0 ≤ p ∧ p < many := by
  obtain ⟨gs, a, b, n, rfl, hg⟩ := hB.ex
  by_cases hb : b = 0
  · subst hb
    exact ⟨0, _, pick0 hk gs a n many, ⟨gs, a, 0, n, rfl, hg⟩, Int.le_refl _, hm⟩
  · cases gs with
    | nil => exact ⟨_, _, pickN hk a b n many hb hm hm2, ⟨[], _, b, _, rfl, hg⟩, Int.emod_nonneg _ (by omega), Int.emod_lt_of_pos _ hm⟩
    | cons g gs =>
      rw [List.length_cons] at hg
      refine ⟨_, _, pickG hk g gs a b n many hb hm hm2 (by omega), ⟨_, a, b, n, rfl, ?_⟩, Int.emod_nonneg _ (by omega), Int.emod_lt_of_pos _ hm⟩
      unfold gNext
      split
      · omega
      · rw [List.length_cons]; omega
theorem whl_ex {β : Type} {t : Envr → Sto → R PV} {b : Envr → Sto → RS} {c : β → Bool} {m : β → Nat} {Rel : β → Envr → Sto → Prop}
    (ht : ∀ s e st, Rel s e st → t e st = .ok (.d (.bool (c s))) st) (hb : ∀ s e st, Rel s e st → c s = true → ∃ s' e' st', b e st = .nx e' st' ∧ Rel s' e' st' ∧ m s' < m s) : ∀ {n : Nat} {s : β} {e : Envr} {st : Sto}, Rel s e st → m s < n →
      ∃ s' e' st', whlL t b n e st = .nx e' st' ∧ Rel s' e' st' ∧ c s' = false
  | 0, s, e, st, _, h => absurd h (Nat.not_lt_zero _)
  | n + 1, s, e, st, hi, hm => by
    rw [whlL, ht s e st hi]
    dsimp only [RS.ofR, asB]
    cases hc : c s with
    | true =>
      obtain ⟨s', e', st', h1, h2, h3⟩ := hb s e st hi hc
      dsimp only
      rw [h1]
      exact whl_ex ht hb h2 (by omega)
    | false => exact ⟨s, e, st, rfl, hi, hc⟩
end K96

set_option maxRecDepth 100000
/-! K96n: rows that are drawn. -/
namespace K96
open PySem Ev
local macro_rules | `(tactic| trivial) => `(tactic| simp [↓bind_I, ↓then_I, ↓ofR_I, x_nil, x_cons, then_nx, then_rt, ofR_ok, bind_ok, opt_some, noEx_ok, runB_rt, runB_nx, s_set, s_par2, s_par3, s_asg, s_app, s_ex, s_frz, s_ret, s_retN, s_ife, s_for, s_whl, s_brk, s_cont, e_var, e_lit, e_con, e_ty, e_op, e_neg, e_cmp, e_chn, e_andd, e_orr, e_nott, e_ife, e_tup, e_lst, e_lstR, e_box, e_ix, e_sl, e_rev, e_call, e_bi, e_lrng, e_lc, e_dc, evRs, evAs, evDs, evTs, evI, evP, evA, biV, biD, rd, inC, asB, asR, asD, cmpD, opD, ltD, isNone, List.replicate, I, L, srcV, wipeC, asg, setAll, putC, notOwn, isaD, PyData.isInt, PyData.isBool, PyData.isTuple, allBools_map, allInts_map, List.all_map, Function.comp_def, ixD, allT, slD, itemsD, ai_cons, l0, l1, l2, l3, l4, s_rem, s_setR, s_popR, eq_int, oi, alike_ints, sortable_ints, sort_map, *])
theorem seq_nat {k n : Nat} (h : k < n) : seqIndex? (k : Int) n = some k := by
  have e : L2.ixN n (k : Int) = some k := by
    unfold L2.ixN
    rw [if_pos (by omega), if_pos (by omega)]
    simp
  exact (L2.ixN_seq e).1
theorem erase_map {α β : Type} (f : α → β) : ∀ (l : List α) (j : Nat), (l.map f).eraseIdx j = (l.eraseIdx j).map f
  | [], j => by simp
  | a :: l, 0 => by simp
  | a :: l, j + 1 => by simpa using erase_map f l j
theorem erase_perm {α : Type} : ∀ (l : List α) (j : Nat) (h : j < l.length), (l[j] :: l.eraseIdx j).Perm l
  | [], j, h => absurd h (Nat.not_lt_zero _)
  | a :: l, 0, h => List.Perm.refl _
  | a :: l, j + 1, h => by
    have ih := erase_perm l j (Nat.lt_of_succ_lt_succ h)
    exact (List.Perm.swap a (l[j]'(Nat.lt_of_succ_lt_succ h)) (l.eraseIdx j)).trans (ih.cons a)
def baseL (n : Nat) : List Int := (List.range n).map fun (i : Nat) => 3 * (i : Int) + 1
theorem lawRow {k m : Nat} (hk : k = m + 2) {st : Sto} (hB : BagI st) {n : Nat} (hn : n ≤ 9) : ∃ row st', callL ds k 40 [.ref 1, .d (.int (n : Nat))] st = .ok (.d (I row)) st' ∧ BagI st' ∧ row.Perm (baseL n) := by
  subst hk
  have s1 : smallI (n : Int) = true := decide_eq_true (by omega)
  have m1 : ∀ x, mulOk 3 x = true := fun x => by unfold mulOk; rw [Bool.or_eq_true]; exact .inl (decide_eq_true (by decide))
  rw [callL_some (d := d40) rfl rfl, d40]
  trivial
  rw [rgL_nat, lcL_map (g := fun i : Nat => .int (3 * (i : Int) + 1))]
  · generalize ht : evE (callL ds (m + 1)) (.cmp .gt (.bi .len (.cons (.var 2) .nil)) (.lit (.int 0))) = t
    generalize hb : exSs (callL ds (m + 1)) (.cons (.app 3 (.popAt 2 (.call 38 (.cons (.var 0) (.cons (.bi .len (.cons (.var 2) .nil)) .nil))))) .nil) = b
    obtain ⟨⟨left, found⟩, e', st', q1, ⟨rfl, q2, q3⟩, q4⟩ := whl_ex (β := List Int × List Int) (t := t) (b := b) (c := fun s => decide (0 < s.1.length)) (m := fun s => s.1.length)
      (Rel := fun s e st => e = [.v (.ref 1), .v (.d (.int (n : Nat))), .own (L s.1), .own (L s.2), .no] ∧ BagI st ∧ (s.2 ++ s.1).Perm (baseL n)) (n := 1000000) (s := (baseL n, [])) (e := [.v (.ref 1), .v (.d (.int (n : Nat))), .own (L (baseL n)), .own (L []), .no]) (st := st)
      (by
        rintro ⟨left, found⟩ e st ⟨rfl, _, _⟩
        subst ht
        trivial)
      (by
        rintro ⟨left, found⟩ e st ⟨rfl, hB, hp⟩ hc
        dsimp only at hc hp
        have hl : 0 < left.length := of_decide_eq_true hc
        have hlen := hp.length_eq
        rw [List.length_append, baseL, List.length_map, List.length_range] at hlen
        obtain ⟨p, st', c1, c2, c3, c4⟩ := pick (k := m + 1) rfl hB (many := left.length) (by omega) (by omega)
        obtain ⟨j, rfl⟩ : ∃ j : Nat, p = (j : Int) := ⟨p.toNat, by omega⟩
        have hj : j < left.length := by omega
        have f1 : fits (j : Int) = true := decide_eq_true (by omega)
        have f2 := seq_nat hj
        have z1 : found.length < sizeLine := Nat.lt_of_lt_of_le (Nat.lt_succ_self _) (sz (by omega))
        refine ⟨(left.eraseIdx j, found ++ [left[j]]), [.v (.ref 1), .v (.d (.int (n : Nat))), .own (L (left.eraseIdx j)), .own (L (found ++ [left[j]])), .no], st', ?_, ⟨rfl, c2, ?_⟩, by simp only [List.length_eraseIdx]; split <;> omega⟩
        · subst hb
          have g1 : (left.map PyData.int)[j]? = some (.int left[j]) := by rw [List.getElem?_map, List.getElem?_eq_getElem hj]; rfl
          have g2 : (left.map PyData.int).eraseIdx j = (left.eraseIdx j).map .int := erase_map _ _ _
          clear hc hp hlen
          trivial
        · rw [List.append_assoc]
          refine List.Perm.trans (List.Perm.append_left found ?_) hp
          exact erase_perm left j hj)
      ⟨rfl, hB, by simp⟩ (by simp [baseL]; omega)
    have q4 : decide (0 < left.length) = false := q4
    have hl : left = [] := by
      cases left with
      | nil => rfl
      | cons a l => simp at q4
    subst hl
    refine ⟨found, st', ?_, q2, by have q3 : (found ++ []).Perm (baseL n) := q3; rwa [List.append_nil] at q3⟩
    unfold L baseL at q1
    simp only [List.map_nil, List.map_map, Function.comp_def] at q1
    rw [List.nil_append]
    trivial
  · intro i _
    trivial
  · exact sz (by simp; omega)
end K96

set_option maxRecDepth 100000
/-! K96o: the bag is made. -/
namespace K96
open PySem Ev
local macro_rules | `(tactic| trivial) => `(tactic| simp [↓bind_I, ↓then_I, ↓ofR_I, x_nil, x_cons, then_nx, then_rt, ofR_ok, bind_ok, opt_some, noEx_ok, runB_rt, runB_nx, s_set, s_par2, s_par3, s_asg, s_app, s_ex, s_frz, s_ret, s_retN, s_ife, s_for, s_whl, s_brk, s_cont, e_var, e_lit, e_con, e_ty, e_op, e_neg, e_cmp, e_chn, e_andd, e_orr, e_nott, e_ife, e_tup, e_lst, e_lstR, e_box, e_ix, e_sl, e_rev, e_call, e_bi, e_lrng, e_lc, e_dc, evRs, evAs, evDs, evTs, evI, evP, evA, biV, biD, rd, inC, asB, asR, asD, cmpD, opD, ltD, isNone, List.replicate, I, L, srcV, wipeC, asg, setAll, putC, notOwn, isaD, PyData.isInt, PyData.isBool, PyData.isTuple, allBools_map, allInts_map, List.all_map, Function.comp_def, ixD, allT, slD, itemsD, ai_cons, l0, l1, l2, l3, l4, s_rem, s_setR, s_popR, eq_int, oi, alike_ints, sortable_ints, sort_map, *])
def ab (x : Int) : Int := if x < 0 then -x else x
def seedF (s x : Int) : Int := (s * 69621 + ab x * 2 + (if x < 0 then 1 else 0) + 17) % 2147483629
theorem cut63 {α : Type} (xs : List α) (h : xs.length ≤ 63) : cutL xs none (some 63) = xs := by
  refine cutL_full xs ⟨rfl, ?_⟩
  have := HT.sIx_nat xs.length xs.length 63
  rw [show ((63 : Nat) : Int) = 63 from rfl] at this
  rw [this]
  omega
theorem lawBag {k m : Nat} (hk : k = m + 1) (ns : List Int) (h : ns.length ≤ 63) : ∃ st', callL ds k 37 [.d (.list (ns.map .int))] [] = .ok (.ref 1) st' ∧ BagI st' := by
  subst hk
  have c1 := cut63 (ns.map PyData.int) (by rw [List.length_map]; exact h)
  have m1 : ∀ x, mulOk x 69621 = true := fun x => by unfold mulOk; rw [Bool.or_eq_true]; exact .inr (decide_eq_true (by decide))
  have m2 : ∀ x, mulOk x 2 = true := fun x => by unfold mulOk; rw [Bool.or_eq_true]; exact .inr (decide_eq_true (by decide))
  refine ⟨bagS ((ns.filter fun x => decide (10 ^ 18 ≤ ab x)).map ab) (ns.foldl seedF 961) ns.length 0, ?_, ⟨_, _, _, _, rfl, by rw [List.length_map]; exact Nat.le_trans (List.length_filter_le _ _) (by omega)⟩⟩
  rw [callL_some (d := d37) rfl rfl, d37]
  trivial
  rw [lcL_filt (enc := .int) (p := fun x => decide (10 ^ 18 ≤ ab x)) (g := fun x => .int (ab x))]
  · trivial
    generalize hb : exSs (callL ds m) (Ss.cons _ _) = b
    obtain ⟨e', q1, c4, q2⟩ := forL_rel (gt := .nm 3) (encX := PyData.int) (f := seedF) (st := [Ob.lst (((ns.filter fun x => decide (10 ^ 18 ≤ ab x)).map ab).map fun g => .d (.int g))]) (b := b)
      (Rel := fun l s e => ∃ c, e = [.v (.d (.list (ns.map .int))), .v (.ref 0), .v (.d (.int s)), c])
      (l := ns) (s := 961) (e := [.v (.d (.list (ns.map .int))), .v (.ref 0), .v (.d (.int 961)), .no])
      (by
        rintro x l s e ⟨c, rfl⟩
        subst hb
        refine ⟨_, [.v (.d (.list (ns.map .int))), .v (.ref 0), .v (.d (.int (seedF s x))), .v (.d (.int x))], rfl, ?_, _, rfl⟩
        unfold seedF ab
        by_cases h1 : x < 0 <;> trivial) ⟨_, rfl⟩
    have e18 : (10 : Int) ^ 18 = 1000000000000000000 := rfl
    simp only [List.map_map, Function.comp_def, e18] at q1
    rw [q1, q2]
    unfold bagS
    trivial
    try rfl
  · intro x _
    unfold ab
    by_cases h1 : x < 0
    · by_cases h2 : (1000000000000000000 : Int) ≤ -x <;> trivial
    · by_cases h2 : (1000000000000000000 : Int) ≤ x <;> trivial
  · exact sz (by simp; omega)
end K96

set_option maxRecDepth 100000
/-! K96p: bars. -/
namespace K96
open PySem Ev
local macro_rules | `(tactic| trivial) => `(tactic| simp [↓bind_I, ↓then_I, ↓ofR_I, x_nil, x_cons, then_nx, then_rt, ofR_ok, bind_ok, opt_some, noEx_ok, runB_rt, runB_nx, s_set, s_par2, s_par3, s_asg, s_app, s_ex, s_frz, s_ret, s_retN, s_ife, s_for, s_whl, s_brk, s_cont, e_var, e_lit, e_con, e_ty, e_op, e_neg, e_cmp, e_chn, e_andd, e_orr, e_nott, e_ife, e_tup, e_lst, e_lstR, e_box, e_ix, e_sl, e_rev, e_call, e_bi, e_lrng, e_lc, e_dc, evRs, evAs, evDs, evTs, evI, evP, evA, biV, biD, rd, inC, asB, asR, asD, cmpD, opD, ltD, isNone, List.replicate, I, L, srcV, wipeC, asg, setAll, putC, notOwn, isaD, PyData.isInt, PyData.isBool, PyData.isTuple, allBools_map, allInts_map, List.all_map, Function.comp_def, ixD, allT, slD, itemsD, ai_cons, l0, l1, l2, l3, l4, s_rem, s_setR, s_popR, eq_int, oi, alike_ints, sortable_ints, sort_map, *])
def barAt (r : List Int) (i j l : Nat) : Bool := decide (r.getD l 0 < r.getD i 0) && decide (r.getD i 0 < r.getD j 0)
theorem bars' {k m : Nat} (hk : k = m + 1) (r : List Int) (i j l : Nat) (st : Sto) (hi : i < r.length) (hj : j < r.length) (hl : l < r.length) :
    callL ds k 13 [.d (I r), .d (.int (i : Nat)), .d (.int (j : Nat)), .d (.int (l : Nat))] st = .ok (.d (.bool (barAt r i j l))) st := by
  have := barsOf hk r i j l st hi hj hl
  have g : ∀ t (h : t < r.length), r.getD t 0 = r[t] := fun t h => by rw [List.getD_eq_getElem?_getD, List.getElem?_eq_getElem h]; rfl
  unfold barAt
  rw [g i hi, g j hj, g l hl]
  exact this
theorem rgL_from (a n : Nat) : rgL ((a : Int) + 1) (n : Int) = ((List.range (n - (a + 1))).map fun t => a + 1 + t).map fun t : Nat => PyData.int (t : Int) := by
  unfold rgL
  rw [List.map_map, show ((n : Int) - ((a : Int) + 1)).toNat = n - (a + 1) by omega]
  apply List.map_congr_left
  intro t _
  rfl
def fromL (a n : Nat) : List Nat := (List.range (n - (a + 1))).map fun t => a + 1 + t
theorem mem_fromL {a n x : Nat} : x ∈ fromL a n ↔ a < x ∧ x < n := by
  unfold fromL
  rw [List.mem_map]
  constructor
  · rintro ⟨t, ht, rfl⟩
    have := List.mem_range.mp ht
    omega
  · rintro ⟨h1, h2⟩
    exact ⟨x - (a + 1), List.mem_range.mpr (by omega), by omega⟩
def bar3 (r : List Int) (i j : Nat) : Option (Nat × Nat × Nat) := (fromL j r.length).findSome? fun l => if barAt r i j l = true then some (i, j, l) else none
def bar2 (r : List Int) (i : Nat) : Option (Nat × Nat × Nat) := (fromL i r.length).findSome? fun j => bar3 r i j
def bar1 (r : List Int) : Option (Nat × Nat × Nat) := (List.range r.length).findSome? fun i => bar2 r i
def t3 (p : Nat × Nat × Nat) : PyData := .tuple [.int (p.1 : Nat), .int (p.2.1 : Nat), .int (p.2.2 : Nat)]
def optT (o : Option (Nat × Nat × Nat)) : PyData := match o with
  | some p => t3 p
  | none => .none
/-- a loop that seeks -/
theorem seek {α γ : Type} {b : Envr → Sto → RS} {gt : G} {encX : α → PyData} {encV : γ → PV} {q : α → Option γ} {Ok : Envr → Prop} {st : Sto} {l : List α}
    (h : ∀ a ∈ l, ∀ e, Ok e → ∃ e1, asg e gt (encX a) = some e1 ∧ ((∃ v, q a = some v ∧ b e1 st = .rt (encV v) st) ∨ (q a = none ∧ ∃ e2, b e1 st = .nx e2 st ∧ Ok e2))) {e : Envr} (he : Ok e) :
    (∃ v, l.findSome? q = some v ∧ forL b gt (l.map encX) e st = .rt (encV v) st) ∨ (l.findSome? q = none ∧ ∃ e', forL b gt (l.map encX) e st = .nx e' st ∧ Ok e') := by
  have key := forL_ret (gt := gt) (encX := encX) (encV := encV) (f := fun (s : Unit) _ => s) (q := fun _ a => q a) (st := st) (b := b) (Rel := fun r _ e => Ok e ∧ ∀ x ∈ r, x ∈ l)
    (by
      rintro a r s e ⟨ho, hr⟩
      obtain ⟨e1, h1, h2⟩ := h a (hr a List.mem_cons_self) e ho
      refine ⟨e1, h1, h2.imp id ?_⟩
      rintro ⟨h3, e2, h4, h5⟩
      exact ⟨h3, e2, h4, h5, fun x hx => hr x (List.mem_cons_of_mem _ hx)⟩) (l := l) (s := ()) (e := e) ⟨he, fun _ h => h⟩
  rw [retF_find] at key
  rcases key with ⟨v, k1, k2⟩ | ⟨s', e', k1, k2, k3, _⟩
  · left
    cases hf : l.findSome? q with
    | some w => rw [hf] at k1; cases k1; exact ⟨_, rfl, k2⟩
    | none => rw [hf] at k1; cases k1
  · right
    cases hf : l.findSome? q with
    | some w => rw [hf] at k1; cases k1
    | none => exact ⟨rfl, e', k2, k3⟩
def b3 : Ss := .cons (.ife (.call 13 (.cons (.var 0) (.cons (.var 2) (.cons (.var 3) (.cons (.var 4) .nil))))) (.cons (.ret (.tup (.cons (.var 2) (.cons (.var 3) (.cons (.var 4) .nil))))) .nil) .nil) .nil
def b2 : Ss := .cons (.for_ (.nm 4) (.r2 (.op .add (.var 3) (.lit (.int 1))) (.var 1)) b3) .nil
def b1 : Ss := .cons (.for_ (.nm 3) (.r2 (.op .add (.var 2) (.lit (.int 1))) (.var 1)) b2) .nil
theorem d14_eq : d14.body = .cons (.set false 1 (.e (.bi .len (.cons (.var 0) .nil)))) (.cons (.for_ (.nm 2) (.r1 (.var 1)) b1) (.cons (.ret (.lit .none)) .nil)) := rfl
theorem seek3 {m : Nat} (r : List Int) (st : Sto) (i j : Nat) (hi : i < r.length) (hj : j < r.length) (c : Cell) :
    (∃ v, bar3 r i j = some v ∧ forL (exSs (callL ds (m + 1)) b3) (.nm 4) ((fromL j r.length).map fun t : Nat => PyData.int (t : Int)) [.v (.d (I r)), .v (.d (.int (r.length : Nat))), .v (.d (.int (i : Nat))), .v (.d (.int (j : Nat))), c] st = .rt (.d (t3 v)) st)
    ∨ (bar3 r i j = none ∧ ∃ c', forL (exSs (callL ds (m + 1)) b3) (.nm 4) ((fromL j r.length).map fun t : Nat => PyData.int (t : Int)) [.v (.d (I r)), .v (.d (.int (r.length : Nat))), .v (.d (.int (i : Nat))), .v (.d (.int (j : Nat))), c] st = .nx [.v (.d (I r)), .v (.d (.int (r.length : Nat))), .v (.d (.int (i : Nat))), .v (.d (.int (j : Nat))), c'] st) := by
  have key := seek (b := exSs (callL ds (m + 1)) b3) (gt := .nm 4) (encX := fun t : Nat => PyData.int (t : Int)) (encV := fun v => PV.d (t3 v)) (q := fun l => if barAt r i j l = true then some (i, j, l) else none) (st := st) (l := fromL j r.length)
    (Ok := fun e => ∃ c, e = [.v (.d (I r)), .v (.d (.int (r.length : Nat))), .v (.d (.int (i : Nat))), .v (.d (.int (j : Nat))), c])
    (by
      rintro l hl e ⟨c, rfl⟩
      have hl' := (mem_fromL.mp hl).2
      have h1 := bars' (k := m + 1) rfl r i j l st hi hj hl'
      refine ⟨[.v (.d (I r)), .v (.d (.int (r.length : Nat))), .v (.d (.int (i : Nat))), .v (.d (.int (j : Nat))), .v (.d (.int (l : Nat)))], rfl, ?_⟩
      unfold I at h1 ⊢
      cases hb : barAt r i j l with
      | true =>
        rw [hb] at h1
        left
        refine ⟨(i, j, l), rfl, ?_⟩
        unfold b3 t3
        trivial
      | false =>
        rw [hb] at h1
        right
        refine ⟨rfl, [.v (.d (.tuple (r.map .int))), .v (.d (.int (r.length : Nat))), .v (.d (.int (i : Nat))), .v (.d (.int (j : Nat))), .v (.d (.int (l : Nat)))], ?_, .v (.d (.int (l : Nat))), rfl⟩
        unfold b3
        trivial) (e := [.v (.d (I r)), .v (.d (.int (r.length : Nat))), .v (.d (.int (i : Nat))), .v (.d (.int (j : Nat))), c]) ⟨_, rfl⟩
  rcases key with ⟨v, k1, k2⟩ | ⟨k1, e', k2, c', rfl⟩
  · exact .inl ⟨v, k1, k2⟩
  · exact .inr ⟨k1, c', k2⟩
theorem fromL_rg (j n : Nat) : rgL ((j : Int) + 1) (n : Int) = (fromL j n).map fun t : Nat => PyData.int (t : Int) := rgL_from j n
theorem seek2 {m : Nat} (r : List Int) (st : Sto) (hz : r.length ≤ 30) (i : Nat) (hi : i < r.length) (c c0 : Cell) :
    (∃ v, bar2 r i = some v ∧ forL (exSs (callL ds (m + 1)) b2) (.nm 3) ((fromL i r.length).map fun t : Nat => PyData.int (t : Int)) [.v (.d (I r)), .v (.d (.int (r.length : Nat))), .v (.d (.int (i : Nat))), c0, c] st = .rt (.d (t3 v)) st)
    ∨ (bar2 r i = none ∧ ∃ c0' c', forL (exSs (callL ds (m + 1)) b2) (.nm 3) ((fromL i r.length).map fun t : Nat => PyData.int (t : Int)) [.v (.d (I r)), .v (.d (.int (r.length : Nat))), .v (.d (.int (i : Nat))), c0, c] st = .nx [.v (.d (I r)), .v (.d (.int (r.length : Nat))), .v (.d (.int (i : Nat))), c0', c'] st) := by
  have key := seek (b := exSs (callL ds (m + 1)) b2) (gt := .nm 3) (encX := fun t : Nat => PyData.int (t : Int)) (encV := fun v => PV.d (t3 v)) (q := fun j => bar3 r i j) (st := st) (l := fromL i r.length)
    (Ok := fun e => ∃ c0 c, e = [.v (.d (I r)), .v (.d (.int (r.length : Nat))), .v (.d (.int (i : Nat))), c0, c])
    (by
      rintro j hj e ⟨c0, c, rfl⟩
      have hj' := (mem_fromL.mp hj).2
      have s1 : smallI ((j : Int) + 1) = true := decide_eq_true (by omega)
      have s2 : smallI (r.length : Int) = true := decide_eq_true (by omega)
      have h1 := seek3 (m := m) r st i j hi hj' c
      have hr := fromL_rg j r.length
      refine ⟨[.v (.d (I r)), .v (.d (.int (r.length : Nat))), .v (.d (.int (i : Nat))), .v (.d (.int (j : Nat))), c], rfl, ?_⟩
      unfold I at h1 ⊢
      rcases h1 with ⟨v, k1, k2⟩ | ⟨k1, c', k2⟩
      · left
        refine ⟨v, k1, ?_⟩
        unfold b2
        trivial
      · right
        refine ⟨k1, [.v (.d (.tuple (r.map .int))), .v (.d (.int (r.length : Nat))), .v (.d (.int (i : Nat))), .v (.d (.int (j : Nat))), c'], ?_, .v (.d (.int (j : Nat))), c', rfl⟩
        unfold b2
        trivial) (e := [.v (.d (I r)), .v (.d (.int (r.length : Nat))), .v (.d (.int (i : Nat))), c0, c]) ⟨_, _, rfl⟩
  rcases key with ⟨v, k1, k2⟩ | ⟨k1, e', k2, c0', c', rfl⟩
  · exact .inl ⟨v, k1, k2⟩
  · exact .inr ⟨k1, c0', c', k2⟩
theorem leastBar {k m : Nat} (hk : k = m + 2) (r : List Int) (st : Sto) (hz : r.length ≤ 30) : callL ds k 14 [.d (I r)] st = .ok (.d (optT (bar1 r))) st := by
  subst hk
  rw [callL_some (d := d14) rfl rfl, d14_eq]
  have s2 : smallI (r.length : Int) = true := decide_eq_true (by omega)
  have key := seek (b := exSs (callL ds (m + 1)) b1) (gt := .nm 2) (encX := fun t : Nat => PyData.int (t : Int)) (encV := fun v => PV.d (t3 v)) (q := fun i => bar2 r i) (st := st) (l := List.range r.length)
    (Ok := fun e => ∃ c1 c0 c, e = [.v (.d (I r)), .v (.d (.int (r.length : Nat))), c1, c0, c])
    (by
      rintro i hi e ⟨c1, c0, c, rfl⟩
      have hi' := List.mem_range.mp hi
      have s1 : smallI ((i : Int) + 1) = true := decide_eq_true (by omega)
      have h1 := seek2 (m := m) r st hz i hi' c c0
      have hr := fromL_rg i r.length
      refine ⟨[.v (.d (I r)), .v (.d (.int (r.length : Nat))), .v (.d (.int (i : Nat))), c0, c], rfl, ?_⟩
      unfold I at h1 ⊢
      rcases h1 with ⟨v, k1, k2⟩ | ⟨k1, c0', c', k2⟩
      · left
        refine ⟨v, k1, ?_⟩
        unfold b1
        trivial
      · right
        refine ⟨k1, [.v (.d (.tuple (r.map .int))), .v (.d (.int (r.length : Nat))), .v (.d (.int (i : Nat))), c0', c'], ?_, .v (.d (.int (i : Nat))), c0', c', rfl⟩
        unfold b1
        trivial) (e := [.v (.d (I r)), .v (.d (.int (r.length : Nat))), .no, .no, .no]) ⟨_, _, _, rfl⟩
  have hr := rgL_nat r.length
  show runB (exSs (callL ds (m + 1)) _ [.v (.d (I r)), .no, .no, .no, .no] st) = _
  unfold I at key ⊢
  rcases key with ⟨v, k1, k2⟩ | ⟨k1, e', k2, _⟩
  · rw [show bar1 r = some v from k1]
    trivial
    rfl
  · rw [show bar1 r = none from k1]
    trivial
    rfl
end K96

set_option maxRecDepth 100000
/-! K96q: bar, is_bar. -/
namespace K96
open PySem Ev
local macro_rules | `(tactic| trivial) => `(tactic| simp [↓bind_I, ↓then_I, ↓ofR_I, x_nil, x_cons, then_nx, then_rt, ofR_ok, bind_ok, opt_some, noEx_ok, runB_rt, runB_nx, s_set, s_par2, s_par3, s_asg, s_app, s_ex, s_frz, s_ret, s_retN, s_ife, s_for, s_whl, s_brk, s_cont, e_var, e_lit, e_con, e_ty, e_op, e_neg, e_cmp, e_chn, e_andd, e_orr, e_nott, e_ife, e_tup, e_lst, e_lstR, e_box, e_ix, e_sl, e_rev, e_call, e_bi, e_lrng, e_lc, e_dc, evRs, evAs, evDs, evTs, evI, evP, evA, biV, biD, rd, inC, asB, asR, asD, cmpD, opD, ltD, isNone, List.replicate, I, L, srcV, wipeC, asg, setAll, putC, notOwn, isaD, PyData.isInt, PyData.isBool, PyData.isTuple, allBools_map, allInts_map, List.all_map, Function.comp_def, ixD, allT, slD, itemsD, ai_cons, l0, l1, l2, l3, l4, s_rem, s_setR, s_popR, eq_int, oi, alike_ints, sortable_ints, sort_map, *])
theorem bar {k m : Nat} (hk : k = m + 4) (r : List Int) (st : Sto) (hn : r.Nodup) (hz : r.length ≤ 30) : callL ds k 15 [.d (I r)] st = .ok (.d (optT (bar1 r))) st := by
  subst hk
  have h1 := checkFlats (k := m + 3) (m := m) rfl r st hn hz
  have h2 := leastBar (k := m + 3) (m := m + 1) rfl r st hz
  unfold I at h1 h2
  rw [callL_some (d := d15) rfl rfl, d15]
  trivial
theorem isBar {k m : Nat} (hk : k = m + 4) (r : List Int) (i j l : Nat) (st : Sto) (hn : r.Nodup) (hz : r.length ≤ 30) (hij : i < j) (hjl : j < l) (hl : l < r.length) : callL ds k 16 [.d (I r), .d (t3 (i, j, l))] st = .ok (.d (.bool (barAt r i j l))) st := by
  subst hk
  have h1 := checkFlats (k := m + 3) (m := m) rfl r st hn hz
  have h2 := tupleOf (k := m + 3) (m := m + 2) rfl [.int (i : Nat), .int (j : Nat), .int (l : Nat)] 3 st
  have h3 := fun x => within (k := m + 3) (m := m + 1) rfl x 0 ((r.length : Int) - 1) st
  have h4 := bars' (k := m + 3) (m := m + 2) rfl r i j l st (by omega) (by omega) hl
  have e2 : decide ((([.int (i : Nat), .int (j : Nat), .int (l : Nat)] : List PyData).length : Int) = 3) = true := rfl
  rw [e2] at h2
  unfold I t3 at *
  rw [callL_some (d := d16) rfl rfl, d16]
  generalize barAt r i j l = bb at h4 ⊢
  clear e2
  have a0 : L2.atI ([.int (i : Nat), .int (j : Nat), .int (l : Nat)] : List PyData) 0 = some (.int (i : Nat)) := rfl
  have a1 : L2.atI ([.int (i : Nat), .int (j : Nat), .int (l : Nat)] : List PyData) 1 = some (.int (j : Nat)) := rfl
  have a2 : L2.atI ([.int (i : Nat), .int (j : Nat), .int (l : Nat)] : List PyData) 2 = some (.int (l : Nat)) := rfl
  have em : ([.int (i : Nat), .int (j : Nat), .int (l : Nat)] : List PyData) = [i, j, l].map fun t : Nat => PyData.int (t : Int) := rfl
  dsimp only at h2 ⊢
  generalize ([.int (i : Nat), .int (j : Nat), .int (l : Nat)] : List PyData) = T3 at h2 a0 a1 a2 em ⊢
  have em' := em
  clear em
  revert em'
  trivial
  intro em'
  try rw [em'] at a0 a1 a2
  try rw [em']
  have es : ([.int (i : Nat), .int (j : Nat), .int (l : Nat)] : List PyData) = [i, j, l].map fun t : Nat => PyData.int (t : Int) := rfl
  have hL : ∀ f : PyData → Sto → R (Option PyData), (∀ t ∈ [i, j, l], f (.int (t : Int)) st = .ok (some (.bool true)) st) → lcL f [.int (i : Nat), .int (j : Nat), .int (l : Nat)] st [] = .ok [.bool true, .bool true, .bool true] st := fun f hf => by
    rw [es, lcL_map (g := fun _ => .bool true) hf (sz (by simp))]
    rfl
  clear es
  rw [hL]
  · have t1 : ((i : Int) < (j : Int)) := by omega
    have t2 : ((j : Int) < (l : Int)) := by omega
    rw [em'] at h2
    have ab3 : allBools [.bool true, .bool true, .bool true] = some [true, true, true] := rfl
    clear em' hL hij hjl
    trivial
  · intro t ht
    have h5 : decide ((0 : Int) ≤ (t : Int)) = true := decide_eq_true (by omega)
    have h6 : decide ((t : Int) ≤ (r.length : Int) - 1) = true := decide_eq_true (by
      simp only [List.mem_cons, List.not_mem_nil, or_false] at ht
      omega)
    have h7 := h3 (t : Int)
    rw [h5, h6] at h7
    clear em'
    trivial
end K96

set_option maxRecDepth 100000
namespace K96
/-- strictly ascending -/
abbrev Asc (l : List Int) : Prop := l.Pairwise (· < ·)
theorem asc_iff : ∀ r : List Int, ascB r = true ↔ Asc r
  | [] => by simp [ascB, Asc]
  | [a] => by simp [ascB, Asc]
  | a :: b :: r => by
    have ih := asc_iff (b :: r)
    have e : ascB (a :: b :: r) = (decide (a < b) && ascB (b :: r)) := rfl
    rw [e, Bool.and_eq_true, ih, decide_eq_true_eq]
    constructor
    · rintro ⟨h1, h2⟩
      refine List.pairwise_cons.mpr ⟨fun x hx => ?_, h2⟩
      rcases List.mem_cons.mp hx with rfl | hx
      · exact h1
      · exact Int.lt_trans h1 ((List.pairwise_cons.mp h2).1 x hx)
    · intro h
      have h := List.pairwise_cons.mp h
      exact ⟨h.1 b List.mem_cons_self, h.2⟩
/-- what is taken off -/
theorem popLt_spec (x : Int) : ∀ (s f : List Int), ∃ t, s = t ++ (popLt x s f).1 ∧ (popLt x s f).2 = f ++ t ∧ (∀ a ∈ t, a < x) ∧ ∀ a, (popLt x s f).1.head? = some a → x ≤ a
  | [], f => ⟨[], rfl, by simp [popLt], by simp, by simp [popLt]⟩
  | a :: s, f => by
    rw [popLt]
    split
    · rename_i h
      obtain ⟨t, h1, h2, h3, h4⟩ := popLt_spec x s (f ++ [a])
      refine ⟨a :: t, by rw [List.cons_append, ← h1], by rw [h2]; simp, fun b hb => ?_, h4⟩
      rcases List.mem_cons.mp hb with rfl | hb
      · exact h
      · exact h3 b hb
    · rename_i h
      exact ⟨[], rfl, by simp, by simp, fun b hb => by cases hb; omega⟩
theorem onceF_perm (l : List Int) (s : List Int × List Int) : ((l.foldl onceF s).2 ++ (l.foldl onceF s).1).Perm (s.2 ++ s.1 ++ l) := by
  induction l generalizing s with
  | nil => simp
  | cons x l ih =>
    obtain ⟨s, f⟩ := s
    obtain ⟨t, h1, h2, _, _⟩ := popLt_spec x s f
    rw [List.foldl_cons]
    refine (ih _).trans ?_
    unfold onceF
    dsimp only
    rw [h2]
    generalize (popLt x s f).1 = q at h1
    subst h1
    rw [List.append_assoc, List.append_assoc, List.append_assoc]
    refine List.Perm.append_left f ?_
    rw [List.append_assoc]
    refine List.Perm.append_left t ?_
    exact (List.perm_middle (a := x) (l₁ := q) (l₂ := l)).symm
theorem onceL_perm (r : List Int) : (onceL r).Perm r := by
  have := onceF_perm r ([], [])
  rw [List.append_nil, List.nil_append] at this
  exact this
/-- no bar -/
def NoBar (r : List Int) : Prop := ∀ a x z, [a, x, z].Sublist r → ¬ (z < a ∧ a < x)
theorem noBar_mid {pre l : List Int} {a x z : Int} (ha : a ∈ pre) (hz : z ∈ l) : [a, x, z].Sublist (pre ++ x :: l) := by
  have h1 : [a].Sublist pre := List.singleton_sublist.mpr ha
  have h2 : [x, z].Sublist (x :: l) := (List.singleton_sublist.mpr hz).cons_cons x
  exact h1.append h2
/-- with no bar all comes out ascending -/
theorem once_asc {r : List Int} (hn : r.Nodup) (hb : NoBar r) : ∀ (l pre : List Int) (s : List Int × List Int), r = pre ++ l → (∀ a ∈ s.2 ++ s.1, a ∈ pre) → Asc (s.2 ++ s.1) → (∀ a ∈ s.2, ∀ z ∈ l, a < z) → Asc ((l.foldl onceF s).2 ++ (l.foldl onceF s).1)
  | [], pre, s, _, _, h, _ => h
  | x :: l, pre, (s, f), hr, hp, ha, hf => by
    obtain ⟨t, h1, h2, h3, h4⟩ := popLt_spec x s f
    have hn' : (pre ++ x :: l).Nodup := hr ▸ hn
    have hx : ∀ a ∈ pre, a ≠ x := fun a h e => (List.nodup_append.mp hn').2.2 a h x List.mem_cons_self e
    have hz : ∀ a ∈ pre, ∀ z ∈ l, a ≠ z := fun a h z hz e => (List.nodup_append.mp hn').2.2 a h z (List.mem_cons_of_mem _ hz) e
    rw [List.foldl_cons]
    unfold onceF
    dsimp only at hp ha hf ⊢
    rw [h2]
    generalize (popLt x s f).1 = q at h1 h4
    subst h1
    have hxp : ∀ a ∈ f ++ t, a < x := fun a h => by
      rcases List.mem_append.mp h with h | h
      · exact hf a h x List.mem_cons_self
      · exact h3 a h
    have ha' : Asc ((f ++ t) ++ q) := by rw [List.append_assoc]; exact ha
    obtain ⟨a1, a2, a3⟩ := List.pairwise_append.mp ha'
    have hq : ∀ a ∈ q, x < a := fun a h => by
      cases q with
      | nil => cases h
      | cons y q =>
        have hy := h4 y rfl
        have hne := hx y (hp y (by simp))
        rcases List.mem_cons.mp h with rfl | h
        · omega
        · have := (List.pairwise_cons.mp a2).1 a h
          omega
    refine once_asc hn hb l (pre ++ [x]) (x :: q, f ++ t) (by rw [hr]; simp) (fun a h => ?_) ?_ (fun a h z hzl => ?_)
    · rcases List.mem_append.mp h with h | h
      · exact List.mem_append_left _ (hp a (by rw [← List.append_assoc]; exact List.mem_append_left _ h))
      · rcases List.mem_cons.mp h with rfl | h
        · simp
        · exact List.mem_append_left _ (hp a (by rw [← List.append_assoc]; exact List.mem_append_right _ h))
    · refine List.pairwise_append.mpr ⟨a1, List.pairwise_cons.mpr ⟨hq, a2⟩, fun a h b hb' => ?_⟩
      rcases List.mem_cons.mp hb' with rfl | hb'
      · exact hxp a h
      · exact a3 a h b hb'
    · have hax := hxp a h
      have hap : a ∈ pre := hp a (by rw [← List.append_assoc]; exact List.mem_append_left _ h)
      have := hb a x z (hr ▸ noBar_mid hap hzl)
      have := hz a hap z hzl
      omega
theorem once_of_noBar {r : List Int} (hn : r.Nodup) (hb : NoBar r) : Asc (onceL r) := once_asc hn hb r [] ([], []) rfl (by simp) (by simp) (by simp)
/-! ### deeds -/
theorem popEq_D (w : List Int) : ∀ (s : List Int) (D D' : List Bool) (p : Nat), (popEq w s D p).1 = (popEq w s D' p).1 ∧ (popEq w s D p).2.2 = (popEq w s D' p).2.2
  | [], D, D', p => ⟨rfl, rfl⟩
  | a :: s, D, D', p => by
    rw [popEq, popEq]
    split
    · exact popEq_D w s _ _ _
    · exact ⟨rfl, rfl⟩
/-- taken off what is due -/
theorem popEq_skip {w : List Int} : ∀ (t q : List Int) (D : List Bool) (p : Nat), (∀ i (h : i < t.length), t[i] = w.getD (p + i) 0) → (popEq w (t ++ q) D p).1 = (popEq w q D (p + t.length)).1 ∧ (popEq w (t ++ q) D p).2.2 = (popEq w q D (p + t.length)).2.2
  | [], q, D, p, _ => ⟨rfl, rfl⟩
  | a :: t, q, D, p, h => by
    have h0 := h 0 (by simp)
    rw [List.cons_append, popEq, if_pos (by simpa using h0)]
    have ih := popEq_skip t q (D ++ [false]) (p + 1) (fun i hi => by
      have := h (i + 1) (by simp; omega)
      rw [List.getElem_cons_succ] at this
      rw [this]
      congr 1
      omega)
    have e := popEq_D w q (D ++ [false]) D (p + 1 + t.length)
    rw [List.length_cons, show p + (t.length + 1) = p + 1 + t.length by omega]
    exact ⟨ih.1.trans e.1, ih.2.trans e.2⟩
theorem deed_sim {w : List Int} (hw : Asc w) : ∀ (l : List Int) (s f : List Int) (d : DS), (l.foldl onceF (s, f)).2 ++ (l.foldl onceF (s, f)).1 = w → (d.1 = (popEq w s [] f.length).1 ∧ d.2.2 = (popEq w s [] f.length).2.2) →
    (l.foldl (deedF w) d).1 = (popEq w (l.foldl onceF (s, f)).1 [] (l.foldl onceF (s, f)).2.length).1
  | [], s, f, d, hf, h => h.1
  | x :: l, s, f, (s', D, p), hf, h => by
    rw [List.foldl_cons] at hf ⊢
    rw [List.foldl_cons]
    obtain ⟨t, h1, h2, h3, h4⟩ := popLt_spec x s f
    -- what has come out stands at the head of w
    have pre : ∀ (l s f : List Int), ∃ g, (l.foldl onceF (s, f)).2 = f ++ g := by
      intro l
      induction l with
      | nil => exact fun s f => ⟨[], by simp⟩
      | cons y l ih =>
        intro s f
        obtain ⟨t, _, h2, _, _⟩ := popLt_spec y s f
        obtain ⟨g, hg⟩ := ih (y :: (popLt y s f).1) (popLt y s f).2
        rw [List.foldl_cons]
        exact ⟨t ++ g, by show (List.foldl onceF (y :: (popLt y s f).1, (popLt y s f).2) l).2 = _; rw [hg, h2]; simp⟩
    have pm := onceF_perm l (onceF (s, f) x)
    obtain ⟨g, hg⟩ := pre l (onceF (s, f) x).1 (onceF (s, f) x).2
    have hg : (l.foldl onceF (onceF (s, f) x)).2 = (onceF (s, f) x).2 ++ g := hg
    have e1 : onceF (s, f) x = (x :: (popLt x s f).1, f ++ t) := by unfold onceF; dsimp only; rw [h2]
    rw [e1] at hf hg pm ⊢
    dsimp only at hg pm
    generalize (popLt x s f).1 = q at *
    subst h1
    generalize hF : (l.foldl onceF (x :: q, f ++ t)) = F at *
    have hwF : w = f ++ t ++ (g ++ F.1) := by rw [← hf, hg]; simp
    rw [hf] at pm
    -- the greedy one has not gone on
    have sk := popEq_skip (w := w) t q [] f.length (fun i hi => by
      rw [hwF, List.getD_eq_getElem?_getD, List.append_assoc, List.getElem?_append_right (by omega), List.getElem?_append_left (by omega), List.getElem?_eq_getElem (by omega)]
      simp)
    dsimp only at h
    rw [sk.1, sk.2] at h
    have hstop : popEq w q [] (f.length + t.length) = (q, [], f.length + t.length) := by
      cases q with
      | nil => rfl
      | cons y q =>
        rw [popEq]
        split
        · rename_i hy
          exfalso
          have hyx := h4 y rfl
          have hxw : x ∈ f ++ t ++ (g ++ F.1) := by rw [← hwF]; exact pm.symm.subset (by simp)
          have hyw : y ∈ f ++ t ++ (g ++ F.1) := by rw [← hwF]; exact pm.symm.subset (by simp)
          have hw' := hw
          have ndw : w.Nodup := hw.imp (fun h => Int.ne_of_lt h)
          have nd := pm.nodup_iff.mp ndw
          have hxf : x ∉ f ++ t := fun hx => by
            rw [List.append_assoc] at nd
            exact (List.nodup_append.mp nd).2.2 x hx x (by simp) rfl
          have hxy : x ≠ y := by
            rw [List.append_assoc] at nd
            have := (List.nodup_append.mp (List.nodup_append.mp nd).2.1).1
            have := (List.nodup_cons.mp this).1
            intro e; subst e; simp at this
          have hxg : x ∈ g ++ F.1 := (List.mem_append.mp hxw).resolve_left hxf
          cases hgF : g ++ F.1 with
          | nil => rw [hgF] at hxg; cases hxg
          | cons z G =>
            rw [hgF] at hxg hwF
            have hz : w.getD (f.length + t.length) 0 = z := by
              rw [hwF, List.getD_eq_getElem?_getD, List.getElem?_append_right (by simp)]
              simp
            rw [hz] at hy
            subst hy
            rw [hwF] at hw'
            have := (List.pairwise_cons.mp (List.pairwise_append.mp hw').2.1).1
            rcases List.mem_cons.mp hxg with e | e
            · exact hxy e
            · have := this x e; omega
        · rfl
    rw [hstop] at h
    refine deed_sim hw l (x :: q) (f ++ t) _ (by rw [hF]; exact hf) ?_ |>.trans (by rw [hF])
    unfold deedF
    dsimp only
    obtain ⟨h5, h6⟩ := h
    dsimp only at h5 h6
    subst h5
    subst h6
    rw [List.length_append]
    exact popEq_D w _ _ _ _
theorem deeds_of_once {r w : List Int} (h : Asc (onceL r)) (hw : w = onceL r) : (deedS r w).1 = [] := by
  have h0 := deed_sim (w := w) (hw ▸ h) r [] [] ([], [], 0) (by rw [hw]; rfl) ⟨rfl, rfl⟩
  unfold deedS
  rw [h0]
  generalize hF : r.foldl onceF ([], []) = F
  have hwF : w = F.2 ++ F.1 := by rw [hw, onceL, hF]
  have := popEq_skip (w := w) F.1 [] [] F.2.length (fun i hi => by
    rw [hwF, List.getD_eq_getElem?_getD, List.getElem?_append_right (by omega)]
    rw [show F.2.length + i - F.2.length = i by omega, List.getElem?_eq_getElem hi]
    rfl)
  rw [List.append_nil] at this
  rw [this.1]
  rfl
/-- deeds, then no bar -/
structure Due (w s l : List Int) (p : Nat) : Prop where
  pm : (w.drop p).Perm (s ++ l)
theorem popEq_due {w l : List Int} : ∀ (s : List Int) (D : List Bool) (p : Nat), Due w s l p → Due w (popEq w s D p).1 l (popEq w s D p).2.2
  | [], D, p, h => h
  | a :: s, D, p, h => by
    rw [popEq]
    split
    · rename_i ha
      refine popEq_due s _ (p + 1) ⟨?_⟩
      have hl : p < w.length := by
        have := h.pm.length_eq
        rw [List.length_drop] at this
        simp at this
        omega
      have hp := h.pm
      rw [List.drop_eq_getElem_cons hl] at hp
      rw [List.getD_eq_getElem?_getD, List.getElem?_eq_getElem hl] at ha
      have ha : a = w[p] := ha
      rw [ha, List.cons_append] at hp
      exact hp.cons_inv
    · exact h
theorem due_le {w s l : List Int} {p : Nat} (hw : Asc w) (h : Due w s l p) {a y : Int} (ha : a = w.getD p 0) (hy : y ∈ s ++ l) : a ≤ y := by
  have hy := h.pm.symm.subset hy
  have hl : p < w.length := by
    rcases Nat.lt_or_ge p w.length with h | h
    · exact h
    · rw [List.drop_eq_nil_of_le h] at hy; cases hy
  rw [List.drop_eq_getElem_cons hl] at hy
  rw [List.getD_eq_getElem?_getD, List.getElem?_eq_getElem hl] at ha
  have ha : a = w[p] := ha
  have h2 := hw.sublist (List.drop_sublist p w)
  rw [List.drop_eq_getElem_cons hl] at h2
  rcases List.mem_cons.mp hy with e | e
  · omega
  · have := (List.pairwise_cons.mp h2).1 y e; omega
/-- who stands behind a lesser one that is still to come stays -/
theorem popEq_keep1 {w l : List Int} (hw : Asc w) {b a : Int} (hab : a < b) (ha : a ∈ l) : ∀ (s : List Int) (D : List Bool) (p : Nat), Due w s l p → b ∈ s → b ∈ (popEq w s D p).1
  | [], D, p, _, hb => hb
  | y :: s, D, p, h, hb => by
    rw [popEq]
    split
    · rename_i hy
      have h1 := due_le hw h hy (List.mem_append_right _ ha)
      have hs : b ∈ s := by
        rcases List.mem_cons.mp hb with e | e
        · omega
        · exact e
      have hd := popEq_due (y :: s) D p h
      refine popEq_keep1 hw hab ha s _ (p + 1) ⟨?_⟩ hs
      have hl : p < w.length := by
        have := h.pm.length_eq
        rw [List.length_drop] at this
        simp at this
        omega
      have hp := h.pm
      rw [List.drop_eq_getElem_cons hl] at hp
      rw [List.getD_eq_getElem?_getD, List.getElem?_eq_getElem hl] at hy
      have hy : y = w[p] := hy
      rw [hy, List.cons_append] at hp
      exact hp.cons_inv
    · exact hb
theorem popEq_keep2 {w l : List Int} (hw : Asc w) {b c : Int} (hbc : b < c) : ∀ (s : List Int) (D : List Bool) (p : Nat), Due w s l p → [c, b].Sublist s → [c, b].Sublist (popEq w s D p).1
  | [], D, p, _, hb => hb
  | y :: s, D, p, h, hb => by
    rw [popEq]
    split
    · rename_i hy
      have hyb := due_le hw h hy (y := b) (List.mem_append_left _ (hb.subset (by simp)))
      have hs : [c, b].Sublist s := by
        cases hb with
        | cons _ h => exact h
        | cons_cons _ h => omega
      refine popEq_keep2 (l := l) hw hbc s _ (p + 1) ⟨?_⟩ hs
      have hl : p < w.length := by
        have := h.pm.length_eq
        rw [List.length_drop] at this
        simp at this
        omega
      have hp := h.pm
      rw [List.drop_eq_getElem_cons hl] at hp
      rw [List.getD_eq_getElem?_getD, List.getElem?_eq_getElem hl] at hy
      have hy : y = w[p] := hy
      rw [hy, List.cons_append] at hp
      exact hp.cons_inv
    · exact hb
theorem due_push {w s l : List Int} {x : Int} {p : Nat} (h : Due w s (x :: l) p) : Due w (x :: s) l p := ⟨h.pm.trans List.perm_middle⟩
theorem deed_due {w : List Int} : ∀ (l m : List Int) (d : DS), Due w d.1 (l ++ m) d.2.2 → Due w (l.foldl (deedF w) d).1 m (l.foldl (deedF w) d).2.2
  | [], m, d, h => h
  | x :: l, m, d, h => by
    rw [List.foldl_cons]
    exact deed_due l m _ (popEq_due _ _ _ (due_push h))
theorem deed_keep1 {w : List Int} (hw : Asc w) {a b : Int} (hab : a < b) : ∀ (l m : List Int) (d : DS), Due w d.1 (l ++ m) d.2.2 → a ∈ m → b ∈ d.1 → b ∈ (l.foldl (deedF w) d).1
  | [], m, d, _, _, h => h
  | x :: l, m, d, h, ha, hb => by
    rw [List.foldl_cons]
    exact deed_keep1 hw hab l m _ (popEq_due _ _ _ (due_push h)) ha (popEq_keep1 hw hab (List.mem_append_right _ ha) _ _ _ (due_push h) (List.mem_cons_of_mem _ hb))
theorem deed_keep2 {w : List Int} (hw : Asc w) {c b : Int} (hab : b < c) : ∀ (l m : List Int) (d : DS), Due w d.1 (l ++ m) d.2.2 → [c, b].Sublist d.1 → [c, b].Sublist (l.foldl (deedF w) d).1
  | [], m, d, _, h => h
  | x :: l, m, d, h, hb => by
    rw [List.foldl_cons]
    exact deed_keep2 hw hab l m _ (popEq_due _ _ _ (due_push h)) (popEq_keep2 hw hab _ _ _ (due_push h) (hb.cons x))
theorem sub_split {a : Int} {t : List Int} : ∀ {r : List Int}, (a :: t).Sublist r → ∃ r1 r2, r = r1 ++ a :: r2 ∧ t.Sublist r2
  | [], h => nomatch h
  | x :: r, h => by
    cases h with
    | cons _ h =>
      obtain ⟨r1, r2, e, h2⟩ := sub_split h
      exact ⟨x :: r1, r2, by rw [e]; rfl, h2⟩
    | cons_cons _ h => exact ⟨[], r, rfl, h⟩
theorem noBar_of_deeds {r w : List Int} (hw : Asc w) (hp : w.Perm r) (h : (deedS r w).1 = []) : NoBar r := by
  rintro b c a hs ⟨hab, hbc⟩
  obtain ⟨r1, r2, rfl, hs1⟩ := sub_split hs
  obtain ⟨r3, r4, rfl, hs2⟩ := sub_split hs1
  have ha : a ∈ r4 := List.singleton_sublist.mp hs2
  unfold deedS at h
  rw [List.foldl_append, List.foldl_cons, List.foldl_append, List.foldl_cons] at h
  have d0 : Due w [] (r1 ++ (b :: (r3 ++ c :: r4))) 0 := ⟨by simpa using hp⟩
  have d1 := deed_due (w := w) r1 (b :: (r3 ++ c :: r4)) (([], [], 0) : DS) d0
  generalize r1.foldl (deedF w) ([], [], 0) = e1 at h d1
  have k1 : b ∈ (deedF w e1 b).1 := popEq_keep1 hw hab (by simp [ha]) _ _ _ (due_push d1) List.mem_cons_self
  have d2 : Due w (deedF w e1 b).1 (r3 ++ (c :: r4)) (deedF w e1 b).2.2 := popEq_due _ _ _ (due_push d1)
  generalize deedF w e1 b = e2 at h k1 d2
  have k2 := deed_keep1 hw hab r3 (c :: r4) e2 d2 (List.mem_cons_of_mem _ ha) k1
  have d3 := deed_due (w := w) r3 (c :: r4) e2 d2
  generalize r3.foldl (deedF w) e2 = e3 at h k2 d3
  have k3 : [c, b].Sublist (deedF w e3 c).1 := popEq_keep2 hw hbc _ _ _ (due_push d3) ((List.singleton_sublist.mpr k2).cons_cons c)
  have d4 : Due w (deedF w e3 c).1 (r4 ++ []) (deedF w e3 c).2.2 := by rw [List.append_nil]; exact popEq_due _ _ _ (due_push d3)
  have k4 := deed_keep2 hw hbc r4 [] _ d4 k3
  rw [h] at k4
  cases k4
end K96

set_option maxRecDepth 100000
namespace K96
/-! bars by places -/
theorem getD_at {r : List Int} {i : Nat} (h : i < r.length) : r.getD i 0 = r[i] := by
  rw [List.getD_eq_getElem?_getD, List.getElem?_eq_getElem h]; rfl
theorem sub3 : ∀ {r : List Int} {i j l : Nat} (_ : i < j) (_ : j < l) (hl : l < r.length), [r.getD i 0, r.getD j 0, r.getD l 0].Sublist r := by
  intro r i j l h1 h2 hl
  have e1 : r = r.take j ++ r.drop j := (List.take_append_drop j r).symm
  have e2 : r.drop j = r[j] :: r.drop (j + 1) := List.drop_eq_getElem_cons (by omega)
  rw [getD_at (by omega), getD_at (by omega), getD_at hl]
  have m1 : r[i] ∈ r.take j := List.mem_iff_getElem.mpr ⟨i, by rw [List.length_take]; omega, by rw [List.getElem_take]⟩
  have m2 : r[l] ∈ r.drop (j + 1) := List.mem_iff_getElem.mpr ⟨l - (j + 1), by rw [List.length_drop]; omega, by rw [List.getElem_drop]; congr 1; omega⟩
  have h3 : [r[j], r[l]].Sublist (r[j] :: r.drop (j + 1)) := (List.singleton_sublist.mpr m2).cons_cons _
  have h4 := (List.singleton_sublist.mpr m1).append h3
  rw [← e2, List.take_append_drop] at h4
  exact h4
theorem sub_places : ∀ {t r : List Int}, t.Sublist r → ∃ is : List Nat, is.Pairwise (· < ·) ∧ (∀ i ∈ is, i < r.length) ∧ t = is.map fun i => r.getD i 0
  | _, [], h => by
    cases h
    exact ⟨[], by simp, by simp, rfl⟩
  | t, x :: r, h => by
    cases h with
    | cons _ h =>
      obtain ⟨is, h1, h2, h3⟩ := sub_places h
      refine ⟨is.map (· + 1), ?_, ?_, ?_⟩
      · exact List.Pairwise.map _ (fun a b h => by omega) h1
      · intro i hi
        obtain ⟨j, hj, rfl⟩ := List.mem_map.mp hi
        have := h2 j hj
        simp; omega
      · rw [h3, List.map_map]
        rfl
    | cons_cons _ h =>
      rename_i t
      obtain ⟨is, h1, h2, h3⟩ := sub_places h
      refine ⟨0 :: is.map (· + 1), ?_, ?_, ?_⟩
      · refine List.pairwise_cons.mpr ⟨fun i hi => ?_, List.Pairwise.map _ (fun a b h => by omega) h1⟩
        obtain ⟨j, hj, rfl⟩ := List.mem_map.mp hi
        omega
      · intro i hi
        rcases List.mem_cons.mp hi with rfl | hi
        · simp
        · obtain ⟨j, hj, rfl⟩ := List.mem_map.mp hi
          have := h2 j hj
          simp; omega
      · rw [List.map_cons, List.map_map, h3]
        rfl
theorem bar1_none {r : List Int} : bar1 r = none ↔ ∀ i j l, i < j → j < l → l < r.length → barAt r i j l = false := by
  unfold bar1 bar2 bar3
  simp only [List.findSome?_eq_none_iff, List.mem_range, mem_fromL]
  constructor
  · intro h i j l h1 h2 h3
    have := h i (by omega) j ⟨h1, by omega⟩ l ⟨h2, h3⟩
    cases hb : barAt r i j l with
    | false => rfl
    | true => rw [hb] at this; cases this
  · intro h i _ j hj l hl
    rw [h i j l hj.1 hl.1 hl.2]
    rfl
theorem bar1_some {r : List Int} {i j l : Nat} (h : bar1 r = some (i, j, l)) : i < j ∧ j < l ∧ l < r.length ∧ barAt r i j l = true := by
  unfold bar1 at h
  obtain ⟨i', hi, h⟩ := List.exists_of_findSome?_eq_some h
  unfold bar2 at h
  obtain ⟨j', hj, h⟩ := List.exists_of_findSome?_eq_some h
  unfold bar3 at h
  obtain ⟨l', hl, h⟩ := List.exists_of_findSome?_eq_some h
  split at h
  · rename_i hb
    cases h
    exact ⟨(mem_fromL.mp hj).1, (mem_fromL.mp hl).1, (mem_fromL.mp hl).2, hb⟩
  · cases h
theorem bar_noBar {r : List Int} : bar1 r = none ↔ NoBar r := by
  rw [bar1_none]
  constructor
  · rintro h a x z hs ⟨h1, h2⟩
    obtain ⟨is, p1, p2, p3⟩ := sub_places hs
    match is, p3 with
    | [i, j, l], p3 =>
      simp only [List.map_cons, List.map_nil, List.cons.injEq, and_true] at p3
      obtain ⟨rfl, rfl, rfl⟩ := p3
      have hij : i < j := (List.pairwise_cons.mp p1).1 j (by simp)
      have hjl : j < l := (List.pairwise_cons.mp (List.pairwise_cons.mp p1).2).1 l (by simp)
      have := h i j l hij hjl (p2 l (by simp))
      unfold barAt at this
      simp only [Bool.and_eq_false_iff, decide_eq_false_iff_not] at this
      omega
  · intro h i j l h1 h2 h3
    have := h _ _ _ (sub3 h1 h2 h3)
    unfold barAt
    simp only [Bool.and_eq_false_iff, decide_eq_false_iff_not]
    omega
/-! sorting -/
theorem sorted_asc {r : List Int} (hn : r.Nodup) : Asc (sortI r) := by
  unfold sortI
  have t1 : ∀ a b c : Int, decide (a ≤ b) = true → decide (b ≤ c) = true → decide (a ≤ c) = true := fun a b c h1 h2 => by simp at *; omega
  have t2 : ∀ a b : Int, (decide (a ≤ b) || decide (b ≤ a)) = true := fun a b => by simp; omega
  have h := List.pairwise_mergeSort t1 t2 r
  have hn' : (r.mergeSort fun a b => decide (a ≤ b)).Nodup := (List.mergeSort_perm _ _).nodup_iff.mpr hn
  exact h.and hn' |>.imp (fun h => by simp at h; omega)
theorem sortI_pm (r : List Int) : (sortI r).Perm r := List.mergeSort_perm _ _
theorem asc_unique {l m : List Int} (h : l.Perm m) (h1 : Asc l) (h2 : Asc m) : l = m :=
  List.Perm.eq_of_pairwise (le := fun a b => a < b) (fun a b _ _ h1 h2 => by omega) h1 h2 h
theorem asc_sort {r : List Int} (h : Asc r) : sortI r = r := asc_unique (sortI_pm r) (sorted_asc (h.imp (fun h => Int.ne_of_lt h))) h
theorem sort_asc_iff {r : List Int} (hn : r.Nodup) : r = sortI r ↔ ascB r = true := by
  rw [asc_iff]
  constructor
  · intro h; rw [h]; exact sorted_asc hn
  · intro h; exact (asc_sort h).symm
theorem deeds_some_iff {r : List Int} (hn : r.Nodup) : (deedsL r (sortI r)).isSome = true ↔ bar1 r = none := by
  have e : (deedsL r (sortI r)).isSome = true ↔ (deedS r (sortI r)).1 = [] := by
    unfold deedsL
    split <;> simp [*]
  rw [e, bar_noBar]
  constructor
  · exact noBar_of_deeds (sorted_asc hn) (sortI_pm r)
  · intro h
    have h1 := once_of_noBar hn h
    exact deeds_of_once h1 (asc_unique ((sortI_pm r).trans (onceL_perm r).symm) (sorted_asc hn) h1)
theorem once_iff {r : List Int} (hn : r.Nodup) : ascB (onceL r) = true ↔ bar1 r = none := by
  rw [asc_iff]
  constructor
  · intro h
    rw [bar_noBar]
    have := deeds_of_once h rfl
    exact noBar_of_deeds h (onceL_perm r) this
  · intro h
    exact once_of_noBar hn (bar_noBar.mp h)
/-! passes -/
def passes : Nat → List Int → List Int
  | 0, r => r
  | n + 1, r => passes n (onceL r)
/-- the last t stand at their places -/
def Tail (t : Nat) (r : List Int) : Prop := ∃ A B, r = A ++ B ∧ B.length = t ∧ Asc B ∧ ∀ a ∈ A, ∀ b ∈ B, a < b
theorem popLt_all {x : Int} : ∀ (s f : List Int), (∀ a ∈ s, a < x) → popLt x s f = ([], f ++ s)
  | [], f, _ => by simp [popLt]
  | a :: s, f, h => by
    rw [popLt, if_pos (h a List.mem_cons_self), popLt_all s _ (fun b hb => h b (List.mem_cons_of_mem _ hb))]
    simp
theorem once_tail : ∀ (B : List Int) (s f : List Int), Asc B → (∀ a ∈ s, ∀ b ∈ B, a < b) → (B.foldl onceF (s, f)).2 ++ (B.foldl onceF (s, f)).1 = f ++ s ++ B
  | [], s, f, _, _ => by simp
  | b :: B, s, f, hB, hs => by
    have h1 := popLt_all s f (fun a h => hs a h b List.mem_cons_self)
    rw [List.foldl_cons]
    have e : onceF (s, f) b = ([b], f ++ s) := by unfold onceF; dsimp only; rw [h1]
    rw [e, once_tail B [b] (f ++ s) (List.pairwise_cons.mp hB).2 (fun a ha c hc => by
      rw [List.mem_singleton] at ha
      subst ha
      exact (List.pairwise_cons.mp hB).1 c hc)]
    simp
theorem heap_mem : ∀ (l : List Int) (s f : List Int), ∀ a ∈ (l.foldl onceF (s, f)).1, a ∈ s ∨ a ∈ l
  | [], s, f, a, h => .inl h
  | x :: l, s, f, a, h => by
    rw [List.foldl_cons] at h
    obtain ⟨t, h1, _, _, _⟩ := popLt_spec x s f
    rcases heap_mem l _ _ a h with h | h
    · rcases List.mem_cons.mp h with rfl | h
      · exact .inr List.mem_cons_self
      · exact .inl (by rw [h1]; exact List.mem_append_right _ h)
    · exact .inr (List.mem_cons_of_mem _ h)
theorem once_app {A B : List Int} (hB : Asc B) (h : ∀ a ∈ A, ∀ b ∈ B, a < b) : onceL (A ++ B) = onceL A ++ B := by
  unfold onceL
  rw [List.foldl_append]
  generalize hF : A.foldl onceF ([], []) = F
  obtain ⟨s, f⟩ := F
  rw [once_tail B s f hB (fun a ha => by
    have := heap_mem A [] [] a (by rw [hF]; exact ha)
    rcases this with h' | h'
    · cases h'
    · exact h a h')]
/-- the heap's last is the greatest so far -/
theorem heap_last : ∀ (l : List Int) (s f : List Int) (g : Int), s.getLast? = some g → (∀ a ∈ f ++ s, a ≤ g) → (f ++ s ++ l).Nodup → ∃ g', (l.foldl onceF (s, f)).1.getLast? = some g' ∧ ∀ a ∈ (l.foldl onceF (s, f)).2 ++ (l.foldl onceF (s, f)).1, a ≤ g'
  | [], s, f, g, h1, h2, _ => ⟨g, h1, h2⟩
  | x :: l, s, f, g, hg, ha, hn => by
    obtain ⟨t, h1, h2, h3, h4⟩ := popLt_spec x s f
    rw [List.foldl_cons]
    have e1 : onceF (s, f) x = (x :: (popLt x s f).1, f ++ t) := by unfold onceF; dsimp only; rw [h2]
    rw [e1]
    generalize (popLt x s f).1 = q at h1 h4
    subst h1
    have hn' : (f ++ t ++ (x :: q) ++ l).Nodup := by
      have : (f ++ t ++ (x :: q) ++ l).Perm (f ++ (t ++ q) ++ x :: l) := by
        simp only [List.append_assoc]
        refine List.Perm.append_left f (List.Perm.append_left t ?_)
        exact (List.perm_middle (a := x) (l₁ := q) (l₂ := l)).symm
      exact this.nodup_iff.mpr hn
    cases q with
    | nil =>
      refine heap_last l [x] (f ++ t) x rfl (fun a h => ?_) hn'
      rw [List.append_nil] at hg ha
      rcases List.mem_append.mp h with h | h
      · have h5 := ha a h
        have h6 := h3 g (List.mem_of_getLast? hg)
        omega
      · rw [List.mem_singleton.mp h]; exact Int.le_refl _
    | cons y q =>
      have h5 := h4 y rfl
      have hy := ha y (by simp)
      refine heap_last l (x :: y :: q) (f ++ t) g (by
        have e : (t ++ y :: q).getLast? = (y :: q).getLast? := by
          rw [List.getLast?_append]
          cases h : (y :: q).getLast? with
          | none => simp at h
          | some _ => rfl
        rw [e] at hg
        rw [List.getLast?_cons_cons]
        exact hg) (fun a h => ?_) hn'
      rcases List.mem_append.mp h with h | h
      · exact ha a (by rw [← List.append_assoc]; exact List.mem_append_left _ h)
      · rcases List.mem_cons.mp h with rfl | h
        · omega
        · exact ha a (by rw [← List.append_assoc]; exact List.mem_append_right _ h)
theorem once_last {A : List Int} (hn : A.Nodup) (h : A ≠ []) : ∃ A' g, onceL A = A' ++ [g] ∧ ∀ a ∈ A', a < g := by
  cases A with
  | nil => exact absurd rfl h
  | cons x l =>
    obtain ⟨g, h1, h2⟩ := heap_last l [x] [] x rfl (by simp) (by simpa using hn)
    have e : (x :: l).foldl onceF ([], []) = l.foldl onceF ([x], []) := rfl
    have hp := onceL_perm (x :: l)
    have hn' := hp.nodup_iff.mpr hn
    unfold onceL at hn' ⊢
    rw [e] at hn' ⊢
    generalize l.foldl onceF ([x], []) = F at h1 h2 hn' ⊢
    obtain ⟨s, f⟩ := F
    dsimp only at h1 h2 hn' ⊢
    obtain ⟨s0, hs⟩ := List.getLast?_eq_some_iff.mp h1
    refine ⟨f ++ s0, g, by rw [List.append_assoc, ← hs], fun a ha => ?_⟩
    have h3 := h2 a (by rw [hs, ← List.append_assoc]; exact List.mem_append_left _ ha)
    rw [hs, ← List.append_assoc] at hn'
    have := (List.nodup_append.mp hn').2.2 a ha g (by simp)
    omega
theorem tail_step {t : Nat} {r : List Int} (hn : r.Nodup) (h : Tail t r) (hl : t < r.length) : Tail (t + 1) (onceL r) := by
  obtain ⟨A, B, rfl, h1, h2, h3⟩ := h
  rw [once_app h2 h3]
  have hA : A ≠ [] := fun e => by subst e; simp at hl; omega
  obtain ⟨A', g, h4, h5⟩ := once_last (List.nodup_append.mp hn).1 hA
  have hp := onceL_perm A
  have hg : g ∈ A := hp.subset (by rw [h4]; simp)
  refine ⟨A', g :: B, by rw [h4]; simp, by simp [h1], List.pairwise_cons.mpr ⟨fun b hb => h3 g hg b hb, h2⟩, fun a ha b hb => ?_⟩
  have haA : a ∈ A := hp.subset (by rw [h4]; simp [ha])
  rcases List.mem_cons.mp hb with rfl | hb
  · exact h5 a ha
  · exact h3 a haA b hb
theorem tail_full {r : List Int} (h : Tail r.length r) : ascB r = true := by
  obtain ⟨A, B, rfl, h1, h2, h3⟩ := h
  rw [asc_iff]
  have : A = [] := by
    rw [List.length_append] at h1
    exact List.length_eq_zero_iff.mp (by omega)
  subst this
  exact h2
theorem passes_len : ∀ (n : Nat) (r : List Int), (passes n r).length = r.length
  | 0, r => rfl
  | n + 1, r => by rw [passes, passes_len n, (onceL_perm r).length_eq]
end K96

set_option maxRecDepth 100000
namespace K96
/-! who sees -/
theorem near_none {r : List Int} {h : Nat} : nearL r h = none ↔ ∀ i, i < h → r.getD i 0 < r.getD h 0 := by
  unfold nearL
  rw [List.findSome?_eq_none_iff]
  constructor
  · intro q i hi
    have := q (h - 1 - i) (List.mem_range.mpr (by omega))
    rw [show h - 1 - (h - 1 - i) = i by omega] at this
    split at this
    · cases this
    · omega
  · intro q i hi
    have hi := List.mem_range.mp hi
    have := q (h - 1 - i) (by omega)
    rw [if_neg (by omega)]
theorem find_first {γ : Type} {n : Nat} {q : Nat → Option γ} {v : γ} : (List.range n).findSome? q = some v → ∃ i, i < n ∧ q i = some v ∧ ∀ j, j < i → q j = none := by
  induction n with
  | zero => intro h; simp at h
  | succ n ih =>
    intro h
    rw [List.range_succ, List.findSome?_append] at h
    cases hf : (List.range n).findSome? q with
    | some w =>
      rw [hf] at h
      simp only [Option.some_or] at h
      cases h
      obtain ⟨i, h1, h2, h3⟩ := ih hf
      exact ⟨i, by omega, h2, h3⟩
    | none =>
      rw [hf] at h
      simp at h
      refine ⟨n, by omega, h, fun j hj => ?_⟩
      rw [List.findSome?_eq_none_iff] at hf
      exact hf j (List.mem_range.mpr hj)
theorem near_some {r : List Int} {h v : Nat} (q : nearL r h = some v) : v < h ∧ r.getD h 0 ≤ r.getD v 0 ∧ ∀ i, v < i → i < h → r.getD i 0 < r.getD h 0 := by
  obtain ⟨i, h1, h2, h3⟩ := find_first q
  split at h2
  · rename_i hc
    have e : h - 1 - i = v := Option.some.inj h2
    subst e
    refine ⟨by omega, hc, fun j hj1 hj2 => ?_⟩
    have := h3 (h - 1 - j) (by omega)
    rw [show h - 1 - (h - 1 - j) = j by omega] at this
    split at this
    · cases this
    · omega
  · cases h2
def seesB (r : List Int) (h : Nat) : Bool := (nearL r h).isNone
theorem seers_go {r : List Int} (hp : ∀ i ∈ r, 1 ≤ i) : ∀ (l : List Int) (k : Nat) (s : List Int × Int), r.drop k = l → k ≤ r.length → s.1 = ((List.range k).filter (seesB r)).map (fun (i : Nat) => (i : Int)) → (∀ i, i < k → r.getD i 0 ≤ s.2) → (k = 0 ∧ s.2 = 0 ∨ ∃ i, i < k ∧ r.getD i 0 = s.2) →
    ((l.zipIdx k).foldl seersF s).1 = ((List.range r.length).filter (seesB r)).map (fun (i : Nat) => (i : Int))
  | [], k, s, hd, hk, h1, _, _ => by
    have : k = r.length := by
      have := congrArg List.length hd
      rw [List.length_drop] at this
      simp at this
      omega
    subst this
    exact h1
  | x :: l, k, (s, m), hd, hk, h1, h2, h3 => by
    have hlt : k < r.length := by
      have := congrArg List.length hd
      rw [List.length_drop, List.length_cons] at this
      omega
    rw [List.drop_eq_getElem_cons hlt] at hd
    have hx : r[k] = x := (List.cons.inj hd).1
    have hd' := (List.cons.inj hd).2
    have gx : r.getD k 0 = x := by rw [getD_at hlt]; exact hx
    have hx1 : 1 ≤ x := hp x (by rw [← hx]; exact List.getElem_mem hlt)
    rw [List.zipIdx_cons, List.foldl_cons]
    dsimp only at h1 h2 h3
    have hs : (x > m) ↔ seesB r k = true := by
      unfold seesB
      rw [Option.isNone_iff_eq_none, near_none]
      constructor
      · intro h i hi
        have := h2 i hi
        omega
      · intro h
        rcases h3 with ⟨h3, h4⟩ | ⟨i, h3, h4⟩
        · omega
        · have := h i h3
          omega
    rw [show seersF (s, m) (x, k) = if x > m then (s ++ [(k : Int)], x) else (s, m) from rfl]
    by_cases hc : x > m
    · rw [if_pos hc]
      refine seers_go hp l (k + 1) (s ++ [(k : Int)], x) hd' hlt ?_ (fun i hi => ?_) (.inr ⟨k, by omega, gx⟩)
      · rw [List.range_succ, List.filter_append, h1]
        simp [hs.mp hc]
      · rcases Nat.lt_or_ge i k with h | h
        · have := h2 i h; dsimp only; omega
        · rw [show i = k by omega, gx]; exact Int.le_refl _
    · rw [if_neg hc]
      refine seers_go hp l (k + 1) (s, m) hd' hlt ?_ (fun i hi => ?_) ?_
      · rw [List.range_succ, List.filter_append, h1]
        have : seesB r k = false := by
          cases q : seesB r k with
          | false => rfl
          | true => exact absurd (hs.mpr q) hc
        simp [this]
      · rcases Nat.lt_or_ge i k with h | h
        · exact h2 i h
        · rw [show i = k by omega, gx]; omega
      · rcases h3 with ⟨h3, h4⟩ | ⟨i, h3, h4⟩
        · exact absurd hx1 (by omega)
        · exact .inr ⟨i, by omega, h4⟩
theorem seers_filter {r : List Int} (hp : ∀ i ∈ r, 1 ≤ i) : seersL r = ((List.range r.length).filter (seesB r)).map (fun (i : Nat) => (i : Int)) :=
  seers_go hp r 0 ([], 0) rfl (Nat.zero_le _) (by simp) (fun i h => by omega) (.inl ⟨rfl, rfl⟩)
theorem asc_getD {r : List Int} : Asc r ↔ ∀ i h, i < h → h < r.length → r.getD i 0 < r.getD h 0 := by
  unfold Asc
  rw [List.pairwise_iff_getElem]
  constructor
  · intro q i h h1 h2
    rw [getD_at (by omega), getD_at h2]
    exact q i h (by omega) h2 h1
  · intro q i j hi hj hij
    have := q i j hij hj
    rwa [getD_at (by omega), getD_at hj] at this
theorem seers_all {r : List Int} (hp : ∀ i ∈ r, 1 ≤ i) : (seersL r).length = r.length ↔ Asc r := by
  rw [seers_filter hp, List.length_map, asc_getD]
  have e : ((List.range r.length).filter (seesB r)).length = r.length ↔ ∀ h, h < r.length → seesB r h = true := by
    constructor
    · intro h i hi
      have h1 : ((List.range r.length).filter (seesB r)).length = (List.range r.length).length := by rw [h, List.length_range]
      have h2 := List.length_filter_eq_length_iff.mp h1
      exact h2 i (List.mem_range.mpr hi)
    · intro h
      rw [List.filter_eq_self.mpr (fun i hi => h i (List.mem_range.mp hi)), List.length_range]
  rw [e]
  constructor
  · intro q i h h1 h2
    have := q h h2
    unfold seesB at this
    rw [Option.isNone_iff_eq_none, near_none] at this
    exact this i h1
  · intro q h hh
    unfold seesB
    rw [Option.isNone_iff_eq_none, near_none]
    exact fun i hi => q i h hi hh
theorem seers_asc {r : List Int} (hp : ∀ i ∈ r, 1 ≤ i) (h : Asc r) : seersL r = (List.range r.length).map (fun (i : Nat) => (i : Int)) := by
  have h1 := (seers_all hp).mpr h
  rw [seers_filter hp, List.length_map] at h1
  rw [seers_filter hp]
  have h1 : ((List.range r.length).filter (seesB r)).length = (List.range r.length).length := by rw [h1, List.length_range]
  rw [List.filter_eq_self.mpr (List.length_filter_eq_length_iff.mp h1)]
/-! steps -/
def ext : List Int → Int → Int → List Int
  | [], _, _ => []
  | h :: l, la, hi => mx la (hi + 1 - h) :: ext l (mx la (hi + 1 - h)) (h + mx la (hi + 1 - h))
theorem steps_ext : ∀ (l fs : List Int) (la hi : Int), (l.foldl stepsG (fs, la, hi)).1 ++ [(l.foldl stepsG (fs, la, hi)).2.1] = fs ++ la :: ext l la hi
  | [], fs, la, hi => rfl
  | h :: l, fs, la, hi => by
    rw [List.foldl_cons]
    show (List.foldl stepsG (fs ++ [la], mx la (hi + 1 - h), h + mx la (hi + 1 - h)) l).1 ++ [(List.foldl stepsG (fs ++ [la], mx la (hi + 1 - h), h + mx la (hi + 1 - h)) l).2.1] = _
    rw [steps_ext l]
    simp [ext]
theorem stepsL_ext (x : Int) (t : List Int) : stepsL (x :: t) = 0 :: ext t 0 x := steps_ext t [] 0 x
theorem mx_ge (i j : Int) : i ≤ mx i j ∧ j ≤ mx i j := by unfold mx; split <;> omega
theorem ext_len : ∀ (l : List Int) (la hi : Int), (ext l la hi).length = l.length
  | [], _, _ => rfl
  | h :: l, la, hi => by rw [ext, List.length_cons, List.length_cons, ext_len l]
theorem ext_le : ∀ (l : List Int) (la hi : Int), ∀ p ∈ (la :: ext l la hi).zip ((la :: ext l la hi).drop 1), p.1 ≤ p.2
  | [], la, hi, p, h => by simp [ext] at h
  | x :: l, la, hi, p, h => by
    rw [ext] at h
    simp only [List.drop_succ_cons, List.drop_zero, List.zip_cons_cons, List.mem_cons] at h
    rcases h with rfl | h
    · exact (mx_ge _ _).1
    · exact ext_le l _ _ p (by simpa using h)
theorem ext_up : ∀ (l : List Int) (la hi : Int), ∀ p ∈ (hi :: ((l.zip (ext l la hi)).map fun p => p.1 + p.2)).zip ((hi :: ((l.zip (ext l la hi)).map fun p => p.1 + p.2)).drop 1), p.1 < p.2
  | [], la, hi, p, h => by simp [ext] at h
  | x :: l, la, hi, p, h => by
    rw [ext] at h
    simp only [List.drop_succ_cons, List.drop_zero, List.zip_cons_cons, List.mem_cons, List.map_cons] at h
    rcases h with rfl | h
    · have := (mx_ge la (hi + 1 - x)).2
      show hi < x + mx la (hi + 1 - x)
      omega
    · exact ext_up l (mx la (hi + 1 - x)) (x + mx la (hi + 1 - x)) p (by simpa using h)
theorem ext_bd : ∀ (l : List Int) (la hi : Int) (n : Nat), (∀ i ∈ l, 1 ≤ i ∧ i ≤ 25) → la ≤ 26 * n → hi ≤ 26 * n + 26 → ∀ i ∈ ext l la hi, i ≤ 26 * (n + l.length)
  | [], la, hi, n, _, _, _, i, h => by cases h
  | x :: l, la, hi, n, hl, h1, h2, i, h => by
    obtain ⟨x1, x2⟩ := hl x List.mem_cons_self
    rw [ext] at h
    have hm : mx la (hi + 1 - x) ≤ 26 * ((n + 1 : Nat) : Int) := by unfold mx; split <;> omega
    rcases List.mem_cons.mp h with rfl | h
    · rw [List.length_cons]; omega
    · have := ext_bd l _ _ (n + 1) (fun i hi => hl i (List.mem_cons_of_mem _ hi)) hm (by omega) i h
      rw [List.length_cons]
      omega
theorem ext_ge : ∀ (l : List Int) (la hi : Int), ∀ i ∈ ext l la hi, la ≤ i
  | [], la, hi, i, h => by cases h
  | x :: l, la, hi, i, h => by
    rw [ext] at h
    have := (mx_ge la (hi + 1 - x)).1
    rcases List.mem_cons.mp h with rfl | h
    · exact this
    · have := ext_ge l _ _ i h; omega
theorem ext_zero : ∀ (l : List Int) (x : Int), (∀ i ∈ ext l 0 x, i = 0) ↔ Asc (x :: l)
  | [], x => by simp [ext, Asc]
  | y :: l, x => by
    rw [ext]
    constructor
    · intro h
      have h0 := h (mx 0 (x + 1 - y)) List.mem_cons_self
      have hxy : x < y := by unfold mx at h0; split at h0 <;> omega
      rw [h0] at h
      have h2 := (ext_zero l y).mp (fun i hi => h i (List.mem_cons_of_mem _ (by rw [Int.add_zero]; exact hi)))
      refine List.pairwise_cons.mpr ⟨fun z hz => ?_, h2⟩
      rcases List.mem_cons.mp hz with rfl | hz
      · exact hxy
      · have := (List.pairwise_cons.mp h2).1 z hz; omega
    · intro h
      have hh := List.pairwise_cons.mp h
      have hxy : x < y := hh.1 y List.mem_cons_self
      have h0 : mx 0 (x + 1 - y) = 0 := by unfold mx; split <;> omega
      rw [h0, Int.add_zero]
      intro i hi
      rcases List.mem_cons.mp hi with rfl | hi
      · rfl
      · exact (ext_zero l y).mpr hh.2 i hi
theorem foldl_max_spec : ∀ (l : List Int) (a : Int), a ≤ l.foldl max a ∧ (∀ x ∈ l, x ≤ l.foldl max a) ∧ (l.foldl max a = a ∨ l.foldl max a ∈ l)
  | [], a => ⟨Int.le_refl _, (fun _ h => by cases h), .inl rfl⟩
  | b :: l, a => by
    obtain ⟨h1, h2, h3⟩ := foldl_max_spec l (max a b)
    rw [List.foldl_cons]
    refine ⟨by omega, fun x hx => ?_, ?_⟩
    · rcases List.mem_cons.mp hx with e | e
      · rw [e]; omega
      · exact h2 x e
    · rcases h3 with h3 | h3
      · rcases Int.le_total a b with h | h
        · rw [Int.max_eq_right h] at h3 ⊢; exact .inr (by rw [h3]; exact List.mem_cons_self)
        · rw [Int.max_eq_left h] at h3 ⊢; exact .inl h3
      · exact .inr (List.mem_cons_of_mem _ h3)
theorem ext_max (l : List Int) (x : Int) : (ext l 0 x).foldl max 0 = 0 ↔ Asc (x :: l) := by
  rw [← ext_zero]
  obtain ⟨h1, h2, h3⟩ := foldl_max_spec (ext l 0 x) 0
  constructor
  · intro h i hi
    have := h2 i hi
    have := ext_ge l 0 x i hi
    omega
  · intro h
    rcases h3 with h3 | h3
    · exact h3
    · exact h _ h3
/-! the longest rising row of an ascending one -/
theorem lon_asc : ∀ (l s : List Int) (r : List Int), Asc r → s.length + l.length = r.length → r.drop s.length = l → s = (List.range s.length).map (fun (i : Nat) => (i : Int) + 1) → l.foldl (lonF r) s = (List.range r.length).map (fun (i : Nat) => (i : Int) + 1)
  | [], s, r, _, hl, _, h => by
    rw [List.foldl_nil, h]
    simp at hl
    rw [hl]
  | x :: l, s, r, ha, hl, hd, h => by
    rw [List.length_cons] at hl
    have hlt : s.length < r.length := by omega
    rw [List.drop_eq_getElem_cons hlt] at hd
    have hx : r[s.length] = x := (List.cons.inj hd).1
    have hd' := (List.cons.inj hd).2
    have hz : (s.zip r).filter (fun p => decide (p.2 < x)) = s.zip r := by
      rw [List.filter_eq_self]
      rintro ⟨a, b⟩ hab
      obtain ⟨i, hi, e⟩ := List.mem_iff_getElem.mp hab
      rw [List.getElem_zip] at e
      rw [List.length_zip] at hi
      cases e
      have := (asc_getD.mp ha) i s.length (by omega) hlt
      rw [getD_at (by omega), getD_at hlt, hx] at this
      exact decide_eq_true this
    have hm : (s.zip r).map (fun p => p.1) = s := by
      have : (s.zip r).map Prod.fst = s := List.map_fst_zip (by omega)
      exact this
    have hf : s.foldl max 0 = (s.length : Int) := by
      obtain ⟨h1, h2, h3⟩ := foldl_max_spec s 0
      have hmem : ∀ y ∈ s, y ≤ s.length := by
        intro y hy
        rw [h] at hy
        obtain ⟨i, hi, rfl⟩ := List.mem_map.mp hy
        have := List.mem_range.mp hi
        omega
      cases hs : s.length with
      | zero =>
        rcases h3 with h3 | h3
        · rw [h3]; rfl
        · have := hmem _ h3; omega
      | succ n =>
        have : ((n + 1 : Nat) : Int) ∈ s := by
          rw [h, hs]
          exact List.mem_map.mpr ⟨n, List.mem_range.mpr (by omega), by omega⟩
        have h4 := h2 _ this
        rcases h3 with h3 | h3
        · omega
        · have := hmem _ h3; omega
    rw [List.foldl_cons]
    have e : lonF r s x = s ++ [((s.length : Nat) : Int) + 1] := by
      unfold lonF
      rw [hz, hm, hf, Int.add_comm]
    rw [e]
    refine lon_asc l _ r ha (by rw [List.length_append, List.length_singleton]; omega) (by rw [List.length_append, List.length_singleton]; exact hd') ?_
    rw [List.length_append, List.length_singleton, List.range_succ, List.map_append]
    rw [← h]
    rfl
theorem lon_max {r : List Int} (h : Asc r) : (lonL r).foldl max 0 = (r.length : Int) := by
  have e : lonL r = (List.range r.length).map (fun (i : Nat) => (i : Int) + 1) := lon_asc r [] r h (by simp) rfl (by simp)
  rw [e]
  obtain ⟨h1, h2, h3⟩ := foldl_max_spec ((List.range r.length).map (fun (i : Nat) => (i : Int) + 1)) 0
  have hmem : ∀ y ∈ (List.range r.length).map (fun (i : Nat) => (i : Int) + 1), y ≤ r.length := by
    intro y hy
    obtain ⟨i, hi, rfl⟩ := List.mem_map.mp hy
    have := List.mem_range.mp hi
    omega
  cases hs : r.length with
  | zero => rfl
  | succ n =>
    rw [hs] at h1 h2 h3 hmem
    have h4 := h2 ((n : Int) + 1) (List.mem_map.mpr ⟨n, List.mem_range.mpr (by omega), rfl⟩)
    rcases h3 with h3 | h3
    · omega
    · have := hmem _ h3; omega
end K96

set_option maxRecDepth 100000
/-! K96u: fewest wings; heads right. -/
namespace K96
open PySem Ev
local macro_rules | `(tactic| trivial) => `(tactic| simp [↓bind_I, ↓then_I, ↓ofR_I, x_nil, x_cons, then_nx, then_rt, ofR_ok, bind_ok, opt_some, noEx_ok, runB_rt, runB_nx, s_set, s_par2, s_par3, s_asg, s_app, s_ex, s_frz, s_ret, s_retN, s_ife, s_for, s_whl, s_brk, s_cont, e_var, e_lit, e_con, e_ty, e_op, e_neg, e_cmp, e_chn, e_andd, e_orr, e_nott, e_ife, e_tup, e_lst, e_lstR, e_box, e_ix, e_sl, e_rev, e_call, e_bi, e_lrng, e_lc, e_dc, evRs, evAs, evDs, evTs, evI, evP, evA, biV, biD, rd, inC, asB, asR, asD, cmpD, opD, ltD, isNone, List.replicate, I, L, srcV, wipeC, asg, setAll, putC, notOwn, isaD, PyData.isInt, PyData.isBool, PyData.isTuple, allBools_map, allInts_map, List.all_map, Function.comp_def, ixD, allT, slD, itemsD, ai_cons, l0, l1, l2, l3, l4, s_rem, s_setR, s_popR, eq_int, oi, alike_ints, sortable_ints, sort_map, *])
theorem passes_out : ∀ (n : Nat) (r : List Int), passes (n + 1) r = onceL (passes n r)
  | 0, r => rfl
  | n + 1, r => by rw [passes, passes_out n (onceL r)]; rfl
theorem fewestWings {k m : Nat} (hk : k = m + 4) (r : List Int) (st : Sto) (hn : r.Nodup) (hz : r.length ≤ 30) :
    ∃ n : Nat, callL ds k 21 [.d (I r)] st = .ok (.d (.int (n : Nat))) st ∧ (n = 0 ↔ ascB r = true) ∧ (n ≤ 1 ↔ ascB r = true ∨ ascB (onceL r) = true) := by
  subst hk
  have h1 := checkFlats (k := m + 3) (m := m) rfl r st hn hz
  rw [callL_some (d := d21) rfl rfl, d21]
  unfold I at h1
  trivial
  generalize ht : evE (callL ds (m + 3)) (.nott (.call 20 (.cons (.var 1) .nil))) = t
  generalize hb : exSs (callL ds (m + 3)) (Ss.cons _ _) = b
  obtain ⟨⟨here, many⟩, e', st', q1, ⟨rfl, rfl, q2, q3, q4, q5, q6⟩, q7⟩ := whl_ex (β := List Int × Nat) (t := t) (b := b) (c := fun s => !ascB s.1) (m := fun s => r.length - s.2)
    (Rel := fun s e st' => e = [.v (.d (I r)), .v (.d (I s.1)), .v (.d (.int (s.2 : Nat)))] ∧ st' = st ∧ s.1 = passes s.2 r ∧ Tail s.2 s.1 ∧ s.1.Nodup ∧ (∀ j, j < s.2 → ascB (passes j r) = false) ∧ s.2 ≤ r.length) (n := 1000000) (s := (r, 0)) (e := [.v (.d (I r)), .v (.d (I r)), .v (.d (.int ((0 : Nat) : Int)))]) (st := st)
    (by
      rintro ⟨here, many⟩ e st' ⟨rfl, rfl, p1, _⟩
      dsimp only at p1
      have h2 := isAsc (k := m + 3) (m := m + 2) rfl here st' (by rw [p1, passes_len]; exact hz)
      unfold I at h2
      subst ht
      clear p1
      trivial)
    (by
      rintro ⟨here, many⟩ e st' ⟨rfl, rfl, p1, p2, p3, p4, p5⟩ hc
      dsimp only at p1 p2 p3 p4 p5 hc
      have hl : here.length = r.length := by rw [p1, passes_len]
      have h2 := onceThrough (k := m + 3) (m := m + 2) rfl here st' (by rw [hl]; exact hz)
      have hna : ascB here = false := by simpa using hc
      have hlt : many < here.length := by
        rcases Nat.lt_or_ge many here.length with h | h
        · exact h
        · have e : many = here.length := by omega
          rw [e] at p2
          rw [tail_full p2] at hna
          cases hna
      refine ⟨(onceL here, many + 1), [.v (.d (I r)), .v (.d (I (onceL here))), .v (.d (.int ((many + 1 : Nat) : Int)))], st', ?_, ⟨rfl, rfl, by rw [passes_out, ← p1], tail_step p3 p2 hlt, (onceL_perm here).nodup_iff.mpr p3, fun j hj => ?_, by dsimp only; omega⟩, by dsimp only; omega⟩
      · subst hb
        unfold I at h2
        clear p1 p2 p4 hl hna hlt
        trivial
      · dsimp only at hj
        rcases Nat.lt_or_ge j many with h | h
        · exact p4 j h
        · rw [show j = many by omega, ← p1]; exact hna)
    ⟨rfl, rfl, rfl, ⟨r, [], by simp, rfl, by simp [Asc], by simp⟩, hn, fun j hj => by dsimp only at hj; omega, Nat.zero_le _⟩ (by show r.length - 0 < 1000000; omega)
  dsimp only at q1 q2 q3 q4 q5 q6 q7
  have q7 : ascB here = true := by simpa using q7
  refine ⟨many, ?_, ?_, ?_⟩
  · unfold I at q1
    rw [show ((0 : Nat) : Int) = 0 from rfl] at q1
    rw [q1]
    trivial
  · constructor
    · intro h; subst h; rw [q2] at q7; exact q7
    · intro h
      cases many with
      | zero => rfl
      | succ n => have := q5 0 (Nat.succ_pos _); rw [passes, h] at this; cases this
  · constructor
    · intro h
      match many, h with
      | 0, _ => rw [q2] at q7; exact .inl q7
      | 1, _ => rw [q2] at q7; exact .inr q7
    · intro h
      match many with
      | 0 => omega
      | 1 => omega
      | n + 2 =>
        have h0 := q5 0 (by omega)
        have h1 := q5 1 (by omega)
        rcases h with h | h
        · rw [passes, h] at h0; cases h0
        · rw [passes, passes, h] at h1; cases h1
end K96

set_option maxRecDepth 100000
/-! K96v: heads right. -/
namespace K96
open PySem Ev
theorem eq_bool (i j : Bool) : eqD (.bool i) (.bool j) = some (decide (i = j)) := rfl
local macro_rules | `(tactic| trivial) => `(tactic| simp [↓bind_I, ↓then_I, ↓ofR_I, x_nil, x_cons, then_nx, then_rt, ofR_ok, bind_ok, opt_some, noEx_ok, runB_rt, runB_nx, s_set, s_par2, s_par3, s_asg, s_app, s_ex, s_frz, s_ret, s_retN, s_ife, s_for, s_whl, s_brk, s_cont, e_var, e_lit, e_con, e_ty, e_op, e_neg, e_cmp, e_chn, e_andd, e_orr, e_nott, e_ife, e_tup, e_lst, e_lstR, e_box, e_ix, e_sl, e_rev, e_call, e_bi, e_lrng, e_lc, e_dc, evRs, evAs, evDs, evTs, evI, evP, evA, biV, biD, rd, inC, asB, asR, asD, cmpD, opD, ltD, isNone, List.replicate, I, L, srcV, wipeC, asg, setAll, putC, notOwn, isaD, PyData.isInt, PyData.isBool, PyData.isTuple, allBools_map, allInts_map, List.all_map, Function.comp_def, ixD, allT, slD, itemsD, ai_cons, l0, l1, l2, l3, l4, s_rem, s_setR, s_popR, eq_int, eq_bool, oi, alike_ints, sortable_ints, sort_map, *])
structure Row (r : List Int) : Prop where
  nd : r.Nodup
  bd : ∀ i ∈ r, 1 ≤ i ∧ i ≤ 25
  l0 : 1 ≤ r.length
  l9 : r.length ≤ 9
theorem Row.b300 {r : List Int} (h : Row r) : ∀ i ∈ r, 1 ≤ i ∧ i ≤ 300 := fun i hi => by have := h.bd i hi; omega
theorem Row.b1 {r : List Int} (h : Row r) : ∀ i ∈ r, 1 ≤ i := fun i hi => (h.bd i hi).1
theorem Row.z {r : List Int} (h : Row r) : r.length ≤ 30 := by have := h.l9; omega
theorem Row.sort {r : List Int} (h : Row r) : Row (sortI r) := by
  have hp := sortI_perm r
  exact ⟨hp.nodup_iff.mpr h.nd, fun i hi => h.bd i (hp.subset hi), by rw [hp.length_eq]; exact h.l0, by rw [hp.length_eq]; exact h.l9⟩
theorem enD_range_go (f : Nat → PyData) : ∀ (l : List Nat) (k : Nat), enD (k : Nat) (l.map f) = (l.zipIdx k).map fun p => .tuple [.int (p.2 : Nat), f p.1] := fun l k => enD_map
theorem enD_range (f : Nat → PyData) (n : Nat) : enD 0 ((List.range n).map f) = (List.range n).map fun i => .tuple [.int (i : Nat), f i] := by
  have := enD_range_go f (List.range n) 0
  rw [show ((0 : Nat) : Int) = 0 from rfl] at this
  rw [this]
  apply List.ext_getElem
  · simp
  · intro i h1 h2
    simp
theorem lon_pos {r : List Int} : ∀ (l s : List Int), (∀ i ∈ s, 1 ≤ i) → ∀ i ∈ l.foldl (lonF r) s, 1 ≤ i
  | [], s, h => h
  | x :: l, s, h => by
    rw [List.foldl_cons]
    refine lon_pos l _ (fun i hi => ?_)
    rcases List.mem_append.mp hi with hi | hi
    · exact h i hi
    · rw [List.mem_singleton] at hi
      rw [hi]
      have := (foldl_max_spec ((((s.zip r).filter fun p => decide (p.2 < x)).map fun p => p.1)) 0).1
      omega
theorem lon_len {r : List Int} : ∀ (l s : List Int), (l.foldl (lonF r) s).length = s.length + l.length
  | [], s => rfl
  | x :: l, s => by rw [List.foldl_cons, lon_len l]; simp [lonF]; omega
theorem moved {k m : Nat} (hk : k = m + 6) {r : List Int} (h : Row r) (st : Sto) : callL ds k 36 [.d (I r)] st = .ok (.d (.int (r.length - (lonL r).foldl max 0))) st := by
  cases hl : lonL r with
  | nil =>
    have := lon_len (r := r) r []
    rw [show r.foldl (lonF r) [] = lonL r from rfl, hl] at this
    have := h.l0
    simp at *
    omega
  | cons a t =>
    have h1 := fewestMoved hk r st h.b300 h.l0 h.z (a := a) (t := t) (by rw [ris_lon, hl])
    have ha : 1 ≤ a := lon_pos (r := r) r [] (by simp) a (by rw [show r.foldl (lonF r) [] = lonL r from rfl, hl]; exact List.mem_cons_self)
    rw [h1, List.foldl_cons, show max 0 a = a by omega]
theorem maxT : ∀ (l : List Int), l ≠ [] → ∃ M, biD .max [.tuple (l.map .int)] = some (.d (.int M)) ∧ M ∈ l
  | [], h => absurd rfl h
  | a :: l, _ => by
    refine ⟨l.foldl max a, ?_, ?_⟩
    · show (match allInts (PyData.int a :: l.map .int) with
        | some (n :: ns) => some (PV.d (.int (ns.foldl max n)))
        | _ => _) = _
      have e := allInts_map (p := fun i : Int => i) (l := a :: l)
      rw [List.map_id', List.map_cons] at e
      rw [e]
    · rcases (foldl_max_spec l a).2.2 with h | h
      · rw [h]; exact List.mem_cons_self
      · exact List.mem_cons_of_mem _ h
theorem cutT (r : List Int) (v h : Nat) (h1 : v < h) (h2 : h < r.length) : cutL (r.map PyData.int) (some ((v : Int) + 1)) (some (h : Int)) = ((r.drop (v + 1)).take (h - (v + 1))).map .int := by
  unfold cutL
  have e1 := HT.sIx_nat (r.map PyData.int).length 0 (v + 1)
  have e2 := HT.sIx_nat (r.map PyData.int).length (r.map PyData.int).length h
  rw [show (((v + 1 : Nat) : Int)) = (v : Int) + 1 by omega] at e1
  rw [e1, e2, List.length_map, Nat.min_eq_left (by omega), Nat.min_eq_left (by omega), List.map_take, List.map_drop]
/-- what stands between is lower -/
theorem cut_max {c : Nat → List PV → Sto → R PV} {r : List Int} {h v : Nat} (hr : Row r) (hv : nearL r h = some v) (hh : h < r.length) (st : Sto) (c1 c2 c3 c4 c5 c6 : Cell) :
    ∃ M, M < r[h] ∧ evE c (.bi .max (.cons (.op .add (.sl (.var 0) (.ex (.op .add (.var 4) (.lit (.int 1)))) (.ex (.var 3))) (.tup (.cons (.lit (.int 0)) .nil))) .nil)) [.v (.d (I r)), c1, c2, .v (.d (.int (h : Nat))), .v (.d (.int (v : Nat))), c5, c6] st = .ok (.d (.int M)) st := by
  obtain ⟨n1, n2, n3⟩ := near_some hv
  have e1 := cutT r v h n1 hh
  obtain ⟨M, m1, m2⟩ := maxT ((r.drop (v + 1)).take (h - (v + 1)) ++ [0]) (by simp)
  refine ⟨M, ?_, ?_⟩
  · rcases List.mem_append.mp m2 with q | q
    · obtain ⟨i, hi, e⟩ := List.mem_iff_getElem.mp q
      rw [List.length_take, List.length_drop] at hi
      rw [List.getElem_take, List.getElem_drop] at e
      have := n3 (v + 1 + i) (by omega) (by omega)
      rw [getD_at (by omega), getD_at hh] at this
      omega
    · rw [List.mem_singleton.mp q]
      have := hr.b1 r[h] (List.getElem_mem hh)
      omega
  · rw [List.map_append] at m1
    have z1 : ((r.drop (v + 1)).take (h - (v + 1))).length + 1 ≤ sizeLine := sz (by have := hr.l9; rw [List.length_take, List.length_drop]; omega)
    clear n1 n2 n3 hv m2 hh
    generalize ((r.drop (v + 1)).take (h - (v + 1))) = u at *
    have m1 : biD .max [.tuple (u.map .int ++ [.int 0])] = some (.d (.int M)) := m1
    simp [↓bind_I, evP, e_bi, evAs, e_op, e_sl, e_var, e_lit, e_tup, evDs, asD, opt_some, bind_ok, I, rd, slD, opD, e1, biV, m1, l1, z1]
theorem atI_none (r : List Int) : True := .intro
theorem headsRight {k m : Nat} (hk : k = m + 7) {r : List Int} (hr : Row r) (st : Sto) : callL ds k 43 [.d (I r)] st = .ok (.d (.bool true)) st := by
  subst hk
  have f1 := seers (k := m + 6) (m := m) rfl r st hr.b300 hr.l0 hr.z
  have f2 := blockers (k := m + 6) (m := m) rfl r st hr.b300 hr.l0 hr.z
  have f3 := moved (k := m + 6) (m := m) rfl hr st
  have f4 := longest (k := m + 6) (m := m + 5) rfl r st hr.z
  obtain ⟨x, t, rfl⟩ : ∃ x t, r = x :: t := by
    cases r with
    | nil => have := hr.l0; simp at this
    | cons x t => exact ⟨x, t, rfl⟩
  have hext := stepsL_ext x t
  have hsl : (stepsL (x :: t)).length = (x :: t).length := by rw [hext, List.length_cons, ext_len, List.length_cons]
  have hlast : (stepsS (x :: t)).2.1 ≤ 20000 := by
    have hm : (stepsS (x :: t)).2.1 ∈ stepsL (x :: t) := by unfold stepsL; simp
    rw [hext] at hm
    rcases List.mem_cons.mp hm with e | e
    · rw [e]; decide
    · have hx := hr.bd x List.mem_cons_self
      have h9 := hr.l9
      rw [List.length_cons] at h9
      have := ext_bd t 0 x 0 (fun i hi => hr.bd i (List.mem_cons_of_mem _ hi)) (by omega) (by omega) _ e
      omega
  have f5 := stepsOf (k := m + 6) (m := m) rfl (x :: t) st hr.b300 hr.l0 hr.z hlast
  have f6 := isSteps (k := m + 6) (m := m) rfl (x :: t) (stepsL (x :: t)) st hr.b300 hr.l0 hr.z hsl (by rw [hext]; rfl) (by rw [hext]; exact ext_le t 0 x)
  have up : ((((x :: t).zip (stepsL (x :: t))).map fun p => p.1 + p.2).zip ((((x :: t).zip (stepsL (x :: t))).map fun p => p.1 + p.2).drop 1)).all (fun p => decide (p.1 < p.2)) = true := by
    rw [hext, List.zip_cons_cons, List.map_cons, List.all_eq_true]
    intro p hp
    have := ext_up t 0 x p (by rw [Int.add_zero] at hp; exact hp)
    exact decide_eq_true this
  rw [up] at f6
  obtain ⟨o, f7, o1, o2⟩ := bestOrder (k := m + 6) (m := m) rfl (x :: t) st hr.nd hr.b300 hr.l0 hr.z
  have eo : o.map (fun j => (x :: t).getD j 0) = sortI (x :: t) := by
    have hp : (o.map fun j => (x :: t).getD j 0).Perm (x :: t) := by
      refine (o1.map _).trans ?_
      have : (List.range (x :: t).length).map (fun j => (x :: t).getD j 0) = x :: t := by
        apply List.ext_getElem
        · simp
        · intro i h1 h2
          rw [List.getElem_map, List.getElem_range, getD_at h2]
      rw [this]
    refine asc_unique (hp.trans (sortI_perm _).symm) ?_ (sorted_asc hr.nd)
    have hn : (o.map fun j => (x :: t).getD j 0).Nodup := hp.nodup_iff.mpr hr.nd
    exact o2.and hn |>.imp (fun h => by omega)
  have eq : ((seersL (x :: t)).length = (x :: t).length) = ((ext t 0 x).foldl max 0 = 0) := propext ((seers_all hr.b1).trans (ext_max t x).symm)
  have sf := seers_filter hr.b1
  have ol : o.length ≤ 9 := by rw [o1.length_eq, List.length_range]; exact hr.l9
  have ob : ∀ j ∈ o, j < (x :: t).length := fun j hj => List.mem_range.mp (o1.subset hj)
  rw [hext] at f5 f6
  clear hext hsl hlast up o1 o2
  have h9 := hr.l9
  have hcm := fun h v (hv : nearL (x :: t) h = some v) (hh : h < (x :: t).length) c1 c2 c3 c4 c5 c6 => cut_max (c := callL ds (m + 6)) hr hv hh st c1 c2 c3 c4 c5 c6
  have hns := fun h v (hv : nearL (x :: t) h = some v) => near_some hv
  clear hr
  generalize hrr : x :: t = r at *
  have e1 := eq_self (seersL r)
  have e2 := eq_self (sortI r)
  have zr : r.length ≤ sizeLine := sz (by omega)
  rw [callL_some (d := d43) rfl rfl, d43]
  unfold I at f1 f2 f3 f4 f5 f6 f7
  have ai : allInts ((ext t 0 x).map .int) = some (ext t 0 x) := by
    have := allInts_map (p := fun i : Int => i) (l := ext t 0 x)
    rwa [List.map_id'] at this
  clear hrr
  have hin : ∀ v : Option Nat, isNone (optI v) = v.isNone := fun v => by cases v <;> rfl
  generalize hb : Ss.cons (.ife (.andd (.cmp .isnt (.var 4) (.lit .none)) (.cmp .lt (.ix (.var 0) (.var 4)) (.ix (.var 0) (.var 3)))) (.cons (.ret (.lit (.bool false))) .nil) .nil) _ = b
  generalize hc1 : E.lc [3, 4] _ _ _ _ = lc1
  generalize hc2 : E.lc [3] _ _ _ _ = lc2
  have hlc1 : evE (callL ds (m + 6)) lc1 [.v (.d (I r)), .v (.d (I (seersL r))), .v (.d (.tuple ((List.range r.length).map fun h => optI (nearL r h)))), .no, .no, .no, .no] st = .ok (.fre (L (seersL r))) st := by
    subst hc1
    clear f1 f2 f3 f4 f5 f6 f7 hcm hns e1 e2 eq ai ob eo
    have key : ∀ f : PyData → Sto → R (Option PyData), (∀ h ∈ List.range r.length, f (.tuple [.int (h : Nat), optI (nearL r h)]) st = .ok (if seesB r h = true then some (.int (h : Nat)) else none) st) → lcL f ((List.range r.length).map fun h => .tuple [.int (h : Nat), optI (nearL r h)]) st [] = .ok ((seersL r).map .int) st := fun f hf => by
      rw [lcL_filt (p := seesB r) (g := fun h : Nat => .int (h : Int)) hf (by simpa using zr), sf, List.map_map]
      rfl
    clear sf
    trivial
    rw [enD_range, key]
    · trivial
    · intro h hh
      have h1 := hin (nearL r h)
      unfold isNone at h1
      unfold seesB
      cases hnn : (nearL r h).isNone with
      | true => rw [hnn] at h1; clear hin; trivial
      | false => rw [hnn] at h1; clear hin; trivial
  have hlc2 : ∀ (c1 c2 c3 c4 c5 : Cell), notOwn [.v (.d (I r)), c1, c2, c3, c4, c5, .v (.d (.tuple (o.map fun (j : Nat) => .int (j : Int))))] 3 = true → evE (callL ds (m + 6)) lc2 [.v (.d (I r)), c1, c2, c3, c4, c5, .v (.d (.tuple (o.map fun (j : Nat) => .int (j : Int))))] st = .ok (.fre (L (sortI r))) st := by
    intro c1 c2 c3 c4 c5 hno
    subst hc2
    have key : ∀ f : PyData → Sto → R (Option PyData), (∀ j ∈ o, f (.int (j : Nat)) st = .ok (some (.int (r.getD j 0))) st) → lcL f (o.map fun j => .int (j : Nat)) st [] = .ok ((sortI r).map .int) st := fun f hf => by
      rw [lcL_map (g := fun j : Nat => .int (r.getD j 0)) hf (sz (by simp; omega)), ← eo, List.map_map]
      rfl
    rw [e_lc]
    simp only [List.all_cons, List.all_nil, hno, Bool.and_true, if_true]
    clear f1 f2 f3 f4 f5 f6 f7 hcm hns e1 e2 eq ai sf eo hin hno
    trivial
    rw [key]
    · trivial
    · intro j hj
      have a1 := atI_int r j (ob j hj)
      have g1 := getD_at (ob j hj)
      rw [g1]
      generalize r[j]'(ob j hj) = u at a1 ⊢
      clear key g1
      trivial
  have hloop : ∃ e', forL (exSs (callL ds (m + 6)) b) (.tp [3, 4]) ((List.range r.length).map fun h => .tuple [.int (h : Nat), optI (nearL r h)]) [.v (.d (I r)), .v (.d (I (seersL r))), .v (.d (.tuple ((List.range r.length).map fun h => optI (nearL r h)))), .no, .no, .no, .no] st = .nx e' st ∧ ∃ c3 c4, e' = [.v (.d (I r)), .v (.d (I (seersL r))), .v (.d (.tuple ((List.range r.length).map fun h => optI (nearL r h)))), c3, c4, .no, .no] ∧ (∀ y, c3 ≠ .own y) := by
    obtain ⟨e', q1, q2, q3⟩ := forL_rel (gt := .tp [3, 4]) (encX := fun h : Nat => .tuple [.int (h : Nat), optI (nearL r h)]) (f := fun (s : Unit) _ => s) (st := st) (b := exSs (callL ds (m + 6)) b) (l := List.range r.length) (s := ())
      (Rel := fun l _ e => (∀ h ∈ l, h < r.length) ∧ ∃ c3 c4, e = [.v (.d (I r)), .v (.d (I (seersL r))), .v (.d (.tuple ((List.range r.length).map fun h => optI (nearL r h)))), c3, c4, .no, .no] ∧ (∀ y, c3 ≠ .own y))
      (e := [.v (.d (I r)), .v (.d (I (seersL r))), .v (.d (.tuple ((List.range r.length).map fun h => optI (nearL r h)))), .no, .no, .no, .no])
      (by
        rintro h l s e ⟨hl, c3, c4, rfl, _⟩
        have hh : h < r.length := hl h List.mem_cons_self
        refine ⟨[.v (.d (I r)), .v (.d (I (seersL r))), .v (.d (.tuple ((List.range r.length).map fun h => optI (nearL r h)))), .v (.d (.int (h : Nat))), .v (.d (optI (nearL r h))), .no, .no], _, rfl, ?_, fun i hi => hl i (List.mem_cons_of_mem _ hi), .v (.d (.int (h : Nat))), .v (.d (optI (nearL r h))), rfl, fun y h => by cases h⟩
        subst hb
        generalize hq : E.bi .max _ = q
        have a1 := atI_int r h hh
        cases hv : nearL r h with
        | none =>
          clear f1 f2 f3 f4 f5 f6 f7 hcm hns e1 e2 eq ai ob eo hin sf hlc1 hlc2 hl a1
          generalize PyData.tuple ((List.range r.length).map fun h => optI (nearL r h)) = tp
          simp only [optI]
          trivial
        | some v =>
          obtain ⟨n1, n2, n3⟩ := hns h v hv
          obtain ⟨M, m1, m2⟩ := hcm h v hv hh (.v (.d (I (seersL r)))) (.v (.d (.tuple ((List.range r.length).map fun h => optI (nearL r h))))) .no .no .no .no
          have a2 := atI_int r v (by omega)
          rw [hq] at m2
          rw [getD_at hh, getD_at (by omega)] at n2
          generalize r[h] = u at a1 n2 m1
          generalize r[v]'(by omega) = w at a2 n2
          clear f1 f2 f3 f4 f5 f6 f7 hcm hns e1 e2 eq ai ob eo hin sf hlc1 hlc2 hl n3 hv
          generalize PyData.tuple ((List.range r.length).map fun h => optI (nearL r h)) = tp at *
          have n2' : ¬ w < u := by omega
          have m1' : ¬ u ≤ M := by omega
          unfold I at m2
          simp only [optI]
          clear n1
          trivial)
      ⟨fun h hh => List.mem_range.mp hh, .no, .no, rfl, fun y h => by cases h⟩
    exact ⟨e', q1, q3⟩
  obtain ⟨e', l1', c3, c4, rfl, hc3⟩ := hloop
  have hno : ∀ (c1 c2 c4 c5 : Cell) (x : PV), notOwn [.v (.d (I r)), c1, c2, c3, c4, c5, .v x] 3 = true := fun _ _ _ _ _ => by
    unfold notOwn
    dsimp only [List.getElem?_cons_succ, List.getElem?_cons_zero]
    cases c3 with
    | own y => exact absurd rfl (hc3 y)
    | no => rfl
    | v _ => rfl
  have hlc2' := fun c1 c2 c4 c5 => hlc2 c1 c2 c3 c4 c5 (hno c1 c2 c4 c5 _)
  clear hlc2 hno hc3 hcm hns eo ob sf hin hb hc1 hc2
  unfold I L at *
  have eqn : (((seersL r).length : Int) = (r.length : Int)) = ((ext t 0 x).foldl max 0 = 0) := by
    rw [← eq]
    exact propext ⟨fun h => by omega, fun h => by omega⟩
  clear eq
  have sr := enD_range (fun h => optI (nearL r h)) r.length
  have zr : r.length ≤ 30 := by omega
  rw [List.map_cons] at f5 f6
  have sl := sort_map r
  have s1 := sortable_ints r
  have s2 := alike_ints r
  trivial
end K96

set_option maxRecDepth 100000
/-! K96w: flats right; the law. -/
namespace K96
open PySem Ev
theorem eqvAll_ints : ∀ ns ms : List Int, PyData.eqvAll (ns.map PyData.int) (ms.map PyData.int) = decide (ns = ms)
  | [], [] => by simp [PyData.eqvAll]
  | [], _ :: _ => by simp [PyData.eqvAll]
  | _ :: _, [] => by simp [PyData.eqvAll]
  | n :: ns, m :: ms => by
    rw [List.map_cons, List.map_cons, PyData.eqvAll, eqvAll_ints ns ms]
    have e : PyData.eqv (.int n) (.int m) = decide (n = m) := by
      rw [PyData.eqv]
      by_cases h : n = m <;> simp [h]
    rw [e]
    by_cases h : n = m <;> simp [h]
theorem eq_ll (a b : List Int) : eqD (.list (a.map .int)) (.list (b.map .int)) = some (decide (a = b)) := by
  unfold eqD
  have h1 : (PyData.list (a.map .int)).plain = true := plain_ints a
  have h1' : (PyData.list (b.map .int)).plain = true := plain_ints b
  have h2 : (PyData.list (a.map PyData.int)).depth ≤ 60 := by
    have := depth_ints a
    rw [PyData.depth]
    omega
  dsimp only
  rw [h1, h1', decide_eq_true h2]
  rw [PyData.eqv, eqvAll_ints]
  rfl
theorem eq_tt (a b : List Int) : eqD (.tuple (a.map .int)) (.tuple (b.map .int)) = some (decide (a = b)) := by
  unfold eqD
  have h1 : (PyData.tuple (a.map .int)).plain = true := plain_ints a
  have h1' : (PyData.tuple (b.map .int)).plain = true := plain_ints b
  have h2 : (PyData.tuple (a.map PyData.int)).depth ≤ 60 := by
    have := depth_ints a
    rw [PyData.depth]
    omega
  dsimp only
  rw [h1, h1', decide_eq_true h2]
  rw [PyData.eqv, eqvAll_ints]
  rfl
theorem plain_dd : ∀ D : List Bool, PyData.plainAll (D.map dd) = true
  | [] => rfl
  | a :: r => by rw [List.map_cons, PyData.plainAll, plain_dd r]; rfl
theorem depth_dd : ∀ r : List Bool, PyData.depthAll (r.map dd) ≤ 1
  | [] => Nat.zero_le _
  | a :: r => by
    rw [List.map_cons, PyData.depthAll]
    exact Nat.max_le.mpr ⟨by unfold dd; rw [PyData.depth]; decide, depth_dd r⟩
theorem eq_dd (D : List Bool) : eqD (.tuple (D.map dd)) (.tuple (D.map dd)) = some true := by
  unfold eqD
  have h1 : (PyData.tuple (D.map dd)).plain = true := plain_dd D
  have h2 : (PyData.tuple (D.map dd)).depth ≤ 60 := by
    have := depth_dd D
    rw [PyData.depth]
    omega
  dsimp only
  rw [h1, decide_eq_true h2]
  have := PySem.SeqAt.eqv_refl_plain (.tuple (D.map dd)) h1
  rw [this]
  rfl
local macro_rules | `(tactic| trivial) => `(tactic| simp [↓bind_I, ↓then_I, ↓ofR_I, x_nil, x_cons, then_nx, then_rt, ofR_ok, bind_ok, opt_some, noEx_ok, runB_rt, runB_nx, s_set, s_par2, s_par3, s_asg, s_app, s_ex, s_frz, s_ret, s_retN, s_ife, s_for, s_whl, s_brk, s_cont, e_var, e_lit, e_con, e_ty, e_op, e_neg, e_cmp, e_chn, e_andd, e_orr, e_nott, e_ife, e_tup, e_lst, e_lstR, e_box, e_ix, e_sl, e_rev, e_call, e_bi, e_lrng, e_lc, e_dc, evRs, evAs, evDs, evTs, evI, evP, evA, biV, biD, rd, inC, asB, asR, asD, cmpD, opD, ltD, isNone, List.replicate, I, L, srcV, wipeC, asg, setAll, putC, notOwn, isaD, PyData.isInt, PyData.isBool, PyData.isTuple, allBools_map, allInts_map, List.all_map, Function.comp_def, ixD, allT, slD, itemsD, ai_cons, l0, l1, l2, l3, l4, s_rem, s_setR, s_popR, eq_int, eq_bool, eq_ll, eq_tt, eq_dd, oi, alike_ints, sortable_ints, sort_map, *])
theorem Row.of_perm {r w : List Int} (h : Row r) (hp : w.Perm r) : Row w :=
  ⟨hp.nodup_iff.mpr h.nd, fun i hi => h.bd i (hp.subset hi), by rw [hp.length_eq]; exact h.l0, by rw [hp.length_eq]; exact h.l9⟩
theorem once_iff_aux {r : List Int} (hn : r.Nodup) (h : Asc r) : onceL r = r := by
  have hb : NoBar r := fun a x z hs ⟨h1, h2⟩ => by
    have := h.sublist hs
    simp only [List.pairwise_cons, List.mem_cons, List.not_mem_nil, or_false] at this
    have := this.1 z (.inr rfl)
    omega
  exact asc_unique (onceL_perm r) (once_of_noBar hn hb) h
theorem flatsRight {k m : Nat} (hk : k = m + 7) {r : List Int} (hr : Row r) {n : Nat} (hb : r.Perm (baseL n)) (hn : n ≤ 9) {st : Sto} (hB : BagI st) : ∃ st', callL ds k 44 [.ref 1, .d (I r)] st = .ok (.d (.bool true)) st' ∧ BagI st' := by
  subst hk
  have hln : r.length = n := by rw [hb.length_eq]; simp [baseL]
  have f1 := ascDeeds (k := m + 6) (m := m + 2) rfl r st hr.nd hr.z
  have f2 := bar (k := m + 6) (m := m + 2) rfl r st hr.nd hr.z
  have f3 := outs (k := m + 6) (m := m + 2) rfl r st hr.nd hr.l9
  have f4 := lawOuts (m := m + 5) hr.l9 st
  obtain ⟨fw, f5, w1, w2⟩ := fewestWings (k := m + 6) (m := m + 2) rfl r st hr.nd hr.z
  have f6 := seers (k := m + 6) (m := m) rfl r st hr.b300 hr.l0 hr.z
  have p1 : ((fw : Int) = 0) = (r = sortI r) := propext ⟨fun h => (sort_asc_iff hr.nd).mpr (w1.mp (by omega)), fun h => by have := w1.mpr ((sort_asc_iff hr.nd).mp h); omega⟩
  have p2 : (((seersL r).length : Int) = (r.length : Int)) = (r = sortI r) := by
    have h1 := seers_all hr.b1
    have h2 := (sort_asc_iff hr.nd).trans (asc_iff r)
    exact propext ⟨fun h => h2.mpr (h1.mp (by omega)), fun h => by have := h1.mpr (h2.mp h); omega⟩
  have z1 : r.length ≤ sizeLine := sz (by have := hr.l9; omega)
  have sl := sort_map r
  have s1 := sortable_ints r
  have s2 := alike_ints r
  have l9 := hr.l9
  cases hbar : bar1 r with
  | some t =>
    obtain ⟨i, j, l⟩ := t
    obtain ⟨b1, b2, b3, b4⟩ := bar1_some hbar
    have f7 := isBar (k := m + 6) (m := m + 2) rfl r i j l st hr.nd hr.z b1 b2 b3
    have hd : deedsL r (sortI r) = none := by
      cases h : deedsL r (sortI r) with
      | none => rfl
      | some D =>
        have := (deeds_some_iff hr.nd).mp (by rw [h]; rfl)
        rw [hbar] at this; cases this
    have p3 : ((fw : Int) ≤ 1) = False := eq_false (fun h => by
      have := w2.mp (by omega)
      rcases this with h | h
      · have h' : ascB (onceL r) = true := by
          rw [asc_iff] at h ⊢
          have := asc_sort h
          have e := (onceL_perm r)
          rw [once_iff_aux hr.nd h]
          exact h
        rw [once_iff hr.nd, hbar] at h'; cases h'
      · rw [once_iff hr.nd, hbar] at h; cases h)
    rw [hd] at f1
    rw [hbar] at f2
    rw [b4] at f7
    unfold t3 at f7
    simp only [optD] at f1
    simp only [optT, t3] at f2
    unfold I at f1 f2 f3 f5 f6 f7
    refine ⟨st, ?_, hB⟩
    rw [callL_some (d := d44) rfl rfl, d44]
    unfold I
    clear hr w1 w2 hbar b1 b2 b3 b4 hd hb hB hln l9
    dsimp only at f7
    have p1' : (fw = 0) = (r = sortI r) := by rw [← p1]; exact propext ⟨fun h => by omega, fun h => by omega⟩
    have p2' : ((seersL r).length = r.length) = (r = sortI r) := by rw [← p2]; exact propext ⟨fun h => by omega, fun h => by omega⟩
    have p3' : (fw ≤ 1) = False := by rw [← p3]; exact propext ⟨fun h => by omega, fun h => by omega⟩
    trivial
  | none =>
    obtain ⟨D, hd⟩ : ∃ D, deedsL r (sortI r) = some D := Option.isSome_iff_exists.mp ((deeds_some_iff hr.nd).mpr hbar)
    have p3 : ((fw : Int) ≤ 1) = True := eq_true (by
      have := w2.mpr (.inr ((once_iff hr.nd).mpr hbar))
      omega)
    have f7 := goThrough (k := m + 6) (m := m + 2) rfl st hr.nd hr.z (sortI_len r) hd
    have f8 := deedsFor (k := m + 6) (m := m + 2) rfl r (sortI r) st hr.nd hr.z (sortI_perm r)
    obtain ⟨w, st', f9, hB', hw⟩ := lawRow (k := m + 6) (m := m + 4) rfl hB hn
    have hwr : w.Perm r := hw.trans hb.symm
    have f10 := deedsFor (k := m + 6) (m := m + 2) rfl r w st' hr.nd hr.z hwr
    rw [← hln] at f9
    have z2 : w.length ≤ sizeLine := by rw [hwr.length_eq]; exact z1
    have f11 : ∀ E, deedsL r w = some E → callL ds (m + 6) 9 [.d (I r), .d (.tuple (E.map dd))] st' = .ok (.d (I w)) st' := fun E hE => goThrough (k := m + 6) (m := m + 2) rfl st' hr.nd hr.z hwr.length_eq hE
    rw [hd] at f1 f8
    rw [hbar] at f2
    simp only [optD] at f1 f8
    simp only [optT] at f2
    unfold I at f1 f2 f3 f5 f6 f7 f8 f9 f10 f11
    refine ⟨st', ?_, hB'⟩
    rw [callL_some (d := d44) rfl rfl, d44]
    unfold I
    have p1' : (fw = 0) = (r = sortI r) := by rw [← p1]; exact propext ⟨fun h => by omega, fun h => by omega⟩
    have p2' : ((seersL r).length = r.length) = (r = sortI r) := by rw [← p2]; exact propext ⟨fun h => by omega, fun h => by omega⟩
    have p3' : (fw ≤ 1) = True := by rw [← p3]; exact propext ⟨fun h => by omega, fun h => by omega⟩
    clear hr w1 w2 hbar hd hb hB hln l9 hB' hw hwr hn
    cases hE : deedsL r w with
    | none =>
      rw [hE] at f10
      clear f11 hE
      simp only [optD] at f10
      trivial
    | some E =>
      have f12 := f11 E hE
      rw [hE] at f10
      clear f11 hE
      simp only [optD] at f10
      trivial
end K96

set_option maxRecDepth 100000
/-! K96x: the law. -/
namespace K96
open PySem Ev
local macro_rules | `(tactic| trivial) => `(tactic| simp [↓bind_I, ↓then_I, ↓ofR_I, x_nil, x_cons, then_nx, then_rt, ofR_ok, bind_ok, opt_some, noEx_ok, runB_rt, runB_nx, s_set, s_par2, s_par3, s_asg, s_app, s_ex, s_frz, s_ret, s_retN, s_ife, s_for, s_whl, s_brk, s_cont, e_var, e_lit, e_con, e_ty, e_op, e_neg, e_cmp, e_chn, e_andd, e_orr, e_nott, e_ife, e_tup, e_lst, e_lstR, e_box, e_ix, e_sl, e_rev, e_call, e_bi, e_lrng, e_lc, e_dc, evRs, evAs, evDs, evTs, evI, evP, evA, biV, biD, rd, inC, asB, asR, asD, cmpD, opD, ltD, isNone, List.replicate, I, L, srcV, wipeC, asg, setAll, putC, notOwn, isaD, PyData.isInt, PyData.isBool, PyData.isTuple, allBools_map, allInts_map, List.all_map, Function.comp_def, ixD, allT, slD, itemsD, ai_cons, l0, l1, l2, l3, l4, s_rem, s_setR, s_popR, eq_int, eq_bool, eq_ll, eq_tt, eq_dd, oi, alike_ints, sortable_ints, sort_map, *])
theorem row_base {r : List Int} {n : Nat} (h : r.Perm (baseL n)) (h1 : 1 ≤ n) (h9 : n ≤ 9) : Row r := by
  have hl : r.length = n := by rw [h.length_eq]; simp [baseL]
  refine ⟨h.nodup_iff.mpr ?_, fun i hi => ?_, by omega, by omega⟩
  · unfold baseL
    refine List.Pairwise.map _ ?_ List.nodup_range
    intro a b hab e
    exact hab (by omega)
  · obtain ⟨j, hj, rfl⟩ := List.mem_map.mp (h.subset hi)
    have := List.mem_range.mp hj
    omega
theorem lap {m : Nat} {r : List Int} {n : Nat} (hb : r.Perm (baseL n)) (h1 : 1 ≤ n) (hn : n ≤ 9) {st : Sto} (hB : BagI st) (c0 c2 c3 c4 : Cell) :
    True := .intro
theorem main (ns : List Int) (h : ns.length ≤ 63) : ∃ st', callL ds 20 45 [.d (.list (ns.map .int))] [] = .ok (.d (.bool true)) st' := by
  obtain ⟨st0, f0, hB0⟩ := lawBag (k := 19) (m := 18) rfl ns h
  rw [callL_some (d := d45) rfl rfl, d45]
  trivial
  generalize hb : exSs (callL ds 19) (Ss.cons _ _) = b
  have step : ∀ st, BagI st → ∀ c2 c3 c4 : Cell, ∀ i : Int, ∃ st' c3' c4', BagI st' ∧ b [.v (.d (.list (ns.map .int))), .v (.ref 1), .v (.d (.int i)), c3, c4] st = .nx [.v (.d (.list (ns.map .int))), .v (.ref 1), .v (.d (.int i)), c3', c4'] st' := by
    intro st hB c2 c3 c4 i
    obtain ⟨p, st1, g1, hB1, p0, p1⟩ := pick (k := 19) (m := 18) rfl hB (many := 9) (by omega) (by omega)
    obtain ⟨q, rfl⟩ : ∃ q : Nat, p = (q : Int) := ⟨p.toNat, by omega⟩
    obtain ⟨r, st2, g2, hB2, hp⟩ := lawRow (k := 19) (m := 17) rfl hB1 (n := 1 + q) (by omega)
    have hr := row_base hp (by omega) (by omega)
    have g3 := headsRight (k := 19) (m := 12) rfl hr st2
    obtain ⟨st3, g4, hB3⟩ := flatsRight (k := 19) (m := 12) rfl hr hp (by omega) hB2
    have hs := hr.sort
    have ha := sorted_asc hr.nd
    have g5 := seers (k := 19) (m := 13) rfl (sortI r) st3 hs.b300 hs.l0 hs.z
    rw [seers_asc hs.b1 ha, sortI_len] at g5
    obtain ⟨fw, g6, w1, _⟩ := fewestWings (k := 19) (m := 15) rfl (sortI r) st3 hs.nd hs.z
    have w0 : fw = 0 := w1.mpr ((asc_iff _).mpr ha)
    subst w0
    have g7 := moved (k := 19) (m := 13) rfl hs st3
    rw [lon_max ha, Int.sub_self] at g7
    refine ⟨st3, .v (.d (I r)), .v (.d (I (sortI r))), hB3, ?_⟩
    subst hb
    have e1 : ((1 + q : Nat) : Int) = 1 + (q : Int) := by omega
    rw [e1] at g2
    have z1 : r.length ≤ sizeLine := sz (by have := hr.l9; omega)
    have sl := sort_map r
    have s1 := sortable_ints r
    have s2 := alike_ints r
    have s3 : smallI (r.length : Int) = true := decide_eq_true (by have := hr.l9; omega)
    have s4 : smallI 0 = true := by decide
    have e2 : rgL 0 (r.length : Int) = ((List.range r.length).map fun (i : Nat) => (i : Int)).map .int := by
      rw [rgL_nat, List.map_map]; rfl
    have e3 : ((r.length : Int) - 0).toNat = r.length := by omega
    have e4 : ((0 : Nat) : Int) = 0 := rfl
    rw [e4] at g6
    unfold I at g2 g3 g4 g5 g6 g7
    clear hp hr hs ha w1 hB hB1 hB2 hB3 f0 hB0 p0 p1 e1
    rw [List.map_map] at e2 g5
    have e5 := eq_tt ((List.range r.length).map fun (i : Nat) => (i : Int)) ((List.range r.length).map fun (i : Nat) => (i : Int))
    rw [decide_eq_true rfl, List.map_map] at e5
    have e5 : eqD (PyData.tuple (List.map (fun x : Nat => PyData.int (x : Int)) (List.range r.length))) (PyData.tuple (List.map (fun x : Nat => PyData.int (x : Int)) (List.range r.length))) = some true := e5
    trivial
  have hr : rgL 0 5 = [0, 1, 2, 3, 4].map PyData.int := rfl
  have loop : ∀ (l : List Int) (c2 c3 c4 : Cell) (st : Sto), BagI st → ∃ st' c2' c3' c4', forL b (.nm 2) (l.map .int) [.v (.d (.list (ns.map .int))), .v (.ref 1), c2, c3, c4] st = .nx [.v (.d (.list (ns.map .int))), .v (.ref 1), c2', c3', c4'] st' := by
    intro l
    induction l with
    | nil => exact fun c2 c3 c4 st hB => ⟨st, c2, c3, c4, rfl⟩
    | cons i l ih =>
      intro c2 c3 c4 st hB
      obtain ⟨st', c3', c4', hB', h1⟩ := step st hB c2 c3 c4 i
      obtain ⟨st'', d2, d3, d4, h2⟩ := ih (.v (.d (.int i))) c3' c4' st' hB'
      refine ⟨st'', d2, d3, d4, ?_⟩
      rw [List.map_cons, forL]
      show (match b [.v (.d (.list (ns.map .int))), .v (.ref 1), .v (.d (.int i)), c3, c4] st with
        | .nx e2 s2 => forL b (.nm 2) (l.map .int) e2 s2
        | .ct e2 s2 => forL b (.nm 2) (l.map .int) e2 s2
        | .br e2 s2 => .nx e2 s2
        | r => r) = _
      rw [h1]
      exact h2
  obtain ⟨st', c2, c3, c4, h1⟩ := loop [0, 1, 2, 3, 4] .no .no .no st0 hB0
  have s5 : smallI 5 = true := by decide
  refine ⟨st', ?_⟩
  simp only [List.map_cons, List.map_nil] at h1 hr
  clear step loop hb
  trivial
end K96

open PySem PySem.W PyProof.Rows in
set_option maxRecDepth 100000 in
set_option maxHeartbeats 0 in
theorem PySem.Challenge.cw_curtainrise_k96_whole_heads_and_flats_holds : PySem.Challenge.rw_curtainrise_k96_whole_heads_and_flats.Holds := by
  w_on; o_law; k_head; (case hw => w_witness2)
  k_fill
  refine Ev.ev_walk (l := PySem.Challenge.rw_curtainrise_k96_whole_heads_and_flats) (x := "script") K96.T K96.ds 20 45 K96.d45 rfl rfl rfl rfl rfl rfl ⟨rfl, by decide, by decide⟩ (fun w h Y => PySem.W.kIn_of Y) ?F (fun ns h _ => K96.main ns h)
  intro w mg h KX G
  refine ⟨K96.ckAll, rfl, ?_, ?_, ?_⟩
  · have h0 : Ev.HereOf KX mg K96.d0 := by
      refine' Ev.here_mk KX G ?b0 ?a0 ?l0 ?c0 ?k0
      (case b0 => exact fun _ _ _ _ _ _ us hl => match us, hl with | [_], _ => rfl)
      (case a0 => k_is)
      (case l0 => k_is)
      (case c0 => k_is)
      (case k0 => k_is)
    have h1 : Ev.HereOf KX mg K96.d1 := by
      refine' Ev.here_mk KX G ?b1 ?a1 ?l1 ?c1 ?k1
      (case b1 => exact fun _ _ _ _ _ _ us hl => match us, hl with | [_, _, _], _ => rfl)
      (case a1 => k_is)
      (case l1 => k_is)
      (case c1 => k_is)
      (case k1 => k_is)
    have h2 : Ev.HereOf KX mg K96.d2 := by
      refine' Ev.here_mk KX G ?b2 ?a2 ?l2 ?c2 ?k2
      (case b2 => exact fun _ _ _ _ _ _ us hl => match us, hl with | [_, _], _ => rfl)
      (case a2 => k_is)
      (case l2 => k_is)
      (case c2 => k_is)
      (case k2 => k_is)
    have h3 : Ev.HereOf KX mg K96.d3 := by
      refine' Ev.here_mk KX G ?b3 ?a3 ?l3 ?c3 ?k3
      (case b3 => exact fun _ _ _ _ _ _ us hl => match us, hl with | [_, _, _], _ => rfl)
      (case a3 => k_is)
      (case l3 => k_is)
      (case c3 => k_is)
      (case k3 => k_is)
    have h4 : Ev.HereOf KX mg K96.d4 := by
      refine' Ev.here_mk KX G ?b4 ?a4 ?l4 ?c4 ?k4
      (case b4 => exact fun _ _ _ _ _ _ us hl => match us, hl with | [_], _ => rfl)
      (case a4 => k_is)
      (case l4 => k_is)
      (case c4 => k_is)
      (case k4 => k_is)
    have h5 : Ev.HereOf KX mg K96.d5 := by
      refine' Ev.here_mk KX G ?b5 ?a5 ?l5 ?c5 ?k5
      (case b5 => exact fun _ _ _ _ _ _ us hl => match us, hl with | [_], _ => rfl)
      (case a5 => k_is)
      (case l5 => k_is)
      (case c5 => k_is)
      (case k5 => k_is)
    have h6 : Ev.HereOf KX mg K96.d6 := by
      refine' Ev.here_mk KX G ?b6 ?a6 ?l6 ?c6 ?k6
      (case b6 => exact fun _ _ _ _ _ _ us hl => match us, hl with | [_], _ => rfl)
      (case a6 => k_is)
      (case l6 => k_is)
      (case c6 => k_is)
      (case k6 => k_is)
    have h7 : Ev.HereOf KX mg K96.d7 := by
      refine' Ev.here_mk KX G ?b7 ?a7 ?l7 ?c7 ?k7
      (case b7 => exact fun _ _ _ _ _ _ us hl => match us, hl with | [_], _ => rfl)
      (case a7 => k_is)
      (case l7 => k_is)
      (case c7 => k_is)
      (case k7 => k_is)
    have h8 : Ev.HereOf KX mg K96.d8 := by
      refine' Ev.here_mk KX G ?b8 ?a8 ?l8 ?c8 ?k8
      (case b8 => exact fun _ _ _ _ _ _ us hl => match us, hl with | [_, _], _ => rfl)
      (case a8 => k_is)
      (case l8 => k_is)
      (case c8 => k_is)
      (case k8 => k_is)
    have h9 : Ev.HereOf KX mg K96.d9 := by
      refine' Ev.here_mk KX G ?b9 ?a9 ?l9 ?c9 ?k9
      (case b9 => exact fun _ _ _ _ _ _ us hl => match us, hl with | [_, _], _ => rfl)
      (case a9 => k_is)
      (case l9 => k_is)
      (case c9 => k_is)
      (case k9 => k_is)
    have h10 : Ev.HereOf KX mg K96.d10 := by
      refine' Ev.here_mk KX G ?b10 ?a10 ?l10 ?c10 ?k10
      (case b10 => exact fun _ _ _ _ _ _ us hl => match us, hl with | [_, _], _ => rfl)
      (case a10 => k_is)
      (case l10 => k_is)
      (case c10 => k_is)
      (case k10 => k_is)
    have h11 : Ev.HereOf KX mg K96.d11 := by
      refine' Ev.here_mk KX G ?b11 ?a11 ?l11 ?c11 ?k11
      (case b11 => exact fun _ _ _ _ _ _ us hl => match us, hl with | [_, _], _ => rfl)
      (case a11 => k_is)
      (case l11 => k_is)
      (case c11 => k_is)
      (case k11 => k_is)
    have h12 : Ev.HereOf KX mg K96.d12 := by
      refine' Ev.here_mk KX G ?b12 ?a12 ?l12 ?c12 ?k12
      (case b12 => exact fun _ _ _ _ _ _ us hl => match us, hl with | [_], _ => rfl)
      (case a12 => k_is)
      (case l12 => k_is)
      (case c12 => k_is)
      (case k12 => k_is)
    have h13 : Ev.HereOf KX mg K96.d13 := by
      refine' Ev.here_mk KX G ?b13 ?a13 ?l13 ?c13 ?k13
      (case b13 => exact fun _ _ _ _ _ _ us hl => match us, hl with | [_, _, _, _], _ => rfl)
      (case a13 => k_is)
      (case l13 => k_is)
      (case c13 => k_is)
      (case k13 => k_is)
    have h14 : Ev.HereOf KX mg K96.d14 := by
      refine' Ev.here_mk KX G ?b14 ?a14 ?l14 ?c14 ?k14
      (case b14 => exact fun _ _ _ _ _ _ us hl => match us, hl with | [_], _ => rfl)
      (case a14 => k_is)
      (case l14 => k_is)
      (case c14 => k_is)
      (case k14 => k_is)
    have h15 : Ev.HereOf KX mg K96.d15 := by
      refine' Ev.here_mk KX G ?b15 ?a15 ?l15 ?c15 ?k15
      (case b15 => exact fun _ _ _ _ _ _ us hl => match us, hl with | [_], _ => rfl)
      (case a15 => k_is)
      (case l15 => k_is)
      (case c15 => k_is)
      (case k15 => k_is)
    have h16 : Ev.HereOf KX mg K96.d16 := by
      refine' Ev.here_mk KX G ?b16 ?a16 ?l16 ?c16 ?k16
      (case b16 => exact fun _ _ _ _ _ _ us hl => match us, hl with | [_, _], _ => rfl)
      (case a16 => k_is)
      (case l16 => k_is)
      (case c16 => k_is)
      (case k16 => k_is)
    have h17 : Ev.HereOf KX mg K96.d17 := by
      refine' Ev.here_mk KX G ?b17 ?a17 ?l17 ?c17 ?k17
      (case b17 => exact fun _ _ _ _ _ _ us hl => match us, hl with | [_], _ => rfl)
      (case a17 => k_is)
      (case l17 => k_is)
      (case c17 => k_is)
      (case k17 => k_is)
    have h18 : Ev.HereOf KX mg K96.d18 := by
      refine' Ev.here_mk KX G ?b18 ?a18 ?l18 ?c18 ?k18
      (case b18 => exact fun _ _ _ _ _ _ us hl => match us, hl with | [_], _ => rfl)
      (case a18 => k_is)
      (case l18 => k_is)
      (case c18 => k_is)
      (case k18 => k_is)
    have h19 : Ev.HereOf KX mg K96.d19 := by
      refine' Ev.here_mk KX G ?b19 ?a19 ?l19 ?c19 ?k19
      (case b19 => exact fun _ _ _ _ _ _ us hl => match us, hl with | [_], _ => rfl)
      (case a19 => k_is)
      (case l19 => k_is)
      (case c19 => k_is)
      (case k19 => k_is)
    have h20 : Ev.HereOf KX mg K96.d20 := by
      refine' Ev.here_mk KX G ?b20 ?a20 ?l20 ?c20 ?k20
      (case b20 => exact fun _ _ _ _ _ _ us hl => match us, hl with | [_], _ => rfl)
      (case a20 => k_is)
      (case l20 => k_is)
      (case c20 => k_is)
      (case k20 => k_is)
    have h21 : Ev.HereOf KX mg K96.d21 := by
      refine' Ev.here_mk KX G ?b21 ?a21 ?l21 ?c21 ?k21
      (case b21 => exact fun _ _ _ _ _ _ us hl => match us, hl with | [_], _ => rfl)
      (case a21 => k_is)
      (case l21 => k_is)
      (case c21 => k_is)
      (case k21 => k_is)
    have h22 : Ev.HereOf KX mg K96.d22 := by
      refine' Ev.here_mk KX G ?b22 ?a22 ?l22 ?c22 ?k22
      (case b22 => exact fun _ _ _ _ _ _ us hl => match us, hl with | [_], _ => rfl)
      (case a22 => k_is)
      (case l22 => k_is)
      (case c22 => k_is)
      (case k22 => k_is)
    have h23 : Ev.HereOf KX mg K96.d23 := by
      refine' Ev.here_mk KX G ?b23 ?a23 ?l23 ?c23 ?k23
      (case b23 => exact fun _ _ _ _ _ _ us hl => match us, hl with | [_], _ => rfl)
      (case a23 => k_is)
      (case l23 => k_is)
      (case c23 => k_is)
      (case k23 => k_is)
    have h24 : Ev.HereOf KX mg K96.d24 := by
      refine' Ev.here_mk KX G ?b24 ?a24 ?l24 ?c24 ?k24
      (case b24 => exact fun _ _ _ _ _ _ us hl => match us, hl with | [_], _ => rfl)
      (case a24 => k_is)
      (case l24 => k_is)
      (case c24 => k_is)
      (case k24 => k_is)
    have h25 : Ev.HereOf KX mg K96.d25 := by
      refine' Ev.here_mk KX G ?b25 ?a25 ?l25 ?c25 ?k25
      (case b25 => exact fun _ _ _ _ _ _ us hl => match us, hl with | [_], _ => rfl)
      (case a25 => k_is)
      (case l25 => k_is)
      (case c25 => k_is)
      (case k25 => k_is)
    have h26 : Ev.HereOf KX mg K96.d26 := by
      refine' Ev.here_mk KX G ?b26 ?a26 ?l26 ?c26 ?k26
      (case b26 => exact fun _ _ _ _ _ _ us hl => match us, hl with | [_, _], _ => rfl)
      (case a26 => k_is)
      (case l26 => k_is)
      (case c26 => k_is)
      (case k26 => k_is)
    have h27 : Ev.HereOf KX mg K96.d27 := by
      refine' Ev.here_mk KX G ?b27 ?a27 ?l27 ?c27 ?k27
      (case b27 => exact fun _ _ _ _ _ _ us hl => match us, hl with | [_], _ => rfl)
      (case a27 => k_is)
      (case l27 => k_is)
      (case c27 => k_is)
      (case k27 => k_is)
    have h28 : Ev.HereOf KX mg K96.d28 := by
      refine' Ev.here_mk KX G ?b28 ?a28 ?l28 ?c28 ?k28
      (case b28 => exact fun _ _ _ _ _ _ us hl => match us, hl with | [_], _ => rfl)
      (case a28 => k_is)
      (case l28 => k_is)
      (case c28 => k_is)
      (case k28 => k_is)
    have h29 : Ev.HereOf KX mg K96.d29 := by
      refine' Ev.here_mk KX G ?b29 ?a29 ?l29 ?c29 ?k29
      (case b29 => exact fun _ _ _ _ _ _ us hl => match us, hl with | [_, _], _ => rfl)
      (case a29 => k_is)
      (case l29 => k_is)
      (case c29 => k_is)
      (case k29 => k_is)
    have h30 : Ev.HereOf KX mg K96.d30 := by
      refine' Ev.here_mk KX G ?b30 ?a30 ?l30 ?c30 ?k30
      (case b30 => exact fun _ _ _ _ _ _ us hl => match us, hl with | [_, _], _ => rfl)
      (case a30 => k_is)
      (case l30 => k_is)
      (case c30 => k_is)
      (case k30 => k_is)
    have h31 : Ev.HereOf KX mg K96.d31 := by
      refine' Ev.here_mk KX G ?b31 ?a31 ?l31 ?c31 ?k31
      (case b31 => exact fun _ _ _ _ _ _ us hl => match us, hl with | [_, _], _ => rfl)
      (case a31 => k_is)
      (case l31 => k_is)
      (case c31 => k_is)
      (case k31 => k_is)
    have h32 : Ev.HereOf KX mg K96.d32 := by
      refine' Ev.here_mk KX G ?b32 ?a32 ?l32 ?c32 ?k32
      (case b32 => exact fun _ _ _ _ _ _ us hl => match us, hl with | [_, _], _ => rfl)
      (case a32 => k_is)
      (case l32 => k_is)
      (case c32 => k_is)
      (case k32 => k_is)
    have h33 : Ev.HereOf KX mg K96.d33 := by
      refine' Ev.here_mk KX G ?b33 ?a33 ?l33 ?c33 ?k33
      (case b33 => exact fun _ _ _ _ _ _ us hl => match us, hl with | [_, _], _ => rfl)
      (case a33 => k_is)
      (case l33 => k_is)
      (case c33 => k_is)
      (case k33 => k_is)
    have h34 : Ev.HereOf KX mg K96.d34 := by
      refine' Ev.here_mk KX G ?b34 ?a34 ?l34 ?c34 ?k34
      (case b34 => exact fun _ _ _ _ _ _ us hl => match us, hl with | [_], _ => rfl)
      (case a34 => k_is)
      (case l34 => k_is)
      (case c34 => k_is)
      (case k34 => k_is)
    have h35 : Ev.HereOf KX mg K96.d35 := by
      refine' Ev.here_mk KX G ?b35 ?a35 ?l35 ?c35 ?k35
      (case b35 => exact fun _ _ _ _ _ _ us hl => match us, hl with | [_], _ => rfl)
      (case a35 => k_is)
      (case l35 => k_is)
      (case c35 => k_is)
      (case k35 => k_is)
    have h36 : Ev.HereOf KX mg K96.d36 := by
      refine' Ev.here_mk KX G ?b36 ?a36 ?l36 ?c36 ?k36
      (case b36 => exact fun _ _ _ _ _ _ us hl => match us, hl with | [_], _ => rfl)
      (case a36 => k_is)
      (case l36 => k_is)
      (case c36 => k_is)
      (case k36 => k_is)
    have h37 : Ev.HereOf KX mg K96.d37 := by
      refine' Ev.here_mk KX G ?b37 ?a37 ?l37 ?c37 ?k37
      (case b37 => exact fun _ _ _ _ _ _ us hl => match us, hl with | [_], _ => rfl)
      (case a37 => k_is)
      (case l37 => k_is)
      (case c37 => k_is)
      (case k37 => k_is)
    have h38 : Ev.HereOf KX mg K96.d38 := by
      refine' Ev.here_mk KX G ?b38 ?a38 ?l38 ?c38 ?k38
      (case b38 => exact fun _ _ _ _ _ _ us hl => match us, hl with | [_, _], _ => rfl)
      (case a38 => k_is)
      (case l38 => k_is)
      (case c38 => k_is)
      (case k38 => k_is)
    have h39 : Ev.HereOf KX mg K96.d39 := h0
    have h40 : Ev.HereOf KX mg K96.d40 := by
      refine' Ev.here_mk KX G ?b40 ?a40 ?l40 ?c40 ?k40
      (case b40 => exact fun _ _ _ _ _ _ us hl => match us, hl with | [_, _], _ => rfl)
      (case a40 => k_is)
      (case l40 => k_is)
      (case c40 => k_is)
      (case k40 => k_is)
    have h41 : Ev.HereOf KX mg K96.d41 := by
      refine' Ev.here_mk KX G ?b41 ?a41 ?l41 ?c41 ?k41
      (case b41 => exact fun _ _ _ _ _ _ us hl => match us, hl with | [_], _ => rfl)
      (case a41 => k_is)
      (case l41 => k_is)
      (case c41 => k_is)
      (case k41 => k_is)
    have h42 : Ev.HereOf KX mg K96.d42 := by
      refine' Ev.here_mk KX G ?b42 ?a42 ?l42 ?c42 ?k42
      (case b42 => exact fun _ _ _ _ _ _ us hl => match us, hl with | [_], _ => rfl)
      (case a42 => k_is)
      (case l42 => k_is)
      (case c42 => k_is)
      (case k42 => k_is)
    have h43 : Ev.HereOf KX mg K96.d43 := by
      refine' Ev.here_mk KX G ?b43 ?a43 ?l43 ?c43 ?k43
      (case b43 => exact fun _ _ _ _ _ _ us hl => match us, hl with | [_], _ => rfl)
      (case a43 => k_is)
      (case l43 => k_is)
      (case c43 => k_is)
      (case k43 => k_is)
    have h44 : Ev.HereOf KX mg K96.d44 := by
      refine' Ev.here_mk KX G ?b44 ?a44 ?l44 ?c44 ?k44
      (case b44 => exact fun _ _ _ _ _ _ us hl => match us, hl with | [_, _], _ => rfl)
      (case a44 => k_is)
      (case l44 => k_is)
      (case c44 => k_is)
      (case k44 => k_is)
    have h45 : Ev.HereOf KX mg K96.d45 := by
      refine' Ev.here_mk KX G ?b45 ?a45 ?l45 ?c45 ?k45
      (case b45 => exact fun _ _ _ _ _ _ us hl => match us, hl with | [_], _ => rfl)
      (case a45 => k_is)
      (case l45 => k_is)
      (case c45 => k_is)
      (case k45 => k_is)
    exact Ev.all_cons h0 (Ev.all_cons h1 (Ev.all_cons h2 (Ev.all_cons h3 (Ev.all_cons h4 (Ev.all_cons h5 (Ev.all_cons h6 (Ev.all_cons h7 (Ev.all_cons h8 (Ev.all_cons h9 (Ev.all_cons h10 (Ev.all_cons h11 (Ev.all_cons h12 (Ev.all_cons h13 (Ev.all_cons h14 (Ev.all_cons h15 (Ev.all_cons h16 (Ev.all_cons h17 (Ev.all_cons h18 (Ev.all_cons h19 (Ev.all_cons h20 (Ev.all_cons h21 (Ev.all_cons h22 (Ev.all_cons h23 (Ev.all_cons h24 (Ev.all_cons h25 (Ev.all_cons h26 (Ev.all_cons h27 (Ev.all_cons h28 (Ev.all_cons h29 (Ev.all_cons h30 (Ev.all_cons h31 (Ev.all_cons h32 (Ev.all_cons h33 (Ev.all_cons h34 (Ev.all_cons h35 (Ev.all_cons h36 (Ev.all_cons h37 (Ev.all_cons h38 (Ev.all_cons h39 (Ev.all_cons h40 (Ev.all_cons h41 (Ev.all_cons h42 (Ev.all_cons h43 (Ev.all_cons h44 (Ev.all_cons h45 (Ev.all_nil))))))))))))))))))))))))))))))))))))))))))))))
  · refine' Ev.all_cons (PySem.W.mg_none_of KX G ?y0) ?_
    · k_is
    refine' Ev.all_cons (PySem.W.mg_none_of KX G ?y1) ?_
    · k_is
    refine' Ev.all_cons (PySem.W.mg_none_of KX G ?y2) ?_
    · k_is
    refine' Ev.all_cons (PySem.W.mg_none_of KX G ?y3) ?_
    · k_is
    refine' Ev.all_cons (PySem.W.mg_none_of KX G ?y4) ?_
    · k_is
    refine' Ev.all_cons (PySem.W.mg_none_of KX G ?y5) ?_
    · k_is
    refine' Ev.all_cons (PySem.W.mg_none_of KX G ?y6) ?_
    · k_is
    refine' Ev.all_cons (PySem.W.mg_none_of KX G ?y7) ?_
    · k_is
    refine' Ev.all_cons (PySem.W.mg_none_of KX G ?y8) ?_
    · k_is
    refine' Ev.all_cons (PySem.W.mg_none_of KX G ?y9) ?_
    · k_is
    refine' Ev.all_cons (PySem.W.mg_none_of KX G ?y10) ?_
    · k_is
    refine' Ev.all_cons (PySem.W.mg_none_of KX G ?y11) ?_
    · k_is
    refine' Ev.all_cons (PySem.W.mg_none_of KX G ?y12) ?_
    · k_is
    refine' Ev.all_cons (PySem.W.mg_none_of KX G ?y13) ?_
    · k_is
    refine' Ev.all_cons (PySem.W.mg_none_of KX G ?y14) ?_
    · k_is
    refine' Ev.all_cons (PySem.W.mg_none_of KX G ?y15) ?_
    · k_is
    exact Ev.all_nil
  · show ∀ x d, (x, d) ∈ K96.T.con → Ev.ConAt _ _ x d
    refine Ev.con_all ?_
    refine' Ev.all_cons (Ev.con_int KX G ?z0) ?w0
    (case z0 => k_is)
    refine' Ev.all_cons (Ev.con_str KX G ?z1) ?w1
    (case z1 => k_is)
    refine' Ev.all_cons (Ev.con_str KX G ?z2) ?w2
    (case z2 => k_is)
    refine' Ev.all_cons (Ev.con_int KX G ?z3) ?w3
    (case z3 => k_is)
    refine' Ev.all_cons (Ev.con_int KX G ?z4) ?w4
    (case z4 => k_is)
    refine' Ev.all_cons (Ev.con_int KX G ?z5) ?w5
    (case z5 => k_is)
    exact Ev.all_nil
