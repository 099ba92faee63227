import PyProof.Rows.All
import Wide.All
import OpenK.AllK
import Wide.FinOn
import HandS.ForMost
import HandS.ForExc
import HandS.Text
import KE.SortData
import HandS.ExcIs
import HandS.Small
import HandS.TryMany
import HandS.TryOnly
import HandS.TupAny
import HandS.Wide
import HandS.TupMul
import HandS.Deep
import HandS.IsInst
import HandS.Style
import HandS.Rev
import HandS.CallSlots
import KE.DataCmp
import HandS.TupLen
import HandS.Conv
import KE.DataMinMax
import HandS.Walk
import HandS.Dict
import HandS.Zip
import HandS.RevRange
import KE.KDictPairs
import HandS.DictComp
import HandS.SortKw
import HandS.SetFor
import HandS.Strs
import KE.GoesEnum
import KE.KDictDisplayH
import PySem.Challenge.RW_foldandbound_k18_whole_nested_sections
set_option Elab.async false
set_option linter.all false
set_option maxRecDepth 100000
/-! PD: an evaluator of a part of Python over plain data. -/
namespace PD
open PySem

inductive D where
  | non | bl (b : Bool) | int (i : Int) | str (s : Str)
  | tup (xs : List D) | lst (xs : List D) | dict (t : Bool) (ks vs : List D) | ctup (ss : List Str) | pool

structure PSt where
  cells : List Int
  idx : Nat
  cur : Int
  cnt : Int
  salt : Int

inductive Out (α : Type) where
  | ok (a : α) (p : PSt) | exc (c : Str) (xs : List D) (p : PSt) | bad

theorem nr {α : Sort _} {a b : α} (h : a = b) : a = b := h
def Out.bind {α β : Type} : Out α → (α → PSt → Out β) → Out β
  | .ok a p, f => f a p
  | .exc c xs p, _ => .exc c xs p
  | .bad, _ => .bad
@[simp] theorem Out.bind_ok {α β : Type} (a : α) (p : PSt) (f : α → PSt → Out β) : (Out.ok a p).bind f = f a p := nr rfl
@[simp] theorem Out.bind_exc {α β : Type} (c xs) (p : PSt) (f : α → PSt → Out β) : (Out.exc c xs p).bind f = .exc c xs p := nr rfl
@[simp] theorem Out.bind_bad {α β : Type} (f : α → PSt → Out β) : (Out.bad).bind f = .bad := nr rfl
def lift {α : Type} (o : Option α) (p : PSt) : Out α := match o with
  | some a => .ok a p
  | none => .bad
@[simp] theorem lift_some {α : Type} (a : α) (p : PSt) : lift (some a) p = .ok a p := nr rfl
@[simp] theorem lift_none {α : Type} (p : PSt) : lift (none : Option α) p = .bad := nr rfl

/-! ### values -/
mutual
def toPy : D → PyData
  | .non => .none
  | .bl b => .bool b
  | .int i => .int i
  | .str s => .str s
  | .tup xs => .tuple (toPys xs)
  | .lst xs => .list (toPys xs)
  | .dict _ _ _ => .none
  | .ctup _ => .none
  | .pool => .none
def toPys : List D → List PyData
  | [] => []
  | x :: xs => toPy x :: toPys xs
end
/-- how a value is shown -/
def reprD (d : D) : Str := (toPy d).shown
mutual
def D.eqv : D → D → Bool
  | .non, .non => true
  | .bl a, .bl b => a == b
  | .bl a, .int j => (if a then 1 else 0) == j
  | .int i, .bl b => i == (if b then 1 else 0)
  | .int i, .int j => i == j
  | .str x, .str y => x == y
  | .lst xs, .lst ys => D.eqvs xs ys
  | .tup xs, .tup ys => D.eqvs xs ys
  | _, _ => false
def D.eqvs : List D → List D → Bool
  | [], [] => true
  | x :: xs, y :: ys => D.eqv x y && D.eqvs xs ys
  | _, _ => false
end
def strOkD (x : Str) : Bool := PyData.strOk x
mutual
def D.fits : Nat → D → Bool
  | _, .non => true
  | _, .bl _ => true
  | _, .int _ => true
  | _, .str x => strOkD x
  | n, .lst xs => match n with
    | 0 => false
    | n + 1 => D.fitsL n xs
  | n, .tup xs => match n with
    | 0 => false
    | n + 1 => D.fitsL n xs
  | _, .dict _ _ _ => false
  | _, .ctup _ => false
  | _, .pool => false
def D.fitsL : Nat → List D → Bool
  | _, [] => true
  | n, x :: xs => D.fits n x && D.fitsL n xs
end
def reprOk (d : D) : Bool := D.fits 60 d && (toPy d).showable && decide ((toPy d).shown.length ≤ sizeLine)
/-! ### keys of dicts -/
def kD : L2.Key → D
  | .inl i => .int i
  | .inr s => .str s
def keyD : D → Option L2.Key
  | .int i => some (.inl i)
  | .str s => some (.inr s)
  | _ => none
def keysD : List D → Option (List L2.Key)
  | [] => some []
  | d :: r => match keyD d, keysD r with
    | some k, some ks => some (k :: ks)
    | _, _ => none
/-- a key of a dict: t tells whether its keys are tuples -/
def isKey : Bool → D → Bool
  | true, .tup xs => (keysD xs).isSome
  | false, d => (keyD d).isSome
  | _, _ => false
def keq1 : D → D → Bool
  | .int i, .int j => i == j
  | .str x, .str y => x == y
  | _, _ => false
def keqL : List D → List D → Bool
  | [], [] => true
  | x :: xs, y :: ys => keq1 x y && keqL xs ys
  | _, _ => false
/-- keys alike -/
def keq : D → D → Bool
  | .tup xs, .tup ys => keqL xs ys
  | x, y => keq1 x y
def dget : List D → List D → D → Option D
  | k :: ks, v :: vs, x => if keq k x = true then some v else dget ks vs x
  | _, _, _ => none
def dhas (ks : List D) (x : D) : Bool := ks.any fun k => keq k x
def dputV : List D → List D → D → D → List D
  | k :: ks, v :: vs, x, y => if keq k x = true then y :: vs else v :: dputV ks vs x y
  | _, _, _, y => [y]
def dputK (ks : List D) (x : D) : List D := if dhas ks x = true then ks else ks ++ [x]
def ddelV : List D → List D → D → List D
  | k :: ks, v :: vs, x => if keq k x = true then vs else v :: ddelV ks vs x
  | _, _, _ => []
def ddelK (ks : List D) (x : D) : List D := ks.filter fun k => !keq k x
mutual
/-- no object in it that can change -/
def D.clean : D → Bool
  | .lst _ => false
  | .dict _ _ _ => false
  | .pool => false
  | .tup xs => D.cleanL xs
  | _ => true
def D.cleanL : List D → Bool
  | [] => true
  | x :: xs => D.clean x && D.cleanL xs
end
mutual
def D.noDict : D → Bool
  | .dict _ _ _ => false
  | .tup xs => D.noDictL xs
  | .lst xs => D.noDictL xs
  | _ => true
def D.noDictL : List D → Bool
  | [] => true
  | x :: xs => D.noDict x && D.noDictL xs
end
def eqD : D → D → Option Bool
  | .str x, .str y => some (x == y)
  | a, b => if D.fits 60 a && D.fits 60 b then some (D.eqv a b) else none
/-- in a list or tuple -/
def inD (x : D) (xs : List D) : Option Bool := if D.fits 60 x && D.fitsL 60 xs then some (xs.any fun y => D.eqv y x) else none

def addD : D → D → Option D
  | .int i, .int j => some (.int (i + j))
  | .str a, .str b => if a.length + b.length ≤ sizeLine then some (.str (a ++ b)) else none
  | .lst a, .lst b => if a.length + b.length ≤ sizeLine then some (.lst (a ++ b)) else none
  | .tup a, .tup b => if a.length + b.length ≤ sizeLine then some (.tup (a ++ b)) else none
  | _, _ => none
def subD : D → D → Option D
  | .int i, .int j => some (.int (i - j))
  | _, _ => none
def small64 (i : Int) : Bool := decide (-(2 ^ 64) < i ∧ i < 2 ^ 64)
def repN {α : Type} (xs : List α) (k : Int) : List α := (List.replicate k.toNat xs).flatten
def mulD : D → D → Option D
  | .int i, .int j => if small64 i || small64 j then some (.int (i * j)) else none
  | .lst xs, .int k => if -(2 ^ 63) ≤ k ∧ k < 2 ^ 63 ∧ xs.length * k.toNat ≤ sizeLine then some (.lst (repN xs k)) else none
  | .tup xs, .int k => if xs.length ≤ 1000 ∧ -1000 ≤ k ∧ k ≤ 1000 then some (.tup (repN xs k)) else none
  | _, _ => none
def fdivD : D → D → Option D
  | .int i, .int j => if 0 < j ∧ j < 9223372036854775808 then some (.int (i / j)) else none
  | _, _ => none
def modD : D → D → Option D
  | .int i, .int j => if 0 < j then some (.int (i % j)) else none
  | _, _ => none
def powD : D → D → Option D
  | .int i, .int j => if 0 ≤ j ∧ j ≤ 1000 ∧ small64 i = true then some (.int (i ^ j.toNat)) else none
  | _, _ => none
def xorD : D → D → Option D
  | .int i, .int j => some (.int (Builtin.bitXor i j))
  | _, _ => none
def negD : D → Option D
  | .int i => some (.int (-i))
  | _ => none
inductive Bop where
  | add | sub | mul | fdiv | mod | pow | xor
  deriving DecidableEq
def binD : Bop → D → D → Option D
  | .add => addD
  | .sub => subD
  | .mul => mulD
  | .fdiv => fdivD
  | .mod => modD
  | .pow => powD
  | .xor => xorD

mutual
def D.ltv : Nat → D → D → Option Bool
  | _, .int i, .int j => some (decide (i < j))
  | _, .str x, .str y => some (decide (x.cps.toList < y.cps.toList))
  | n, .tup xs, .tup ys => match n with
    | 0 => none
    | n + 1 => D.ltvs n xs ys
  | n, .lst xs, .lst ys => match n with
    | 0 => none
    | n + 1 => D.ltvs n xs ys
  | _, _, _ => none
def D.ltvs : Nat → List D → List D → Option Bool
  | _, [], [] => some false
  | _, [], _ :: _ => some true
  | _, _ :: _, [] => some false
  | n, x :: xs, y :: ys => match eqD x y with
    | none => none
    | some true => D.ltvs n xs ys
    | some false => D.ltv n x y
end
/-- x < y for tuples, texts, lists -/
def ltD (a b : D) : Option Bool := if D.fits 60 a && D.fits 60 b && PySem.W.alike (toPy a) (toPy b) then some (PySem.W.dataLt (toPy a) (toPy b)) else none
inductive Cop where
  | eq | ne | lt | le | gt | ge | isin | notin
  deriving DecidableEq
def cmpD : Cop → D → D → Option Bool
  | .eq, a, b => eqD a b
  | .ne, a, b => (eqD a b).map (!·)
  | .lt, .int i, .int j => some (decide (i < j))
  | .le, .int i, .int j => some (decide (i ≤ j))
  | .gt, .int i, .int j => some (decide (j < i))
  | .ge, .int i, .int j => some (decide (j ≤ i))
  | .lt, .tup a, .tup b => ltD (.tup a) (.tup b)
  | .lt, .str a, .str b => ltD (.str a) (.str b)
  | .le, .tup a, .tup b => (ltD (.tup b) (.tup a)).map (!·)
  | .gt, .tup a, .tup b => ltD (.tup b) (.tup a)
  | .ge, .tup a, .tup b => (ltD (.tup a) (.tup b)).map (!·)
  | .isin, x, .tup xs => inD x xs
  | .isin, x, .lst xs => inD x xs
  | .notin, x, .tup xs => (inD x xs).map (!·)
  | .notin, x, .lst xs => (inD x xs).map (!·)
  | .isin, x, .dict t ks _ => if isKey t x = true then some (dhas ks x) else none
  | .notin, x, .dict t ks _ => if isKey t x = true then some (!dhas ks x) else none
  | .isin, .str x, .ctup ss => if strOkD x && ss.all strOkD then some (ss.contains x) else none
  | .isin, .str x, .str y => match x.cps with
    | ⟨[c]⟩ => some (decide (c ∈ y.cps.toList))
    | _ => none
  | .notin, .str x, .str y => match x.cps with
    | ⟨[c]⟩ => some (!decide (c ∈ y.cps.toList))
    | _ => none
  | _, _, _ => none

def isNonD : D → Bool
  | .non => true
  | _ => false
def truthD : D → Option Bool
  | .bl b => some b
  | _ => none
/-- the items that a for walks -/
def itemsD : D → Option (List D)
  | .lst xs => some xs
  | .tup xs => some xs
  | .ctup ss => some (ss.map .str)
  | .str z => some (z.cps.toList.map fun c => .str ⟨#[c]⟩)
  | _ => none
/-- xs[i] -/
def idxD : D → D → Option D
  | .lst xs, .int i => L2.atI xs i
  | .tup xs, .int i => L2.atI xs i
  | .str z, .int i => if z.length ≤ sizeLine then (L2.atI z.cps.toList i).map fun c => .str ⟨#[c]⟩ else none
  | .dict t ks vs, x => if isKey t x = true then dget ks vs x else none
  | _, _ => none
def cutD {α : Type} (xs : List α) (lo hi : Option Int) : List α := (xs.drop (HT.sIx xs.length 0 lo)).take (HT.sIx xs.length xs.length hi - HT.sIx xs.length 0 lo)
def sliceD : D → Option Int → Option Int → Option D
  | .lst xs, lo, hi => some (.lst (cutD xs lo hi))
  | .tup xs, lo, hi => some (.tup (cutD xs lo hi))
  | .str z, lo, hi => if z.length ≤ sizeLine then some (.str (L2.cutS z lo hi)) else none
  | _, _, _ => none
def revD : D → Option D
  | .lst xs => some (.lst xs.reverse)
  | .tup xs => some (.tup xs.reverse)
  | _ => none
def intsD : List D → Option (List Int)
  | [] => some []
  | .int i :: r => (intsD r).map (i :: ·)
  | _ => none
def blsD : List D → Option (List Bool)
  | [] => some []
  | .bl b :: r => (blsD r).map (b :: ·)
  | _ => none
inductive Ty where
  | int | bool | str | tuple | list | dict
  deriving DecidableEq
def isD : Ty → D → Option Bool
  | _, .pool => none
  | _, .dict _ _ _ => none
  | _, .ctup _ => none
  | .int, .int _ => some true
  | .int, .bl _ => some true
  | .bool, .bl _ => some true
  | .str, .str _ => some true
  | .tuple, .tup _ => some true
  | .list, .lst _ => some true
  | _, _ => some false

/-- a module's constant; a class is no value -/
def gtv (gt : Str → Option D) (x : Str) : Option D := match gt x with
  | some .pool => none
  | o => o
/-- the known classes of exceptions -/
def clsB (gt : Str → Option D) (c : Str) : Bool := match gt c with
  | some .pool => true
  | _ => false
def ownB (c : Str) : Bool := !(c == ("ValueError" : Str))
/-- one class of exceptions is below another: all are below ShopError, which is below ValueError -/
def subB (c h : Str) : Bool := c == h || h == ("ShopError" : Str) || h == ("ValueError" : Str)
/-! ### expressions -/
inductive Bi where
  | len | sum | max1 | min1 | max2 | min2 | abs | tuple | list | all | any | int | repr | sorted
  deriving DecidableEq
inductive Tg where
  | name (i : Nat) | tup (is : List Nat)
inductive E where
  | nil | cons (a r : E)
  | var (i : Nat) | glob (x : Str)
  | int (i : Int) | str (s : Str) | bl (b : Bool) | non
  | bin (o : Bop) (a b : E) | neg (a : E)
  | cmp (o : Cop) (a b : E) | chain (o o' : Cop) (a b c : E)
  | isn (a : E) | notn (a : E)
  | not (a : E) | and (a b : E) | or (a b : E) | ite (c a b : E)
  | tup (es : E) | lst (es : E)
  | idx (a i : E) | sl (a lo hi : E) | rev (a : E)
  | call (f : Str) (es : E)
  | bi (b : Bi) (es : E) | isi (a : E) (t : Ty)
  | pfld (i k : Nat) | plen (i : Nat) | pcell (i : Nat)
  | rng1 (a : E) | rng2 (a b : E) | zip (a b : E) | revd (a : E)
  | rng3 (a b c : E) | revr (a : E)
  | lzip (a b : E) | trev (a : E) | lrng (a : E) | trng (a : E)
  | sortr (a : E) | sortset (a : E) | lenset (a : E) | mind (a : E) (i : Int)
  | index (a b : E) | count (a b : E)
  | dnew (t : Bool) | dget (a k : E) | dget2 (a k d : E) | dpairs (t : Bool) (a : E) | dcopy (a : E)
  | dcomp (k v : E) (tg : Tg) (it : E) (c : E)
  | compD (elt : E) (tg : Tg) (i : Nat) (c : E)
  | comp (elt : E) (tg : Tg) (it : E) (c : E)
  | ddisp1 (k v : E) | ddisp2 (k v k2 v2 : E) | ddispT (k v k2 v2 : E)
  | pick (ks : List Str) (es : E) (k : E)

abbrev Env := List (Option D)
def setEnv (env : Env) (i : Nat) (d : D) : Env := env.set i (some d)
def setEnvs : Env → List Nat → List D → Env
  | env, i :: is, d :: ds => setEnvs (setEnv env i d) is ds
  | env, _, _ => env
def bindTg : Tg → D → Env → Option Env
  | .name i, d, env => some (setEnv env i d)
  | .tup is, .tup ds, env => if ds.length = is.length then some (setEnvs env is ds) else none
  | _, _, _ => none

def compL (f : D → PSt → Out (Option D)) : List D → List D → PSt → Out D
  | [], acc, p => .ok (.lst acc) p
  | x :: xs, acc, p => match f x p with
    | .ok none p => compL f xs acc p
    | .ok (some y) p => if acc.length < sizeLine then compL f xs (acc ++ [y]) p else .bad
    | _ => .bad

/-- a dict that grows -/
def compDL (t : Bool) (f : D → PSt → Out (Option (D × D))) : List D → List D → List D → PSt → Out D
  | [], ks, vs, p => .ok (.dict t ks vs) p
  | x :: xs, ks, vs, p => match f x p with
    | .ok none p => compDL t f xs ks vs p
    | .ok (some (k, v)) p => if ks.length < sizeLine && isKey t k then compDL t f xs (dputK ks k) (dputV ks vs k v) p else .bad
    | _ => .bad
def optInt : D → Option (Option Int)
  | .int i => some (some i)
  | _ => none
def rangeL (lo : Int) (n : Nat) : List D := (List.range n).map fun (k : Nat) => .int (lo + (k : Int))
def in62 (i : Int) : Bool := decide (-(2 ^ 62) ≤ i ∧ i < 2 ^ 62)
def rngD : List D → Option D
  | [.int n] => if in62 n then some (.lst (rangeL 0 n.toNat)) else none
  | [.int a, .int b] => if in62 a && in62 b then some (.lst (rangeL a (b - a).toNat)) else none
  | _ => none
def zipL : List D → List D → List D
  | x :: xs, y :: ys => .tup [x, y] :: zipL xs ys
  | _, _ => []
def pairsL (t : Bool) : List D → List D → List D → Option D
  | [], ks, vs => some (.dict t ks vs)
  | .tup [k, v] :: r, ks, vs => if isKey t k = true then pairsL t r (dputK ks k) (dputV ks vs k v) else none
  | _, _, _ => none
def pairsD (t : Bool) : D → Option D
  | .lst xs => if xs.length ≤ sizeLine then pairsL t xs [] [] else none
  | _ => none
def rng3D : List D → Option D
  | [.int a, .int b, .int c] => if in62 a && in62 b && decide (0 < c ∧ c < 1073741824) then some (.lst ((List.range ((b - a + c - 1) / c).toNat).map fun (k : Nat) => .int (a + (k : Int) * c))) else none
  | _ => none
/-- a list with the order of Python -/
def leD (a b : D) : Bool := !PySem.W.dataLt (toPy b) (toPy a)
def isTupD : D → Bool
  | .tup (_ :: _) => true
  | _ => false
def atomD : D → Bool
  | .int _ => true
  | .str _ => true
  | _ => false
def sortOk (xs : List D) : Bool := D.fitsL 60 xs && decide (xs.length ≤ sizeLine) && xs.all (fun x => xs.all fun y => PySem.W.alike (toPy x) (toPy y)) && (xs.all isTupD || xs.all atomD)
def sortD : D → Option D
  | .lst xs => if sortOk xs = true then some (.lst (xs.mergeSort leD)) else none
  | .tup xs => if sortOk xs = true then some (.lst (xs.mergeSort leD)) else none
  | _ => none
def sortrD : D → Option D
  | .lst xs => match intsD xs with
    | some ns => if ns.length ≤ sizeLine then some (.lst ((ns.mergeSort fun a b => decide (b ≤ a)).map .int)) else none
    | none => none
  | _ => none
/-- each once, as they come -/
def onceL (xs : List Int) : List Int := xs.foldl (fun acc x => if acc.contains x then acc else acc ++ [x]) []
def placeD (x : D) : List D → Option Nat
  | [] => none
  | y :: ys => if D.eqv y x = true then some 0 else (placeD x ys).map (· + 1)
/-- what zip gives of lists and tuples -/
def zipD : D → D → Option D
  | .lst xs, .lst ys => some (.lst (zipL xs ys))
  | .tup xs, .tup ys => some (.lst (zipL xs ys))
  | .lst xs, .tup ys => some (.lst (zipL xs ys))
  | .tup xs, .lst ys => some (.lst (zipL xs ys))
  | _, _ => none
/-- list(zip(a, b)) of two tuples -/
def lzipD : D → D → Option D
  | .tup xs, .tup ys => some (.lst (zipL xs ys))
  | _, _ => none
def maxI : List Int → Option Int
  | [] => none
  | x :: xs => some (xs.foldl (fun m y => if y > m then y else m) x)
def minI : List Int → Option Int
  | [] => none
  | x :: xs => some (xs.foldl (fun m y => if y < m then y else m) x)
/-- the least of alike data, the first of it -/
def minT (x : D) (xs : List D) : D := xs.foldl (fun a y => if PySem.W.dataLt (toPy y) (toPy a) = true then y else a) x
def minTD : List D → Option D
  | [] => none
  | x :: r => if (sortOk (x :: r) && D.clean (minT x r)) = true then some (minT x r) else none
def min1D (xs : List D) : Option D := match intsD xs with
  | some ns => (minI ns).map .int
  | none => minTD xs
def biD : Bi → List D → Option D
  | .len, [.lst xs] => some (.int xs.length)
  | .len, [.tup xs] => some (.int xs.length)
  | .len, [.str z] => if z.length ≤ sizeLine then some (.int z.length) else none
  | .sum, [.lst xs] => (intsD xs).map fun ns => .int ns.sum
  | .sum, [.tup xs] => (intsD xs).map fun ns => .int ns.sum
  | .max1, [.lst xs] => (intsD xs).bind fun ns => (maxI ns).map .int
  | .min1, [.lst xs] => min1D xs
  | .max2, [.int i, .int j] => some (.int (if j > i then j else i))
  | .min2, [.int i, .int j] => some (.int (if j < i then j else i))
  | .abs, [.int i] => some (.int (if i < 0 then -i else i))
  | .tuple, [.lst xs] => some (.tup xs)
  | .tuple, [.tup xs] => some (.tup xs)
  | .list, [.lst xs] => some (.lst xs)
  | .list, [.tup xs] => some (.lst xs)
  | .all, [.lst xs] => (blsD xs).map fun bs => .bl (bs.all id)
  | .int, [.int i] => some (.int i)
  | .int, [.bl b] => some (.int (if b = true then 1 else 0))
  | .repr, [d] => if reprOk d then some (.str (reprD d)) else none
  | .any, [.lst xs] => (blsD xs).map fun bs => .bl (bs.any id)
  | .len, [.dict _ ks _] => some (.int ks.length)
  | .len, [.ctup ss] => some (.int ss.length)
  | .list, [.dict _ ks _] => some (.lst ks)
  | .sorted, [d] => sortD d
  | _, _ => none

/-- tuple.index, tuple.count of ints -/
def indexD : D → D → Option D
  | .tup xs, .int k => (intsD xs).bind fun ns => (ns.idxOf? k).map fun j => .int (j : Nat)
  | _, _ => none
def countD : D → D → Option D
  | .tup xs, .int k => (intsD xs).map fun ns => .int (ns.count k : Nat)
  | _, _ => none
def pickD (ks : List Str) (xs : List D) : D → Option D
  | .str s => if ks.length = xs.length ∧ D.noDictL xs = true then (ks.zip xs).lookup s else none
  | _ => none
def fldP (p : PSt) : Nat → Option Int
  | 1 => some p.idx
  | 2 => some p.cur
  | 3 => some p.cnt
  | 4 => some p.salt
  | _ => none
def setP (p : PSt) : Nat → Int → Option PSt
  | 1, j => if 0 ≤ j ∧ j ≤ p.cells.length then some { p with idx := j.toNat } else none
  | 2, j => some { p with cur := j }
  | 3, j => some { p with cnt := j }
  | 4, j => some { p with salt := j }
  | _, _ => none
def isPool (env : Env) (i : Nat) : Bool := match env[i]? with
  | some (some .pool) => true
  | _ => false
section
variable (cf : Str → List D → PSt → Out D) (gt : Str → Option D)
mutual
def evalE : E → Env → PSt → Out D
  | .var i, env, p => match env[i]? with
    | some (some d) => .ok d p
    | _ => .bad
  | .glob x, _, p => lift (gtv gt x) p
  | .int i, _, p => .ok (.int i) p
  | .str s, _, p => .ok (.str s) p
  | .bl b, _, p => .ok (.bl b) p
  | .non, _, p => .ok .non p
  | .bin o a b, env, p => (evalE a env p).bind fun x p => (evalE b env p).bind fun y p => lift (binD o x y) p
  | .neg a, env, p => (evalE a env p).bind fun x p => lift (negD x) p
  | .cmp o a b, env, p => (evalE a env p).bind fun x p => (evalE b env p).bind fun y p => lift ((cmpD o x y).map .bl) p
  | .chain o o' a b c, env, p => (evalE a env p).bind fun x p => (evalE b env p).bind fun y p => match cmpD o x y with
    | some true => (evalE c env p).bind fun z p => lift ((cmpD o' y z).map .bl) p
    | some false => .ok (.bl false) p
    | none => .bad
  | .isn a, env, p => (evalE a env p).bind fun x p => .ok (.bl (isNonD x)) p
  | .notn a, env, p => (evalE a env p).bind fun x p => .ok (.bl (!isNonD x)) p
  | .not a, env, p => (evalE a env p).bind fun x p => match truthD x with
    | some b => .ok (.bl (!b)) p
    | none => .bad
  | .and a b, env, p => (evalE a env p).bind fun x p => match x with
    | .bl true => evalE b env p
    | .bl false => .ok (.bl false) p
    | _ => .bad
  | .or a b, env, p => (evalE a env p).bind fun x p => match x with
    | .bl true => .ok (.bl true) p
    | .bl false => evalE b env p
    | _ => .bad
  | .ite c a b, env, p => (evalE c env p).bind fun x p => match truthD x with
    | some true => evalE a env p
    | some false => evalE b env p
    | none => .bad
  | .tup es, env, p => (evalEs es env p).bind fun xs p => if xs.length ≤ sizeLine then .ok (.tup xs) p else .bad
  | .lst es, env, p => (evalEs es env p).bind fun xs p => if xs.length ≤ sizeLine then .ok (.lst xs) p else .bad
  | .idx a i, env, p => (evalE a env p).bind fun x p => (evalE i env p).bind fun y p => lift (idxD x y) p
  | .sl a lo hi, env, p => (evalE a env p).bind fun x p => (evalO lo env p).bind fun l p => (evalO hi env p).bind fun h p => lift (sliceD x l h) p
  | .rev a, env, p => (evalE a env p).bind fun x p => lift (revD x) p
  | .call f es, env, p => (evalEs es env p).bind fun xs p => cf f xs p
  | .bi b es, env, p => (evalEs es env p).bind fun xs p => lift (biD b xs) p
  | .isi a t, env, p => (evalE a env p).bind fun x p => lift ((isD t x).map .bl) p
  | .pfld i k, env, p => if isPool env i = true then lift ((fldP p k).map .int) p else .bad
  | .plen i, env, p => if isPool env i = true then .ok (.int p.cells.length) p else .bad
  | .pcell i, env, p => if isPool env i = true then lift ((p.cells[p.idx]?).map .int) p else .bad
  | .rng1 a, env, p => (evalE a env p).bind fun x p => lift (rngD [x]) p
  | .rng2 a b, env, p => (evalE a env p).bind fun x p => (evalE b env p).bind fun y p => lift (rngD [x, y]) p
  | .zip a b, env, p => (evalE a env p).bind fun x p => (evalE b env p).bind fun y p => lift (zipD x y) p
  | .revd a, env, p => (evalE a env p).bind fun x p => match x with
    | .lst xs => .ok (.lst xs.reverse) p
    | .tup xs => .ok (.lst xs.reverse) p
    | _ => .bad
  | .comp elt tg it c, env, p => (evalE it env p).bind fun x p => match itemsD x with
    | none => .bad
    | some xs => compL (fun x p => match bindTg tg x env with
      | none => .bad
      | some env' => (evalC c env' p).bind fun b p => if b = true then (evalE elt env' p).bind fun y p => .ok (some y) p else .ok none p) xs [] p
  | .pick ks es k, env, p => (evalEs es env p).bind fun xs p => (evalE k env p).bind fun y p => lift (pickD ks xs y) p
  | .rng3 a b c, env, p => (evalE a env p).bind fun x p => (evalE b env p).bind fun y p => (evalE c env p).bind fun z p => lift (rng3D [x, y, z]) p
  | .revr a, env, p => (evalE a env p).bind fun x p => match x with
    | .int n => if in62 n then .ok (.lst (rangeL 0 n.toNat).reverse) p else .bad
    | _ => .bad
  | .lzip a b, env, p => (evalE a env p).bind fun x p => (evalE b env p).bind fun y p =>
    lift (lzipD x y) p
  | .trev a, env, p => (evalE a env p).bind fun x p => match x with
    | .lst xs => .ok (.tup xs.reverse) p
    | _ => .bad
  | .lrng a, env, p => (evalE a env p).bind fun x p => match x with
    | .int n => if in62 n && decide (n ≤ 16777216) then .ok (.lst (rangeL 0 n.toNat)) p else .bad
    | _ => .bad
  | .trng a, env, p => (evalE a env p).bind fun x p => match x with
    | .int n => if in62 n && decide (n ≤ 16777216) then .ok (.tup (rangeL 0 n.toNat)) p else .bad
    | _ => .bad
  | .sortr a, env, p => (evalE a env p).bind fun x p => lift (sortrD x) p
  | .sortset a, env, p => (evalE a env p).bind fun x p => match x with
    | .lst xs => match intsD xs with
      | some ns => if ns.length ≤ 4000 ∧ (onceL ns).length < 64 then .ok (.lst (((onceL ns).mergeSort fun a b => decide (a ≤ b)).map .int)) p else .bad
      | none => .bad
    | _ => .bad
  | .lenset a, env, p => (evalE a env p).bind fun x p => match x with
    | .lst xs => match intsD xs with
      | some ns => if ns.length ≤ 4000 then .ok (.int (onceL ns).length) p else .bad
      | none => .bad
    | _ => .bad
  | .mind a i, env, p => (evalE a env p).bind fun x p => match x with
    | .lst xs => match intsD xs with
      | some ns => .ok (.int ((minI ns).getD i)) p
      | none => .bad
    | _ => .bad
  | .index a b, env, p => (evalE a env p).bind fun x p => (evalE b env p).bind fun y p => lift (indexD x y) p
  | .count a b, env, p => (evalE a env p).bind fun x p => (evalE b env p).bind fun y p => lift (countD x y) p
  | .dnew t, _, p => .ok (.dict t [] []) p
  | .dget a k, env, p => (evalE a env p).bind fun x p => match x with
    | .dict t ks vs => (evalE k env p).bind fun y p => if isKey t y = true then .ok ((dget ks vs y).getD .non) p else .bad
    | _ => .bad
  | .dget2 a k d, env, p => (evalE a env p).bind fun x p => match x with
    | .dict t ks vs => (evalE k env p).bind fun y p => (evalE d env p).bind fun z p => if isKey t y = true then .ok ((dget ks vs y).getD z) p else .bad
    | _ => .bad
  | .dpairs t a, env, p => (evalE a env p).bind fun x p => lift (pairsD t x) p
  | .dcopy a, env, p => (evalE a env p).bind fun x p => match x with
    | .dict false ks vs => .ok (.dict false ks vs) p
    | _ => .bad
  | .dcomp k v tg it c, env, p => (evalE it env p).bind fun x p => match itemsD x with
    | none => .bad
    | some xs => compDL false (fun x p => match bindTg tg x env with
      | none => .bad
      | some env' => (evalC c env' p).bind fun b p => if b = true then (evalE k env' p).bind fun x p => (evalE v env' p).bind fun y p => .ok (some (x, y)) p else .ok none p) xs [] [] p
  | .compD elt tg i c, env, p => match env[i]? with
    | some (some (.dict _ ks _)) => compL (fun x p => match bindTg tg x env with
      | none => .bad
      | some env' => (evalC c env' p).bind fun b p => if b = true then (evalE elt env' p).bind fun y p => if D.noDict y = true then .ok (some y) p else .bad else .ok none p) ks [] p
    | _ => .bad
  | .ddisp1 k v, env, p => (evalE k env p).bind fun x p => (evalE v env p).bind fun y p => if isKey false x = true then .ok (.dict false [x] [y]) p else .bad
  | .ddisp2 k v k2 v2, env, p => (evalE k env p).bind fun x p => (evalE v env p).bind fun y p => (evalE k2 env p).bind fun x2 p => (evalE v2 env p).bind fun y2 p =>
    if isKey false x && isKey false x2 then .ok (.dict false (dputK [x] x2) (dputV [x] [y] x2 y2)) p else .bad
  | .ddispT k v k2 v2, env, p => (evalE k env p).bind fun x p => (evalE v env p).bind fun y p => (evalE k2 env p).bind fun x2 p => (evalE v2 env p).bind fun y2 p =>
    if isKey true x && isKey true x2 then .ok (.dict true (dputK [x] x2) (dputV [x] [y] x2 y2)) p else .bad
  | .nil, _, _ => .bad
  | .cons _ _, _, _ => .bad
def evalEs : E → Env → PSt → Out (List D)
  | .nil, _, p => .ok [] p
  | .cons a r, env, p => (evalE a env p).bind fun x p => (evalEs r env p).bind fun xs p => .ok (x :: xs) p
  | _, _, _ => .bad
/-- a part of a slice -/
def evalO : E → Env → PSt → Out (Option Int)
  | .nil, _, p => .ok none p
  | .cons a .nil, env, p => (evalE a env p).bind fun x p => lift (optInt x) p
  | _, _, _ => .bad
/-- a comprehension's test -/
def evalC : E → Env → PSt → Out Bool
  | .nil, _, p => .ok true p
  | .cons a .nil, env, p => (evalE a env p).bind fun x p => lift (truthD x) p
  | _, _, _ => .bad
end
end

/-! ### which slots' own objects a value may hold -/
def E.isVar : E → Bool
  | .var _ => true
  | _ => false
/-- a list's members, each once -/
def onceN : List Nat → List Nat
  | [] => []
  | i :: is => if is.contains i then onceN is else i :: onceN is
theorem onceN_mem (j : Nat) : ∀ is : List Nat, j ∈ onceN is ↔ j ∈ is
  | [] => Iff.rfl
  | i :: is => by
    unfold onceN
    have ih := onceN_mem j is
    split
    · rename_i h
      have h : i ∈ is := List.contains_iff_mem.mp h
      rw [ih, List.mem_cons]
      constructor
      · exact fun z => .inr z
      · rintro (rfl | z)
        · exact h
        · exact z
    · rw [List.mem_cons, List.mem_cons, ih]
/-- the slots that a target sets -/
def Tg.own : Tg → List Nat
  | .name i => [i]
  | .tup is => onceN is
mutual
def escE : E → List Nat
  | .var i => [i]
  | .bin _ a b => escB a ++ escB b
  | .and _ b => escE b
  | .or _ b => escE b
  | .ite _ a b => escE a ++ escE b
  | .tup es => escE es
  | .lst es => escE es
  | .cons a r => escE a ++ escE r
  | .idx a _ => escB a
  | .sl a _ _ => escB a
  | .rev a => escB a
  | .call _ es => escE es
  | .bi b es => match b with
    | .tuple => escBs es
    | .list => escBs es
    | .sorted => escBs es
    | _ => []
  | .zip a b => escE a ++ escE b
  | .revd a => escE a
  | .comp elt tg it _ => escE it ++ (escE elt).filter (fun i => !tg.own.contains i)
  | .pick _ es _ => escE es
  | .lzip a b => escE a ++ escE b
  | .trev a => escB a
  | .sortset a => escB a
  | .lenset a => escB a
  | .sortr a => escB a
  | .dget a _ => escB a
  | .dget2 a _ d => escB a ++ escE d
  | .dpairs _ a => escB a
  | .dcopy a => escB a
  | .ddisp1 _ v => escE v
  | .ddisp2 _ v _ v2 => escE v ++ escE v2
  | .ddispT _ v _ v2 => escE v ++ escE v2
  | .dcomp k v tg it _ => escE it ++ (escE v).filter (fun i => !tg.own.contains i)
  | .compD elt tg _ _ => (escE elt).filter (fun i => !tg.own.contains i)
  | _ => []
def escB : E → List Nat
  | .var _ => []
  | .bin _ a b => escB a ++ escB b
  | .and _ b => escE b
  | .or _ b => escE b
  | .ite _ a b => escE a ++ escE b
  | .tup es => escE es
  | .lst es => escE es
  | .cons a r => escE a ++ escE r
  | .idx a _ => escB a
  | .sl a _ _ => escB a
  | .rev a => escB a
  | .call _ es => escE es
  | .bi b es => match b with
    | .tuple => escBs es
    | .list => escBs es
    | .sorted => escBs es
    | _ => []
  | .zip a b => escE a ++ escE b
  | .revd a => escE a
  | .comp elt tg it _ => escE it ++ (escE elt).filter (fun i => !tg.own.contains i)
  | .pick _ es _ => escE es
  | .lzip a b => escE a ++ escE b
  | .trev a => escB a
  | .sortset a => escB a
  | .lenset a => escB a
  | .sortr a => escB a
  | .dget a _ => escB a
  | .dget2 a _ d => escB a ++ escE d
  | .dpairs _ a => escB a
  | .dcopy a => escB a
  | .ddisp1 _ v => escE v
  | .ddisp2 _ v _ v2 => escE v ++ escE v2
  | .ddispT _ v _ v2 => escE v ++ escE v2
  | .dcomp k v tg it _ => escE it ++ (escE v).filter (fun i => !tg.own.contains i)
  | .compD elt tg _ _ => (escE elt).filter (fun i => !tg.own.contains i)
  | _ => []
def escBs : E → List Nat
  | .cons a r => escB a ++ escBs r
  | _ => []
end
/-! ### statements -/
inductive Sl where
  | no | val (d : D) | own (d : D)
abbrev SEnv := List Sl
def Sl.see : Sl → Option D
  | .no => none
  | .val d => some d
  | .own d => some d
def Sl.fz : Sl → Sl
  | .own d => .val d
  | s => s
def view (env : SEnv) : Env := env.map Sl.see
def fzAt : SEnv → Nat → SEnv
  | [], _ => []
  | s :: r, 0 => s.fz :: r
  | s :: r, i + 1 => s :: fzAt r i
def fzs : SEnv → List Nat → SEnv
  | env, [] => env
  | env, i :: is => fzs (fzAt env i) is
def slOf (o : Bool) (d : D) : Sl := match o, d with
  | true, .lst xs => .own (.lst xs)
  | true, .dict t ks vs => .own (.dict t ks vs)
  | _, d => .val d
def setSs : SEnv → List Nat → List D → SEnv
  | env, i :: is, d :: ds => setSs (env.set i (.val d)) is ds
  | env, _, _ => env
def bindS : Tg → D → SEnv → Option SEnv
  | .name i, d, env => some (env.set i (.val d))
  | .tup is, .tup ds, env => if ds.length = is.length then some (setSs env is ds) else none
  | _, _, _ => none

/-! ### what an except clause gives back -/
inductive HT where
  | isi (h : Str) | not (t : HT) | and (a b : HT)
inductive HE where
  | c (d : D) | ite (t : HT) (a b : HE)
def evalHT (c : Str) : HT → Bool
  | .isi h => subB c h
  | .not t => !evalHT c t
  | .and a b => evalHT c a && evalHT c b
def evalHE (c : Str) : HE → D
  | .c d => d
  | .ite t a b => if evalHT c t = true then evalHE c a else evalHE c b
def HT.ok (gt : Str → Option D) : HT → Bool
  | .isi h => clsB gt h
  | .not t => t.ok gt
  | .and a b => a.ok gt && b.ok gt
def HE.ok (gt : Str → Option D) : HE → Bool
  | .c _ => true
  | .ite t a b => t.ok gt && a.ok gt && b.ok gt
def hdsOk (gt : Str → Option D) : List (Str × HE) → Bool
  | [] => true
  | q :: r => clsB gt q.1 && q.2.ok gt && hdsOk gt r
def hdOf (c : Str) : List (Str × HE) → Option D
  | [] => none
  | q :: r => if subB c q.1 = true then some (evalHE c q.2) else hdOf c r
inductive S where
  | skip | seq (a b : S)
  | set (i : Nat) (e : E) (o : Bool)
  | asg (is : List Nat) (e : E)
  | par (i j : Nat) (a b : E)
  | aug (i : Nat) (o : Bop) (e : E)
  | put (i : Nat) (k e : E)
  | augput (i : Nat) (k : E) (o : Bop) (e : E)
  | append (i : Nat) (e : E) | extend (i : Nat) (e : E)
  | ret (e : E) | retN
  | ite (c : E) (a b : S)
  | for (tg : Tg) (it : E) (body : S)
  | while (n : Nat) (c : E) (body : S)
  | brk | cont
  | forD (tg : Tg) (i : Nat) (body : S)
  | dupd (i : Nat) (e : E)
  | ddel (i : Nat) (k : E)
  | pput (i k : Nat) (e : E)
  | raise (c : Str) (es : E) | ex (e : E)
  | try (b : S) (nm : Option Str) (hds : List (Str × HE))

inductive Fl where
  | nx (env : SEnv) | rt (d : D) | bk (env : SEnv) | ct (env : SEnv)

def forL (f : D → SEnv → PSt → Out Fl) : List D → SEnv → PSt → Out Fl
  | [], env, p => .ok (.nx env) p
  | x :: xs, env, p => match f x env p with
    | .ok (.nx env) p => forL f xs env p
    | .ok (.ct env) p => forL f xs env p
    | .ok (.bk env) p => .ok (.nx env) p
    | .ok (.rt d) p => .ok (.rt d) p
    | .exc c ds p => .exc c ds p
    | .bad => .bad
def forF (tg : Tg) (ex : SEnv → PSt → Out Fl) (x : D) (env : SEnv) (p : PSt) : Out Fl := match bindS tg x env with
  | some env => ex env p
  | none => .bad
def whileL (c : SEnv → PSt → Out Bool) (f : SEnv → PSt → Out Fl) : Nat → SEnv → PSt → Out Fl
  | 0, _, _ => .bad
  | n + 1, env, p => match c env p with
    | .ok false p => .ok (.nx env) p
    | .ok true p => match f env p with
      | .ok (.nx env) p => whileL c f n env p
      | .ok (.ct env) p => whileL c f n env p
      | .ok (.bk env) p => .ok (.nx env) p
      | .ok (.rt d) p => .ok (.rt d) p
      | .exc c ds p => .exc c ds p
      | .bad => .bad
    | .exc c ds p => .exc c ds p
    | .bad => .bad

def noExc {α : Type} : Out α → Out α
  | .exc _ _ _ => .bad
  | o => o
/-- the slots whose objects d may hold -/
def escA (d : D) (e : E) : List Nat := if D.clean d = true then [] else escE e
section
variable (cf : Str → List D → PSt → Out D) (gt : Str → Option D)
def evalT (c : E) (env : Env) (p : PSt) : Out Bool := (evalE cf gt c env p).bind fun x p => lift (truthD x) p
def execS : S → SEnv → PSt → Out Fl
  | .skip, env, p => .ok (.nx env) p
  | .seq a b, env, p => match execS a env p with
    | .ok (.nx env) p => execS b env p
    | r => r
  | .set i e o, env, p => (evalE cf gt e (view env) p).bind fun d p => .ok (.nx ((fzs env (escA d e)).set i (slOf o d))) p
  | .asg is e, env, p => (evalE cf gt e (view env) p).bind fun d p => match bindS (.tup is) d (fzs env (escB e)) with
    | some env => .ok (.nx env) p
    | none => .bad
  | .par i j a b, env, p => (evalE cf gt a (view env) p).bind fun x p => (evalE cf gt b (view env) p).bind fun y p =>
    .ok (.nx (((fzs (fzs env (escE a)) (escE b)).set i (.val x)).set j (.val y))) p
  | .aug i o e, env, p => match env[i]? with
    | some (.val x) => (evalE cf gt e (view env) p).bind fun y p => match o, x, y with
      | .add, .int a, .int b => .ok (.nx (env.set i (.val (.int (a + b))))) p
      | .sub, .int a, .int b => .ok (.nx (env.set i (.val (.int (a - b))))) p
      | .mul, .int a, .int b => if small64 a || small64 b then .ok (.nx (env.set i (.val (.int (a * b))))) p else .bad
      | .add, .tup a, .tup b => if D.cleanL b && decide (a.length + b.length ≤ sizeLine) then .ok (.nx (env.set i (.val (.tup (a ++ b))))) p else .bad
      | _, _, _ => .bad
    | _ => .bad
  | .put i k e, env, p => (evalE cf gt e (view env) p).bind fun d p => match (fzs env (escA d e))[i]? with
    | some (.own (.lst ds)) => (evalE cf gt k (view env) p).bind fun y p => match y with
      | .int n => match L2.ixN ds.length n with
        | some j => .ok (.nx ((fzs env (escA d e)).set i (.own (.lst (ds.set j d))))) p
        | none => .bad
      | _ => .bad
    | some (.own (.dict t ks vs)) => (evalE cf gt k (view env) p).bind fun y p => if ks.length < sizeLine && isKey t y then .ok (.nx ((fzs env (escA d e)).set i (.own (.dict t (dputK ks y) (dputV ks vs y d))))) p else .bad
    | _ => .bad
  | .augput i k o e, env, p => match env[i]? with
    | some (.own (.lst ds)) => (evalE cf gt k (view env) p).bind fun y p => match y with
      | .int n => match (if 0 ≤ n then some n.toNat else none) with
        | some j => match ds[j]? with
          | some (.int a) => (evalE cf gt e (view env) p).bind fun z p => match o, z with
            | .add, .int b => .ok (.nx (env.set i (.own (.lst (ds.set j (.int (a + b))))))) p
            | .sub, .int b => .ok (.nx (env.set i (.own (.lst (ds.set j (.int (a - b))))))) p
            | _, _ => .bad
          | _ => .bad
        | none => .bad
      | _ => .bad
    | _ => .bad
  | .append i e, env, p => match env[i]? with
    | some (.own (.lst _)) => (evalE cf gt e (view env) p).bind fun d p => match (fzs env (escA d e))[i]? with
      | some (.own (.lst ds)) => if ds.length < sizeLine then .ok (.nx ((fzs env (escA d e)).set i (.own (.lst (ds ++ [d]))))) p else .bad
      | _ => .bad
    | _ => .bad
  | .extend i e, env, p => match (fzs env (escE e))[i]? with
    | some (.own (.lst ds)) => (evalE cf gt e (view env) p).bind fun d p => match d with
      | .lst es => if ds.length + es.length ≤ sizeLine then .ok (.nx ((fzs env (escE e)).set i (.own (.lst (ds ++ es))))) p else .bad
      | _ => .bad
    | _ => .bad
  | .forD tg i body, env, p => match (view env)[i]? with
    | some (some (.dict _ ks _)) => noExc (forL (forF tg fun env p => execS body env p) ks (fzAt env i) p)
    | _ => .bad
  | .dupd i e, env, p => match (fzs env (escE e))[i]? with
    | some (.own (.dict false ks vs)) => (evalE cf gt e (view env) p).bind fun d p => match d with
      | .dict false ks' vs' => if ks.length + ks'.length ≤ sizeLine then match pairsL false (zipL ks' vs') ks vs with
        | some d' => .ok (.nx ((fzs env (escE e)).set i (.own d'))) p
        | none => .bad else .bad
      | _ => .bad
    | _ => .bad
  | .ddel i k, env, p => match env[i]? with
    | some (.own (.dict false ks vs)) => (evalE cf gt k (view env) p).bind fun y p => if dhas ks y = true then .ok (.nx (env.set i (.own (.dict false (ddelK ks y) (ddelV ks vs y))))) p else .bad
    | _ => .bad
  | .ret e, env, p => (evalE cf gt e (view env) p).bind fun d p => .ok (.rt d) p
  | .retN, _, p => .ok (.rt .non) p
  | .ex e, env, p => (evalE cf gt e (view env) p).bind fun _ p => .ok (.nx env) p
  | .ite c a b, env, p => (evalT cf gt c (view env) p).bind fun t p => match t with
    | true => execS a env p
    | false => execS b env p
  | .for tg it body, env, p => (evalE cf gt it (view env) p).bind fun d p => match itemsD d with
    | none => .bad
    | some xs => forL (forF tg fun env p => execS body env p) xs (fzs env (escE it)) p
  | .while n c body, env, p => whileL (fun env p => evalT cf gt c (view env) p) (fun env p => execS body env p) n env p
  | .pput i k e, env, p => (evalE cf gt e (view env) p).bind fun d p => if isPool (view env) i = true then (match d with
      | .int j => match setP p k j with
        | some p => .ok (.nx env) p
        | none => .bad
      | _ => .bad) else .bad
  | .raise c es, env, p => if clsB gt c && ownB c then (evalEs cf gt es (view env) p).bind fun xs p => if xs.length ≤ 10 then .exc c xs p else .bad else .bad
  | .try b _ hds, env, p => if hdsOk gt hds = true then (match execS b env p with
    | .exc c xs p' => if clsB gt c && ownB c then (match hdOf c hds with
      | some d => .ok (.rt d) p'
      | none => .exc c xs p') else .bad
    | r => r) else .bad
  | .brk, env, p => .ok (.bk env) p
  | .cont, env, p => .ok (.ct env) p
end

/-! ### defs -/
structure FDef where
  params : Nat
  slots : Nat
  body : S
abbrev FTab := List (Str × FDef)
/-- the pool's draw -/
def spreadI (cell : Int) : Int :=
  let m0 := cell % 2147483647
  let m1 := (m0 * 48271 + 12345 + 0) % 2147483647
  let m2 := (m1 * 48271 + 12345 + 1) % 2147483647
  let m3 := (m2 * 48271 + 12345 + 2) % 2147483647
  let m4 := (m3 * 48271 + 12345 + 3) % 2147483647
  (((1 * 2147483647 + m1) * 2147483647 + m2) * 2147483647 + m3) * 2147483647 + m4
def refill (p : PSt) : PSt :=
  if p.cur ≤ 0 then match p.cells[p.idx]? with
    | some c => { p with idx := p.idx + 1, cur := if c < 1000000000000000000 then spreadI c else c }
    | none => p
  else p
def drawI (many : Int) (p : PSt) : Int × PSt :=
  let q := refill p
  let q := { q with cnt := q.cnt + 1 }
  if q.cur ≤ 0 then
    let m := (q.salt * 48271 + q.cnt * 69621 + 1) % 2147483647
    let m := (m * 16807 + q.cnt) % 2147483629
    (m / 5 % many, q)
  else (q.cur % many, { q with cur := q.cur / many })
def runBody (cf : Str → List D → PSt → Out D) (gt : Str → Option D) (fd : FDef) (ds : List D) (p : PSt) : Out D :=
  if ds.length = fd.params then
    match execS cf gt fd.body (ds.map .val ++ List.replicate (fd.slots - fd.params) .no) p with
    | .ok (.rt d) p => .ok d p
    | .ok (.nx _) p => .ok .non p
    | .ok _ _ => .bad
    | .exc c xs p => .exc c xs p
    | .bad => .bad
  else .bad
def callF (ft : FTab) (gt : Str → Option D) : Nat → Str → List D → PSt → Out D
  | 0, _, _, _ => .bad
  | n + 1, f, ds, p => match ft.lookup f with
    | some fd => runBody (callF ft gt n) gt fd ds p
    | none => .bad
end PD

namespace PD
open PySem PySem.Spec PyProof.Rows L2

abbrev Ms := Addr → Prop
section
variable (K : PySem.W.Frag) (pa ca : Addr)
def TupAt (M : Ms) (H : Hp) (a : Addr) (vs : List V) : Prop := ¬ M a ∧ H a = some (.tup vs)
/-- a tuple of the written part -/
def KTup (a : Addr) (vs : List V) : Prop := ∃ (o : Obj) (its : Array Value) (n : Nat), K.lookup a = some o ∧ o.cls = .type "tuple" ∧ o.data = .seq its n ∧ its.size ≤ sizeLine ∧ Vals vs its.toList
/-- the object u is a dict of these keys and values -/
def DictO (t : Bool) (ks : List D) (vs : List V) : HO → Prop
  | .dK kvs => t = false ∧ ks = kvs.map (fun q => kD q.1) ∧ vs = kvs.map (·.2) ∧ (kvs.map (·.1)).Nodup
  | .dT kvs => t = true ∧ ks = kvs.map (fun q => .tup (q.1.map kD)) ∧ vs = kvs.map (·.2) ∧ (kvs.map (·.1)).Nodup
  | _ => False
/-- what a slot's own object is -/
def OwnIs (d : D) (u : HO) (ds : List D) (vs : List V) : Prop := (d = .lst ds ∧ u = .lst vs) ∨ ∃ t ks, d = .dict t ks ds ∧ DictO t ks vs u
def LstAt (M : Ms) (H : Hp) (a : Addr) (vs : List V) : Prop := ¬ M a ∧ H a = some (.lst vs)
mutual
def Rep (M : Ms) (H : Hp) : D → V → Prop
  | .non, v => v = .non
  | .bl b, v => v = .bl b
  | .int i, v => v = .int i
  | .str s, v => v = .str s
  | .tup ds, v => ∃ a vs, v = .ref a ∧ TupAt M H a vs ∧ Reps M H ds vs
  | .lst ds, v => ∃ a vs, v = .ref a ∧ LstAt M H a vs ∧ Reps M H ds vs
  | .dict t ks ds, v => ∃ a u vs, v = .ref a ∧ ¬ M a ∧ Rd H a u ∧ DictO t ks vs u ∧ Reps M H ds vs
  | .ctup ss, v => ∃ a, v = .ref a ∧ KTup K a (ss.map V.str)
  | .pool, v => v = .ref pa
def Reps (M : Ms) (H : Hp) : List D → List V → Prop
  | [], vs => vs = []
  | d :: ds, vs => ∃ v r, vs = v :: r ∧ Rep M H d v ∧ Reps M H ds r
end
def Keep (B M : Ms) (H : Hp) (M' : Ms) (H' : Hp) : Prop := (∀ b u, ¬ M b → H b = some u → ¬ M' b ∧ H' b = some u) ∧ ∀ b u, B b → b ≠ pa → H b = some u → H' b = some u
def Ext (H H' : Hp) : Prop := ∀ b u, b ≠ pa → H b = some u → H' b = some u
structure PoolOk (H : Hp) (p : PSt) : Prop where
  ne : pa ≠ ca
  le : p.idx ≤ p.cells.length
  hp : H pa = some (.lst [.ref ca, .int p.idx, .int p.cur, .int p.cnt, .int p.salt])
  hc : H ca = some (.lst (p.cells.map V.int))
def SlOk (B M : Ms) (σ : L2.St) (H : Hp) (i : Nat) : Sl → Prop
  | .no => True
  | .val d => ∃ v, σ[i]? = some (some v) ∧ Rep K pa M H d v
  | .own d => ∃ a vs ds u, OwnIs d u ds vs ∧ σ[i]? = some (some (.ref a)) ∧ M a ∧ ¬ B a ∧ H a = some u ∧ Reps K pa M H ds vs
structure SOk (B M : Ms) (σ : L2.St) (H : Hp) (env : SEnv) (p : PSt) : Prop where
  pool : PoolOk pa ca H p
  bp : B pa
  bc : B ca
  sub : ∀ a, B a → M a
  al : ∀ a, M a → H a ≠ none
  nt : ∀ a vs, M a → H a ≠ some (.tup vs)
  sl : ∀ (i : Nat) (s : Sl), env[i]? = some s → SlOk K pa B M σ H i s
  sep : ∀ (i j : Nat) (d d' : D) (a : Addr), env[i]? = some (.own d) → env[j]? = some (.own d') → σ[i]? = some (some (.ref a)) → σ[j]? = some (some (.ref a)) → i = j
  len : env.length = σ.length
end

section
variable {K : PySem.W.Frag} {pa ca : Addr} {M M' B : Ms} {H H' H1 H2 : Hp} {σ σ' : L2.St} {env : SEnv} {p p' : PSt}
theorem TupAt.mono {a : Addr} {vs : List V} (k : ∀ b u, ¬ M b → H b = some u → ¬ M' b ∧ H' b = some u) (h : TupAt M H a vs) : TupAt M' H' a vs := k _ _ h.1 h.2
theorem Rd.mono {a : Addr} {u : HO} (k : ∀ b u, ¬ M b → H b = some u → ¬ M' b ∧ H' b = some u) (hn : ¬ M a) (h : Rd H a u) : ¬ M' a ∧ Rd H' a u := by
  rcases h with h | ⟨o, h⟩
  · exact ⟨(k _ _ hn h).1, .inl (k _ _ hn h).2⟩
  · exact ⟨(k _ _ hn h).1, .inr ⟨o, (k _ _ hn h).2⟩⟩
mutual
theorem Rep.mono (k : ∀ b u, ¬ M b → H b = some u → ¬ M' b ∧ H' b = some u) : ∀ {d : D} {v : V}, Rep K pa M H d v → Rep K pa M' H' d v
  | .non, _, h => by unfold Rep at *; exact h
  | .bl b, _, h => by unfold Rep at *; exact h
  | .int i, _, h => by unfold Rep at *; exact h
  | .str s, _, h => by unfold Rep at *; exact h
  | .tup ds, _, h => by
    unfold Rep at *
    obtain ⟨a, vs, e, h1, h2⟩ := h
    exact ⟨a, vs, e, h1.mono k, Reps.mono k h2⟩
  | .lst ds, _, h => by
    unfold Rep at *
    obtain ⟨a, vs, e, h1, h2⟩ := h
    exact ⟨a, vs, e, k _ _ h1.1 h1.2, Reps.mono k h2⟩
  | .dict t ks ds, _, h => by
    unfold Rep at *
    obtain ⟨a, u, vs, e, h1, h2, h3, h4⟩ := h
    exact ⟨a, u, vs, e, (Rd.mono k h1 h2).1, (Rd.mono k h1 h2).2, h3, Reps.mono k h4⟩
  | .ctup ss, _, h => by unfold Rep at *; exact h
  | .pool, _, h => by unfold Rep at *; exact h
theorem Reps.mono (k : ∀ b u, ¬ M b → H b = some u → ¬ M' b ∧ H' b = some u) : ∀ {ds : List D} {vs : List V}, Reps K pa M H ds vs → Reps K pa M' H' ds vs
  | [], _, h => by unfold Reps at *; exact h
  | d :: ds, _, h => by
    unfold Reps at *
    obtain ⟨v, r, e, h1, h2⟩ := h
    exact ⟨v, r, e, Rep.mono k h1, Reps.mono k h2⟩
end
theorem Reps.length : ∀ {ds : List D} {vs : List V}, Reps K pa M H ds vs → vs.length = ds.length
  | [], _, h => by unfold Reps at h; subst h; rfl
  | d :: ds, _, h => by
    unfold Reps at h
    obtain ⟨v, r, e, h1, h2⟩ := h
    subst e
    simp [Reps.length h2]
theorem Reps.get : ∀ {ds : List D} {vs : List V} {i : Nat} {d : D}, Reps K pa M H ds vs → ds[i]? = some d → ∃ v, vs[i]? = some v ∧ Rep K pa M H d v
  | [], _, _, _, h, e => by simp at e
  | d :: ds, _, 0, _, h, e => by
    unfold Reps at h
    obtain ⟨v, r, rfl, h1, h2⟩ := h
    simp at e
    subst e
    exact ⟨v, rfl, h1⟩
  | d :: ds, _, i + 1, _, h, e => by
    unfold Reps at h
    obtain ⟨v, r, rfl, h1, h2⟩ := h
    obtain ⟨w, h3, h4⟩ := Reps.get (i := i) h2 (by simpa using e)
    exact ⟨w, by simpa using h3, h4⟩
theorem Reps.get' : ∀ {ds : List D} {vs : List V} {i : Nat} {v : V}, Reps K pa M H ds vs → vs[i]? = some v → ∃ d, ds[i]? = some d ∧ Rep K pa M H d v := by
  intro ds vs i v h e
  have hl := h.length
  have hi : i < ds.length := by
    rw [← hl]
    exact (List.getElem?_eq_some_iff.mp e).1
  obtain ⟨v', h1, h2⟩ := h.get (List.getElem?_eq_getElem hi)
  rw [e] at h1
  cases h1
  exact ⟨_, List.getElem?_eq_getElem hi, h2⟩
theorem Reps.append : ∀ {ds es : List D} {vs ws : List V}, Reps K pa M H ds vs → Reps K pa M H es ws → Reps K pa M H (ds ++ es) (vs ++ ws)
  | [], _, _, _, h, h' => by unfold Reps at h; subst h; exact h'
  | d :: ds, _, _, _, h, h' => by
    unfold Reps at h
    obtain ⟨v, r, rfl, h1, h2⟩ := h
    show Reps K pa M H (d :: (ds ++ _)) (v :: (r ++ _))
    unfold Reps
    exact ⟨v, _, rfl, h1, Reps.append h2 h'⟩
theorem Reps.nil : Reps K pa M H [] [] := by unfold Reps; rfl
theorem Reps.cons {d : D} {v : V} {ds : List D} {vs : List V} (h : Rep K pa M H d v) (t : Reps K pa M H ds vs) : Reps K pa M H (d :: ds) (v :: vs) := by unfold Reps; exact ⟨v, vs, rfl, h, t⟩
theorem Reps.one {d : D} {v : V} (h : Rep K pa M H d v) : Reps K pa M H [d] [v] := .cons h .nil
theorem Reps.take : ∀ {ds : List D} {vs : List V} (n : Nat), Reps K pa M H ds vs → Reps K pa M H (ds.take n) (vs.take n)
  | [], _, n, h => by unfold Reps at h; subst h; simp; exact .nil
  | d :: ds, _, 0, h => by simp; exact .nil
  | d :: ds, _, n + 1, h => by
    unfold Reps at h
    obtain ⟨v, r, rfl, h1, h2⟩ := h
    exact .cons h1 (Reps.take n h2)
theorem Reps.drop : ∀ {ds : List D} {vs : List V} (n : Nat), Reps K pa M H ds vs → Reps K pa M H (ds.drop n) (vs.drop n)
  | _, _, 0, h => h
  | [], _, n + 1, h => by unfold Reps at h; subst h; exact .nil
  | d :: ds, _, n + 1, h => by
    unfold Reps at h
    obtain ⟨v, r, rfl, h1, h2⟩ := h
    exact Reps.drop n h2
theorem Reps.set : ∀ {ds : List D} {vs : List V} {d : D} {v : V} (i : Nat), Reps K pa M H ds vs → Rep K pa M H d v → Reps K pa M H (ds.set i d) (vs.set i v)
  | [], _, _, _, i, h, _ => by unfold Reps at h; subst h; exact .nil
  | d :: ds, _, _, _, 0, h, h' => by
    unfold Reps at h
    obtain ⟨v, r, rfl, h1, h2⟩ := h
    exact .cons h' h2
  | d :: ds, _, _, _, i + 1, h, h' => by
    unfold Reps at h
    obtain ⟨v, r, rfl, h1, h2⟩ := h
    exact .cons h1 (Reps.set i h2 h')
theorem Reps.reverse : ∀ {ds : List D} {vs : List V}, Reps K pa M H ds vs → Reps K pa M H ds.reverse vs.reverse
  | [], _, h => by unfold Reps at h; subst h; exact .nil
  | d :: ds, _, h => by
    unfold Reps at h
    obtain ⟨v, r, rfl, h1, h2⟩ := h
    rw [List.reverse_cons, List.reverse_cons]
    exact (Reps.reverse h2).append (.one h1)

theorem Ext.refl : Ext pa H H := fun _ _ _ h => h
theorem Ext.trans (a : Ext pa H H1) (b : Ext pa H1 H2) : Ext pa H H2 := fun c u h e => b c u h (a c u h e)
theorem Ext.of_same (s : Same H H') : Ext pa H H' := fun b u _ h => s b u h
theorem Ext.rep {d : D} {v : V} (x : Ext pa H H') (hp : M pa) (h : Rep K pa M H d v) : Rep K pa M H' d v :=
  h.mono fun b u hb e => ⟨hb, x b u (fun z => hb (z ▸ hp)) e⟩
theorem Ext.reps {ds : List D} {vs : List V} (x : Ext pa H H') (hp : M pa) (h : Reps K pa M H ds vs) : Reps K pa M H' ds vs :=
  h.mono fun b u hb e => ⟨hb, x b u (fun z => hb (z ▸ hp)) e⟩
theorem Ext.upd {q : Addr} {o : HO} (h : H q = none) : Ext pa H (upd H q o) := fun b u _ e => by rw [upd_ne (ne_of_none e h)]; exact e
theorem Keep.refl : Keep pa B M H M H := ⟨fun _ _ h e => ⟨h, e⟩, fun _ _ _ _ e => e⟩
theorem Keep.trans {M1 M2 : Ms} (a : Keep pa B M H M1 H1) (b : Keep pa B M1 H1 M2 H2) : Keep pa B M H M2 H2 :=
  ⟨fun c u h e => let ⟨h1, e1⟩ := a.1 c u h e; b.1 c u h1 e1, fun c u h n e => b.2 c u h n (a.2 c u h n e)⟩
theorem Keep.of_ext (x : Ext pa H H') (hp : M pa) : Keep pa B M H M H' := ⟨fun b u h e => ⟨h, x b u (fun z => h (z ▸ hp)) e⟩, fun b u _ n e => x b u n e⟩

theorem SOk.ext (S : SOk K pa ca B M σ H env p) (x : Ext pa H H') (q : PoolOk pa ca H' p') : SOk K pa ca B M σ H' env p' := by
  have hp : M pa := S.sub _ S.bp
  refine ⟨q, S.bp, S.bc, S.sub, fun a ha => ?_, fun a vs ha z => ?_, fun i s e => ?_, S.sep, S.len⟩
  · by_cases e : a = pa
    · rw [e, q.hp]; simp
    · cases h : H a with
      | none => exact absurd h (S.al a ha)
      | some u => rw [x a u e h]; simp
  · by_cases e : a = pa
    · rw [e, q.hp] at z; cases z
    · cases h : H a with
      | none => exact absurd h (S.al a ha)
      | some u =>
        rw [x a u e h] at z
        cases z
        exact S.nt a vs ha h
  · have h := S.sl i s e
    cases s with
    | no => trivial
    | val d =>
      obtain ⟨v, h1, h2⟩ := h
      exact ⟨v, h1, x.rep hp h2⟩
    | own d =>
      obtain ⟨a, vs, ds, u, h0, h1, h2, h3, h4, h5⟩ := h
      exact ⟨a, vs, ds, u, h0, h1, h2, h3, x _ _ (fun z => h3 (z ▸ S.bp)) h4, x.reps hp h5⟩
/-- an own object, seen from outside -/
theorem own_rep {K : PySem.W.Frag} {M1 : Ms} {d : D} {u : HO} {ds : List D} {vs : List V} {a : Addr} (h0 : OwnIs d u ds vs) (n : ¬ M1 a) (h4 : H a = some u) (h5 : Reps K pa M1 H ds vs) : Rep K pa M1 H d (.ref a) := by
  rcases h0 with ⟨rfl, rfl⟩ | ⟨t, ks, rfl, ho⟩
  · unfold Rep
    exact ⟨a, vs, rfl, ⟨n, h4⟩, h5⟩
  · unfold Rep
    exact ⟨a, u, vs, rfl, n, .inl h4, ho, h5⟩

/-! ### freezing -/
def fzAll (env : SEnv) : SEnv := env.map Sl.fz
theorem view_fzAll (env : SEnv) : view (fzAll env) = view env := by
  unfold view fzAll
  rw [List.map_map]
  apply List.map_congr_left
  intro s _
  cases s <;> rfl
theorem fzAll_get {i : Nat} {s : Sl} (h : (fzAll env)[i]? = some s) : ∃ t, env[i]? = some t ∧ s = t.fz := by
  unfold fzAll at h
  rw [List.getElem?_map] at h
  cases e : env[i]? with
  | none => rw [e] at h; cases h
  | some t => rw [e] at h; cases h; exact ⟨t, rfl, rfl⟩
/-- everything frozen: nothing but B is hidden -/
theorem SOk.all (S : SOk K pa ca B M σ H env p) : SOk K pa ca B B σ H (fzAll env) p := by
  refine ⟨S.pool, S.bp, S.bc, fun _ h => h, fun a h => S.al a (S.sub a h), fun a vs h => S.nt a vs (S.sub a h), fun i s e => ?_, fun i j d d' a e => ?_, by simp [fzAll, S.len]⟩
  · obtain ⟨t, e1, rfl⟩ := fzAll_get e
    have h := S.sl i t e1
    have k : ∀ b u, ¬ M b → H b = some u → ¬ B b ∧ H b = some u := fun b u hb e => ⟨fun z => hb (S.sub b z), e⟩
    cases t with
    | no => trivial
    | val d =>
      obtain ⟨v, h1, h2⟩ := h
      exact ⟨v, h1, h2.mono k⟩
    | own d =>
      obtain ⟨a, vs, ds, u, h0, h1, h2, h3, h4, h5⟩ := h
      exact ⟨.ref a, h1, own_rep h0 h3 h4 (h5.mono k)⟩
  · obtain ⟨t, e1, e2⟩ := fzAll_get e
    cases t <;> cases e2
theorem fzAll_val {i : Nat} {d : D} : (fzAll env)[i]? ≠ some (.own d) := fun h => by
  obtain ⟨t, _, e⟩ := fzAll_get h
  cases t <;> cases e
theorem fzAt_get : ∀ {env : SEnv} {i j : Nat}, (fzAt env i)[j]? = if j = i then env[j]?.map Sl.fz else env[j]?
  | [], i, j => by cases i <;> simp [fzAt]
  | s :: r, 0, 0 => by simp [fzAt]
  | s :: r, 0, j + 1 => by simp [fzAt]
  | s :: r, i + 1, 0 => by simp [fzAt]
  | s :: r, i + 1, j + 1 => by
    simp only [fzAt, List.getElem?_cons_succ, Nat.add_right_cancel_iff]
    exact fzAt_get
theorem fzAt_length : ∀ {env : SEnv} {i : Nat}, (fzAt env i).length = env.length
  | [], i => by cases i <;> rfl
  | s :: r, 0 => rfl
  | s :: r, i + 1 => by simp [fzAt, fzAt_length]
theorem view_get {i : Nat} : (view env)[i]? = env[i]?.map Sl.see := by unfold view; rw [List.getElem?_map]
theorem fz_see (s : Sl) : s.fz.see = s.see := by cases s <;> rfl
theorem view_fzAt (env : SEnv) (i : Nat) : view (fzAt env i) = view env := by
  apply List.ext_getElem?
  intro j
  rw [view_get, view_get, fzAt_get]
  by_cases h : j = i
  · rw [if_pos h]
    cases env[j]? with
    | none => rfl
    | some s => simp [fz_see]
  · rw [if_neg h]
theorem view_fzs : ∀ (is : List Nat) (env : SEnv), view (fzs env is) = view env
  | [], _ => rfl
  | i :: is, env => by unfold fzs; rw [view_fzs is, view_fzAt]
/-- one slot frozen: its own object is hidden no longer -/
theorem SOk.fzAtS (S : SOk K pa ca B M σ H env p) (i : Nat) : ∃ M', (∀ a, M' a → M a) ∧ (∀ a, M a → M' a ∨ σ[i]? = some (some (.ref a))) ∧ SOk K pa ca B M' σ H (fzAt env i) p := by
  cases hi : env[i]? with
  | none =>
    refine ⟨M, fun _ h => h, fun _ h => .inl h, ?_⟩
    have : PD.fzAt env i = env := by
      apply List.ext_getElem?
      intro j
      rw [fzAt_get]
      by_cases h : j = i
      · rw [if_pos h, h, hi]; rfl
      · rw [if_neg h]
    rw [this]
    exact S
  | some s =>
    by_cases ho : ∃ d, s = .own d
    · obtain ⟨d, rfl⟩ := ho
      obtain ⟨a, vs, ds, u, h0, h1, h2, h3, h4, h5⟩ := S.sl i _ hi
      have k : ∀ b u, ¬ M b → H b = some u → ¬ (M b ∧ b ≠ a) ∧ H b = some u := fun b u hb e => ⟨fun z => hb z.1, e⟩
      refine ⟨fun b => M b ∧ b ≠ a, fun b h => h.1, fun b h => (Classical.em (b = a)).elim (fun z => .inr (z ▸ h1)) (fun z => .inl ⟨h, z⟩), ⟨S.pool, S.bp, S.bc, fun b h => ⟨S.sub b h, fun z => h3 (z ▸ h)⟩, fun b h => S.al b h.1, fun b vs h => S.nt b vs h.1, fun j s e => ?_, fun j l d' d'' b e1 e2 => ?_, by rw [fzAt_length]; exact S.len⟩⟩
      · rw [fzAt_get] at e
        by_cases hj : j = i
        · rw [if_pos hj, hj, hi] at e
          cases e
          exact ⟨.ref a, hj ▸ h1, own_rep h0 (fun z => z.2 rfl) h4 (h5.mono k)⟩
        · rw [if_neg hj] at e
          have h := S.sl j s e
          cases s with
          | no => trivial
          | val d' =>
            obtain ⟨v, g1, g2⟩ := h
            exact ⟨v, g1, g2.mono k⟩
          | own d' =>
            obtain ⟨b, ws, es, u', g0, g1, g2, g3, g4, g5⟩ := h
            exact ⟨b, ws, es, u', g0, g1, ⟨g2, fun z => hj (S.sep j i _ _ b e hi g1 (z ▸ h1))⟩, g3, g4, g5.mono k⟩
      · have old : ∀ {j : Nat} {d : D}, (PD.fzAt env i)[j]? = some (.own d) → env[j]? = some (.own d) := fun {j d} e => by
          rw [fzAt_get] at e
          by_cases hj : j = i
          · rw [if_pos hj, hj, hi] at e; cases e
          · rw [if_neg hj] at e; exact e
        exact S.sep j l _ _ b (old e1) (old e2)
    · refine ⟨M, fun _ h => h, fun _ h => .inl h, ?_⟩
      have : PD.fzAt env i = env := by
        apply List.ext_getElem?
        intro j
        rw [fzAt_get]
        by_cases h : j = i
        · rw [if_pos h, h, hi]
          cases s with
          | own d => exact absurd ⟨d, rfl⟩ ho
          | _ => rfl
        · rw [if_neg h]
      rw [this]
      exact S
theorem SOk.fzAt (S : SOk K pa ca B M σ H env p) (i : Nat) : ∃ M', (∀ a, M' a → M a) ∧ SOk K pa ca B M' σ H (fzAt env i) p := by
  obtain ⟨M', a, _, c⟩ := S.fzAtS i
  exact ⟨M', a, c⟩
theorem SOk.fzs : ∀ (is : List Nat) {M : Ms} {env : SEnv}, SOk K pa ca B M σ H env p → ∃ M', (∀ a, M' a → M a) ∧ SOk K pa ca B M' σ H (fzs env is) p
  | [], M, _, S => ⟨M, fun _ h => h, S⟩
  | i :: is, _, _, S => by
    obtain ⟨M1, h1, S1⟩ := S.fzAt i
    obtain ⟨M2, h2, S2⟩ := SOk.fzs is S1
    exact ⟨M2, fun a h => h1 a (h2 a h), S2⟩
theorem fzs_own_sub : ∀ (is : List Nat) {env : SEnv} {j : Nat} {d : D}, (fzs env is)[j]? = some (.own d) → env[j]? = some (.own d)
  | [], _, _, _, h => h
  | i :: is, env, j, d, h => by
    have e := fzs_own_sub is h
    rw [fzAt_get] at e
    by_cases hj : j = i
    · rw [if_pos hj] at e
      cases h2 : env[j]? with
      | none => rw [h2] at e; cases e
      | some s => rw [h2] at e; cases s <;> cases e
    · rw [if_neg hj] at e; exact e
theorem fzs_not_own : ∀ (is : List Nat) {env : SEnv} {j : Nat} {d : D}, j ∈ is → (fzs env is)[j]? ≠ some (.own d)
  | [], _, _, _, h, _ => by cases h
  | i :: is, env, j, d, h, e => by
    by_cases hj : j ∈ is
    · exact fzs_not_own is hj e
    · have : j = i := by simpa [hj] using h
      subst this
      have e2 := fzs_own_sub is e
      rw [fzAt_get, if_pos rfl] at e2
      cases h2 : env[j]? with
      | none => rw [h2] at e2; cases e2
      | some s => rw [h2] at e2; cases s <;> cases e2
theorem fzs_length : ∀ (is : List Nat) {env : SEnv}, (fzs env is).length = env.length
  | [], _ => rfl
  | i :: is, env => by unfold fzs; rw [fzs_length is, fzAt_length]
end
end PD

namespace PD
open PySem PySem.Spec PyProof.Rows L2

/-! ### as the library's data -/
theorem toPys_eq : ∀ xs : List D, toPys xs = xs.map toPy
  | [] => rfl
  | x :: xs => by simp [toPys, toPys_eq xs]
mutual
theorem fits_lay : ∀ (n : Nat) (d : D), D.fits n d = true → (toPy d).canLay0 = true ∧ (toPy d).depth ≤ n
  | _, .non, _ => by simp [toPy, PyData.canLay0, PyData.depth]
  | _, .bl b, _ => by simp [toPy, PyData.canLay0, PyData.depth]
  | _, .int i, _ => by simp [toPy, PyData.canLay0, PyData.depth]
  | _, .str s, h => by
    simp only [D.fits, strOkD] at h
    simp [toPy, PyData.canLay0, PyData.depth, h]
  | n, .tup xs, h => by
    cases n with
    | zero => simp [D.fits] at h
    | succ n =>
      simp only [D.fits] at h
      have q := fitsL_lay n xs h
      simp only [toPy, PyData.canLay0, PyData.depth]
      exact ⟨q.1, by omega⟩
  | n, .lst xs, h => by
    cases n with
    | zero => simp [D.fits] at h
    | succ n =>
      simp only [D.fits] at h
      have q := fitsL_lay n xs h
      simp only [toPy, PyData.canLay0, PyData.depth]
      exact ⟨q.1, by omega⟩
  | _, .dict _ _ _, h => by simp [D.fits] at h
  | _, .ctup _, h => by simp [D.fits] at h
  | _, .pool, h => by simp [D.fits] at h
theorem fitsL_lay : ∀ (n : Nat) (xs : List D), D.fitsL n xs = true → PyData.canLayAll0 (toPys xs) = true ∧ PyData.depthAll (toPys xs) ≤ n
  | _, [], _ => by simp [toPys, PyData.canLayAll0, PyData.depthAll]
  | n, x :: xs, h => by
    simp only [D.fitsL, Bool.and_eq_true] at h
    have q1 := fits_lay n x h.1
    have q2 := fitsL_lay n xs h.2
    simp only [toPys, PyData.canLayAll0, PyData.depthAll, q1.1, q2.1]
    exact ⟨rfl, by omega⟩
end
mutual
theorem eqv_py : ∀ (n m : Nat) (a b : D), D.fits n a = true → D.fits m b = true → D.eqv a b = PyData.eqv (toPy a) (toPy b)
  | n, m, .lst xs, .lst ys, h1, h2 => by
    cases n with
    | zero => simp [D.fits] at h1
    | succ n =>
      cases m with
      | zero => simp [D.fits] at h2
      | succ m =>
        simp only [D.fits] at h1 h2
        simp only [D.eqv, toPy, PyData.eqv]
        exact eqvs_py n m xs ys h1 h2
  | n, m, .tup xs, .tup ys, h1, h2 => by
    cases n with
    | zero => simp [D.fits] at h1
    | succ n =>
      cases m with
      | zero => simp [D.fits] at h2
      | succ m =>
        simp only [D.fits] at h1 h2
        simp only [D.eqv, toPy, PyData.eqv]
        exact eqvs_py n m xs ys h1 h2
  | _, _, .dict _ _ _, _, h1, _ => by simp [D.fits] at h1
  | _, _, .ctup _, _, h1, _ => by simp [D.fits] at h1
  | _, _, .pool, _, h1, _ => by simp [D.fits] at h1
  | _, _, .non, b, _, h2 => by cases b <;> first | (simp [D.fits] at h2; done) | simp [D.eqv, toPy, PyData.eqv]
  | _, _, .bl _, b, _, h2 => by cases b <;> first | (simp [D.fits] at h2; done) | simp [D.eqv, toPy, PyData.eqv]
  | _, _, .int _, b, _, h2 => by cases b <;> first | (simp [D.fits] at h2; done) | simp [D.eqv, toPy, PyData.eqv]
  | _, _, .str _, b, _, h2 => by cases b <;> first | (simp [D.fits] at h2; done) | simp [D.eqv, toPy, PyData.eqv]
  | _, _, .tup _, .non, _, _ => by simp [D.eqv, toPy, PyData.eqv]
  | _, _, .tup _, .bl _, _, _ => by simp [D.eqv, toPy, PyData.eqv]
  | _, _, .tup _, .int _, _, _ => by simp [D.eqv, toPy, PyData.eqv]
  | _, _, .tup _, .str _, _, _ => by simp [D.eqv, toPy, PyData.eqv]
  | _, _, .tup _, .lst _, _, _ => by simp [D.eqv, toPy, PyData.eqv]
  | _, _, .tup _, .dict _ _ _, _, h2 => by simp [D.fits] at h2
  | _, _, .tup _, .ctup _, _, h2 => by simp [D.fits] at h2
  | _, _, .tup _, .pool, _, h2 => by simp [D.fits] at h2
  | _, _, .lst _, .non, _, _ => by simp [D.eqv, toPy, PyData.eqv]
  | _, _, .lst _, .bl _, _, _ => by simp [D.eqv, toPy, PyData.eqv]
  | _, _, .lst _, .int _, _, _ => by simp [D.eqv, toPy, PyData.eqv]
  | _, _, .lst _, .str _, _, _ => by simp [D.eqv, toPy, PyData.eqv]
  | _, _, .lst _, .tup _, _, _ => by simp [D.eqv, toPy, PyData.eqv]
  | _, _, .lst _, .dict _ _ _, _, h2 => by simp [D.fits] at h2
  | _, _, .lst _, .ctup _, _, h2 => by simp [D.fits] at h2
  | _, _, .lst _, .pool, _, h2 => by simp [D.fits] at h2
theorem eqvs_py : ∀ (n m : Nat) (a b : List D), D.fitsL n a = true → D.fitsL m b = true → D.eqvs a b = PyData.eqvAll (toPys a) (toPys b)
  | _, _, [], [], _, _ => by simp [D.eqvs, toPys, PyData.eqvAll]
  | _, _, [], _ :: _, _, _ => by simp [D.eqvs, toPys, PyData.eqvAll]
  | _, _, _ :: _, [], _, _ => by simp [D.eqvs, toPys, PyData.eqvAll]
  | n, m, x :: xs, y :: ys, h1, h2 => by
    simp only [D.fitsL, Bool.and_eq_true] at h1 h2
    simp only [D.eqvs, toPys, PyData.eqvAll, eqv_py n m x y h1.1 h2.1, eqvs_py n m xs ys h1.2 h2.2]
end
theorem shaped_of (n : Nat) (hn : n ≤ 64) {d : D} (h : D.fits n d = true) : SeqAt.shaped (toPy d) = true := by
  have q := fits_lay n d h
  show ((toPy d).canLay0 && decide ((toPy d).depth ≤ 64)) = true
  rw [Bool.and_eq_true]
  exact ⟨q.1, decide_eq_true (by omega)⟩

/-! ### read from above: the object itself may be hidden -/
section
variable (K : PySem.W.Frag) (pa ca : Addr)
def RepB (B M : Ms) (H : Hp) : D → V → Prop
  | .lst ds, v => ∃ a vs, v = .ref a ∧ ¬ B a ∧ H a = some (.lst vs) ∧ Reps K pa M H ds vs
  | .dict t ks ds, v => ∃ a u vs, v = .ref a ∧ ¬ B a ∧ Rd H a u ∧ DictO t ks vs u ∧ Reps K pa M H ds vs
  | d, v => Rep K pa M H d v
/-- a list is new -/
def NewV (M : Ms) (H : Hp) (d : D) (v : V) (H' : Hp) : Prop := match d with
  | .lst ds => ∃ a vs, v = .ref a ∧ H a = none ∧ H' a = some (.lst vs) ∧ Reps K pa (fun b => M b ∨ b = a) H' ds vs
  | .dict t ks ds => ∃ a u vs, v = .ref a ∧ H a = none ∧ H' a = some u ∧ DictO t ks vs u ∧ Reps K pa (fun b => M b ∨ b = a) H' ds vs
  | _ => True
def Holds {α : Type} (o : Out α) (ok : α → PSt → Prop) (ex : Str → List D → PSt → Prop) : Prop := match o with
  | .ok a p => ok a p
  | .exc c xs p => ex c xs p
  | .bad => False
end
theorem Holds.bind {α β : Type} {o : Out α} {f : α → PSt → Out β} {ok ex} : Holds (o.bind f) ok ex ↔ Holds o (fun a p => Holds (f a p) ok ex) ex := by
  cases o <;> exact Iff.rfl
theorem Holds.imp {α : Type} {o : Out α} {ok ok' : α → PSt → Prop} {ex ex' : Str → List D → PSt → Prop} (h : Holds o ok ex) (h1 : ∀ a p, ok a p → ok' a p) (h2 : ∀ c xs p, ex c xs p → ex' c xs p) : Holds o ok' ex' := by
  cases o with
  | ok a p => exact h1 a p h
  | exc c xs p => exact h2 c xs p h
  | bad => exact h
theorem Holds.lift {α : Type} {o : Option α} {p : PSt} {ok ex} : Holds (PD.lift o p) ok ex → ∃ a, o = some a ∧ ok a p := by
  cases o with
  | none => exact fun h => h.elim
  | some a => exact fun h => ⟨a, rfl, h⟩

section
variable {K : PySem.W.Frag} {pa ca : Addr} {B M M' : Ms} {H H' H1 H2 : Hp} {σ σ' : L2.St} {env : SEnv} {p p' : PSt} {d : D} {v : V}
theorem Rep.toB (sub : ∀ a, B a → M a) (h : Rep K pa M H d v) : RepB K pa B M H d v := by
  cases d with
  | lst ds =>
    unfold Rep at h
    obtain ⟨a, vs, e, ⟨h1, h2⟩, h3⟩ := h
    exact ⟨a, vs, e, fun z => h1 (sub a z), h2, h3⟩
  | dict t ks ds =>
    unfold Rep at h
    obtain ⟨a, u, vs, e, h1, h2⟩ := h
    exact ⟨a, u, vs, e, fun z => h1 (sub a z), h2⟩
  | _ => exact h
theorem RepB.toRep (sub : ∀ a, B a → M a) (h : RepB K pa B M H d v) : Rep K pa B H d v := by
  have k : ∀ b u, ¬ M b → H b = some u → ¬ B b ∧ H b = some u := fun b u hb e => ⟨fun z => hb (sub b z), e⟩
  cases d with
  | lst ds =>
    obtain ⟨a, vs, e, h1, h2, h3⟩ := h
    unfold Rep
    exact ⟨a, vs, e, ⟨h1, h2⟩, h3.mono k⟩
  | dict t ks ds =>
    obtain ⟨a, u, vs, e, h1, h2, h3, h4⟩ := h
    unfold Rep
    exact ⟨a, u, vs, e, h1, h2, h3, h4.mono k⟩
  | _ => exact Rep.mono k h
theorem Ext.rd {a : Addr} {u : HO} (x : Ext pa H H') (hn : a ≠ pa) (h : Rd H a u) : Rd H' a u := by
  rcases h with h | ⟨o, h⟩
  · exact .inl (x _ _ hn h)
  · exact .inr ⟨o, x _ _ hn h⟩
theorem RepB.ext (x : Ext pa H H') (bp : B pa) (mp : M pa) (h : RepB K pa B M H d v) : RepB K pa B M H' d v := by
  cases d with
  | lst ds =>
    obtain ⟨a, vs, e, h1, h2, h3⟩ := h
    exact ⟨a, vs, e, h1, x _ _ (fun z => h1 (z ▸ bp)) h2, x.reps mp h3⟩
  | dict t ks ds =>
    obtain ⟨a, u, vs, e, h1, h2, h3, h4⟩ := h
    exact ⟨a, u, vs, e, h1, x.rd (fun z => h1 (z ▸ bp)) h2, h3, x.reps mp h4⟩
  | _ => exact x.rep mp h
theorem RepB.tup {ds : List D} (h : RepB K pa B M H (.tup ds) v) : ∃ a vs, v = .ref a ∧ TupAt M H a vs ∧ Reps K pa M H ds vs := by
  unfold RepB Rep at h
  exact h
theorem RepB.int {i : Int} (h : RepB K pa B M H (.int i) v) : v = .int i := by unfold RepB Rep at h; exact h
theorem RepB.str {i : Str} (h : RepB K pa B M H (.str i) v) : v = .str i := by unfold RepB Rep at h; exact h
theorem RepB.bl {i : Bool} (h : RepB K pa B M H (.bl i) v) : v = .bl i := by unfold RepB Rep at h; exact h
theorem TupAt.sq {a : Addr} {vs : List V} (h : TupAt M H a vs) : SqT K H a vs := .inl (.inl h.2)
mutual
theorem Rep.dp : ∀ (n : Nat) (d : D) (v : V), Rep K pa M H d v → D.fits n d = true → Dp K H v (toPy d)
  | _, .non, _, h, _ => by unfold Rep at h; subst h; exact .non
  | _, .bl b, _, h, _ => by unfold Rep at h; subst h; exact .bl b
  | _, .int i, _, h, _ => by unfold Rep at h; subst h; exact .int i
  | _, .str s, _, h, _ => by unfold Rep at h; subst h; exact .str s
  | n, .tup ds, _, h, f => by
    unfold Rep at h
    obtain ⟨a, vs, rfl, h1, h2⟩ := h
    cases n with
    | zero => simp [D.fits] at f
    | succ n =>
      simp only [D.fits] at f
      simp only [toPy]
      exact .tup h1.sq (Reps.dp n ds vs h2 f)
  | n, .lst ds, _, h, f => by
    unfold Rep at h
    obtain ⟨a, vs, rfl, h1, h2⟩ := h
    cases n with
    | zero => simp [D.fits] at f
    | succ n =>
      simp only [D.fits] at f
      simp only [toPy]
      exact .lst (.inl (.inl h1.2)) (Reps.dp n ds vs h2 f)
  | _, .dict _ _ _, _, _, f => by simp [D.fits] at f
  | _, .ctup _, _, _, f => by simp [D.fits] at f
  | _, .pool, _, _, f => by simp [D.fits] at f
theorem Reps.dp : ∀ (n : Nat) (ds : List D) (vs : List V), Reps K pa M H ds vs → D.fitsL n ds = true → DpAll K H vs (toPys ds)
  | _, [], _, h, _ => by unfold Reps at h; subst h; simp only [toPys]; exact .nil
  | n, d :: ds, _, h, f => by
    unfold Reps at h
    obtain ⟨v, r, rfl, h1, h2⟩ := h
    simp only [D.fitsL, Bool.and_eq_true] at f
    simp only [toPys]
    exact .cons (Rep.dp n d v h1 f.1) (Reps.dp n ds r h2 f.2)
end
end

/-! ### operators -/
section
set_option maxHeartbeats 4000000
theorem tuple_mulS (l : Addr) (items : Array Value) (n : Nat) (dd : Option Addr) (sl : Array (Option Value)) (x : Int) (u : Tok) (c0 : (decide (x < -(2 ^ 63)) || decide (x ≥ 2 ^ 63)) = false) (c1 : (items.isEmpty || x == 1) = true) :
    Meets (Builtin.«tuple.__mul__» ⟨[.ref l, .int x u], []⟩) (fun _ R s => s.heap.get? l = some { cls := .type "tuple", dict := dd, data := .seq items n, slots := sl } ∧ R (.ok (.ret (.ref l))) s) :=
  .of_wp fun prog w A R s h => by
    obtain ⟨hp, g, d, tk, os⟩ := s
    obtain ⟨hl, h⟩ := h
    have f1 := AutoSeq1.idx_int
    wp_walk using wpAny_loadPart' hl
    repeat (first
      | (refine wpAny_ite_false (decide_eq_false (by rw [c0]; exact Bool.false_ne_true)) ?_; wp_walk using wpAny_loadPart' hl)
      | (refine wpAny_ite_true (decide_eq_true (by rw [c1])) ?_; wp_walk using wpAny_loadPart' hl))
    exact ⟨_, rfl, h⟩
theorem tuple_mulZ (l : Addr) (items : Array Value) (n : Nat) (dd : Option Addr) (sl : Array (Option Value)) (x : Int) (u : Tok) (c0 : (decide (x < -(2 ^ 63)) || decide (x ≥ 2 ^ 63)) = false) (c1 : (items.isEmpty || x == 1) = false) (c2 : (decide (x ≤ 0) || items.isEmpty) = true) :
    Meets (Builtin.«tuple.__mul__» ⟨[.ref l, .int x u], []⟩) (fun _ R s => s.heap.get? l = some { cls := .type "tuple", dict := dd, data := .seq items n, slots := sl } ∧
      R (.ok (.ret (Value.ref s.heap.objs.size))) { s with heap := s.heap.push { cls := Value.type "tuple", data := Data.seq #[] }, toks := s.toks }) :=
  .of_wp fun prog w A R s h => by
    obtain ⟨hp, g, d, tk, os⟩ := s
    obtain ⟨hl, h⟩ := h
    have f1 := AutoSeq1.idx_int
    wp_walk using wpAny_loadPart' hl
    repeat (first
      | (refine wpAny_ite_false (decide_eq_false (by rw [c0]; exact Bool.false_ne_true)) ?_; wp_walk using wpAny_loadPart' hl)
      | (refine wpAny_ite_false (decide_eq_false (by rw [c1]; exact Bool.false_ne_true)) ?_; wp_walk using wpAny_loadPart' hl)
      | (refine wpAny_ite_true (decide_eq_true (by rw [c2])) ?_; wp_walk using wpAny_loadPart' hl))
    exact ⟨_, rfl, h⟩
def rRepS (K : PySem.W.Frag) : R2 := fun x y H Q => ∃ l k xs, x = .ref l ∧ y = .int k ∧ SqT K H l xs ∧ (xs = [] ∨ k = 1) ∧ -1000 ≤ k ∧ k ≤ 1000 ∧ Q (.ref l) H
def rRepZ (K : PySem.W.Frag) : R2 := fun x y H Q => ∃ l k xs, x = .ref l ∧ y = .int k ∧ SqT K H l xs ∧ xs ≠ [] ∧ -1000 ≤ k ∧ k ≤ 0 ∧ ∀ p, H p = none → Q (.ref p) (upd H p (.tup []))
theorem op_repS {X : Cx} : OpR X (binaryOp .Mult) (rRepS X.K) := by
  intro pins s σ H x y v u Q I rx ry h
  obtain ⟨l, k, xs, rfl, rfl, hT, hk, h1, h2, q⟩ := h
  cases rx
  obtain ⟨t, rfl⟩ := ry
  obtain ⟨its, r, ⟨⟨cls, dd, data, sl⟩, ho, hc, n, hd⟩, hs⟩ := I.tuple hT
  simp only at hc hd
  subst hc hd
  have hle : its.length = xs.length := r.length.symm
  have c0 : (decide (k < -(2 ^ 63)) || decide (k ≥ 2 ^ 63)) = false := by
    rw [decide_eq_false (by omega), decide_eq_false (by omega)] <;> rfl
  have c1 : (its.toArray.isEmpty || k == 1) = true := by
    rcases hk with rfl | rfl
    · have : its = [] := List.length_eq_zero_iff.mp (by rw [hle]; rfl)
      rw [this]
      rfl
    · simp
  exact wpAny_binaryOp_repeat_ref (T := "tuple") (U := "int") (by decide) ⟨_, ho, rfl⟩ (fun s' => typeIs_int s' k t) noFill_tuple_mul F.fills_int_mul F.slot_int_rmul repeat_tuple F.slot_int_index.lookup
    (call_meets F.slot_int_rmul (typeIs_int s k t) F.entry_int_rmul (F.args_int_rmul_2 _ _) (int_rmul_tuple k t l its.toArray n dd sl)
      ⟨ho, rfl, ⟨_, ho, rfl⟩, call_meets F.slot_tuple_mul ⟨_, ho, rfl⟩ F.entry_tuple_mul (F.args_tuple_mul_2 _ _) (tuple_mulS l its.toArray n dd sl k t c0 c1) ⟨ho, ⟨.ref l, H, I, rfl, q⟩⟩⟩)
theorem op_repZ {X : Cx} : OpR X (binaryOp .Mult) (rRepZ X.K) := by
  intro pins s σ H x y v u Q I rx ry h
  obtain ⟨l, k, xs, rfl, rfl, hT, hne, h1, h2, q⟩ := h
  cases rx
  obtain ⟨t, rfl⟩ := ry
  obtain ⟨its, r, ⟨⟨cls, dd, data, sl⟩, ho, hc, n, hd⟩, hs⟩ := I.tuple hT
  simp only at hc hd
  subst hc hd
  have hle : its.length = xs.length := r.length.symm
  have hn : its ≠ [] := fun e => hne (by
    rw [e] at hle
    exact List.eq_nil_of_length_eq_zero hle.symm)
  have hi : its.toArray.isEmpty = false := by
    cases its with
    | nil => exact absurd rfl hn
    | cons a b => rfl
  have c0 : (decide (k < -(2 ^ 63)) || decide (k ≥ 2 ^ 63)) = false := by
    rw [decide_eq_false (by omega), decide_eq_false (by omega)] <;> rfl
  have c1 : (its.toArray.isEmpty || k == 1) = false := by
    rw [hi, Bool.false_or]
    exact beq_eq_false_iff_ne.mpr (by omega)
  have c2 : (decide (k ≤ 0) || its.toArray.isEmpty) = true := by
    rw [decide_eq_true h2]; rfl
  refine wpAny_binaryOp_repeat_ref (T := "tuple") (U := "int") (by decide) ⟨_, ho, rfl⟩ (fun s' => typeIs_int s' k t) noFill_tuple_mul F.fills_int_mul F.slot_int_rmul repeat_tuple F.slot_int_index.lookup
    (call_meets F.slot_int_rmul (typeIs_int s k t) F.entry_int_rmul (F.args_int_rmul_2 _ _) (int_rmul_tuple k t l its.toArray n dd sl)
      ⟨ho, rfl, ⟨_, ho, rfl⟩, call_meets F.slot_tuple_mul ⟨_, ho, rfl⟩ F.entry_tuple_mul (F.args_tuple_mul_2 _ _) (tuple_mulZ l its.toArray n dd sl k t c0 c1 c2) ⟨ho, ?_⟩⟩)
  refine ⟨.ref s.heap.objs.size, _, I.laid (t' := s.toks) (o := .tup []) (fun b ob q => Heap.get?_push_of_some _ q) (Nat.le_refl _) ?_, rfl, q _ (I.hok.fresh (Nat.le_refl _))⟩
  exact ⟨Nat.zero_le _, _, .nil, IsTup.new _ _⟩
end
section
variable {X : Cx} {pa : Addr} {B M : Ms} {H : Hp}
/-- a new object's place is not hidden -/
theorem new_not (al : ∀ a, M a → H a ≠ none) {q : Addr} (h : H q = none) : ¬ M q := fun z => al q z h
theorem new_rep {K : PySem.W.Frag} {ds : List D} {vs : List V} {q : Addr} {o : HO} (h : H q = none) (r : Reps K pa M H ds vs) : Reps K pa (fun b => M b ∨ b = q) (upd H q o) ds vs :=
  r.mono fun b u hb e => ⟨fun z => z.elim hb (fun z => by rw [z, h] at e; cases e), (by rw [upd_ne (ne_of_none e h)]; exact e)⟩
theorem new_lst {K : PySem.W.Frag} {ds : List D} {vs : List V} {q : Addr} (al : ∀ a, M a → H a ≠ none) (h : H q = none) (r : Reps K pa M H ds vs) :
    Rep K pa M (upd H q (.lst vs)) (.lst ds) (.ref q) ∧ NewV K pa M H (.lst ds) (.ref q) (upd H q (.lst vs)) := by
  have n := new_rep (o := .lst vs) h r
  refine ⟨?_, q, vs, rfl, h, upd_same, n⟩
  unfold Rep
  exact ⟨q, vs, rfl, ⟨new_not al h, upd_same⟩, n.mono fun b u hb e => ⟨fun z => hb (.inl z), e⟩⟩
theorem new_tup {K : PySem.W.Frag} {ds : List D} {vs : List V} {q : Addr} (al : ∀ a, M a → H a ≠ none) (h : H q = none) (r : Reps K pa M H ds vs) : Rep K pa M (upd H q (.tup vs)) (.tup ds) (.ref q) := by
  unfold Rep
  exact ⟨q, vs, rfl, ⟨new_not al h, upd_same⟩, (new_rep (o := .tup vs) h r).mono fun b u hb e => ⟨fun z => hb (.inl z), e⟩⟩
theorem same_new {q : Addr} {o : HO} (h : H q = none) : Same H (upd H q o) := fun b u e => by rw [upd_ne (ne_of_none e h)]; exact e

/-- f does on the heap's values what g does on data -/
def OpOk (X : Cx) (pa : Addr) (f : Value → Value → Sem Value) (g : D → D → Option D) : Prop :=
  ∃ r : R2, OpR X f r ∧ ∀ (B M : Ms) (H : Hp) (x y : D) (vx vy : V) (d : D) (Q : VK), (∀ a, B a → M a) → (∀ a, M a → H a ≠ none) → RepB X.K pa B M H x vx → RepB X.K pa B M H y vy → g x y = some d →
    (∀ v H', Same H H' → Rep X.K pa M H' d v → NewV X.K pa M H d v H' → Q v H') → r vx vy H Q
theorem Reps.rep {K : PySem.W.Frag} {ds : List D} {vs : List V} (h : Reps K pa M H ds vs) : ∀ n : Nat, Reps K pa M H (List.replicate n ds).flatten (List.replicate n vs).flatten
  | 0 => by simp; exact .nil
  | n + 1 => by
    rw [List.replicate_succ, List.replicate_succ, List.flatten_cons, List.flatten_cons]
    exact h.append (Reps.rep h n)
theorem opok_add : OpOk X pa (binaryOp .Add) addD := by
  refine ⟨_, op_add.or (op_add_str.or (op_cat.or op_catA)), ?_⟩
  intro B M H x y vx vy d Q sub al hx hy hg q
  cases x <;> cases y <;> simp only [addD] at hg <;> first | (cases hg; done) | skip
  · cases hx.int; cases hy.int
    cases hg
    exact .inl ⟨_, _, rfl, rfl, q _ _ (Same.refl _) (by unfold Rep; rfl) trivial⟩
  · cases hx.str; cases hy.str
    split at hg
    · cases hg
      rename_i hz
      exact .inr (.inl ⟨_, _, rfl, rfl, hz, q _ _ (Same.refl _) (by unfold Rep; rfl) trivial⟩)
    · cases hg
  · obtain ⟨a, vs, rfl, h1, h2⟩ := hx.tup
    obtain ⟨b, ws, rfl, h3, h4⟩ := hy.tup
    split at hg
    · cases hg
      rename_i hz
      refine .inr (.inr (.inr ⟨a, b, vs, ws, rfl, rfl, h1.sq, h3.sq, by rw [h2.length, h4.length]; exact hz, fun e => ?_, fun e1 e2 => ?_, fun e1 e2 p hp => ?_⟩))
      · subst e
        have := h2.length
        rw [List.length_nil] at this
        have := List.length_eq_zero_iff.mp this.symm
        subst this
        refine q _ _ (Same.refl _) ?_ trivial
        unfold Rep
        exact ⟨b, ws, rfl, h3, h4⟩
      · subst e2
        have := h4.length
        rw [List.length_nil] at this
        have := List.length_eq_zero_iff.mp this.symm
        subst this
        rw [List.append_nil] at q
        refine q _ _ (Same.refl _) ?_ trivial
        unfold Rep
        exact ⟨a, vs, rfl, h1, h2⟩
      · exact q _ _ (same_new hp) (new_tup al hp (h2.append h4)) trivial
    · cases hg
  · obtain ⟨a, vs, rfl, _, h1, h2⟩ := hx
    obtain ⟨b, ws, rfl, _, h3, h4⟩ := hy
    split at hg
    · cases hg
      rename_i hz
      refine .inr (.inr (.inl ⟨a, b, vs, ws, rfl, rfl, h1, h3, by rw [h2.length, h4.length]; exact hz, fun p hp => ?_⟩))
      have n := new_lst al hp (h2.append h4)
      exact q _ _ (same_new hp) n.1 n.2
    · cases hg
theorem opok_int {f : Value → Value → Sem Value} {r : R2} {g : D → D → Option D} (hf : OpR X f r)
    (h : ∀ x y d, g x y = some d → ∃ i j k : Int, x = .int i ∧ y = .int j ∧ d = .int k ∧ ∀ H Q, Q (.int k) H → r (.int i) (.int j) H Q) : OpOk X pa f g := by
  refine ⟨r, hf, ?_⟩
  intro B M H x y vx vy d Q sub al hx hy hg q
  obtain ⟨i, j, k, rfl, rfl, rfl, h2⟩ := h x y d hg
  cases hx.int; cases hy.int
  exact h2 H Q (q _ _ (Same.refl _) (by unfold Rep; rfl) trivial)
theorem opok_sub : OpOk X pa (binaryOp .Sub) subD := opok_int op_sub fun x y d h => by
  cases x <;> cases y <;> simp only [subD] at h <;> first | (cases h; done) | skip
  cases h
  exact ⟨_, _, _, rfl, rfl, rfl, fun H Q q => ⟨_, _, rfl, rfl, q⟩⟩
theorem opok_fdiv : OpOk X pa (binaryOp .FloorDiv) fdivD := opok_int op_fdivW fun x y d h => by
  cases x <;> cases y <;> simp only [fdivD] at h <;> first | (cases h; done) | skip
  split at h
  · cases h
    rename_i hc
    exact ⟨_, _, _, rfl, rfl, rfl, fun H Q q => ⟨_, _, rfl, rfl, ⟨hc.1, Nat.lt_trans ((Nat.log2_lt (by omega)).mpr (show _ < 2 ^ 63 by omega)) (by decide)⟩, q⟩⟩
  · cases h
theorem opok_mod : OpOk X pa (binaryOp .Mod) modD := opok_int op_mod fun x y d h => by
  cases x <;> cases y <;> simp only [modD] at h <;> first | (cases h; done) | skip
  split at h
  · cases h
    rename_i hc
    exact ⟨_, _, _, rfl, rfl, rfl, fun H Q q => ⟨_, _, rfl, rfl, hc, q⟩⟩
  · cases h
theorem small64_nat {i : Int} (h : small64 i = true) : i.natAbs < 2 ^ 64 := by
  unfold small64 at h
  have := of_decide_eq_true h
  omega
theorem opok_pow : OpOk X pa (binaryOp .Pow) powD := opok_int op_pow fun x y d h => by
  cases x <;> cases y <;> simp only [powD] at h <;> first | (cases h; done) | skip
  split at h
  · cases h
    rename_i hc
    exact ⟨_, _, _, rfl, rfl, rfl, fun H Q q => ⟨_, _, rfl, rfl, ⟨hc.1, by have := hc.2.1; omega, small64_nat hc.2.2⟩, q⟩⟩
  · cases h
theorem opok_xor : OpOk X pa (binaryOp .BitXor) xorD := opok_int op_xor fun x y d h => by
  cases x <;> cases y <;> simp only [xorD] at h <;> first | (cases h; done) | skip
  cases h
  exact ⟨_, _, _, rfl, rfl, rfl, fun H Q q => ⟨_, _, rfl, rfl, q⟩⟩
theorem opok_mul : OpOk X pa (binaryOp .Mult) mulD := by
  refine ⟨_, op_mul.or (op_rep.or (op_repT.or (op_repS.or op_repZ))), ?_⟩
  intro B M H x y vx vy d Q sub al hx hy hg q
  cases x <;> cases y <;> simp only [mulD] at hg <;> first | (cases hg; done) | skip
  · cases hx.int; cases hy.int
    split at hg
    · cases hg
      rename_i hc
      refine .inl ⟨_, _, rfl, rfl, ?_, q _ _ (Same.refl _) (by unfold Rep; rfl) trivial⟩
      rw [Bool.or_eq_true] at hc
      rcases hc with hc | hc
      · exact .inl (of_decide_eq_true hc)
      · exact .inr (of_decide_eq_true hc)
    · cases hg
  · obtain ⟨a, vs, rfl, h1, h2⟩ := hx.tup
    cases hy.int
    rename_i xs k
    split at hg
    · cases hg
      rename_i hc
      have hl := h2.length
      by_cases c1 : xs = [] ∨ k = 1
      · refine .inr (.inr (.inr (.inl ⟨a, k, vs, rfl, rfl, h1.sq, ?_, hc.2.1, hc.2.2, q _ _ (Same.refl _) ?_ trivial⟩)))
        · rcases c1 with rfl | rfl
          · exact .inl (List.eq_nil_of_length_eq_zero hl)
          · exact .inr rfl
        · have e : repN xs k = xs := by
            rcases c1 with rfl | rfl
            · unfold repN
              induction k.toNat with
              | zero => rfl
              | succ m ih => rw [List.replicate_succ, List.flatten_cons, ih]; rfl
            · unfold repN
              simp
          rw [e]
          unfold Rep
          exact ⟨a, vs, rfl, h1, h2⟩
      · have hne : xs ≠ [] := fun e => c1 (.inl e)
        have hk1 : k ≠ 1 := fun e => c1 (.inr e)
        have hpos : 0 < xs.length := List.length_pos_iff.mpr hne
        by_cases c2 : k ≤ 0
        · refine .inr (.inr (.inr (.inr ⟨a, k, vs, rfl, rfl, h1.sq, fun e => ?_, hc.2.1, c2, fun p hp => ?_⟩)))
          · rw [e] at hl
            simp at hl
            omega
          · have e : repN xs k = [] := by
              unfold repN
              rw [Int.toNat_of_nonpos c2]
              rfl
            rw [e] at q
            exact q _ _ (same_new hp) (new_tup al hp .nil) trivial
        · refine .inr (.inr (.inl ⟨a, k, vs, rfl, rfl, h1.sq, fun e => ?_, by omega, hc.2.2, by rw [hl]; exact hc.1, fun p hp => ?_⟩))
          · rw [e] at hl
            simp at hl
            omega
          · exact q _ _ (same_new hp) (new_tup al hp (h2.rep _)) trivial
    · cases hg
  · obtain ⟨a, vs, rfl, _, h1, h2⟩ := hx
    cases hy.int
    split at hg
    · cases hg
      rename_i hc
      refine .inr (.inl ⟨a, _, vs, rfl, rfl, h1, hc.1, hc.2.1, by rw [h2.length]; exact hc.2.2, fun p hp => ?_⟩)
      exact q _ _ (same_new hp) (new_lst al hp (h2.rep _)).1 (new_lst al hp (h2.rep _)).2
    · cases hg
def opB : Bop → Operator
  | .add => .Add
  | .sub => .Sub
  | .mul => .Mult
  | .fdiv => .FloorDiv
  | .mod => .Mod
  | .pow => .Pow
  | .xor => .BitXor
theorem opok_bin (o : Bop) : OpOk X pa (binaryOp (opB o)) (binD o) := by
  cases o
  · exact opok_add
  · exact opok_sub
  · exact opok_mul
  · exact opok_fdiv
  · exact opok_mod
  · exact opok_pow
  · exact opok_xor

/-! ### comparisons -/
def copC : Cop → CmpOp
  | .eq => .Eq
  | .ne => .NotEq
  | .lt => .Lt
  | .le => .LtE
  | .gt => .Gt
  | .ge => .GtE
  | .isin => .In
  | .notin => .NotIn
def CmpOk (X : Cx) (pa : Addr) (f : Value → Value → Sem Value) (g : D → D → Option Bool) : Prop :=
  ∃ r : R2, OpR X f r ∧ ∀ (B M : Ms) (H : Hp) (x y : D) (vx vy : V) (b : Bool) (Q : VK), (∀ a, B a → M a) → RepB X.K pa B M H x vx → RepB X.K pa B M H y vy → g x y = some b → Q (.bl b) H → r vx vy H Q
theorem eqD_some {a b : D} {r : Bool} (h : eqD a b = some r) : (∃ x y, a = .str x ∧ b = .str y ∧ r = (x == y)) ∨ D.fits 60 a = true ∧ D.fits 60 b = true ∧ r = D.eqv a b := by
  have gen : (if D.fits 60 a && D.fits 60 b then some (D.eqv a b) else none) = some r → D.fits 60 a = true ∧ D.fits 60 b = true ∧ r = D.eqv a b := fun h => by
    split at h
    · cases h
      rename_i hc
      rw [Bool.and_eq_true] at hc
      exact ⟨hc.1, hc.2, rfl⟩
    · cases h
  unfold eqD at h
  split at h
  · cases h
    exact .inl ⟨_, _, rfl, rfl, rfl⟩
  · exact .inr (gen h)
theorem cmpok_eq (hu : X.A.units + 64 < cLine) : CmpOk X pa (compareOp .Eq) eqD := by
  refine ⟨_, (op_eqD hu).or op_eq, ?_⟩
  intro B M H x y vx vy b Q sub hx hy hg q
  rcases eqD_some hg with ⟨s1, s2, rfl, rfl, rfl⟩ | ⟨f1, f2, rfl⟩
  · cases hx.str; cases hy.str
    exact .inr ⟨rfl, by rw [dec_str]; exact q⟩
  refine .inl ⟨toPy x, toPy y, (hx.toRep sub).dp 60 _ _ f1, (hy.toRep sub).dp 60 _ _ f2, shaped_of 60 (by decide) f1, shaped_of 60 (by decide) f2, ?_⟩
  rw [← eqv_py 60 60 x y f1 f2]
  exact q
theorem cmpok_ne (hu : X.A.units + 64 < cLine) : CmpOk X pa (compareOp .NotEq) (fun a b => (eqD a b).map (!·)) := by
  refine ⟨_, (op_neD hu).or op_ne, ?_⟩
  intro B M H x y vx vy b Q sub hx hy hg q
  dsimp only at hg
  cases e : eqD x y with
  | none => rw [e] at hg; cases hg
  | some r =>
    rw [e] at hg
    cases hg
    rcases eqD_some e with ⟨s1, s2, rfl, rfl, rfl⟩ | ⟨f1, f2, rfl⟩
    · cases hx.str; cases hy.str
      exact .inr ⟨rfl, by rw [dec_str]; exact q⟩
    refine .inl ⟨toPy x, toPy y, (hx.toRep sub).dp 60 _ _ f1, (hy.toRep sub).dp 60 _ _ f2, shaped_of 60 (by decide) f1, shaped_of 60 (by decide) f2, ?_⟩
    rw [← eqv_py 60 60 x y f1 f2]
    exact q

theorem cmpok_ints {f : Value → Value → Sem Value} {k : Int → Int → Bool} {g : D → D → Option Bool} (hf : OpR X f (rI0 fun i j => .bl (k i j))) (hg : ∀ x y b, g x y = some b → ∃ i j : Int, x = .int i ∧ y = .int j ∧ b = k i j) : CmpOk X pa f g := by
  refine ⟨_, hf, ?_⟩
  intro B M H x y vx vy b Q sub hx hy h q
  obtain ⟨i, j, rfl, rfl, rfl⟩ := hg x y b h
  cases hx.int; cases hy.int
  exact ⟨_, _, rfl, rfl, q⟩
theorem inD_some {x : D} {xs : List D} {r : Bool} (h : inD x xs = some r) : D.fits 60 x = true ∧ D.fitsL 60 xs = true ∧ r = xs.any fun y => D.eqv y x := by
  unfold inD at h
  split at h
  · cases h
    rename_i hc
    rw [Bool.and_eq_true] at hc
    exact ⟨hc.1, hc.2, rfl⟩
  · cases h
theorem fitsL_mem : ∀ {n : Nat} {xs : List D}, D.fitsL n xs = true → ∀ x ∈ xs, D.fits n x = true
  | _, [], _, _, h => by cases h
  | n, y :: ys, h, x, hx => by
    simp only [D.fitsL, Bool.and_eq_true] at h
    rcases List.mem_cons.mp hx with rfl | hx
    · exact h.1
    · exact fitsL_mem h.2 x hx
theorem any_py {x : D} : ∀ {xs : List D}, D.fits 60 x = true → D.fitsL 60 xs = true → ((toPys xs).any fun z => PyData.eqv z (toPy x)) = xs.any fun y => D.eqv y x
  | [], _, _ => rfl
  | y :: ys, h1, h2 => by
    simp only [D.fitsL, Bool.and_eq_true] at h2
    simp only [toPys, List.any_cons, any_py h1 h2.2, eqv_py 60 60 y x h2.1 h1]
def rInT (K : PySem.W.Frag) : R2 := fun x y H Q => ∃ d ds, Dp K H x d ∧ Dp K H y (.tuple ds) ∧ SeqAt.shaped d = true ∧ SeqAt.shaped (.tuple ds) = true ∧ Q (.bl (ds.any fun z => PyData.eqv z d)) H
def rNotInT (K : PySem.W.Frag) : R2 := fun x y H Q => ∃ d ds, Dp K H x d ∧ Dp K H y (.tuple ds) ∧ SeqAt.shaped d = true ∧ SeqAt.shaped (.tuple ds) = true ∧ Q (.bl (!ds.any fun z => PyData.eqv z d)) H
theorem op_inT (hu : X.A.units + 65 < cLine) : OpR X (compareOp .In) (rInT X.K) := by
  intro pins s σ H x y v u Q I rx ry h
  obtain ⟨d, ds, hd, he, sd, se, q⟩ := h
  obtain ⟨as, r1⟩ := Dp.reads I d x v hd rx
  obtain ⟨bs, r2⟩ := Dp.reads I (.tuple ds) y u he ry
  exact SeqAt.in_tuple_reads r2 r1 (SeqAt.canLay_of_shaped se) (SeqAt.canLay_of_shaped sd) (room_in_shaped sd hu) ⟨.bl _, H, I, rfl, q⟩
theorem op_notInT (hu : X.A.units + 65 < cLine) : OpR X (compareOp .NotIn) (rNotInT X.K) := by
  intro pins s σ H x y v u Q I rx ry h
  obtain ⟨d, ds, hd, he, sd, se, q⟩ := h
  obtain ⟨as, r1⟩ := Dp.reads I d x v hd rx
  obtain ⟨bs, r2⟩ := Dp.reads I (.tuple ds) y u he ry
  exact SeqAt.notIn_tuple_reads r2 r1 (SeqAt.canLay_of_shaped se) (SeqAt.canLay_of_shaped sd) (room_in_shaped sd hu) ⟨.bl _, H, I, rfl, q⟩
theorem fits_seq {xs : List D} (h : D.fitsL 60 xs = true) : D.fits 61 (.lst xs) = true ∧ D.fits 61 (.tup xs) = true := by
  simp only [D.fits]
  exact ⟨h, h⟩
theorem kD_keyD {d : D} {k : L2.Key} (h : keyD d = some k) : d = kD k := by
  cases d <;> first | (cases h; done) | (cases h; rfl)
theorem keyD_kD (k : L2.Key) : keyD (kD k) = some k := by cases k <;> rfl
theorem keysD_map : ∀ {ds : List D} {ks : List L2.Key}, keysD ds = some ks → ds = ks.map kD
  | [], ks, h => by cases h; rfl
  | d :: ds, ks, h => by
    unfold keysD at h
    split at h <;> first | (cases h; done) | skip
    rename_i k ks' e1 e2
    cases h
    rw [kD_keyD e1, keysD_map e2]
    rfl
theorem keysD_kD : ∀ ks : List L2.Key, keysD (ks.map kD) = some ks
  | [] => rfl
  | k :: ks => by
    rw [List.map_cons]
    unfold keysD
    rw [keyD_kD, keysD_kD ks]
theorem isKey_false {d : D} (h : isKey false d = true) : ∃ k, d = kD k := by
  have h : (keyD d).isSome = true := by cases d <;> exact h
  obtain ⟨k, e⟩ := Option.isSome_iff_exists.mp h
  exact ⟨k, kD_keyD e⟩
theorem isKey_true {d : D} (h : isKey true d = true) : ∃ ks : List L2.Key, d = .tup (ks.map kD) := by
  cases d <;> first | (cases h; done) | skip
  obtain ⟨k, e⟩ := Option.isSome_iff_exists.mp h
  exact ⟨k, by rw [keysD_map e]⟩
theorem keq1_kD (a b : L2.Key) : keq1 (kD a) (kD b) = decide (a = b) := by
  cases a <;> cases b
  · rename_i i j
    show (i == j) = decide ((Sum.inl i : L2.Key) = Sum.inl j)
    by_cases e : i = j <;> simp [e]
  · rfl
  · rfl
  · rename_i i j
    show (i == j) = decide ((Sum.inr i : L2.Key) = Sum.inr j)
    by_cases e : i = j <;> simp [e]
theorem keqL_kD : ∀ a b : List L2.Key, keqL (a.map kD) (b.map kD) = decide (a = b)
  | [], [] => rfl
  | [], _ :: _ => rfl
  | _ :: _, [] => rfl
  | x :: xs, y :: ys => by
    rw [List.map_cons, List.map_cons]
    unfold keqL
    rw [keq1_kD, keqL_kD xs ys]
    by_cases e : x = y <;> by_cases e2 : xs = ys <;> simp [e, e2]
theorem keq_kD (a b : L2.Key) : keq (kD a) (kD b) = decide (a = b) := by
  rw [← keq1_kD]
  cases a <;> cases b <;> rfl
/-- a key's value, and how it is told -/
theorem rep_kD {K : PySem.W.Frag} {M : Ms} {H : Hp} {k : L2.Key} {v : V} (h : Rep K pa M H (kD k) v) : v = kV k := by
  cases k <;> (unfold kD Rep at h; exact h)
theorem kD_rep {K : PySem.W.Frag} {M : Ms} {H : Hp} {k : L2.Key} : Rep K pa M H (kD k) (kV k) := by
  cases k <;> (unfold kD Rep; rfl)
theorem reps_kD {K : PySem.W.Frag} {M : Ms} {H : Hp} : ∀ {ks : List L2.Key} {vs : List V}, Reps K pa M H (ks.map kD) vs → vs = ks.map kV
  | [], _, h => by unfold Reps at h; exact h
  | k :: ks, _, h => by
    rw [List.map_cons] at h
    unfold Reps at h
    obtain ⟨v, r, rfl, h1, h2⟩ := h
    rw [rep_kD h1, reps_kD h2]
    rfl
theorem kD_reps {K : PySem.W.Frag} {M : Ms} {H : Hp} : ∀ {ks : List L2.Key}, Reps K pa M H (ks.map kD) (ks.map kV)
  | [] => .nil
  | _ :: _ => .cons kD_rep kD_reps
theorem rep_tkey {K : PySem.W.Frag} {M : Ms} {H : Hp} {ks : List L2.Key} {v : V} (h : Rep K pa M H (.tup (ks.map kD)) v) : ∃ b, v = .ref b ∧ H b = some (.tup (ks.map kV)) := by
  unfold Rep at h
  obtain ⟨a, vs, rfl, h1, h2⟩ := h
  rw [reps_kD h2] at h1
  exact ⟨a, rfl, h1.2⟩
section
variable {κ : Type} [DecidableEq κ] {K : PySem.W.Frag} {M : Ms} {f : κ → D}
/-- a look-up in the data and in the table -/
theorem dget_val (hf : ∀ a b, keq (f a) (f b) = decide (a = b)) (x : κ) : ∀ {kvs : List (κ × V)} {ds : List D}, Reps K pa M H ds (kvs.map (·.2)) →
    (∃ d v, dget (kvs.map fun q => f q.1) ds (f x) = some d ∧ valV kvs x = some v ∧ Rep K pa M H d v) ∨ (dget (kvs.map fun q => f q.1) ds (f x) = none ∧ valV kvs x = none)
  | [], ds, r => by
    right
    refine ⟨?_, rfl⟩
    cases ds <;> rfl
  | q :: kvs, ds, r => by
    have hl := r.length
    cases ds with
    | nil => simp at hl
    | cons d ds =>
      unfold Reps at r
      obtain ⟨v, w, e, h1, h2⟩ := r
      rw [List.map_cons] at e
      injection e with e1 e2
      subst e1 e2
      rw [List.map_cons]
      unfold dget
      by_cases z : q.1 = x
      · left
        rw [hf, decide_eq_true z, if_pos rfl]
        exact ⟨d, q.2, rfl, valV_pos z, h1⟩
      · rw [hf, decide_eq_false z, if_neg Bool.false_ne_true, valV_neg z]
        exact dget_val hf x h2
theorem dhas_val (hf : ∀ a b, keq (f a) (f b) = decide (a = b)) (x : κ) (kvs : List (κ × V)) : dhas (kvs.map fun q => f q.1) (f x) = (valV kvs x).isSome := by
  rw [← valV_any]
  unfold dhas
  rw [List.any_map]
  congr 1
  funext q
  exact hf _ _
end
/-- a dict that is read, at a key -/
theorem dict_get {K : PySem.W.Frag} {M1 M2 : Ms} {t : Bool} {ks ds : List D} {vs : List V} {u : HO} {a : Addr} {k : D} {vk : V} (ho : DictO t ks vs u) (hr : Rd H a u) (rv : Reps K pa M1 H ds vs) (hk : isKey t k = true) (rk : Rep K pa M2 H k vk) :
    (∃ d v, dget ks ds k = some d ∧ DGet H a vk (some v) ∧ Rep K pa M1 H d v ∧ dhas ks k = true) ∨ (dget ks ds k = none ∧ DGet H a vk none ∧ dhas ks k = false) := by
  cases u <;> first | exact ho.elim | skip
  · rename_i kvs
    obtain ⟨rfl, rfl, rfl, nd⟩ := ho
    obtain ⟨x, rfl⟩ := isKey_false hk
    cases rep_kD rk
    have hd := dhas_val (f := kD) keq_kD x kvs
    rcases dget_val (f := kD) keq_kD x rv with ⟨d, v, e1, e2, e3⟩ | ⟨e1, e2⟩
    · exact .inl ⟨d, v, e1, .inl ⟨kvs, x, hr, rfl, e2.symm⟩, e3, by rw [hd, e2]; rfl⟩
    · exact .inr ⟨e1, .inl ⟨kvs, x, hr, rfl, e2.symm⟩, by rw [hd, e2]; rfl⟩
  · rename_i kvs
    obtain ⟨rfl, rfl, rfl, nd⟩ := ho
    obtain ⟨x, rfl⟩ := isKey_true hk
    obtain ⟨b, rfl, hb⟩ := rep_tkey rk
    have hf : ∀ a b : List L2.Key, keq (.tup (a.map kD)) (.tup (b.map kD)) = decide (a = b) := keqL_kD
    have hd := dhas_val (f := fun k : List L2.Key => D.tup (k.map kD)) hf x kvs
    rcases dget_val (f := fun k : List L2.Key => D.tup (k.map kD)) hf x rv with ⟨d, v, e1, e2, e3⟩ | ⟨e1, e2⟩
    · exact .inl ⟨d, v, e1, .inr ⟨kvs, x, b, hr, rfl, hb, e2.symm⟩, e3, by rw [hd, e2]; rfl⟩
    · exact .inr ⟨e1, .inr ⟨kvs, x, b, hr, rfl, hb, e2.symm⟩, by rw [hd, e2]; rfl⟩
/-- x in d -/
def rInDict : R2 := fun x y H Q => ∃ a o, y = .ref a ∧ DGet H a x o ∧ Q (.bl o.isSome) H
def rNotInDict : R2 := fun x y H Q => ∃ a o, y = .ref a ∧ DGet H a x o ∧ Q (.bl (!o.isSome)) H
theorem op_inDict (hu : X.A.units + 1 < cLine) : OpR X (compareOp .In) rInDict := by
  intro pins s σ H x y v u Q I rx ry h
  obtain ⟨a, o, rfl, g, q⟩ := h
  cases ry
  exact d_in hu I g rx fun s' I' => ⟨.bl _, H, I', rfl, q⟩
theorem op_notInDict (hu : X.A.units + 1 < cLine) : OpR X (compareOp .NotIn) rNotInDict := by
  intro pins s σ H x y v u Q I rx ry h
  obtain ⟨a, o, rfl, g, q⟩ := h
  cases ry
  exact d_notIn hu I g rx fun s' I' => ⟨.bl _, H, I', rfl, q⟩
/-- x in a tuple of texts of the written part -/
theorem ktup_dp {K : PySem.W.Frag} {a : Addr} {ss : List Str} (h : KTup K a (ss.map V.str)) : Dp K H (.ref a) (.tuple (ss.map .str)) := by
  have all : ∀ ss : List Str, DpAll K H (ss.map V.str) (ss.map PyData.str) := fun ss => by
    induction ss with
    | nil => exact .nil
    | cons s ss ih => exact .cons (.str s) ih
  exact .tup (.inr h) (all ss)
theorem RepB.dict {K : PySem.W.Frag} {B M : Ms} {t : Bool} {ks ds : List D} {v : V} (h : RepB K pa B M H (.dict t ks ds) v) : ∃ a u vs, v = .ref a ∧ ¬ B a ∧ Rd H a u ∧ DictO t ks vs u ∧ Reps K pa M H ds vs := h
theorem any_str (w : Str) : ∀ ss : List Str, ((ss.map PyData.str).any fun z => PyData.eqv z (.str w)) = ss.contains w
  | [] => rfl
  | s :: ss => by
    rw [List.map_cons, List.any_cons, List.contains_cons, any_str w ss]
    congr 1
    show (PyData.eqv (.str s) (.str w)) = (w == s)
    have : PyData.eqv (.str s) (.str w) = (s == w) := by first | rfl | (unfold PyData.eqv; rfl)
    rw [this]
    by_cases e : s = w
    · subst e; rfl
    · have e' : ¬ w = s := fun z => e z.symm
      rw [show (s == w) = false from by simpa using e, show (w == s) = false from by simpa using e']
theorem cps_one {x : Str} {c : Nat} (h : x.cps = ⟨[c]⟩) : x = ⟨#[c]⟩ := by cases x; cases h; rfl
theorem cmpok_in (hu : X.A.units + 65 < cLine) : CmpOk X pa (compareOp .In) (cmpD .isin) := by
  refine ⟨_, (op_inD hu).or ((op_inT hu).or ((op_inDict (by omega)).or op_in_sign)), ?_⟩
  intro B M H x y vx vy b Q sub hx hy hg q
  by_cases yd : ∃ t ks ds, y = .dict t ks ds
  · obtain ⟨t, ks, ds, rfl⟩ := yd
    have hg : (if isKey t x = true then some (dhas ks x) else none) = some b := by cases x <;> exact hg
    split at hg <;> first | (cases hg; done) | skip
    rename_i hk
    cases hg
    obtain ⟨a, u, vs, rfl, _, h2, h3, h4⟩ := hy.dict
    rcases dict_get h3 h2 h4 hk (hx.toRep sub) with ⟨d, v, e1, e2, _, e3⟩ | ⟨e1, e2, e3⟩
    · rw [e3] at q
      exact .inr (.inr (.inl ⟨a, _, rfl, e2, q⟩))
    · rw [e3] at q
      exact .inr (.inr (.inl ⟨a, _, rfl, e2, q⟩))
  by_cases ys : ∃ z, y = .str z
  · obtain ⟨z, rfl⟩ := ys
    cases x <;> first | (cases hg; done) | skip
    rename_i w
    cases hx.str; cases hy.str
    change (match w.cps with | ⟨[c]⟩ => some (decide (c ∈ z.cps.toList)) | _ => none) = some b at hg
    split at hg <;> first | (cases hg; done) | skip
    rename_i c hc
    cases hg
    exact .inr (.inr (.inr ⟨c, z, by rw [cps_one hc], rfl, q⟩))
  by_cases yc : ∃ ss, y = .ctup ss
  · obtain ⟨ss, rfl⟩ := yc
    cases x <;> first | (cases hg; done) | skip
    rename_i w
    cases hx.str
    change (if strOkD w && ss.all strOkD then some (ss.contains w) else none) = some b at hg
    split at hg <;> first | (cases hg; done) | skip
    rename_i hc
    cases hg
    rw [Bool.and_eq_true] at hc
    unfold RepB Rep at hy
    obtain ⟨a, rfl, hk⟩ := hy
    have f1 : D.fits 60 (.str w) = true := hc.1
    have f2 : D.fits 61 (.tup (ss.map .str)) = true := by
      have : ∀ ss : List Str, ss.all strOkD = true → D.fitsL 60 (ss.map .str) = true := fun ss => by
        induction ss with
        | nil => intro _; rfl
        | cons s ss ih =>
          intro h
          rw [List.all_cons, Bool.and_eq_true] at h
          simp only [List.map_cons, D.fitsL, Bool.and_eq_true]
          exact ⟨h.1, ih h.2⟩
      simp only [D.fits]
      exact this ss hc.2
    have sh := shaped_of 61 (by decide) f2
    have tp : toPy (.tup (ss.map D.str)) = .tuple (ss.map .str) := by
      simp only [toPy, toPys_eq, List.map_map]
      rfl
    rw [tp] at sh
    have ea := any_str w ss
    rw [← ea] at q
    exact .inr (.inl ⟨.str w, ss.map .str, .str w, ktup_dp hk, shaped_of 60 (by decide) f1, sh, q⟩)
  cases y <;> first | exact absurd ⟨_, _, _, rfl⟩ yd | exact absurd ⟨_, rfl⟩ ys | exact absurd ⟨_, rfl⟩ yc | skip
  all_goals (try simp only [cmpD] at hg)
  all_goals first | (cases hg; done) | skip
  · obtain ⟨f1, f2, rfl⟩ := inD_some hg
    have e := hy.toRep sub
    rw [← any_py f1 f2] at q
    exact .inr (.inl ⟨toPy x, toPys _, (hx.toRep sub).dp 60 _ _ f1, e.dp 61 _ _ (fits_seq f2).2, shaped_of 60 (by decide) f1, shaped_of 61 (by decide) (fits_seq f2).2, q⟩)
  · obtain ⟨f1, f2, rfl⟩ := inD_some hg
    have e := hy.toRep sub
    rw [← any_py f1 f2] at q
    exact .inl ⟨toPy x, toPys _, (hx.toRep sub).dp 60 _ _ f1, e.dp 61 _ _ (fits_seq f2).1, shaped_of 60 (by decide) f1, shaped_of 61 (by decide) (fits_seq f2).1, q⟩
theorem cmpok_notin (hu : X.A.units + 65 < cLine) : CmpOk X pa (compareOp .NotIn) (cmpD .notin) := by
  refine ⟨_, (op_notInD hu).or ((op_notInT hu).or ((op_notInDict (by omega)).or op_notIn_sign)), ?_⟩
  intro B M H x y vx vy b Q sub hx hy hg q
  by_cases yd : ∃ t ks ds, y = .dict t ks ds
  · obtain ⟨t, ks, ds, rfl⟩ := yd
    have hg : (if isKey t x = true then some (!dhas ks x) else none) = some b := by cases x <;> exact hg
    split at hg <;> first | (cases hg; done) | skip
    rename_i hk
    cases hg
    obtain ⟨a, u, vs, rfl, _, h2, h3, h4⟩ := hy.dict
    rcases dict_get h3 h2 h4 hk (hx.toRep sub) with ⟨d, v, e1, e2, _, e3⟩ | ⟨e1, e2, e3⟩
    · rw [e3] at q
      exact .inr (.inr (.inl ⟨a, _, rfl, e2, q⟩))
    · rw [e3] at q
      exact .inr (.inr (.inl ⟨a, _, rfl, e2, q⟩))
  by_cases ys : ∃ z, y = .str z
  · obtain ⟨z, rfl⟩ := ys
    cases x <;> first | (cases hg; done) | skip
    rename_i w
    cases hx.str; cases hy.str
    change (match w.cps with | ⟨[c]⟩ => some (!decide (c ∈ z.cps.toList)) | _ => none) = some b at hg
    split at hg <;> first | (cases hg; done) | skip
    rename_i c hc
    cases hg
    exact .inr (.inr (.inr ⟨c, z, by rw [cps_one hc], rfl, q⟩))
  cases y <;> first | exact absurd ⟨_, _, _, rfl⟩ yd | exact absurd ⟨_, rfl⟩ ys | skip
  all_goals (try simp only [cmpD] at hg)
  all_goals first | (cases hg; done) | skip
  · rename_i xs
    cases e : inD x xs with
    | none => rw [e] at hg; cases hg
    | some r =>
      rw [e] at hg
      cases hg
      obtain ⟨f1, f2, rfl⟩ := inD_some e
      have e := hy.toRep sub
      rw [← any_py f1 f2] at q
      exact .inr (.inl ⟨toPy x, toPys _, (hx.toRep sub).dp 60 _ _ f1, e.dp 61 _ _ (fits_seq f2).2, shaped_of 60 (by decide) f1, shaped_of 61 (by decide) (fits_seq f2).2, q⟩)
  · rename_i xs
    cases e : inD x xs with
    | none => rw [e] at hg; cases hg
    | some r =>
      rw [e] at hg
      cases hg
      obtain ⟨f1, f2, rfl⟩ := inD_some e
      have e := hy.toRep sub
      rw [← any_py f1 f2] at q
      exact .inl ⟨toPy x, toPys _, (hx.toRep sub).dp 60 _ _ f1, e.dp 61 _ _ (fits_seq f2).1, shaped_of 60 (by decide) f1, shaped_of 61 (by decide) (fits_seq f2).1, q⟩
/-- data, ordered -/
def rOrd (K : PySem.W.Frag) (k : PyData → PyData → Bool) : R2 := fun x y H Q => ∃ d e, Dp K H x d ∧ Dp K H y e ∧ SeqAt.shaped d = true ∧ PySem.W.alike d e = true ∧ d ≠ .none ∧ Q (.bl (k d e)) H
theorem room_ord {A : Around} {d e : PyData} (h : SeqAt.shaped d = true) (hu : A.units + 65 < cLine) : A.units + min d.depth e.depth < cLine := by
  have : d.depth ≤ 64 := by
    unfold SeqAt.shaped at h
    rw [Bool.and_eq_true] at h
    exact of_decide_eq_true h.2
  omega
theorem op_ltData (hu : X.A.units + 65 < cLine) : OpR X (compareOp .Lt) (rOrd X.K fun d e => PySem.W.dataLt d e) := by
  intro pins s σ H x y v u Q I rx ry h
  obtain ⟨d, e, hd, he, sh, al, hn, q⟩ := h
  obtain ⟨as, r1⟩ := Dp.reads I d x v hd rx
  obtain ⟨bs, r2⟩ := Dp.reads I e y u he ry
  exact PySem.W.lt_data r1 r2 al hn (room_ord sh hu) ⟨.bl _, H, I, rfl, q⟩
theorem op_gtData (hu : X.A.units + 65 < cLine) : OpR X (compareOp .Gt) (rOrd X.K fun d e => PySem.W.dataLt e d) := by
  intro pins s σ H x y v u Q I rx ry h
  obtain ⟨d, e, hd, he, sh, al, hn, q⟩ := h
  obtain ⟨as, r1⟩ := Dp.reads I d x v hd rx
  obtain ⟨bs, r2⟩ := Dp.reads I e y u he ry
  exact PySem.W.gt_data r1 r2 al hn (room_ord sh hu) ⟨.bl _, H, I, rfl, q⟩
theorem op_leData (hu : X.A.units + 65 < cLine) : OpR X (compareOp .LtE) (rOrd X.K fun d e => !PySem.W.dataLt e d) := by
  intro pins s σ H x y v u Q I rx ry h
  obtain ⟨d, e, hd, he, sh, al, hn, q⟩ := h
  obtain ⟨as, r1⟩ := Dp.reads I d x v hd rx
  obtain ⟨bs, r2⟩ := Dp.reads I e y u he ry
  exact PySem.W.le_data r1 r2 al hn (room_ord sh hu) ⟨.bl _, H, I, rfl, q⟩
theorem op_geData (hu : X.A.units + 65 < cLine) : OpR X (compareOp .GtE) (rOrd X.K fun d e => !PySem.W.dataLt d e) := by
  intro pins s σ H x y v u Q I rx ry h
  obtain ⟨d, e, hd, he, sh, al, hn, q⟩ := h
  obtain ⟨as, r1⟩ := Dp.reads I d x v hd rx
  obtain ⟨bs, r2⟩ := Dp.reads I e y u he ry
  exact PySem.W.ge_data r1 r2 al hn (room_ord sh hu) ⟨.bl _, H, I, rfl, q⟩
theorem ltD_some {a b : D} {r : Bool} (h : ltD a b = some r) : D.fits 60 a = true ∧ D.fits 60 b = true ∧ PySem.W.alike (toPy a) (toPy b) = true ∧ r = PySem.W.dataLt (toPy a) (toPy b) := by
  unfold ltD at h
  split at h <;> first | (cases h; done) | skip
  rename_i hc
  cases h
  simp only [Bool.and_eq_true] at hc
  exact ⟨hc.1.1, hc.1.2, hc.2, rfl⟩
theorem cmpok_ord {f : Value → Value → Sem Value} {k : Int → Int → Bool} {k2 : PyData → PyData → Bool} {g : D → D → Option Bool} (hf : OpR X f (rI0 fun i j => .bl (k i j))) (hf2 : OpR X f (rOrd X.K k2))
    (hg : ∀ x y b, g x y = some b → (∃ i j : Int, x = .int i ∧ y = .int j ∧ b = k i j) ∨ (D.fits 60 x = true ∧ D.fits 60 y = true ∧ PySem.W.alike (toPy x) (toPy y) = true ∧ toPy x ≠ .none ∧ b = k2 (toPy x) (toPy y))) : CmpOk X pa f g := by
  refine ⟨_, hf.or hf2, ?_⟩
  intro B M H x y vx vy b Q sub hx hy h q
  rcases hg x y b h with ⟨i, j, rfl, rfl, rfl⟩ | ⟨f1, f2, al, hn, rfl⟩
  · cases hx.int; cases hy.int
    exact .inl ⟨_, _, rfl, rfl, q⟩
  · exact .inr ⟨toPy x, toPy y, (hx.toRep sub).dp 60 _ _ f1, (hy.toRep sub).dp 60 _ _ f2, shaped_of 60 (by decide) f1, al, hn, q⟩
theorem cmpok (hu : X.A.units + 65 < cLine) (o : Cop) : CmpOk X pa (compareOp (copC o)) (cmpD o) := by
  cases o
  · exact cmpok_eq (by omega)
  · exact cmpok_ne (by omega)
  · refine cmpok_ord op_lt (op_ltData hu) fun x y b h => ?_
    cases x <;> cases y <;> simp only [cmpD] at h <;> first | (cases h; done) | skip
    · cases h
      exact .inl ⟨_, _, rfl, rfl, rfl⟩
    · obtain ⟨h1, h2, h3, h4⟩ := ltD_some h
      exact .inr ⟨h1, h2, h3, by simp [toPy], h4⟩
    · obtain ⟨h1, h2, h3, h4⟩ := ltD_some h
      exact .inr ⟨h1, h2, h3, by simp [toPy], h4⟩
  · refine cmpok_ord op_le (op_leData hu) fun x y b h => ?_
    cases x <;> cases y <;> simp only [cmpD] at h <;> first | (cases h; done) | skip
    · cases h
      exact .inl ⟨_, _, rfl, rfl, rfl⟩
    · obtain ⟨r, h', rfl⟩ := Option.map_eq_some_iff.mp h
      obtain ⟨h1, h2, h3, h4⟩ := ltD_some h'
      exact .inr ⟨h2, h1, by rw [PySem.W.alike_comm]; exact h3, by simp [toPy], by rw [h4]⟩
  · refine cmpok_ord op_gt (op_gtData hu) fun x y b h => ?_
    cases x <;> cases y <;> simp only [cmpD] at h <;> first | (cases h; done) | skip
    · cases h
      exact .inl ⟨_, _, rfl, rfl, rfl⟩
    · obtain ⟨h1, h2, h3, h4⟩ := ltD_some h
      exact .inr ⟨h2, h1, by rw [PySem.W.alike_comm]; exact h3, by simp [toPy], h4⟩
  · refine cmpok_ord op_ge (op_geData hu) fun x y b h => ?_
    cases x <;> cases y <;> simp only [cmpD] at h <;> first | (cases h; done) | skip
    · cases h
      exact .inl ⟨_, _, rfl, rfl, rfl⟩
    · obtain ⟨r, h', rfl⟩ := Option.map_eq_some_iff.mp h
      obtain ⟨h1, h2, h3, h4⟩ := ltD_some h'
      exact .inr ⟨h1, h2, h3, by simp [toPy], by rw [h4]⟩
  · exact cmpok_in hu
  · exact cmpok_notin hu
end
end PD

namespace PD
open PySem PySem.Spec PyProof.Rows L2
/-- a def's promise where nothing is shown as text below it -/
structure FnG (P : Program) (w : World) (K : PySem.W.Frag) (mg : Str → Option Value) (base : Heap) (CX : CXT) (k : Nat) (f : Addr) (fd : FuncData) (ps : List Str) (sp : Sp) : Prop where
  len : ∀ vs H Q E, sp vs H Q E → vs.length = ps.length
  go : ∀ (A : Around), A.guards = some [] → Room k A → ∀ (outer : List PySem.Env) (s : Shared) (H : Hp) (args : Args) (us : List Value) (vs : List V) (Q : VK) (E : XK), Env0 P w K mg base A outer s H → BindsTo s fd args (ps.zip us) → Vals vs us → sp vs H Q E →
    codeAny (model P w) A (.call (.ref f) args) (CR CX outer P w H s Q E) s
section
variable {P : Program} {w : World} {K : PySem.W.Frag} {mg : Str → Option Value} {base : Heap} {CX : CXT} {k : Nat} {f : Addr} {fd : FuncData} {ps : List Str} {sp : Sp}
theorem _root_.L2.FnOk.toG (F : FnOk P w K mg base CX k f fd ps sp) : FnG P w K mg base CX k f fd ps sp := ⟨F.len, fun A _ hr outer s H args us vs Q E => F.run A outer s H args us vs Q E hr⟩
theorem fun_okG {x qual : Str} {st : Stmt} {N : List Str} (F : L2.Fun K x qual st f fd) (S : FnScope N ps (defScope st)) (len : ∀ vs H Q E, sp vs H Q E → vs.length = ps.length)
    (bd : ∀ (cdv : Value) (A : Around) (outer : List PySem.Env) (s : Shared) (H : Hp) (vs : List V) (Q : VK) (E : XK), A.guards = some [] → Room k (A.deeper (envOfC qual (defScope st) s.heap.objs.size f cdv)) → sp vs H Q E →
      ∃ t, PSs (cxOf (L2.CX P w) P w K mg base N qual (defScope st) f cdv A outer s H E) (defBody st) t ∧ t { nx := fun _ H' => Q .non H', rt := Q } (start N vs) H) : FnG P w K mg base (L2.CX P w) (k + 1) f fd ps sp := by
  obtain ⟨oc, od, kV, doc, pm, an, cdv, ct, osl, rfl, found, isCode⟩ := F.ex
  constructor
  · exact len
  intro A gu room outer s H args us vs Q E env hb rv promise
  have same := len _ _ _ _ promise
  have inH : K.In s.heap := env.mod.kin.keeps fun b o e => And.left (env.bs b o e)
  have free : s.heap.NoLimit := env.mod.nolimit.keeps fun b o e => And.left (env.bs b o e)
  refine codeAny_call_function room.depth (inH _ _ found) rfl S.co S.gen rfl (PySem.W.codeRec_of inH isCode) (hb _ _ _ _ ?_)
  refine wpAny_newFunctionEnv_cells S.kind (fun y hy => ?_) fun own isOwn s1 started => ?_
  · rcases S.par y.1 (List.of_mem_zip (a := y.1) (b := y.2) hy).1 with q | q
    · exact Or.inl q
    · exact Or.inr ⟨q, PySem.W.cellsFrom_some _ _ _ (Or.inl q)⟩
  subst isOwn
  refine ⟨free.keeps started.toInCall.keep, codeAny_func ?_⟩
  obtain ⟨t, walk, read⟩ := bd cdv A outer s H vs Q E gu (room.deeper _) promise
  have I0 := inv_start (E := E) (CX := L2.CX P w) S room.hd env same rv started
  refine wpAny_mono (walk.run [] s1 (start N vs) H _ I0 read) ?_ (fun _ _ z => z)
  intro fl s' got
  cases fl
  case ret u =>
    obtain ⟨v, σ', H', J, rv, q⟩ := got
    exact ⟨v, H', J.os, J.bare, J.base, J.hok, rv, q⟩
  case next =>
    obtain ⟨σ', H', J, q⟩ := got
    exact ⟨V.non, H', J.os, J.bare, J.base, J.hok, rfl, q⟩
  case brk => exact got.elim fun _ z => z.elim fun _ z => z.2.elim
  case cont => exact got.elim fun _ z => z.elim fun _ z => z.2.elim
theorem run_fnG {X : Cx} {E : L2.St → XK} {pins : List (Addr × Obj)} {σ : L2.St} {H : Hp} {s : Shared} {Q : VK} {us : List Value} {vs : List V} (F : FnG X.prog X.w X.K X.mg X.base CX k f fd ps sp) (gu : X.A.guards = some []) (hr : Room k X.A) (hb : Binds X.K fd ps []) (hx : PassesAt CX X σ (E σ))
    (I : Inv X pins σ H s) (r : Vals vs us) (h : sp vs H Q (E σ)) : wpAny (model X.prog X.w) X.A (call (.ref f) us) (EP X pins σ Q) X.xe s := by
  have same : us.length = ps.length := by
    have := F.len _ _ _ _ h
    have := r.length
    omega
  have bound := hb s us I.kIn (by simpa using same)
  rw [List.append_nil] at bound
  apply wpAny_call
  apply codeAny_mono (F.go X.A gu hr X.stack s H ⟨us, []⟩ us vs Q (E σ) I.env0 bound r h)
  intro res s' got
  rcases res with e | fl
  · exact hx pins H s e s' I got
  · cases fl
    case ret u => exact I.after got
    case next => exact got.elim
    case brk => exact got.elim
    case cont => exact got.elim
end
/-- the heap in which the script alone is known -/
def scriptH (a : Addr) (o : Obj) (ns : List Int) : Hp := fun b => if b = a then some (.frz o (.lst (ns.map V.int))) else none
section
variable {P : Program} {w : World} {K : PySem.W.Frag} {mg mb : Str → Option Value} {CX : CXT} {k : Nat} {fa a : Addr} {fd : FuncData} {x : Str} {sp : Sp} {s₁ : Shared} {vs : List Value} {ns : List Int} {H : Hp}
/-- from one abstract heap -/
theorem from_heap (KX : K.In s₁.heap) (N1 : s₁.heap.Ns mainGlobals mg) (N2 : s₁.heap.Ns builtinsNs mb) (N3 : ∀ x : Str, x ≠ "__name__" → mb x = bootBuiltins x) (N4 : s₁.heap.NoLimit) (N5 : s₁.gens = #[])
    (la : ∃ o, s₁.heap.get? a = some o ∧ ∀ es ep, o.data ≠ .dict es ep) (F : ∀ base : Heap, K.In base → base.Ns mainGlobals mg → FnG P w K mg base CX k fa fd [x] sp) (hr : Room k callerA) (hbind : ∀ (s : Shared) (u : Value), BindsTo s fd ⟨[u], []⟩ [(x, u)])
    (pr : sp [.ref a] H (fun v _ => v = .bl true) fun _ _ _ => False) (none_out : ∀ H e s', CX [] H s₁ (fun _ _ _ => False) e s' → False)
    (ok : HOk P w H s₁.heap) (only : ∀ b, H b ≠ none → b = a ∧ K.lookup a = none ∧ ∃ o u, H a = some (.frz o u)) :
    codeAny (model P w) callerA (.call (.ref fa) ⟨[.ref a], []⟩) (fun r s' => r = .ok (.ret (.bool true)) ∧ OldK s₁.heap s'.heap ∧ s'.os = s₁.os ∧ AllBare s'.gens) s₁ := by
  obtain ⟨oa, la, nd⟩ := la
  have free : ∀ {b : Addr}, b ≠ a → H b = none := fun {b} ne => by
    cases q : H b with
    | none => rfl
    | some u => exact absurd (only b (by rw [q]; exact Option.some_ne_none u)).1 ne
  have dicts : ∀ {b : Addr} {m : Str → Option Value}, s₁.heap.Ns b m → (hidT s₁.heap H).Ns b m := fun {b m} ⟨o, es, ep, e, d, r⟩ => by
    refine ⟨o, es, ep, hidT_get e (free fun z => ?_), d, r⟩
    rw [z, la] at e
    cases e
    exact nd es ep d
  have inK : K.In (hidT s₁.heap H) := fun b o e => by
    refine hidT_get (KX b o e) ?_
    cases q : H b with
    | none => rfl
    | some u =>
      obtain ⟨z, n, _⟩ := only b (by rw [q]; exact Option.some_ne_none u)
      rw [z, n] at e
      cases e
  have md : Mod K mg (hidT s₁.heap H) := ⟨inK, dicts N1, ⟨mb, dicts N2, N3⟩, N4.elim fun mc q => ⟨mc, dicts q.1, q.2⟩⟩
  have env : Env0 P w K mg (hidT s₁.heap H) callerA [] s₁ H := ⟨rfl, md, fun _ _ e => of_hidT e, Nat.le_of_eq (hidT_size _ _), trivial, fun _ hb => (List.not_mem_nil hb).elim, ok, .of_eq N5⟩
  apply codeAny_mono ((F _ inK (dicts N1)).go callerA rfl hr [] s₁ H ⟨[.ref a], []⟩ [.ref a] [.ref a] _ _ env (hbind s₁ (.ref a)) (.cons rfl .nil) pr)
  intro r s' got
  rcases r with e | fl
  rotate_left
  · cases fl
    case next => exact got.elim
    case brk => exact got.elim
    case cont => exact got.elim
    case ret u =>
      obtain ⟨v, H', os, bare, un, ok', rv, isT⟩ := got
      have isT : v = .bl true := isT
      subst isT
      obtain rfl : u = Value.bool true := rv
      refine ⟨rfl, .of_keep fun b o e => ?_, os, bare⟩
      by_cases q : H b = none
      · exact un.keep b o e q List.not_mem_nil List.not_mem_nil
      · obtain ⟨z, _, o1, u1, fz⟩ := only b q
        rw [← z] at fz
        have f1 := (ok b _ fz).1
        have f2 := (ok' b _ (un.frzs b o1 u1 fz)).1
        rw [e] at f1
        rw [f2, f1]
  · exact (none_out H e s' got).elim
theorem law_callG (KX : K.In s₁.heap) (N1 : s₁.heap.Ns mainGlobals mg) (N2 : s₁.heap.Ns builtinsNs mb) (N3 : ∀ x : Str, x ≠ "__name__" → mb x = bootBuiltins x) (N4 : s₁.heap.NoLimit) (N5 : s₁.gens = #[])
    (la : s₁.heap.get? a = some { cls := .type "list", data := .seq vs.toArray }) (hi : IntsAre vs ns) (hl : ns.length ≤ sizeLine) (F : ∀ base : Heap, K.In base → base.Ns mainGlobals mg → FnG P w K mg base CX k fa fd [x] sp) (hr : Room k callerA) (hbind : ∀ (s : Shared) (u : Value), BindsTo s fd ⟨[u], []⟩ [(x, u)])
    (pr : ∀ H : Hp, SqL K H a (ns.map V.int) → sp [.ref a] H (fun v _ => v = .bl true) fun _ _ _ => False) (none_out : ∀ H e s', CX [] H s₁ (fun _ _ _ => False) e s' → False) :
    codeAny (model P w) callerA (.call (.ref fa) ⟨[.ref a], []⟩) (fun r s' => r = .ok (.ret (.bool true)) ∧ OldK s₁.heap s'.heap ∧ s'.os = s₁.os ∧ AllBare s'.gens) s₁ := by
  have rv := vals_ints hi
  have la' : ∃ o, s₁.heap.get? a = some o ∧ ∀ es ep, o.data ≠ .dict es ep := ⟨_, la, fun _ _ z => by cases z⟩
  by_cases hk : K.lookup a = none
  · have at_a : scriptH a { cls := .type "list", data := .seq vs.toArray } ns a = some (.frz { cls := .type "list", data := .seq vs.toArray } (.lst (ns.map V.int))) := if_pos rfl
    refine from_heap (H := scriptH a { cls := .type "list", data := .seq vs.toArray } ns) KX N1 N2 N3 N4 N5 la' F hr hbind (pr _ (.inl (.inr ⟨_, at_a⟩))) none_out (fun b u e => ?_) fun b e => ?_
    · by_cases z : b = a
      · subst z
        rw [at_a] at e
        cases e
        exact ⟨la, by simpa using hl, vs, _, rv, la⟩
      · rw [show scriptH a { cls := .type "list", data := .seq vs.toArray } ns b = none from if_neg z] at e
        cases e
    · by_cases z : b = a
      · exact ⟨z, hk, _, _, at_a⟩
      · exact absurd (if_neg z) e
  · obtain ⟨o, e⟩ := Option.ne_none_iff_exists'.mp hk
    have e2 := KX a o e
    rw [la] at e2
    cases e2
    refine from_heap (H := fun _ => none) KX N1 N2 N3 N4 N5 la' F hr hbind (pr _ (.inr ⟨_, vs.toArray, _, e, rfl, rfl, rfl, ?_, ?_⟩)) none_out (fun b u e => by cases e) fun b e => absurd rfl e
    · rw [List.size_toArray, hi.length]; exact hl
    · simpa using rv
end
open PySem.W in
/-- the goal that the head leaves -/
theorem walk_G {l : PySem.W.OpenLaw} {n k : Nat} {q : Program} {loose : List Str} {XP : (Str → Option Value) → Heap → Prop} {YP : World → Heap → Prop} {d : DefRec} {K : Params → PySem.W.Frag} {CX : World → CXT} {sp : World → Sp} {x : Str} (most : l.most = some n) (small : n ≤ sizeLine) (hdf : d.params.defaults = []) (hr : Room k callerA)
    (hY : ∀ (w : World) (h : Heap), YP w h → (K w.params).In h) (F : ∀ (w : World) (mg : Str → Option Value) (fa : Addr) (h : Heap), (K w.params).In h → h.Ns mainGlobals mg → mg d.name = some (.ref fa) →
      ∃ fd : FuncData, (∀ (s : Shared) (u : Value), BindsTo s fd ⟨[u], []⟩ [(x, u)]) ∧ ∀ base : Heap, (K w.params).In base → base.Ns mainGlobals mg → FnG l.prog w (K w.params) mg base (CX w) k fa fd [x] (sp w))
    (pr : ∀ (w : World) (H : Hp) (a : Addr) (ns : List Int), ns.length ≤ n → SqL (K w.params) H a (ns.map V.int) → sp w [.ref a] H (fun v _ => v = .bl true) fun _ _ _ => False)
    (none_out : ∀ (w : World) (H : Hp) (s : Shared) (e : Value) (s' : Shared), CX w [] H s (fun _ _ _ => False) e s' → False) : PySem.W.WalkO q loose XP YP l.row.toRowW d [] (fun f vs => PySem.call f vs) := by
  refine Att.attach_call most hdf fun w s₀ s₁ mg mb fa o pm cd doc a vs ns G Y ho hd hcd hmg hobj hints hlen hg => ?_
  have inK := hY w _ Y
  obtain ⟨fd, hb, go⟩ := F w mg fa _ inK G.T.g hmg
  exact law_callG inK G.T.g G.T.b G.T.builtins G.T.nolimit hg hobj hints (Nat.le_trans hlen small) go hr hb (fun H hS => pr w H a ns hlen hS) fun H e s' => none_out w H s₁ e s'
end PD

namespace PD
open PySem PySem.Spec PyProof.Rows L2

/-! ### the text and its expression agree -/
def visB (sc : Scope) (x : Str) : Bool := match sc.names.lookup x with
  | some .local => true
  | some .cell => true
  | some .free => true
  | _ => false
def glB (sc : Scope) (x : Str) : Bool := match sc.names.lookup x with
  | some .globalImplicit => true
  | _ => false
def plainN (x : Str) : Bool := !(x == ("__debug__" : Str)) && !(x == ("__classdict__" : Str)) && !(x == ("__name__" : Str))
def nmB (sc : Scope) (x : Str) : Expr → Bool
  | .Name y _ => x == y && glB sc x && plainN x
  | _ => false
def notStar : Expr → Bool
  | .Starred _ _ => false
  | _ => true
def notSlice : Expr → Bool
  | .Slice _ _ _ _ => false
  | _ => true
def notSet : Expr → Bool
  | .Set _ _ _ => false
  | _ => true
def nameE : Expr → Bool
  | .Name _ _ => true
  | .Subscript _ _ _ => true
  | _ => false
def opEq : Operator → Bop → Bool
  | .Add, .add => true
  | .Sub, .sub => true
  | .Mult, .mul => true
  | .FloorDiv, .fdiv => true
  | .Mod, .mod => true
  | .Pow, .pow => true
  | .BitXor, .xor => true
  | _, _ => false
def copEq : CmpOp → Cop → Bool
  | .Eq, .eq => true
  | .NotEq, .ne => true
  | .Lt, .lt => true
  | .LtE, .le => true
  | .Gt, .gt => true
  | .GtE, .ge => true
  | .In, .isin => true
  | .NotIn, .notin => true
  | _, _ => false
def biName : Bi → Str
  | .len => "len"
  | .sum => "sum"
  | .max1 => "max"
  | .min1 => "min"
  | .max2 => "max"
  | .min2 => "min"
  | .abs => "abs"
  | .tuple => "tuple"
  | .list => "list"
  | .all => "all"
  | .any => "any"
  | .int => "int"
  | .repr => "repr"
  | .sorted => "sorted"
def biArity : Bi → Nat
  | .max2 => 2
  | .min2 => 2
  | _ => 1
def tyName : Ty → String
  | .int => "int"
  | .bool => "bool"
  | .str => "str"
  | .tuple => "tuple"
  | .list => "list"
  | .dict => "dict"
def ownOf (N : List Str) (tg : Tg) : List (Str × Nat) := tg.own.filterMap fun i => (N[i]?).map fun x => (x, i)
def locB (scope : Scope) (x : Str) : Bool := match scope.names.lookup x with
  | some .local => true
  | some .cell => true
  | _ => false
def chkName (N : List Str) (scope : Scope) (i : Nat) : Expr → Bool
  | .Name x _ => N[i]? == some x && locB scope x
  | _ => false
def chkNames (N : List Str) (scope : Scope) : List Nat → List Expr → Bool
  | [], [] => true
  | i :: is, e :: es => chkName N scope i e && chkNames N scope is es
  | _, _ => false
def chkTg (N : List Str) (scope : Scope) : Tg → Expr → Bool
  | .name i, e => chkName N scope i e
  | .tup is, .Tuple es _ _ => chkNames N scope is es
  | _, _ => false
/-- what zip gives is taken apart -/
def zipT : E → Tg → Bool
  | .zip _ _, .tup _ => true
  | .zip _ _, .name _ => false
  | _, _ => true
def nodupB : List Nat → Bool
  | [] => true
  | i :: is => !is.contains i && nodupB is

section
variable (N : List Str) (fns : List Str)
def chkKeys : List Str → List (Option Expr) → Bool
  | [], [] => true
  | k :: ks, some (.Constant (.str t) _ _) :: es => k == t && !ks.contains k && chkKeys ks es
  | _, _ => false
mutual
def chkE : Scope → E → Expr → Bool
  | sc, .var i, e => match e with
    | .Name x _ => N[i]? == some x && visB sc x && plainN x
    | _ => false
  | sc, .glob x, e => nmB sc x e
  | _, .int i, e => match e with
    | .Constant (.int j) _ _ => i == j
    | _ => false
  | _, .str s, e => match e with
    | .Constant (.str t) _ _ => s == t
    | _ => false
  | _, .bl b, e => match e with
    | .Constant (.bool c) _ _ => b == c
    | _ => false
  | _, .non, e => match e with
    | .Constant .none _ _ => true
    | _ => false
  | sc, .bin o a b, e => match e with
    | .BinOp x op y _ => opEq op o && chkE sc a x && chkE sc b y
    | _ => false
  | sc, .neg a, e => match e with
    | .UnaryOp .USub x _ => chkE sc a x
    | _ => false
  | sc, .cmp o a b, e => match e with
    | .Compare x [op] [y] _ => copEq op o && chkE sc a x && chkE sc b y && notSet y
    | _ => false
  | sc, .chain o o' a b c, e => match e with
    | .Compare x [op, op'] [y, z] _ => copEq op o && copEq op' o' && chkE sc a x && chkE sc b y && chkE sc c z && notSet z
    | _ => false
  | sc, .isn a, e => match e with
    | .Compare x [.Is] [.Constant .none _ _] _ => chkE sc a x
    | _ => false
  | sc, .notn a, e => match e with
    | .Compare x [.IsNot] [.Constant .none _ _] _ => chkE sc a x
    | _ => false
  | sc, .not a, e => match e with
    | .UnaryOp .Not x _ => chkE sc a x
    | _ => false
  | sc, .and a b, e => match e with
    | .BoolOp .And (x :: y :: rest) pos => chkE sc a x && (match rest with
      | [] => chkE sc b y
      | _ :: _ => chkE sc b (.BoolOp .And (y :: rest) pos))
    | _ => false
  | sc, .or a b, e => match e with
    | .BoolOp .Or (x :: y :: rest) pos => chkE sc a x && (match rest with
      | [] => chkE sc b y
      | _ :: _ => chkE sc b (.BoolOp .Or (y :: rest) pos))
    | _ => false
  | sc, .ite c a b, e => match e with
    | .IfExp x y z _ => chkE sc c x && chkE sc a y && chkE sc b z
    | _ => false
  | sc, .tup es, e => match e with
    | .Tuple xs _ _ => chkEs sc es xs
    | _ => false
  | sc, .lst es, e => match e with
    | .List xs _ => chkEs sc es xs
    | _ => false
  | sc, .idx a i, e => match e with
    | .Subscript x y _ => chkE sc a x && chkE sc i y && notSlice y
    | _ => false
  | sc, .sl a lo hi, e => match e with
    | .Subscript x (.Slice l h none _) _ => chkE sc a x && chkO sc lo l && chkO sc hi h
    | _ => false
  | sc, .rev a, e => match e with
    | .Subscript x (.Slice none none (some (.UnaryOp .USub (.Constant (.int 1) _ _) _)) _) _ => chkE sc a x
    | _ => false
  | sc, .call f es, e => match e with
    | .Call g xs [] _ => nmB sc f g && fns.contains f && chkEs sc es xs
    | _ => false
  | sc, .bi b es, e => match e with
    | .Call g xs [] _ => nmB sc (biName b) g && xs.length == biArity b && chkEs sc es xs
    | _ => false
  | sc, .isi a t, e => match e with
    | .Call g [x, y] [] _ => nmB sc "isinstance" g && nmB sc (Str.ofString (tyName t)) y && chkE sc a x && notStar x
    | _ => false
  | sc, .pfld i k, e => match e with
    | .Subscript (.Name x _) (.Constant (.int j) _ _) _ => N[i]? == some x && visB sc x && plainN x && j == (k : Int)
    | _ => false
  | sc, .plen i, e => match e with
    | .Call g [.Subscript (.Name x _) (.Constant (.int 0) _ _) _] [] _ => nmB sc "len" g && N[i]? == some x && visB sc x && plainN x
    | _ => false
  | sc, .pcell i, e => match e with
    | .Subscript (.Subscript (.Name x _) (.Constant (.int 0) _ _) _) (.Subscript (.Name y _) (.Constant (.int 1) _ _) _) _ => N[i]? == some x && visB sc x && plainN x && y == x
    | _ => false
  | sc, .comp elt tg it c, e => match e with
    | .ListComp el [⟨t, i, ifs, 0⟩] scope _ => chkI sc it i && notSet i && blkC N sc scope (ownOf N tg) && chkTg N scope tg t && nodupB tg.own && tg.own.all (fun i => (N[i]?).isSome) && chkC (relS scope sc) c ifs && chkE (relS scope sc) elt el && zipT it tg
    | _ => false
  | sc, .pick ks es k, e => match e with
    | .Subscript (.Dict keys vals _) i _ => chkKeys ks keys && chkEs sc es vals && chkE sc k i && notSlice i && decide (keys.length ≤ 15) && !ks.isEmpty && ks.length == vals.length
    | _ => false
  | sc, .trev a, e => match e with
    | .Call g [.Call h [x] [] _] [] _ => nmB sc "tuple" g && nmB sc "reversed" h && chkE sc a x && notStar x
    | _ => false
  | sc, .lzip a b, e => match e with
    | .Call g [.Call h [x, y] [] _] [] _ => nmB sc "list" g && nmB sc "zip" h && chkE sc a x && chkE sc b y && notStar x && notStar y
    | _ => false
  | sc, .sortset a, e => match e with
    | .Call g [.Call h [x] [] _] [] _ => nmB sc "sorted" g && nmB sc "set" h && chkE sc a x && notStar x
    | _ => false
  | sc, .mind a i, e => match e with
    | .Call g [x] [⟨some "default", .Constant (.int j) _ _, _⟩] _ => nmB sc "min" g && chkE sc a x && notStar x && i == j
    | _ => false
  | sc, .sortr a, e => match e with
    | .Call g [x] [⟨some "reverse", .Constant (.bool true) _ _, _⟩] _ => nmB sc "sorted" g && chkE sc a x && notStar x
    | _ => false
  | sc, .lrng a, e => match e with
    | .Call g [.Call h [x] [] _] [] _ => nmB sc "list" g && nmB sc "range" h && chkE sc a x && notStar x
    | _ => false
  | sc, .trng a, e => match e with
    | .Call g [.Call h [x] [] _] [] _ => nmB sc "tuple" g && nmB sc "range" h && chkE sc a x && notStar x
    | _ => false
  | _, .dnew _, e => match e with
    | .Dict [] [] _ => true
    | _ => false
  | sc, .dget a k, e => match e with
    | .Call (.Attribute x m ap) [y] [] cp => m == "get" && ap.endLine == cp.line && chkE sc a x && chkE sc k y && notStar y && nameE x
    | _ => false
  | sc, .dget2 a k d, e => match e with
    | .Call (.Attribute x m ap) [y, z] [] cp => m == "get" && ap.endLine == cp.line && chkE sc a x && chkE sc k y && chkE sc d z && notStar y && notStar z && nameE x
    | _ => false
  | sc, .dpairs _ a, e => match e with
    | .Call g [x] [] _ => nmB sc "dict" g && chkE sc a x && notStar x
    | _ => false
  | sc, .ddisp1 k v, e => match e with
    | .Dict [some x] [y] _ => chkE sc k x && chkE sc v y
    | _ => false
  | sc, .ddisp2 k v k2 v2, e => match e with
    | .Dict [some x, some x2] [y, y2] _ => chkE sc k x && chkE sc v y && chkE sc k2 x2 && chkE sc v2 y2
    | _ => false
  | sc, .ddispT k v k2 v2, e => match e with
    | .Dict [some x, some x2] [y, y2] _ => chkE sc k x && chkE sc v y && chkE sc k2 x2 && chkE sc v2 y2
    | _ => false
  | sc, .dcopy a, e => match e with
    | .Call g [x] [] _ => nmB sc "dict" g && chkE sc a x && notStar x
    | _ => false
  | sc, .dcomp k v tg it c, e => match e with
    | .DictComp kx vx [⟨t, i, ifs, 0⟩] scope _ => chkI sc it i && notSet i && blkC N sc scope (ownOf N tg) && chkTg N scope tg t && nodupB tg.own && tg.own.all (fun i => (N[i]?).isSome) && chkC (relS scope sc) c ifs && chkE (relS scope sc) k kx && chkE (relS scope sc) v vx && zipT it tg
    | _ => false
  | sc, .compD elt tg j c, e => match e with
    | .ListComp el [⟨t, i, ifs, 0⟩] scope _ => (match i with
      | .Name x _ => N[j]? == some x && visB sc x && plainN x
      | _ => false) && blkC N sc scope (ownOf N tg) && chkTg N scope tg t && nodupB tg.own && tg.own.all (fun i => (N[i]?).isSome) && chkC (relS scope sc) c ifs && chkE (relS scope sc) elt el
    | _ => false
  | _, _, _ => false
def chkEs : Scope → E → List Expr → Bool
  | _, .nil, es => es.isEmpty
  | sc, .cons a r, es => match es with
    | x :: xs => chkE sc a x && notStar x && chkEs sc r xs
    | [] => false
  | _, _, _ => false
def chkO : Scope → E → Option Expr → Bool
  | _, .nil, none => true
  | sc, .cons a .nil, some x => chkE sc a x
  | _, _, _ => false
def chkC : Scope → E → List Expr → Bool
  | _, .nil, [] => true
  | sc, .cons a .nil, [x] => chkE sc a x
  | _, _, _ => false
/-- what a for walks -/
def chkI : Scope → E → Expr → Bool
  | sc, .rng1 a, e => match e with
    | .Call g [x] [] _ => nmB sc "range" g && chkE sc a x && notStar x
    | _ => false
  | sc, .rng2 a b, e => match e with
    | .Call g [x, y] [] _ => nmB sc "range" g && chkE sc a x && chkE sc b y && notStar x && notStar y
    | _ => false
  | sc, .revr a, e => match e with
    | .Call g [.Call h [x] [] _] [] _ => nmB sc "reversed" g && nmB sc "range" h && chkE sc a x && notStar x
    | _ => false
  | sc, .revd a, e => match e with
    | .Call g [x] [] _ => nmB sc "reversed" g && chkE sc a x && notStar x
    | _ => false
  | sc, .lzip a b, e => match e with
    | .Call g [.Call h [x, y] [] _] [] _ => nmB sc "list" g && nmB sc "zip" h && chkE sc a x && chkE sc b y && notStar x && notStar y
    | _ => false
  | sc, .sortset a, e => match e with
    | .Call g [.Call h [x] [] _] [] _ => nmB sc "sorted" g && nmB sc "set" h && chkE sc a x && notStar x
    | _ => false
  | sc, .zip a b, e => match e with
    | .Call g [x, y] [] _ => nmB sc "zip" g && chkE sc a x && chkE sc b y && notStar x && notStar y
    | _ => false
  | sc, .dget a k, e => match e with
    | .Call (.Attribute x m ap) [y] [] cp => m == "get" && ap.endLine == cp.line && chkE sc a x && chkE sc k y && notStar y && nameE x
    | _ => false
  | sc, .dget2 a k d, e => match e with
    | .Call (.Attribute x m ap) [y, z] [] cp => m == "get" && ap.endLine == cp.line && chkE sc a x && chkE sc k y && chkE sc d z && notStar y && notStar z && nameE x
    | _ => false
  | sc, .var i, e => match e with
    | .Name x _ => N[i]? == some x && visB sc x && plainN x
    | _ => false
  | sc, .glob x, e => nmB sc x e
  | sc, .bin o a b, e => match e with
    | .BinOp x op y _ => opEq op o && chkE sc a x && chkE sc b y
    | _ => false
  | sc, .ite c a b, e => match e with
    | .IfExp x y z _ => chkE sc c x && chkE sc a y && chkE sc b z
    | _ => false
  | sc, .tup es, e => match e with
    | .Tuple xs _ _ => chkEs sc es xs
    | _ => false
  | sc, .lst es, e => match e with
    | .List xs _ => chkEs sc es xs
    | _ => false
  | sc, .idx a i, e => match e with
    | .Subscript x y _ => chkE sc a x && chkE sc i y && notSlice y
    | _ => false
  | sc, .sl a lo hi, e => match e with
    | .Subscript x (.Slice l h none _) _ => chkE sc a x && chkO sc lo l && chkO sc hi h
    | _ => false
  | sc, .rev a, e => match e with
    | .Subscript x (.Slice none none (some (.UnaryOp .USub (.Constant (.int 1) _ _) _)) _) _ => chkE sc a x
    | _ => false
  | sc, .call f es, e => match e with
    | .Call g xs [] _ => nmB sc f g && fns.contains f && chkEs sc es xs
    | _ => false
  | sc, .bi b es, e => match e with
    | .Call g xs [] _ => nmB sc (biName b) g && xs.length == biArity b && chkEs sc es xs
    | _ => false
  | _, _, _ => false
end
end
/-- texts that a for alone walks -/
def itOnly : E → Bool
  | .rng1 _ => true
  | .rng2 _ _ => true
  | .rng3 _ _ _ => true
  | .revr _ => true
  | .revd _ => true
  | .zip _ _ => true
  | _ => false
theorem chkI_E {N fns : List Str} : ∀ {sc : Scope} {it : E} {e : Expr}, chkI N fns sc it e = true → itOnly it = true ∨ chkE N fns sc it e = true := by
  intro sc it e h
  cases it <;> first
    | exact .inl rfl
    | (right; unfold chkI at h; unfold chkE; exact h)
    | (unfold chkI at h; cases h)
end PD

namespace PD
open PySem PySem.Spec PyProof.Rows L2

abbrev ExV := Str → List D → Hp → Value → Option Addr → Prop
/-- what the module's text has made of a class of exceptions without own __init__ -/
structure OwnOk (K : PySem.W.Frag) (C : Addr) : Prop where
  kp : PySem.W.keepIn K (.ref C) = true
  ex : PySem.W.excIn K C [.type "ValueError", .type "Exception", .type "BaseException", .type "object"] "ValueError.__new__" = true
  sub : PySem.W.subIn K (.ref C) (.type "BaseException") = some true
  ty : PySem.W.typeIn K (.ref C) = some (.type "type")
  ec : L2.ExcC K C
def IsCls (mg : Str → Option Value) (h : Str) (hv : Value) : Prop := mg h = some hv ∨ (mg h = none ∧ bootBuiltins h = some hv ∧ h ≠ "__name__")
structure ExcF (K : PySem.W.Frag) (mg : Str → Option Value) (gt : Str → Option D) : Prop where
  own : ∀ c, clsB gt c = true → ownB c = true → ∃ C, mg c = some (.ref C) ∧ OwnOk K C
  any : ∀ h, clsB gt h = true → (h == ("__debug__" : Str)) = false ∧ ∃ hv, IsCls mg h hv ∧ ((∃ C, hv = .ref C) ∨ ∃ T, hv = .type T)
  rel : ∀ c h C hv, clsB gt c = true → ownB c = true → clsB gt h = true → mg c = some (.ref C) → IsCls mg h hv → PySem.W.exmOne K (.ref C) hv = some (subB c h) ∧ PySem.W.kitOne K (.ref C) hv = some (subB c h)
/-- an exception of a class of the program, with no dict of its own -/
def exvOf (mg : Str → Option Value) : ExV := fun c _ _ cls dx => ∃ C, mg c = some (.ref C) ∧ cls = .ref C ∧ dx = none
section
variable (K : PySem.W.Frag) (pa ca : Addr) (exv : ExV)
def RepBs (B M : Ms) (H : Hp) : List D → List V → Prop
  | [], vs => vs = []
  | d :: ds, vs => ∃ v r, vs = v :: r ∧ RepB K pa B M H d v ∧ RepBs B M H ds r
/-- what a call of f promises: on data that lies in the heap it does what cf does -/
def spF (cf : Str → List D → PSt → Out D) (f : Str) (n : Nat) : Sp := fun vs H Q E => vs.length = n ∧ ∃ (B : Ms) (p : PSt) (ds : List D), Reps K pa B H ds vs ∧ PoolOk pa ca H p ∧ B pa ∧ B ca ∧ (∀ a, B a → H a ≠ none) ∧ (∀ a vs, B a → H a ≠ some (.tup vs)) ∧
  Holds (cf f ds p) (fun d p' => ∀ v H', Ext pa H H' → PoolOk pa ca H' p' → Rep K pa B H' d v → Q v H')
    (fun c xs p' => ∀ cls dx H', Ext pa H H' → PoolOk pa ca H' p' → exv c xs H' cls dx → E cls dx H')
end
structure XOk (cf : Str → List D → PSt → Out D) (gt : Str → Option D) (fns : List Str) (exv : ExV) (pa ca : Addr) (W : WX) (n : Nat) (X : Cx) : Prop where
  nd : X.N.Nodup
  calm : X.calm = true
  tk : Takes X W
  room : Room n X.A
  gu : X.A.guards = some []
  fns : ∀ f, fns.contains f = true → ∃ fa fd ps, X.mg f = some (.ref fa) ∧ PySem.W.keepIn X.K (.ref fa) = true ∧ Binds X.K fd ps [] ∧ FnG X.prog X.w X.K X.mg X.base (L2.CX X.prog X.w) n fa fd ps (spF X.K pa ca exv cf f ps.length) ∧ ∀ ds p, ds.length ≠ ps.length → cf f ds p = .bad
  glob : ∀ x d, gtv gt x = some d → ∃ u v, X.mg x = some u ∧ RelV v u ∧ ∀ M H, Rep X.K pa M H d v
  exc : ExcF X.K X.mg gt
  exv : exv = exvOf X.mg
  len : X.mg "len" = none
  sum : X.mg "sum" = none
  max : X.mg "max" = none
  min : X.mg "min" = none
  abs : X.mg "abs" = none
  tuple : X.mg "tuple" = none
  list : X.mg "list" = none
  all : X.mg "all" = none
  any : X.mg "any" = none
  range : X.mg "range" = none
  isinstance : X.mg "isinstance" = none
  int : X.mg "int" = none
  bool : X.mg "bool" = none
  str : X.mg "str" = none
  dict : X.mg "dict" = none
  repr : X.mg "repr" = none
  sorted : X.mg "sorted" = none
  zip : X.mg "zip" = none
  reversed : X.mg "reversed" = none
  set : X.mg "set" = none

section
variable (cf : Str → List D → PSt → Out D) (gt : Str → Option D) (exv : ExV) (pa ca : Addr) (W : WX) (K : PySem.W.Frag)
def exQ (σ : L2.St) (H : Hp) : Str → List D → PSt → Prop := fun c xs p' => ∀ cls dx H', Ext pa H H' → PoolOk pa ca H' p' → exv c xs H' cls dx → W cls dx σ H'
def freshE : E → Bool
  | .lst _ => true
  | .comp _ _ _ _ => true
  | .bin _ _ _ => true
  | .bi .list _ => true
  | .sl _ _ _ => true
  | .bi .sorted _ => true
  | .sortr _ => true
  | .sortset _ => true
  | .lzip _ _ => true
  | .lrng _ => true
  | .dnew _ => true
  | .dpairs _ _ => true
  | .dcopy _ => true
  | .ddisp1 _ _ => true
  | .ddisp2 _ _ _ _ => true
  | .ddispT _ _ _ _ => true
  | .dcomp _ _ _ _ _ => true
  | .compD _ _ _ _ => true
  | _ => false
def escOk (is : List Nat) (env : SEnv) : Prop := ∀ i ∈ is, ∀ d, env[i]? ≠ some (.own d)
/-- by value -/
def tV (e : E) : TE := fun σ H Q => ∃ (B M : Ms) (env : SEnv) (p : PSt), SOk K pa ca B M σ H env p ∧ escOk (escE e) env ∧
  Holds (evalE cf gt e (view env) p) (fun d p' => ∀ v H', Ext pa H H' → PoolOk pa ca H' p' → Rep K pa M H' d v → (freshE e = true → NewV K pa M H d v H') → Q v H') (exQ exv pa ca W σ H)
/-- borrowed -/
def tB (e : E) : TE := fun σ H Q => ∃ (B M : Ms) (env : SEnv) (p : PSt), SOk K pa ca B M σ H env p ∧ escOk (escB e) env ∧
  Holds (evalE cf gt e (view env) p) (fun d p' => ∀ v H', Ext pa H H' → PoolOk pa ca H' p' → RepB K pa B M H' d v → Q v H') (exQ exv pa ca W σ H)
/-- used up -/
def tC (e : E) : TE := fun σ H Q => ∃ (B M : Ms) (env : SEnv) (p : PSt), SOk K pa ca B M σ H env p ∧
  Holds (evalE cf gt e (view env) p) (fun d p' => ∀ v H', Ext pa H H' → PoolOk pa ca H' p' → Rep K pa B H' d v → Q v H') (exQ exv pa ca W σ H)
/-- as a test -/
def tT (e : E) : TT := fun σ H Q => ∃ (B M : Ms) (env : SEnv) (p : PSt), SOk K pa ca B M σ H env p ∧
  Holds (evalT cf gt e (view env) p) (fun b p' => ∀ H', Ext pa H H' → PoolOk pa ca H' p' → Q b H') (exQ exv pa ca W σ H)
def tVs (es : E) : TA := fun σ H Q => ∃ (B M : Ms) (env : SEnv) (p : PSt), SOk K pa ca B M σ H env p ∧ escOk (escE es) env ∧
  Holds (evalEs cf gt es (view env) p) (fun ds p' => ∀ vs H', Ext pa H H' → PoolOk pa ca H' p' → Reps K pa M H' ds vs → Q vs H') (exQ exv pa ca W σ H)
def tBs (es : E) : TA := fun σ H Q => ∃ (B M : Ms) (env : SEnv) (p : PSt), SOk K pa ca B M σ H env p ∧ escOk (escBs es) env ∧
  Holds (evalEs cf gt es (view env) p) (fun ds p' => ∀ vs H', Ext pa H H' → PoolOk pa ca H' p' → RepBs K pa B M H' ds vs → Q vs H') (exQ exv pa ca W σ H)
def tO (o : E) : TO := fun σ H Q => ∃ (B M : Ms) (env : SEnv) (p : PSt), SOk K pa ca B M σ H env p ∧
  Holds (evalO cf gt o (view env) p) (fun i p' => ∀ H', Ext pa H H' → PoolOk pa ca H' p' → Q i H') (exQ exv pa ca W σ H)
end

section
variable {cf : Str → List D → PSt → Out D} {gt : Str → Option D} {exv : ExV} {pa ca : Addr} {W : WX} {n : Nat} {X : Cx} {fns : List Str}
theorem exQ.mono {σ : L2.St} {H H1 : Hp} (x : Ext pa H H1) : ∀ c xs p, exQ exv pa ca W σ H c xs p → exQ exv pa ca W σ H1 c xs p := fun c xs p h cls dx H' x' q e => h cls dx H' (x.trans x') q e
theorem _root_.L2.PE.imp {e : Expr} {t t0 : TE} (h : PE X e t0) (k : ∀ σ H Q, t σ H Q → t0 σ H Q) : PE X e t := ⟨fun pins s σ H Q I hw => h.run pins s σ H Q I (k σ H Q hw)⟩
theorem _root_.L2.PT.imp {e : Expr} {t t0 : TT} (h : PT X e t0) (k : ∀ σ H Q, t σ H Q → t0 σ H Q) : PT X e t := ⟨fun pins s σ H Q I hw => h.run pins s σ H Q I (k σ H Q hw)⟩
theorem _root_.L2.PA.imp {e : List Expr} {t t0 : TA} (h : PA X e t0) (k : ∀ σ H Q, t σ H Q → t0 σ H Q) : PA X e t := ⟨fun pos pins s σ H Q I hw => h.run pos pins s σ H Q I (k σ H Q hw)⟩
theorem _root_.L2.PO.imp {e : Option Expr} {t t0 : TO} (h : PO X e t0) (k : ∀ σ H Q, t σ H Q → t0 σ H Q) : PO X e t := ⟨fun pins s σ H Q I hw => h.run pins s σ H Q I (k σ H Q hw)⟩
theorem escOk.sub {is js : List Nat} {env : SEnv} (h : escOk is env) (s : ∀ i ∈ js, i ∈ is) : escOk js env := fun i hi => h i (s i hi)
theorem escOk.all {is : List Nat} {env : SEnv} : escOk is (fzAll env) := fun _ _ _ => fzAll_val
theorem escOk.appl {is js : List Nat} {env : SEnv} (h : escOk (is ++ js) env) : escOk is env := h.sub fun _ hi => List.mem_append_left _ hi
theorem escOk.appr {is js : List Nat} {env : SEnv} (h : escOk (is ++ js) env) : escOk js env := h.sub fun _ hi => List.mem_append_right _ hi
/-- used up, from by value -/
theorem tC_of {e : E} {σ : L2.St} {H : Hp} {Q : VK} {K : PySem.W.Frag} (h : tC cf gt exv pa ca W K e σ H Q) : tV cf gt exv pa ca W K e σ H Q := by
  obtain ⟨B, M, env, p, S, h⟩ := h
  refine ⟨B, B, fzAll env, p, S.all, .all, ?_⟩
  rw [view_fzAll]
  exact h.imp (fun d p' k v H' x q r _ => k v H' x q r) fun _ _ _ z => z
theorem _root_.L2.PE.used {e : E} {ex : Expr} (h : PE X ex (tV cf gt exv pa ca W X.K e)) : PE X ex (tC cf gt exv pa ca W X.K e) := h.imp fun _ _ _ z => tC_of z
theorem escB_ne {e : E} (h : e.isVar = false) : escB e = escE e := by
  cases e <;> first | rfl | (cases h)
theorem pe_name {i : Nat} {e : Expr} {sc : Scope} (hsc : X.env.scope = sc) (hc : (match e with | .Name x _ => X.N[i]? == some x && visB sc x && plainN x | _ => false) = true) : PE X e (tVar i) := by
  cases e <;> first | (cases hc; done) | skip
  rename_i x pos
  simp only [Bool.and_eq_true, beq_iff_eq, plainN, Bool.not_eq_true'] at hc
  obtain ⟨⟨h1, h2⟩, ⟨h3, h4⟩, _⟩ := hc
  refine pe_var h1 ?_ h3 h4
  rw [hsc]
  unfold visB at h2
  unfold Vis
  split at h2
  · rename_i q; exact .inl q
  · rename_i q; exact .inr (.inl q)
  · rename_i q; exact .inr (.inr q)
  · cases h2
theorem view_some {env : SEnv} {i : Nat} {d : D} (h : (view env)[i]? = some (some d)) : env[i]? = some (.val d) ∨ env[i]? = some (.own d) := by
  rw [view_get] at h
  cases e : env[i]? with
  | none => rw [e] at h; cases h
  | some s =>
    rw [e] at h
    cases s with
    | no => cases h
    | val d' => cases h; exact .inl rfl
    | own d' => cases h; exact .inr rfl
theorem evalE_var {i : Nat} {env : Env} {p : PSt} {ok ex} (h : Holds (evalE cf gt (.var i) env p) ok ex) : ∃ d, env[i]? = some (some d) ∧ ok d p := by
  unfold evalE at h
  split at h
  · rename_i d e
    exact ⟨d, e, h⟩
  · exact h.elim
theorem sound_var {i : Nat} {e : Expr} (h : PE X e (tVar i)) : PE X e (tV cf gt exv pa ca W X.K (.var i)) := by
  refine h.imp fun σ H Q ⟨B, M, env, p, S, es, h⟩ => ?_
  obtain ⟨d, e1, k⟩ := evalE_var h
  rcases view_some e1 with e1 | e1
  · obtain ⟨v, h1, h2⟩ := S.sl i _ e1
    exact ⟨v, h1, k v H .refl S.pool h2 fun z => by cases z⟩
  · exact absurd e1 (es i (by simp [escE]) d)
theorem sound_varB {i : Nat} {e : Expr} (h : PE X e (tVar i)) : PE X e (tB cf gt exv pa ca W X.K (.var i)) := by
  refine h.imp fun σ H Q ⟨B, M, env, p, S, _, h⟩ => ?_
  obtain ⟨d, e1, k⟩ := evalE_var h
  rcases view_some e1 with e1 | e1
  · obtain ⟨v, h1, h2⟩ := S.sl i _ e1
    exact ⟨v, h1, k v H .refl S.pool (h2.toB S.sub)⟩
  · obtain ⟨a, vs, ds, u, h0, h1, h2, h3, h4, h5⟩ := S.sl i _ e1
    refine ⟨.ref a, h1, k _ H .refl S.pool ?_⟩
    rcases h0 with ⟨rfl, rfl⟩ | ⟨t, ks, rfl, ho⟩
    · exact ⟨a, vs, rfl, h3, h4, h5⟩
    · exact ⟨a, u, vs, rfl, h3, .inl h4, ho, h5⟩
/-- borrowed, from by value -/
theorem _root_.L2.PE.lent {e : E} {ex : Expr} {N fns : List Str} {sc : Scope} (hsc : X.env.scope = sc) (hN : X.N = N) (c : chkE N fns sc e ex = true) (h : PE X ex (tV cf gt exv pa ca W X.K e)) : PE X ex (tB cf gt exv pa ca W X.K e) := by
  cases hv : e.isVar with
  | true =>
    cases e <;> first | (cases hv; done) | skip
    unfold chkE at c
    subst hN
    exact sound_varB (pe_name hsc c)
  | false =>
    refine h.imp fun σ H Q ⟨B, M, env, p, S, es, h⟩ => ?_
    rw [escB_ne hv] at es
    exact ⟨B, M, env, p, S, es, h.imp (fun d p' k v H' x q r _ => k v H' x q (r.toB S.sub)) fun _ _ _ z => z⟩

theorem gl_of {sc : Scope} {x : Str} {g : Expr} (hsc : X.env.scope = sc) (h : nmB sc x g = true) : ∃ pos, g = .Name x pos ∧ Gl X x ∧ (x == ("__debug__" : Str)) = false ∧ x ≠ "__name__" := by
  cases g <;> first | (cases h; done) | skip
  rename_i y pos
  simp only [nmB, Bool.and_eq_true, beq_iff_eq, plainN, Bool.not_eq_true'] at h
  obtain ⟨⟨rfl, h2⟩, ⟨h3, h4⟩, h5⟩ := h
  refine ⟨pos, rfl, ?_, h3, ?_⟩
  · unfold glB at h2
    split at h2
    · rename_i q
      show X.env.scope.names.lookup x = some .globalImplicit
      rw [hsc]
      exact q
    · cases h2
  · intro z
    rw [z] at h5
    simp at h5
theorem star_of {e : Expr} {es : List Expr} {env : PySem.Env} (h : notStar e = true) : starEach (e :: es) env = (false, eval e env) :: starEach es env := by
  cases e <;> first | rfl | (cases h; done)
theorem nostar {N fns : List Str} {sc : Scope} : ∀ {E1 : E} {es : List Expr} {env : PySem.Env} {pos : Pos}, chkEs N fns sc E1 es = true → (backTo pos (starEach es env)).any (·.1) = false := by
  intro E1
  induction E1 with
  | nil =>
    intro es env pos h
    unfold chkEs at h
    cases es with
    | nil => rfl
    | cons _ _ => cases h
  | cons a r _ ih =>
    intro es env pos h
    unfold chkEs at h
    cases es with
    | nil => cases h
    | cons x xs =>
      simp only [Bool.and_eq_true] at h
      rw [star_of h.1.2]
      have q := @ih xs env pos h.2
      unfold backTo at q ⊢
      simp only [List.map_cons, List.any_cons] at q ⊢
      simpa using q
  | _ =>
    intro es env pos h
    unfold chkEs at h
    cases h
end
end PD

namespace PD
open PySem PySem.Spec PyProof.Rows L2
section
variable {cf : Str → List D → PSt → Out D} {gt : Str → Option D} {exv : ExV} {pa ca : Addr} {W : WX} {n : Nat} {X : Cx} {fns : List Str}
variable {A B' C : E} {x y z : Expr} {pos : Pos}
theorem rep_int {K : PySem.W.Frag} {M : Ms} {H : Hp} {i : Int} : Rep K pa M H (.int i) (.int i) := by unfold Rep; rfl
theorem rep_bl {K : PySem.W.Frag} {M : Ms} {H : Hp} {i : Bool} : Rep K pa M H (.bl i) (.bl i) := by unfold Rep; rfl
theorem rep_str {K : PySem.W.Frag} {M : Ms} {H : Hp} {i : Str} : Rep K pa M H (.str i) (.str i) := by unfold Rep; rfl
theorem rep_non {K : PySem.W.Frag} {M : Ms} {H : Hp} : Rep K pa M H .non .non := by unfold Rep; rfl
theorem Rep.int {K : PySem.W.Frag} {M : Ms} {H : Hp} {i : Int} {v : V} (h : Rep K pa M H (.int i) v) : v = .int i := by unfold Rep at h; exact h
theorem Rep.bl {K : PySem.W.Frag} {M : Ms} {H : Hp} {i : Bool} {v : V} (h : Rep K pa M H (.bl i) v) : v = .bl i := by unfold Rep at h; exact h
theorem Rep.str {K : PySem.W.Frag} {M : Ms} {H : Hp} {i : Str} {v : V} (h : Rep K pa M H (.str i) v) : v = .str i := by unfold Rep at h; exact h
theorem Rep.non_iff {K : PySem.W.Frag} {M : Ms} {H : Hp} {d : D} {v : V} (h : Rep K pa M H d v) : decide (v = .non) = isNonD d := by
  cases d with
  | non => unfold Rep at h; subst h; rfl
  | bl _ => unfold Rep at h; subst h; rfl
  | int _ => unfold Rep at h; subst h; rfl
  | str _ => unfold Rep at h; subst h; rfl
  | tup _ => unfold Rep at h; obtain ⟨a, vs, rfl, _⟩ := h; rfl
  | lst _ => unfold Rep at h; obtain ⟨a, vs, rfl, _⟩ := h; rfl
  | dict _ _ _ => unfold Rep at h; obtain ⟨a, u, vs, rfl, _⟩ := h; rfl
  | ctup _ => unfold Rep at h; obtain ⟨a, rfl, _⟩ := h; rfl
  | pool => unfold Rep at h; subst h; rfl

theorem s_int {i : Int} {j} : PE X (.Constant (.int i) j pos) (tV cf gt exv pa ca W X.K (.int i)) := pe_int.imp fun σ H Q ⟨B, M, env, p, S, _, h⟩ => by
  unfold evalE at h
  exact h _ H .refl S.pool rep_int fun z => by cases z
theorem s_bl {i : Bool} {j} : PE X (.Constant (.bool i) j pos) (tV cf gt exv pa ca W X.K (.bl i)) := pe_bl.imp fun σ H Q ⟨B, M, env, p, S, _, h⟩ => by
  unfold evalE at h
  exact h _ H .refl S.pool rep_bl fun z => by cases z
theorem s_str {i : Str} {j} : PE X (.Constant (.str i) j pos) (tV cf gt exv pa ca W X.K (.str i)) := pe_str.imp fun σ H Q ⟨B, M, env, p, S, _, h⟩ => by
  unfold evalE at h
  exact h _ H .refl S.pool rep_str fun z => by cases z
theorem s_non {j} : PE X (.Constant .none j pos) (tV cf gt exv pa ca W X.K .non) := pe_non.imp fun σ H Q ⟨B, M, env, p, S, _, h⟩ => by
  unfold evalE at h
  exact h _ H .refl S.pool rep_non fun z => by cases z
theorem s_glob {u : Str} (ok : XOk cf gt fns exv pa ca W n X) (hg : Gl X u) (hd : (u == ("__debug__" : Str)) = false) : PE X (.Name u pos) (tV cf gt exv pa ca W X.K (.glob u)) := by
  refine ⟨fun pins s σ H Q I h => ?_⟩
  obtain ⟨B, M, env, p, S, _, h⟩ := h
  unfold evalE at h
  obtain ⟨d, e, k⟩ := h.lift
  obtain ⟨w, v, h1, h2, h3⟩ := ok.glob u d e
  exact (pe_glob hg h1 h2 hd).run pins s σ H Q I (k v H .refl S.pool (h3 M H) fun z => by cases z)

theorem SOk.mpa {K : PySem.W.Frag} {B M : Ms} {σ : L2.St} {H : Hp} {env : SEnv} {p : PSt} (S : SOk K pa ca B M σ H env p) : M pa := S.sub _ S.bp
theorem newv_ext {K : PySem.W.Frag} {B M : Ms} {σ : L2.St} {H H1 H2 : Hp} {env : SEnv} {p p1 : PSt} {d : D} {v : V} (S : SOk K pa ca B M σ H env p) (x : Ext pa H H1) (q : PoolOk pa ca H1 p1) (h : NewV K pa M H1 d v H2) : NewV K pa M H d v H2 := by
  cases d with
  | lst ds =>
    obtain ⟨a, vs, e, h1, h2, h3⟩ := h
    refine ⟨a, vs, e, ?_, h2, h3⟩
    cases e2 : H a with
    | none => rfl
    | some u =>
      by_cases hp : a = pa
      · rw [hp, q.hp] at h1; cases h1
      · rw [x a u hp e2] at h1; cases h1
  | dict t ks ds =>
    obtain ⟨a, w, vs, e, h1, h2⟩ := h
    refine ⟨a, w, vs, e, ?_, h2⟩
    cases e2 : H a with
    | none => rfl
    | some u =>
      by_cases hp : a = pa
      · rw [hp, q.hp] at h1; cases h1
      · rw [x a u hp e2] at h1; cases h1
  | _ => trivial
theorem pool_ext {H H' : Hp} {p : PSt} (q : PoolOk pa ca H p) (s : Same H H') : PoolOk pa ca H' p := ⟨q.ne, q.le, s _ _ q.hp, s _ _ q.hc⟩

theorem opEq_of {op : Operator} {o : Bop} (h : opEq op o = true) : op = opB o := by
  cases o <;> cases op <;> first | rfl | (cases h; done)
theorem copEq_of {op : CmpOp} {o : Cop} (h : copEq op o = true) : op = copC o := by
  cases o <;> cases op <;> first | rfl | (cases h; done)
theorem s_bin (o : Bop) (ha : PE X x (tB cf gt exv pa ca W X.K A)) (hb : PE X y (tB cf gt exv pa ca W X.K B')) : PE X (.BinOp x (opB o) y pos) (tV cf gt exv pa ca W X.K (.bin o A B')) := by
  obtain ⟨r, hr, hg⟩ := opok_bin (X := X) (pa := pa) o
  refine (pe_op hr ha hb).imp fun σ H Q ⟨B, M, env, p, S, es, h⟩ => ?_
  unfold evalE at h
  rw [Holds.bind] at h
  refine ⟨B, M, env, p, S, es.appl, h.imp (fun d1 p1 h1 v1 H1 x1 q1 r1 => ?_) fun _ _ _ z => z⟩
  rw [Holds.bind] at h1
  have S1 := S.ext x1 q1
  refine ⟨B, M, env, p1, S1, es.appr, h1.imp (fun d2 p2 h2 v2 H2 x2 q2 r2 => ?_) (exQ.mono x1)⟩
  obtain ⟨d, e, k⟩ := h2.lift
  have S2 := S1.ext x2 q2
  refine hg B M H2 d1 d2 v1 v2 d Q S.sub S2.al (r1.ext x2 S.bp S.mpa) r2 e fun v H' sm rp nv => ?_
  exact k v H' (x1.trans (x2.trans (.of_same sm))) (pool_ext q2 sm) rp fun _ => newv_ext S x1 q1 (newv_ext S1 x2 q2 nv)
theorem s_neg (ha : PE X x (tC cf gt exv pa ca W X.K A)) : PE X (.UnaryOp .USub x pos) (tV cf gt exv pa ca W X.K (.neg A)) := by
  refine (pe_un un_neg ha).imp fun σ H Q ⟨B, M, env, p, S, es, h⟩ => ?_
  unfold evalE at h
  rw [Holds.bind] at h
  refine ⟨B, M, env, p, S, h.imp (fun d1 p1 h1 v1 H1 x1 q1 r1 => ?_) fun _ _ _ z => z⟩
  obtain ⟨d, e, k⟩ := h1.lift
  cases d1 <;> first | (cases e; done) | skip
  cases e
  cases r1.int
  exact ⟨_, rfl, k _ H1 x1 q1 rep_int fun z => by cases z⟩
theorem units_of (ok : XOk cf gt fns exv pa ca W n X) : X.A.units + 65 < cLine := by
  have := ok.room.un
  omega
theorem s_cmp (ok : XOk cf gt fns exv pa ca W n X) (o : Cop) (ha : PE X x (tC cf gt exv pa ca W X.K A)) (hb : PE X y (tC cf gt exv pa ca W X.K B')) (hm : behindInMarks (copC o) y = false) :
    PE X (.Compare x [copC o] [y] pos) (tV cf gt exv pa ca W X.K (.cmp o A B')) := by
  obtain ⟨r, hr, hg⟩ := cmpok (X := X) (pa := pa) (units_of ok) o
  refine (pe_cmpR hr ha hb hm).imp fun σ H Q ⟨B, M, env, p, S, es, h⟩ => ?_
  unfold evalE at h
  rw [Holds.bind] at h
  refine ⟨B, M, env, p, S, h.imp (fun d1 p1 h1 v1 H1 x1 q1 r1 => ?_) fun _ _ _ z => z⟩
  rw [Holds.bind] at h1
  have S1 := S.ext x1 q1
  refine ⟨B, M, env, p1, S1, h1.imp (fun d2 p2 h2 v2 H2 x2 q2 r2 => ?_) (exQ.mono x1)⟩
  obtain ⟨d, e, k⟩ := h2.lift
  cases e2 : cmpD o d1 d2 with
  | none => rw [e2] at e; cases e
  | some b =>
    rw [e2] at e
    cases e
    refine hg B B H2 d1 d2 v1 v2 b Q (fun _ z => z) ((x2.rep S.bp r1).toB fun _ z => z) (r2.toB fun _ z => z) e2 ?_
    exact k _ H2 (x1.trans x2) q2 rep_bl fun z => by cases z
theorem t_cmp (ok : XOk cf gt fns exv pa ca W n X) (o : Cop) (ha : PE X x (tC cf gt exv pa ca W X.K A)) (hb : PE X y (tC cf gt exv pa ca W X.K B')) (hm : behindInMarks (copC o) y = false) :
    PT X (.Compare x [copC o] [y] pos) (tT cf gt exv pa ca W X.K (.cmp o A B')) := by
  obtain ⟨r, hr, hg⟩ := cmpok (X := X) (pa := pa) (units_of ok) o
  refine (pt_cmpR hr ha hb hm).imp fun σ H Q ⟨B, M, env, p, S, h⟩ => ?_
  unfold evalT at h
  rw [Holds.bind] at h
  unfold evalE at h
  rw [Holds.bind] at h
  refine ⟨B, M, env, p, S, h.imp (fun d1 p1 h1 v1 H1 x1 q1 r1 => ?_) fun _ _ _ z => z⟩
  rw [Holds.bind] at h1
  have S1 := S.ext x1 q1
  refine ⟨B, M, env, p1, S1, h1.imp (fun d2 p2 h2 v2 H2 x2 q2 r2 => ?_) (exQ.mono x1)⟩
  obtain ⟨d, e, k⟩ := h2.lift
  cases e2 : cmpD o d1 d2 with
  | none => rw [e2] at e; cases e
  | some b =>
    rw [e2] at e
    cases e
    obtain ⟨c, e3, k⟩ := k.lift
    cases e3
    exact hg B B H2 d1 d2 v1 v2 b _ (fun _ z => z) ((x2.rep S.bp r1).toB fun _ z => z) (r2.toB fun _ z => z) e2 ⟨b, rfl, k H2 (x1.trans x2) q2⟩
theorem s_chain (ok : XOk cf gt fns exv pa ca W n X) (o o' : Cop) (ha : PE X x (tC cf gt exv pa ca W X.K A)) (hb : PE X y (tC cf gt exv pa ca W X.K B')) (hc : PE X z (tC cf gt exv pa ca W X.K C)) (hm : lastMarks [copC o, copC o'] [y, z] = false) :
    PE X (.Compare x [copC o, copC o'] [y, z] pos) (tV cf gt exv pa ca W X.K (.chain o o' A B' C)) := by
  obtain ⟨r, hr, hg⟩ := cmpok (X := X) (pa := pa) (units_of ok) o
  obtain ⟨r', hr', hg'⟩ := cmpok (X := X) (pa := pa) (units_of ok) o'
  refine (pe_chain hr hr' ha hb hc hm).imp fun σ H Q ⟨B, M, env, p, S, es, h⟩ => ?_
  unfold evalE at h
  rw [Holds.bind] at h
  refine ⟨B, M, env, p, S, h.imp (fun d1 p1 h1 v1 H1 x1 q1 r1 => ?_) fun _ _ _ z => z⟩
  rw [Holds.bind] at h1
  have S1 := S.ext x1 q1
  refine ⟨B, M, env, p1, S1, h1.imp (fun d2 p2 h2 v2 H2 x2 q2 r2 => ?_) (exQ.mono x1)⟩
  have S2 := S1.ext x2 q2
  cases e2 : cmpD o d1 d2 with
  | none => simp only [e2] at h2; exact h2.elim
  | some b =>
    simp only [e2] at h2
    refine hg B B H2 d1 d2 v1 v2 b _ (fun _ z => z) ((x2.rep S.bp r1).toB fun _ z => z) (r2.toB fun _ z => z) e2 ⟨b, rfl, ?_⟩
    cases b with
    | false =>
      rw [if_neg Bool.false_ne_true]
      exact h2 _ H2 (x1.trans x2) q2 rep_bl fun z => by cases z
    | true =>
      rw [if_pos rfl]
      simp only [Holds.bind] at h2
      refine ⟨B, M, env, p2, S2, h2.imp (fun d3 p3 h3 v3 H3 x3 q3 r3 => ?_) (exQ.mono (x1.trans x2))⟩
      obtain ⟨d, e, k⟩ := h3.lift
      cases e3 : cmpD o' d2 d3 with
      | none => rw [e3] at e; cases e
      | some c =>
        rw [e3] at e
        cases e
        exact hg' B B H3 d2 d3 v2 v3 c Q (fun _ z => z) ((x3.rep S.bp r2).toB fun _ z => z) (r3.toB fun _ z => z) e3 (k _ H3 (x1.trans (x2.trans x3)) q3 rep_bl fun z => by cases z)
theorem t_chain (ok : XOk cf gt fns exv pa ca W n X) (o o' : Cop) (ha : PE X x (tC cf gt exv pa ca W X.K A)) (hb : PE X y (tC cf gt exv pa ca W X.K B')) (hc : PE X z (tC cf gt exv pa ca W X.K C)) (hm : lastMarks [copC o, copC o'] [y, z] = false) :
    PT X (.Compare x [copC o, copC o'] [y, z] pos) (tT cf gt exv pa ca W X.K (.chain o o' A B' C)) := by
  obtain ⟨r, hr, hg⟩ := cmpok (X := X) (pa := pa) (units_of ok) o
  obtain ⟨r', hr', hg'⟩ := cmpok (X := X) (pa := pa) (units_of ok) o'
  refine (pt_chain hr hr' ha hb hc hm).imp fun σ H Q ⟨B, M, env, p, S, h⟩ => ?_
  unfold evalT at h
  rw [Holds.bind] at h
  unfold evalE at h
  rw [Holds.bind] at h
  refine ⟨B, M, env, p, S, h.imp (fun d1 p1 h1 v1 H1 x1 q1 r1 => ?_) fun _ _ _ z => z⟩
  rw [Holds.bind] at h1
  have S1 := S.ext x1 q1
  refine ⟨B, M, env, p1, S1, h1.imp (fun d2 p2 h2 v2 H2 x2 q2 r2 => ?_) (exQ.mono x1)⟩
  have S2 := S1.ext x2 q2
  cases e2 : cmpD o d1 d2 with
  | none => simp only [e2] at h2; exact h2.elim
  | some b =>
    simp only [e2] at h2
    refine hg B B H2 d1 d2 v1 v2 b _ (fun _ z => z) ((x2.rep S.bp r1).toB fun _ z => z) (r2.toB fun _ z => z) e2 ⟨b, rfl, ?_⟩
    cases b with
    | false =>
      rw [if_neg Bool.false_ne_true]
      have h2 : Holds (lift (truthD (.bl false)) p2) (fun b p' => ∀ H', Ext pa H H' → PoolOk pa ca H' p' → Q b H') (exQ exv pa ca W σ H) := h2
      obtain ⟨c, e3, k⟩ := h2.lift
      cases e3
      exact ⟨_, rfl, k H2 (x1.trans x2) q2⟩
    | true =>
      rw [if_pos rfl]
      simp only [Holds.bind] at h2
      refine ⟨B, M, env, p2, S2, h2.imp (fun d3 p3 h3 v3 H3 x3 q3 r3 => ?_) (exQ.mono (x1.trans x2))⟩
      obtain ⟨d, e, k⟩ := h3.lift
      cases e3 : cmpD o' d2 d3 with
      | none => rw [e3] at e; cases e
      | some c =>
        rw [e3] at e
        cases e
        obtain ⟨c', e4, k⟩ := k.lift
        cases e4
        exact hg' B B H3 d2 d3 v2 v3 c _ (fun _ z => z) ((x3.rep S.bp r2).toB fun _ z => z) (r3.toB fun _ z => z) e3 ⟨c, rfl, k H3 (x1.trans (x2.trans x3)) q3⟩
theorem s_isn {j p2} (ha : PE X x (tC cf gt exv pa ca W X.K A)) : PE X (.Compare x [.Is] [.Constant .none j p2] pos) (tV cf gt exv pa ca W X.K (.isn A)) := by
  refine (pe_cmp (pc_isN ha) rfl).imp fun σ H Q ⟨B, M, env, p, S, es, h⟩ => ?_
  unfold evalE at h
  rw [Holds.bind] at h
  refine ⟨B, M, env, p, S, h.imp (fun d1 p1 h1 v1 H1 x1 q1 r1 => ?_) fun _ _ _ z => z⟩
  show Q (V.bl (decide (v1 = V.non))) H1
  rw [r1.non_iff]
  exact h1 _ H1 x1 q1 rep_bl fun z => by cases z
theorem s_notn {j p2} (ha : PE X x (tC cf gt exv pa ca W X.K A)) : PE X (.Compare x [.IsNot] [.Constant .none j p2] pos) (tV cf gt exv pa ca W X.K (.notn A)) := by
  refine (pe_cmp (pc_notN ha) rfl).imp fun σ H Q ⟨B, M, env, p, S, es, h⟩ => ?_
  unfold evalE at h
  rw [Holds.bind] at h
  refine ⟨B, M, env, p, S, h.imp (fun d1 p1 h1 v1 H1 x1 q1 r1 => ?_) fun _ _ _ z => z⟩
  show Q (V.bl (!decide (v1 = V.non))) H1
  rw [r1.non_iff]
  exact h1 (V.bl _) H1 x1 q1 rep_bl fun z => by cases z
theorem t_isn {j p2} (ha : PE X x (tC cf gt exv pa ca W X.K A)) : PT X (.Compare x [.Is] [.Constant .none j p2] pos) (tT cf gt exv pa ca W X.K (.isn A)) := by
  refine (pt_cmp (pc_isN ha) rfl).imp fun σ H Q ⟨B, M, env, p, S, h⟩ => ?_
  unfold evalT at h
  rw [Holds.bind] at h
  unfold evalE at h
  rw [Holds.bind] at h
  refine ⟨B, M, env, p, S, h.imp (fun d1 p1 h1 v1 H1 x1 q1 r1 => ?_) fun _ _ _ z => z⟩
  have h1 : Holds (lift (truthD (.bl (isNonD d1))) p1) (fun b p' => ∀ H', Ext pa H H' → PoolOk pa ca H' p' → Q b H') (exQ exv pa ca W σ H) := h1
  obtain ⟨c, e, k⟩ := h1.lift
  cases e
  exact ⟨_, rfl, by rw [r1.non_iff]; exact k H1 x1 q1⟩
theorem t_notn {j p2} (ha : PE X x (tC cf gt exv pa ca W X.K A)) : PT X (.Compare x [.IsNot] [.Constant .none j p2] pos) (tT cf gt exv pa ca W X.K (.notn A)) := by
  refine (pt_cmp (pc_notN ha) rfl).imp fun σ H Q ⟨B, M, env, p, S, h⟩ => ?_
  unfold evalT at h
  rw [Holds.bind] at h
  unfold evalE at h
  rw [Holds.bind] at h
  refine ⟨B, M, env, p, S, h.imp (fun d1 p1 h1 v1 H1 x1 q1 r1 => ?_) fun _ _ _ z => z⟩
  have h1 : Holds (lift (truthD (.bl (!isNonD d1))) p1) (fun b p' => ∀ H', Ext pa H H' → PoolOk pa ca H' p' → Q b H') (exQ exv pa ca W σ H) := h1
  obtain ⟨c, e, k⟩ := h1.lift
  cases e
  refine ⟨_, rfl, ?_⟩
  rw [r1.non_iff]
  exact k H1 x1 q1
/-- a value as a test -/
theorem t_val (he : ∀ whole, isTrue x X.env whole = (do let v ← whole; standAt x.pos; holding [v] (truthy v))) (h : PE X x (tC cf gt exv pa ca W X.K A)) : PT X x (tT cf gt exv pa ca W X.K A) := by
  refine (pt_val h he).imp fun σ H Q ⟨B, M, env, p, S, h⟩ => ?_
  unfold evalT at h
  rw [Holds.bind] at h
  refine ⟨B, M, env, p, S, h.imp (fun d1 p1 h1 v1 H1 x1 q1 r1 => ?_) fun _ _ _ z => z⟩
  obtain ⟨b, e, k⟩ := h1.lift
  cases d1 <;> first | (cases e; done) | skip
  cases e
  cases r1.bl
  exact ⟨_, rfl, k H1 x1 q1⟩
theorem s_not (ha : PE X x (tC cf gt exv pa ca W X.K A)) : PE X (.UnaryOp .Not x pos) (tV cf gt exv pa ca W X.K (.not A)) := by
  refine (pe_not ha).imp fun σ H Q ⟨B, M, env, p, S, es, h⟩ => ?_
  unfold evalE at h
  rw [Holds.bind] at h
  refine ⟨B, M, env, p, S, h.imp (fun d1 p1 h1 v1 H1 x1 q1 r1 => ?_) fun _ _ _ z => z⟩
  cases d1 <;> first | exact h1.elim | skip
  cases r1.bl
  exact ⟨_, rfl, h1 _ H1 x1 q1 rep_bl fun z => by cases z⟩
theorem t_not (ha : PT X x (tT cf gt exv pa ca W X.K A)) : PT X (.UnaryOp .Not x pos) (tT cf gt exv pa ca W X.K (.not A)) := by
  refine (pt_not ha).imp fun σ H Q ⟨B, M, env, p, S, h⟩ => ?_
  unfold evalT at h
  rw [Holds.bind] at h
  unfold evalE at h
  rw [Holds.bind] at h
  refine ⟨B, M, env, p, S, ?_⟩
  unfold evalT
  rw [Holds.bind]
  refine h.imp (fun d1 p1 h1 => ?_) fun _ _ _ z => z
  cases d1 <;> first | exact h1.elim | skip
  exact h1
theorem s_and (ha : PE X x (tC cf gt exv pa ca W X.K A)) {rest : List Expr} (hb : PE X (.BoolOp .And (y :: rest) pos) (tV cf gt exv pa ca W X.K B')) : PE X (.BoolOp .And (x :: y :: rest) pos) (tV cf gt exv pa ca W X.K (.and A B')) := by
  refine (pe_and ha hb).imp fun σ H Q ⟨B, M, env, p, S, es, h⟩ => ?_
  unfold evalE at h
  rw [Holds.bind] at h
  refine ⟨B, M, env, p, S, h.imp (fun d1 p1 h1 v1 H1 x1 q1 r1 => ?_) fun _ _ _ z => z⟩
  cases d1 <;> first | exact h1.elim | skip
  rename_i b
  cases r1.bl
  refine ⟨_, rfl, ?_⟩
  cases b with
  | false =>
    rw [if_neg Bool.false_ne_true]
    exact h1 _ H1 x1 q1 rep_bl fun z => by cases z
  | true =>
    rw [if_pos rfl]
    refine ⟨B, M, env, p1, S.ext x1 q1, es, h1.imp (fun d2 p2 h2 v2 H2 x2 q2 r2 nv => h2 v2 H2 (x1.trans x2) q2 r2 fun z => by cases z) (exQ.mono x1)⟩
theorem s_or (ha : PE X x (tC cf gt exv pa ca W X.K A)) {rest : List Expr} (hb : PE X (.BoolOp .Or (y :: rest) pos) (tV cf gt exv pa ca W X.K B')) : PE X (.BoolOp .Or (x :: y :: rest) pos) (tV cf gt exv pa ca W X.K (.or A B')) := by
  refine (pe_or ha hb).imp fun σ H Q ⟨B, M, env, p, S, es, h⟩ => ?_
  unfold evalE at h
  rw [Holds.bind] at h
  refine ⟨B, M, env, p, S, h.imp (fun d1 p1 h1 v1 H1 x1 q1 r1 => ?_) fun _ _ _ z => z⟩
  cases d1 <;> first | exact h1.elim | skip
  rename_i b
  cases r1.bl
  refine ⟨_, rfl, ?_⟩
  cases b with
  | true =>
    rw [if_pos rfl]
    exact h1 _ H1 x1 q1 rep_bl fun z => by cases z
  | false =>
    rw [if_neg Bool.false_ne_true]
    refine ⟨B, M, env, p1, S.ext x1 q1, es, h1.imp (fun d2 p2 h2 v2 H2 x2 q2 r2 nv => h2 v2 H2 (x1.trans x2) q2 r2 fun z => by cases z) (exQ.mono x1)⟩
end
end PD

namespace PD
open PySem PySem.Spec PyProof.Rows L2
section
variable {prog : Program} {w : World} {A : Around} {E : Value → Shared → Prop} {s : Shared}
theorem adjust_rev (n : Nat) : Builtin.Slice.sliceAdjust none none (-1) (n : Int) = ((n : Int) - 1, -1) := by
  unfold Builtin.Slice.sliceAdjust
  simp
theorem places_rev (n : Nat) : Builtin.Slice.slicePlaces ((n : Int) - 1) (-1) (-1) = n := by
  unfold Builtin.Slice.slicePlaces
  simp
  split <;> omega
theorem pick_rev (xs : Array Value) : ((List.range xs.size).filterMap fun (m : Nat) => xs[(((xs.size : Int) - 1) + (m : Int) * (-1)).toNat]?).toArray = xs.toList.reverse.toArray := by
  congr 1
  apply List.ext_getElem?
  intro i
  have hl : ((List.range xs.size).filterMap fun (m : Nat) => xs[(((xs.size : Int) - 1) + (m : Int) * (-1)).toNat]?) = (List.range xs.size).map fun m => (xs[xs.size - 1 - m]?).getD .none := by
    have key : ∀ ms : List Nat, (∀ m ∈ ms, m < xs.size) → (ms.filterMap fun (m : Nat) => xs[(((xs.size : Int) - 1) + (m : Int) * (-1)).toNat]?) = ms.map fun m => (xs[xs.size - 1 - m]?).getD .none := by
      intro ms
      induction ms with
      | nil => intro _; rfl
      | cons m ms ih =>
        intro h
        have hm := h m List.mem_cons_self
        have e : (((xs.size : Int) - 1) + (m : Int) * (-1)).toNat = xs.size - 1 - m := by omega
        have g : xs[xs.size - 1 - m]? = some xs[xs.size - 1 - m] := Array.getElem?_eq_getElem (by omega)
        rw [List.filterMap_cons, e, g, List.map_cons, ih fun k hk => h k (List.mem_cons_of_mem _ hk), g]
        rfl
    exact key _ fun m hm => List.mem_range.mp hm
  rw [hl]
  by_cases hi : i < xs.size
  · rw [List.getElem?_map, List.getElem?_range hi, List.getElem?_reverse (by simpa using hi)]
    simp only [Option.map_some, Array.length_toList, Array.getElem?_toList]
    have g : xs[xs.size - 1 - i]? = some xs[xs.size - 1 - i] := Array.getElem?_eq_getElem (by omega)
    rw [g]
    rfl
  · rw [List.getElem?_eq_none (by simpa using hi), List.getElem?_eq_none (by simpa using hi)]
/-- t[::-1] of a tuple -/
theorem getItem_tuple_rev {t sl : Addr} {items : Array Value} {vs : Value} {Q : Value → Shared → Prop} (ht : IsTup s.heap t items) (hs : s.heap.IsSliceOf sl .none .none vs) (ps : IsPart vs (some (-1)))
    (h : Q (.ref s.heap.objs.size) { s with heap := s.heap.push { cls := .type "tuple", data := .seq items.toList.reverse.toArray } })
    (hsz : items.size ≤ sizeLine) : wpAny (model prog w) A (getItem (.ref t) (.ref sl)) Q E s := by
  have hsize : sizeOk (.seq items.toList.reverse.toArray) := by
    show items.toList.reverse.toArray.size ≤ sizeLine
    rw [List.size_toArray, List.length_reverse, Array.length_toList]
    exact hsz
  obtain ⟨os, hos, hcs, hds⟩ := id hs
  have hTs : s.TypeIs (.ref sl) "slice" := ⟨os, hos, hcs⟩
  unfold getItem
  try with_reducible refine wpAny_holding ?_
  first | refine wpAny_bind (wpAny_pure ?_) | skip
  refine wpAny_bind (wpAny_sequenceKey ht.typeIs (by decide) ?_)
  refine wpAny_bind (wpAny_callSpecial?_slot (name := Str.ofString "__getitem__") ht.typeIs PyProof.Rows.slot_tuple_getitem
    (wpAny_call_entry PyProof.Rows.slot_tuple_getitem ht.typeIs PyProof.Rows.entry_tuple_getitem ?_ (PyProof.Rows.args_tuple_getitem _ _)))
  show wpAny _ _ (Builtin.Tuple.tupleItemsOf (.ref t) >>= _) _ _ s
  refine wpAny_bind (PyProof.Rows.tupleItemsOf_ ht ?_)
  refine wpAny_bind (wpAny_typeOf hTs ?_)
  rw [if_pos (by decide)]
  refine wpAny_bind (Q := _) (m := Builtin.Slice.sliceApplied (.ref sl) (pure (items.size : Int))) ?_
  unfold Builtin.Slice.sliceApplied Builtin.Slice.sliceFields
  refine wpAny_bind (wpAny_bind (wpAny_field hos hds (x := .none) rfl (wpAny_bind (wpAny_field hos hds (x := .none) rfl (wpAny_bind (wpAny_field hos hds (x := vs) rfl (wpAny_pure ?_)))))))
  refine wpAny_bind (HT.slicePart_ ps ?_)
  show wpAny _ _ (if ((-1 : Int) == 0) = true then _ else _) _ _ s
  rw [if_neg (by decide)]
  refine wpAny_bind (HT.slicePart_ .none (wpAny_bind (HT.slicePart_ .none (wpAny_bind (wpAny_pure ?_)))))
  show wpAny _ _ (match Builtin.Slice.sliceAdjust none none (-1) (items.size : Int) with | (lo, hi) => pure (lo, (-1 : Int), Builtin.Slice.slicePlaces lo hi (-1))) _ _ s
  rw [adjust_rev]
  show wpAny _ _ (pure ((items.size : Int) - 1, (-1 : Int), Builtin.Slice.slicePlaces ((items.size : Int) - 1) (-1) (-1))) _ _ s
  rw [places_rev]
  refine wpAny_pure ?_
  show wpAny _ _ (if (((items.size : Int) - 1) == 0 && (-1 : Int) == 1 && items.size == items.size) = true then _ else _) _ _ s
  rw [if_neg (by simp), pick_rev]
  first
    | exact wpAny_bind (m := Builtin.Tuple.tupleExact _) (wpAny_newObj_type (wpAny_pure ⟨_, rfl, wpAny_pure h⟩) hsize)
    | exact wpAny_bind (m := Builtin.Tuple.tupleExact _) (wpAny_newObj_type (wpAny_bind (wpAny_pure (wpAny_pure ⟨_, rfl, wpAny_pure h⟩))) hsize)
    | exact wpAny_bind (wpAny_bind (m := Builtin.Tuple.tupleExact _) (wpAny_newObj_type (wpAny_pure (wpAny_pure ⟨_, rfl, wpAny_pure h⟩)) hsize))
    | exact wpAny_bind (wpAny_bind (m := Builtin.Tuple.tupleExact _) (wpAny_newObj_type (wpAny_pure ⟨_, rfl, wpAny_pure h⟩) hsize))
end
def tRevA (K : PySem.W.Frag) (te : TE) : TE := fun σ H Q => te σ H fun x H1 => ∃ a xs, x = .ref a ∧ ((SqL K H1 a xs ∧ ∀ p, H1 p = none → Q (.ref p) (upd H1 p (.lst xs.reverse))) ∨ (SqT K H1 a xs ∧ ∀ p, H1 p = none → Q (.ref p) (upd H1 p (.tup xs.reverse))))
theorem pe_revA {X : Cx} {e : Expr} {te : TE} {k : Nat} {p1 p2 p3 pos : Pos} (he : PE X e te) : PE X (.Subscript e (.Slice none none (some (.UnaryOp .USub (.Constant (.int 1) k p1) p2)) p3) pos) (tRevA X.K te) := by
  refine ⟨fun pins s σ H Q I h => ?_⟩
  refine Subscript_ (thn (he.run pins s σ H _ I h) fun v s1 ⟨x, H1, I1, r1, q1⟩ => ?_)
  obtain ⟨a, xs, ex, q⟩ := q1
  subst ex
  obtain rfl : v = Value.ref a := r1
  have hst : PO X (some (.UnaryOp .USub (.Constant (.int 1) k p1) p2)) (tPart (tUn (rU fun i => .int (-i)) (L2.tC (.int 1)))) := po_some (pe_un un_neg pe_int)
  refine wpAny_Slice (thn (po_none.run pins s1 σ H1 (fun o H2 => o = none ∧ H2 = H1) I1 ⟨rfl, rfl⟩) fun vl s2 ⟨l, H2, I2, pl, el, e2⟩ => ?_)
  subst el e2
  refine thn (po_none.run pins s2 σ H2 (fun o H3 => o = none ∧ H3 = H2) I2 ⟨rfl, rfl⟩) fun vu s3 ⟨u, H3, I3, pu, eu, e3⟩ => ?_
  subst eu e3
  refine thn (hst.run pins s3 σ H3 (fun o H4 => o = some (-1) ∧ H4 = H3) I3 ⟨1, rfl, -1, rfl, rfl, rfl⟩) fun vs s4 ⟨o, H4, I4, ps, eo, e4⟩ => ?_
  subst eo e4
  have I5 : Inv X pins σ H4 { s4 with heap := s4.heap.push { cls := .type "slice", data := .fields #[vl, vu, vs] } } := I4.kept (t' := s4.toks) fun b ob q => Heap.get?_push_of_some _ q
  show wpAny (model X.prog X.w) X.A (subscriptTail e (.Slice none none (some (.UnaryOp .USub (.Constant (.int 1) k p1) p2)) p3) (.ref a) (.ref s4.heap.objs.size)) (EP X pins σ Q) X.xe { s4 with heap := s4.heap.push { cls := .type "slice", data := .fields #[vl, vu, vs] } }
  rcases q with ⟨hx, q⟩ | ⟨hx, q⟩
  · obtain ⟨its, r, ht, hz⟩ := I5.list hx
    have hlen := r.length
    refine tail_any (ops := [.ref a, .ref s4.heap.objs.size]) ht.isList.typeIs (PySem.slot_list_getitem.lookup) ?_ (by with_unfolding_all rfl)
    refine wpAny_getItem_list_slice ht.isList (Heap.IsSliceOf.new _ vl vu vs) pl pu ps (by decide) ?_ (by rw [List.size_toArray]; omega)
    rw [PySem.W.krv_pick]
    refine ⟨.ref _, _, I5.laid (t' := s4.toks) (o := .lst xs.reverse) (fun b ob q => Heap.get?_push_of_some _ q) (Nat.le_refl _) ?_, rfl, q _ (I5.hok.fresh (Nat.le_refl _))⟩
    exact ⟨by rw [List.length_reverse]; exact hz, _, 0, r.reverse, Heap.get?_push_size _ rfl⟩
  · obtain ⟨its, r, ht, hz⟩ := I5.tuple hx
    have hlen := r.length
    cases pl
    cases pu
    refine tail_any (ops := [.ref a, .ref s4.heap.objs.size]) ht.typeIs (PyProof.Rows.slot_tuple_getitem.lookup) ?_ (by with_unfolding_all rfl)
    refine getItem_tuple_rev ht (Heap.IsSliceOf.new _ .none .none vs) ps ?_ (by rw [List.size_toArray]; omega)
    refine ⟨.ref _, _, I5.laid (t' := s4.toks) (o := .tup xs.reverse) (fun b ob q => Heap.get?_push_of_some _ q) (Nat.le_refl _) ?_, rfl, q _ (I5.hok.fresh (Nat.le_refl _))⟩
    refine ⟨by rw [List.length_reverse]; exact hz, its.reverse, r.reverse, ?_⟩
    exact IsTup.new _ _
end PD

namespace PD
open PySem PySem.Spec PyProof.Rows L2
section
variable {cf : Str → List D → PSt → Out D} {gt : Str → Option D} {exv : ExV} {pa ca : Addr} {W : WX} {n : Nat} {X : Cx} {fns : List Str}
variable {A B' C : E} {x y z : Expr} {pos : Pos}
theorem pw_of {op : BoolOp} {vs : List Expr} {t : TT} (h : PT X (.BoolOp op vs pos) t) : PW X (.BoolOp op vs pos) t := ⟨fun whole pins s σ H Q I hw => by
  have q := h.run pins s σ H Q I hw
  simp only [PySem.isTrue] at q ⊢
  exact q⟩
theorem t_and (ha : PT X x (tT cf gt exv pa ca W X.K A)) {rest : List Expr} (hb : PT X (.BoolOp .And (y :: rest) pos) (tT cf gt exv pa ca W X.K B')) : PT X (.BoolOp .And (x :: y :: rest) pos) (tT cf gt exv pa ca W X.K (.and A B')) := by
  refine ((pw_and ha (pw_of hb)).pt).imp fun σ H Q ⟨B, M, env, p, S, h⟩ => ?_
  unfold evalT at h
  rw [Holds.bind] at h
  unfold evalE at h
  rw [Holds.bind] at h
  refine ⟨B, M, env, p, S, ?_⟩
  unfold evalT
  rw [Holds.bind]
  refine h.imp (fun d1 p1 h1 => ?_) fun _ _ _ z => z
  cases d1 <;> first | exact h1.elim | skip
  rename_i b
  show ∀ H', Ext pa H H' → PoolOk pa ca H' p1 → if b = true then tT cf gt exv pa ca W X.K B' σ H' Q else Q false H'
  intro H' x1 q1
  cases b with
  | false =>
    rw [if_neg Bool.false_ne_true]
    exact h1 H' x1 q1
  | true =>
    rw [if_pos rfl]
    refine ⟨B, M, env, p1, S.ext x1 q1, ?_⟩
    unfold evalT
    rw [Holds.bind]
    exact h1.imp (fun d2 p2 h2 => h2.imp (fun b p3 h3 H2 x2 q2 => h3 H2 (x1.trans x2) q2) (exQ.mono x1)) (exQ.mono x1)
theorem t_or (ha : PT X x (tT cf gt exv pa ca W X.K A)) {rest : List Expr} (hb : PT X (.BoolOp .Or (y :: rest) pos) (tT cf gt exv pa ca W X.K B')) : PT X (.BoolOp .Or (x :: y :: rest) pos) (tT cf gt exv pa ca W X.K (.or A B')) := by
  refine ((pw_or ha (pw_of hb)).pt).imp fun σ H Q ⟨B, M, env, p, S, h⟩ => ?_
  unfold evalT at h
  rw [Holds.bind] at h
  unfold evalE at h
  rw [Holds.bind] at h
  refine ⟨B, M, env, p, S, ?_⟩
  unfold evalT
  rw [Holds.bind]
  refine h.imp (fun d1 p1 h1 => ?_) fun _ _ _ z => z
  cases d1 <;> first | exact h1.elim | skip
  rename_i b
  show ∀ H', Ext pa H H' → PoolOk pa ca H' p1 → if b = true then Q true H' else tT cf gt exv pa ca W X.K B' σ H' Q
  intro H' x1 q1
  cases b with
  | true =>
    rw [if_pos rfl]
    exact h1 H' x1 q1
  | false =>
    rw [if_neg Bool.false_ne_true]
    refine ⟨B, M, env, p1, S.ext x1 q1, ?_⟩
    unfold evalT
    rw [Holds.bind]
    exact h1.imp (fun d2 p2 h2 => h2.imp (fun b p3 h3 H2 x2 q2 => h3 H2 (x1.trans x2) q2) (exQ.mono x1)) (exQ.mono x1)
theorem bool_one_E {op : BoolOp} (h : PE X y (tV cf gt exv pa ca W X.K B')) : PE X (.BoolOp op [y] pos) (tV cf gt exv pa ca W X.K B') := pe_one h
theorem bool_one_T {op : BoolOp} (h : PT X y (tT cf gt exv pa ca W X.K B')) : PT X (.BoolOp op [y] pos) (tT cf gt exv pa ca W X.K B') := by
  cases op
  · exact (pw_and1 h).pt
  · exact (pw_or1 h).pt
theorem s_ite (hc : PT X z (tT cf gt exv pa ca W X.K C)) (ha : PE X x (tV cf gt exv pa ca W X.K A)) (hb : PE X y (tV cf gt exv pa ca W X.K B')) : PE X (.IfExp z x y pos) (tV cf gt exv pa ca W X.K (.ite C A B')) := by
  refine (pe_ifExp hc ha hb).imp fun σ H Q ⟨B, M, env, p, S, es, h⟩ => ?_
  unfold evalE at h
  rw [Holds.bind] at h
  refine ⟨B, M, env, p, S, ?_⟩
  unfold evalT
  rw [Holds.bind]
  refine h.imp (fun d1 p1 h1 => ?_) fun _ _ _ z => z
  cases d1 <;> first | exact h1.elim | skip
  rename_i b
  show ∀ H', Ext pa H H' → PoolOk pa ca H' p1 → if b = true then _ else _
  intro H' x1 q1
  cases b with
  | true =>
    rw [if_pos rfl]
    exact ⟨B, M, env, p1, S.ext x1 q1, es.appl, h1.imp (fun d2 p2 h2 v2 H2 x2 q2 r2 nv => h2 v2 H2 (x1.trans x2) q2 r2 fun z => by cases z) (exQ.mono x1)⟩
  | false =>
    rw [if_neg Bool.false_ne_true]
    exact ⟨B, M, env, p1, S.ext x1 q1, es.appr, h1.imp (fun d2 p2 h2 v2 H2 x2 q2 r2 nv => h2 v2 H2 (x1.trans x2) q2 r2 fun z => by cases z) (exQ.mono x1)⟩
theorem t_ite (hc : PT X z (tT cf gt exv pa ca W X.K C)) (ha : PT X x (tT cf gt exv pa ca W X.K A)) (hb : PT X y (tT cf gt exv pa ca W X.K B')) : PT X (.IfExp z x y pos) (tT cf gt exv pa ca W X.K (.ite C A B')) := by
  refine ⟨fun pins s σ H Q I hw => ?_⟩
  obtain ⟨B, M, env, p, S, h⟩ := hw
  unfold evalT at h
  rw [Holds.bind] at h
  unfold evalE at h
  rw [Holds.bind] at h
  have hc' : tT cf gt exv pa ca W X.K C σ H (fun b H' => if b = true then tT cf gt exv pa ca W X.K A σ H' Q else tT cf gt exv pa ca W X.K B' σ H' Q) := by
    refine ⟨B, M, env, p, S, ?_⟩
    unfold evalT
    rw [Holds.bind]
    refine h.imp (fun d1 p1 h1 => ?_) fun _ _ _ z => z
    cases d1 <;> first | exact h1.elim | skip
    rename_i b
    show ∀ H', Ext pa H H' → PoolOk pa ca H' p1 → if b = true then _ else _
    intro H' x1 q1
    cases b with
    | true =>
      rw [if_pos rfl]
      refine ⟨B, M, env, p1, S.ext x1 q1, ?_⟩
      unfold evalT
      rw [Holds.bind]
      exact h1.imp (fun d2 p2 h2 => h2.imp (fun b p3 h3 H2 x2 q2 => h3 H2 (x1.trans x2) q2) (exQ.mono x1)) (exQ.mono x1)
    | false =>
      rw [if_neg Bool.false_ne_true]
      refine ⟨B, M, env, p1, S.ext x1 q1, ?_⟩
      unfold evalT
      rw [Holds.bind]
      exact h1.imp (fun d2 p2 h2 => h2.imp (fun b p3 h3 H2 x2 q2 => h3 H2 (x1.trans x2) q2) (exQ.mono x1)) (exQ.mono x1)
  simp only [PySem.isTrue]
  refine wpAny_bind (thn (hc.run pins s σ H _ I hc') fun b s1 ⟨H1, I1, q1⟩ => ?_)
  cases b with
  | true =>
    rw [if_pos rfl] at q1 ⊢
    exact ha.run pins s1 σ H1 Q I1 q1
  | false =>
    rw [if_neg Bool.false_ne_true] at q1 ⊢
    exact hb.run pins s1 σ H1 Q I1 q1

/-! ### argument lists -/
variable {xs : List Expr} {R : E}
theorem vs_nil : PA X [] (tVs cf gt exv pa ca W X.K .nil) := pa_nil.imp fun σ H Q ⟨B, M, env, p, S, es, h⟩ => by
  unfold evalEs at h
  exact h [] H .refl S.pool .nil
theorem bs_nil : PA X [] (tBs cf gt exv pa ca W X.K .nil) := pa_nil.imp fun σ H Q ⟨B, M, env, p, S, es, h⟩ => by
  unfold evalEs at h
  exact h [] H .refl S.pool rfl
theorem vs_cons (ha : PE X x (tV cf gt exv pa ca W X.K A)) (hr : PA X xs (tVs cf gt exv pa ca W X.K R)) (hs : notStar x = true) : PA X (x :: xs) (tVs cf gt exv pa ca W X.K (.cons A R)) := by
  refine (pa_cons ha hr (star_of hs)).imp fun σ H Q ⟨B, M, env, p, S, es, h⟩ => ?_
  unfold evalEs at h
  rw [Holds.bind] at h
  refine ⟨B, M, env, p, S, es.appl, h.imp (fun d1 p1 h1 v1 H1 x1 q1 r1 _ => ?_) fun _ _ _ z => z⟩
  rw [Holds.bind] at h1
  have S1 := S.ext x1 q1
  refine ⟨B, M, env, p1, S1, es.appr, h1.imp (fun d2 p2 h2 v2 H2 x2 q2 r2 => ?_) (exQ.mono x1)⟩
  exact h2 (v1 :: v2) H2 (x1.trans x2) q2 (.cons (x2.rep S.mpa r1) r2)
theorem RepBs.ext {K : PySem.W.Frag} {B M : Ms} {H H' : Hp} (x : Ext pa H H') (bp : B pa) (mp : M pa) : ∀ {ds : List D} {vs : List V}, RepBs K pa B M H ds vs → RepBs K pa B M H' ds vs
  | [], _, h => h
  | d :: ds, _, ⟨v, r, e, h1, h2⟩ => ⟨v, r, e, h1.ext x bp mp, RepBs.ext x bp mp h2⟩
theorem bs_cons (ha : PE X x (tB cf gt exv pa ca W X.K A)) (hr : PA X xs (tBs cf gt exv pa ca W X.K R)) (hs : notStar x = true) : PA X (x :: xs) (tBs cf gt exv pa ca W X.K (.cons A R)) := by
  refine (pa_cons ha hr (star_of hs)).imp fun σ H Q ⟨B, M, env, p, S, es, h⟩ => ?_
  unfold evalEs at h
  rw [Holds.bind] at h
  refine ⟨B, M, env, p, S, es.appl, h.imp (fun d1 p1 h1 v1 H1 x1 q1 r1 => ?_) fun _ _ _ z => z⟩
  rw [Holds.bind] at h1
  have S1 := S.ext x1 q1
  refine ⟨B, M, env, p1, S1, es.appr, h1.imp (fun d2 p2 h2 v2 H2 x2 q2 r2 => ?_) (exQ.mono x1)⟩
  exact h2 (v1 :: v2) H2 (x1.trans x2) q2 ⟨v1, v2, rfl, r1.ext x2 S.bp S.mpa, r2⟩
theorem s_tup {k : Nat} (h : PA X xs (tVs cf gt exv pa ca W X.K R)) : PE X (.Tuple xs k pos) (tV cf gt exv pa ca W X.K (.tup R)) := by
  refine (pe_tup h).imp fun σ H Q ⟨B, M, env, p, S, es, h⟩ => ?_
  unfold evalE at h
  rw [Holds.bind] at h
  refine ⟨B, M, env, p, S, es, h.imp (fun ds p1 h1 vs H1 x1 q1 r1 => ?_) fun _ _ _ z => z⟩
  split at h1
  · rename_i hz
    refine ⟨by rw [r1.length]; exact hz, fun q hq => ?_⟩
    exact h1 _ _ (x1.trans (.of_same (same_new hq))) (pool_ext q1 (same_new hq)) (new_tup (S.ext x1 q1).al hq r1) fun z => by cases z
  · exact h1.elim
theorem s_lst (h : PA X xs (tVs cf gt exv pa ca W X.K R)) : PE X (.List xs pos) (tV cf gt exv pa ca W X.K (.lst R)) := by
  refine (pe_lst h).imp fun σ H Q ⟨B, M, env, p, S, es, h⟩ => ?_
  unfold evalE at h
  rw [Holds.bind] at h
  refine ⟨B, M, env, p, S, es, h.imp (fun ds p1 h1 vs H1 x1 q1 r1 => ?_) fun _ _ _ z => z⟩
  split at h1
  · rename_i hz
    refine ⟨by rw [r1.length]; exact hz, fun q hq => ?_⟩
    have nl := new_lst (S.ext x1 q1).al hq r1
    exact h1 _ _ (x1.trans (.of_same (same_new hq))) (pool_ext q1 (same_new hq)) nl.1 fun _ => newv_ext S x1 q1 nl.2
  · exact h1.elim
def rIxDict : R2 := fun x y H Q => ∃ a v, x = .ref a ∧ DGet H a y (some v) ∧ Q v H
theorem ix_dict (hu : X.A.units + 1 < cLine) : IxR X rIxDict := by
  intro value slice pins s σ H x y v u Q I rx ry h hs
  obtain ⟨a, z, rfl, g, q⟩ := h
  cases rx
  have hT := dict_typeIs I g
  unfold subscriptTail
  refine wpAny_bind ?_
  rw [getitemInPython_of_ne hT.not_modules]
  refine wpAny_bind (wpAny_specialOf hT PySem.F.slot_dict_getitem.lookup ?_)
  have fin : wpAny (model X.prog X.w) X.A (subscripted slice false (.ref a) u) (fun r s₃ => wpAny (model X.prog X.w) X.A (letTemporaryGo value (.ref a) r >>= fun _ => pure r) (EP X pins σ Q) X.xe s₃) X.xe s := by
    rw [hs]
    exact wpAny_operating (d_getItem hu I g ry fun w' s3 I3 rw' => wpAny_bind (wpAny_letTemporaryGo (wpAny_pure ⟨z, H, I3, rw', q⟩)))
  first
    | exact wpAny_pure (wpAny_bind fin)
    | exact wpAny_bind (wpAny_pure (wpAny_bind fin))
    | exact wpAny_bind fin
theorem s_idx (ok : XOk cf gt fns exv pa ca W n X) (ha : PE X x (tB cf gt exv pa ca W X.K A)) (hb : PE X y (tC cf gt exv pa ca W X.K B')) (hs : notSlice y = true) : PE X (.Subscript x y pos) (tV cf gt exv pa ca W X.K (.idx A B')) := by
  have pl : PlainIx y := by
    cases y <;> first | (cases hs; done) | exact fun _ _ => rfl
  refine (pe_ix (ix_list.or (ix_tup.or (ix_str.or (ix_dict (by have := units_of ok; omega))))) ha hb pl).imp fun σ H Q ⟨B, M, env, p, S, es, h⟩ => ?_
  unfold evalE at h
  rw [Holds.bind] at h
  refine ⟨B, M, env, p, S, es, h.imp (fun d1 p1 h1 v1 H1 x1 q1 r1 => ?_) fun _ _ _ z => z⟩
  rw [Holds.bind] at h1
  have S1 := S.ext x1 q1
  refine ⟨B, M, env, p1, S1, h1.imp (fun d2 p2 h2 v2 H2 x2 q2 r2 => ?_) (exQ.mono x1)⟩
  obtain ⟨d, e, k⟩ := h2.lift
  have r1 := r1.ext x2 S.bp S.mpa
  have at_ : ∀ {ds : List D} {vs : List V} {i : Int} {d : D}, Reps X.K pa M H2 ds vs → atI ds i = some d → ∃ v, atI vs i = some v ∧ Rep X.K pa M H2 d v := fun {ds vs i d} r e => by
    unfold atI at e ⊢
    rw [r.length]
    cases e2 : ixN ds.length i with
    | none => rw [e2] at e; cases e
    | some j =>
      rw [e2] at e
      exact r.get e
  by_cases dd : ∃ t ks ds, d1 = .dict t ks ds
  · obtain ⟨t, ks, ds, rfl⟩ := dd
    have e : (if isKey t d2 = true then dget ks ds d2 else none) = some d := e
    split at e <;> first | (cases e; done) | skip
    rename_i hk
    obtain ⟨a, u, vs, rfl, _, g2, g3, g4⟩ := r1.dict
    rcases dict_get g3 g2 g4 hk r2 with ⟨d', v, e1, e2, e3, _⟩ | ⟨e1, _⟩
    · rw [e] at e1
      cases e1
      exact .inr (.inr (.inr ⟨a, v, rfl, e2, k v H2 (x1.trans x2) q2 e3 fun z => by cases z⟩))
    · rw [e] at e1; cases e1
  cases d1 <;> cases d2 <;> first | (cases e; done) | exact absurd ⟨_, _, _, rfl⟩ dd | skip
  · obtain rfl := r2.int
    obtain rfl := r1.str
    change (if _ then _ else none) = some d at e
    split at e <;> first | (cases e; done) | skip
    rename_i hz
    obtain ⟨c, hc, rfl⟩ := Option.map_eq_some_iff.mp e
    exact .inr (.inr (.inl ⟨_, _, c, rfl, rfl, hz, hc, k _ H2 (x1.trans x2) q2 rep_str fun z => by cases z⟩))
  · cases r2.int
    obtain ⟨a, vs, rfl, g1, g2⟩ := r1.tup
    obtain ⟨v, e3, r3⟩ := at_ g2 e
    exact .inr (.inl ⟨a, vs, _, v, rfl, rfl, g1.sq, e3, k v H2 (x1.trans x2) q2 r3 fun z => by cases z⟩)
  · cases r2.int
    obtain ⟨a, vs, rfl, _, g1, g2⟩ := r1
    obtain ⟨v, e3, r3⟩ := at_ g2 e
    exact .inl ⟨a, vs, _, v, rfl, rfl, .inl (.inl g1), e3, k v H2 (x1.trans x2) q2 r3 fun z => by cases z⟩
theorem o_none : PO X none (tO cf gt exv pa ca W X.K .nil) := po_none.imp fun σ H Q ⟨B, M, env, p, S, h⟩ => by
  unfold evalO at h
  exact h H .refl S.pool
theorem o_some (ha : PE X x (tC cf gt exv pa ca W X.K A)) : PO X (some x) (tO cf gt exv pa ca W X.K (.cons A .nil)) := (po_some ha).imp fun σ H Q ⟨B, M, env, p, S, h⟩ => by
  unfold evalO at h
  rw [Holds.bind] at h
  refine ⟨B, M, env, p, S, h.imp (fun d1 p1 h1 v1 H1 x1 q1 r1 => ?_) fun _ _ _ z => z⟩
  obtain ⟨i, e, k⟩ := h1.lift
  cases d1 <;> first | (cases e; done) | skip
  cases e
  cases r1.int
  exact ⟨_, rfl, k H1 x1 q1⟩
theorem Reps.cut {K : PySem.W.Frag} {M : Ms} {H : Hp} {ds : List D} {vs : List V} (h : Reps K pa M H ds vs) (lo hi : Option Int) : Reps K pa M H (cutD ds lo hi) (cutV vs lo hi) := by
  unfold cutD cutV
  rw [h.length]
  exact (h.drop _).take _
theorem s_sl {lo hi : Option Expr} {L U : E} {p2 : Pos} (ha : PE X x (tB cf gt exv pa ca W X.K A)) (hl : PO X lo (tO cf gt exv pa ca W X.K L)) (hu : PO X hi (tO cf gt exv pa ca W X.K U)) :
    PE X (.Subscript x (.Slice lo hi none p2) pos) (tV cf gt exv pa ca W X.K (.sl A L U)) := by
  refine (pe_slice (sl_list.or (sl_tupA.or sl_str)) ha hl hu).imp fun σ H Q ⟨B, M, env, p, S, es, h⟩ => ?_
  unfold evalE at h
  rw [Holds.bind] at h
  refine ⟨B, M, env, p, S, es, h.imp (fun d1 p1 h1 v1 H1 x1 q1 r1 => ?_) fun _ _ _ z => z⟩
  rw [Holds.bind] at h1
  have S1 := S.ext x1 q1
  refine ⟨B, M, env, p1, S1, h1.imp (fun l p2 h2 H2 x2 q2 => ?_) (exQ.mono x1)⟩
  rw [Holds.bind] at h2
  have S2 := S1.ext x2 q2
  refine ⟨B, M, env, p2, S2, h2.imp (fun u p3 h3 H3 x3 q3 => ?_) (exQ.mono (x1.trans x2))⟩
  obtain ⟨d, e, k⟩ := h3.lift
  have r1 := r1.ext (x2.trans x3) S.bp S.mpa
  have S3 := S2.ext x3 q3
  cases d1 <;> first | (cases e; done) | skip
  · obtain rfl := r1.str
    change (if _ then _ else none) = some d at e
    split at e <;> first | (cases e; done) | skip
    rename_i hz
    cases e
    exact .inr (.inr ⟨_, rfl, hz, k _ H3 (x1.trans (x2.trans x3)) q3 rep_str fun _ => trivial⟩)
  · cases e
    obtain ⟨a, vs, rfl, g1, g2⟩ := r1.tup
    refine .inr (.inl ⟨a, vs, rfl, g1.sq, fun hw => ?_, fun hw q hq => ?_⟩)
    · refine k _ H3 (x1.trans (x2.trans x3)) q3 ?_ fun _ => trivial
      have hl := g2.length
      have e : cutD _ l u = _ := show cutD _ l u = _ from by
        unfold cutD
        rw [← hl, hw.1, hw.2, List.drop_zero, Nat.sub_zero, hl, List.take_length]
      rw [e]
      unfold Rep
      exact ⟨a, vs, rfl, g1, g2⟩
    · exact k _ _ (x1.trans (x2.trans (x3.trans (.of_same (same_new hq))))) (pool_ext q3 (same_new hq)) (new_tup S3.al hq (g2.cut l u)) fun _ => trivial
  · cases e
    obtain ⟨a, vs, rfl, _, g1, g2⟩ := r1
    refine .inl ⟨a, vs, rfl, .inl (.inl g1), fun q hq => ?_⟩
    have nl := new_lst S3.al hq (g2.cut l u)
    exact k _ _ (x1.trans (x2.trans (x3.trans (.of_same (same_new hq))))) (pool_ext q3 (same_new hq)) nl.1 fun _ => newv_ext S x1 q1 (newv_ext S1 x2 q2 (newv_ext S2 x3 q3 nl.2))
theorem s_rev {k1 : Nat} {p1 p2 p3 : Pos} (ha : PE X x (tB cf gt exv pa ca W X.K A)) : PE X (.Subscript x (.Slice none none (some (.UnaryOp .USub (.Constant (.int 1) k1 p1) p2)) p3) pos) (tV cf gt exv pa ca W X.K (.rev A)) := by
  refine (pe_revA ha).imp fun σ H Q ⟨B, M, env, p, S, es, h⟩ => ?_
  unfold evalE at h
  rw [Holds.bind] at h
  refine ⟨B, M, env, p, S, es, h.imp (fun d1 p1 h1 v1 H1 x1 q1 r1 => ?_) fun _ _ _ z => z⟩
  obtain ⟨d, e, k⟩ := h1.lift
  cases d1 <;> first | (cases e; done) | skip
  · cases e
    obtain ⟨a, vs, rfl, g1, g2⟩ := r1.tup
    refine ⟨a, vs, rfl, .inr ⟨g1.sq, fun q hq => ?_⟩⟩
    exact k _ _ (x1.trans (.of_same (same_new hq))) (pool_ext q1 (same_new hq)) (new_tup (S.ext x1 q1).al hq g2.reverse) fun z => by cases z
  · cases e
    obtain ⟨a, vs, rfl, _, g1, g2⟩ := r1
    refine ⟨a, vs, rfl, .inl ⟨.inl (.inl g1), fun q hq => ?_⟩⟩
    exact k _ _ (x1.trans (.of_same (same_new hq))) (pool_ext q1 (same_new hq)) (new_lst (S.ext x1 q1).al hq g2.reverse).1 fun z => by cases z

/-! ### calls -/
theorem run_fnS0 {CX : CXT} {k : Nat} {fa : Addr} {fd : FuncData} {ps : List Str} {sp : Sp} {E1 : L2.St → XK} {u : Str} {p : Pos} (F : FnG X.prog X.w X.K X.mg X.base CX k fa fd ps sp) (gu : X.A.guards = some []) (hr : Room k X.A) (hg : Gl X u) (hm : X.mg u = some (.ref fa)) (hk : PySem.W.keepIn X.K (.ref fa) = true) (hb : Binds X.K fd ps [])
    (hx : ∀ σ, PassesAt CX X σ (E1 σ)) (hdb : (u == ("__debug__" : Str)) = false) : PE X (.Call (.Name u p) [] [] pos) (tCallS sp E1 tNil) := by
  refine ⟨fun pins s σ H Q I h => ?_⟩
  refine wpAny_Call_Name_kw (ld_glob I hg hm ?_ hdb)
  exact PySem.W.callWith_K0 I.kIn hk (run_fnG (us := []) F gu hr hb (hx σ) I .nil h)
theorem pe_callG {CX : CXT} {k : Nat} {fa : Addr} {fd : FuncData} {ps : List Str} {sp : Sp} {E1 : L2.St → XK} {u : Str} {p : Pos} {e : Expr} {es : List Expr} {t : TA} (F : FnG X.prog X.w X.K X.mg X.base CX k fa fd ps sp) (gu : X.A.guards = some []) (hr : Room k X.A) (hg : Gl X u) (hm : X.mg u = some (.ref fa)) (hk : PySem.W.keepIn X.K (.ref fa) = true) (hb : Binds X.K fd ps [])
    (hx : ∀ σ, PassesAt CX X σ (E1 σ)) (ha : PA X (e :: es) t) (hdb : (u == ("__debug__" : Str)) = false) (one : starEach (e :: es) X.env = (false, eval e X.env) :: starEach es X.env) (plain : (backTo pos (starEach es X.env)).any (·.1) = false) : PE X (.Call (.Name u p) (e :: es) [] pos) (tCallS sp E1 t) := by
  constructor
  intro pins s σ H Q I h
  apply wpAny_Call_Name_kw
  refine ld_glob I hg hm (PySem.W.callWith_K (h₀ := X.base) I.ok.mod.kin hk ?_ one plain) hdb
  exact thn (ha.run pos pins s σ H _ I h) fun us s1 ⟨vs, H1, I1, r, q⟩ => ⟨I1.kIn, run_fnG F gu hr hb (hx σ) I1 r q⟩
theorem s_call {f : Str} {g : Expr} {sc : Scope} (ok : XOk cf gt fns exv pa ca W n X) (hsc : X.env.scope = sc) (hn : nmB sc f g = true) (hf : fns.contains f = true) (hc : chkEs X.N fns sc R xs = true) (h : PA X xs (tVs cf gt exv pa ca W X.K R)) :
    PE X (.Call g xs [] pos) (tV cf gt exv pa ca W X.K (.call f R)) := by
  obtain ⟨p0, rfl, hg, hd, _⟩ := gl_of hsc hn
  obtain ⟨fa, fd, ps, h1, h2, h3, F, far⟩ := ok.fns f hf
  have red : ∀ σ H Q, tV cf gt exv pa ca W X.K (.call f R) σ H Q → tCallS (spF X.K pa ca exv cf f ps.length) (WE W) (tVs cf gt exv pa ca W X.K R) σ H Q := fun σ H Q ⟨B, M, env, p, S, es, h⟩ => by
    unfold evalE at h
    rw [Holds.bind] at h
    refine ⟨B, M, env, p, S, es, h.imp (fun ds p1 h1 vs H1 x1 q1 r1 => ?_) fun _ _ _ z => z⟩
    have S1 := S.ext x1 q1
    have hl : ds.length = ps.length := Classical.byContradiction fun z => by
      rw [far ds p1 z] at h1
      exact h1
    exact ⟨by rw [r1.length, hl], M, p1, ds, r1, q1, S.mpa, S.sub _ S.bc, S1.al, S1.nt, h1.imp (fun d p2 k v H' x2 q2 r2 => k v H' (x1.trans x2) q2 r2 fun z => by cases z) fun c xs p2 k cls dx H' x2 q2 e => k cls dx H' (x1.trans x2) q2 e⟩
  cases xs with
  | nil =>
    unfold chkEs at hc
    cases R <;> first | (cases hc; done) | skip
    refine (run_fnS0 F ok.gu ok.room hg h1 h2 h3 (fun σ => passAt ok.tk σ) hd).imp fun σ H Q ⟨B, M, env, p, S, es, h⟩ => ?_
    unfold evalE at h
    rw [Holds.bind] at h
    unfold evalEs at h
    have h : Holds (cf f [] p) _ _ := h
    have hl : ([] : List D).length = ps.length := Classical.byContradiction fun z => by
      rw [far [] p z] at h
      exact h
    exact ⟨hl, M, p, [], .nil, S.pool, S.mpa, S.sub _ S.bc, S.al, S.nt, h.imp (fun d p2 k v H' x2 q2 r2 => k v H' x2 q2 r2 fun z => by cases z) fun c xs p2 k cls dx H' x2 q2 e => k cls dx H' x2 q2 e⟩
  | cons e es =>
    unfold chkEs at hc
    cases R <;> first | (cases hc; done) | skip
    simp only [Bool.and_eq_true] at hc
    exact (pe_callG F ok.gu ok.room hg h1 h2 h3 (fun σ => passAt ok.tk σ) h hd (star_of hc.1.2) (nostar hc.2)).imp red
end
end PD

namespace PD
open PySem PySem.Spec PyProof.Rows L2
section
variable {cf : Str → List D → PSt → Out D} {gt : Str → Option D} {exv : ExV} {pa ca : Addr} {W : WX} {n : Nat} {X : Cx} {fns : List Str}
variable {A B' C R : E} {x y z : Expr} {xs : List Expr} {pos : Pos}
/-- arguments used up -/
def tCs (cf : Str → List D → PSt → Out D) (gt : Str → Option D) (exv : ExV) (pa ca : Addr) (W : WX) (K : PySem.W.Frag) (es : E) : TA := fun σ H Q => ∃ (B M : Ms) (env : SEnv) (p : PSt), SOk K pa ca B M σ H env p ∧
  Holds (evalEs cf gt es (view env) p) (fun ds p' => ∀ vs H', Ext pa H H' → PoolOk pa ca H' p' → Reps K pa B H' ds vs → Q vs H') (exQ exv pa ca W σ H)
theorem _root_.L2.PA.used (h : PA X xs (tVs cf gt exv pa ca W X.K R)) : PA X xs (tCs cf gt exv pa ca W X.K R) := h.imp fun σ H Q ⟨B, M, env, p, S, h⟩ => by
  refine ⟨B, B, fzAll env, p, S.all, .all, ?_⟩
  rw [view_fzAll]
  exact h
def rOf (X : Cx) (pa : Addr) (f : Value) (g : List D → Option D) : Prop := ∃ r : List V → Hp → VK → Prop, CallR X f r ∧
  ∀ (B : Ms) (H : Hp) (ds : List D) (vs : List V) (d : D) (Q : VK), (∀ a, B a → H a ≠ none) → Reps X.K pa B H ds vs → g ds = some d → (∀ v, (∀ M, Rep X.K pa M H d v) → Q v H) → r vs H Q
theorem Reps.inv1 {K : PySem.W.Frag} {M : Ms} {H : Hp} {d : D} {vs : List V} (h : Reps K pa M H [d] vs) : ∃ v, vs = [v] ∧ Rep K pa M H d v := by
  unfold Reps at h
  obtain ⟨v, r, rfl, h1, h2⟩ := h
  unfold Reps at h2
  subst h2
  exact ⟨v, rfl, h1⟩
theorem Reps.inv2 {K : PySem.W.Frag} {M : Ms} {H : Hp} {d e : D} {vs : List V} (h : Reps K pa M H [d, e] vs) : ∃ v w, vs = [v, w] ∧ Rep K pa M H d v ∧ Rep K pa M H e w := by
  unfold Reps at h
  obtain ⟨v, r, rfl, h1, h2⟩ := h
  obtain ⟨w, rfl, h3⟩ := h2.inv1
  exact ⟨v, w, rfl, h1, h3⟩
theorem Rep.lst {K : PySem.W.Frag} {M : Ms} {H : Hp} {ds : List D} {v : V} (h : Rep K pa M H (.lst ds) v) : ∃ a vs, v = .ref a ∧ LstAt M H a vs ∧ Reps K pa M H ds vs := by unfold Rep at h; exact h
theorem Rep.tup {K : PySem.W.Frag} {M : Ms} {H : Hp} {ds : List D} {v : V} (h : Rep K pa M H (.tup ds) v) : ∃ a vs, v = .ref a ∧ TupAt M H a vs ∧ Reps K pa M H ds vs := by unfold Rep at h; exact h
theorem Rep.dict {K : PySem.W.Frag} {M : Ms} {H : Hp} {t : Bool} {ks ds : List D} {v : V} (h : Rep K pa M H (.dict t ks ds) v) : ∃ a u vs, v = .ref a ∧ ¬ M a ∧ Rd H a u ∧ DictO t ks vs u ∧ Reps K pa M H ds vs := by unfold Rep at h; exact h
theorem Rep.ctup {K : PySem.W.Frag} {M : Ms} {H : Hp} {ss : List Str} {v : V} (h : Rep K pa M H (.ctup ss) v) : ∃ a, v = .ref a ∧ KTup K a (ss.map V.str) := by unfold Rep at h; exact h
theorem intsD_map : ∀ {ds : List D} {ns : List Int}, intsD ds = some ns → ds = ns.map .int
  | [], ns, h => by cases h; rfl
  | d :: ds, ns, h => by
    cases d <;> first | (cases h; done) | skip
    unfold intsD at h
    cases e : intsD ds with
    | none => rw [e] at h; cases h
    | some ms =>
      rw [e] at h
      cases h
      rw [intsD_map e]
      rfl
theorem blsD_map : ∀ {ds : List D} {ns : List Bool}, blsD ds = some ns → ds = ns.map .bl
  | [], ns, h => by cases h; rfl
  | d :: ds, ns, h => by
    cases d <;> first | (cases h; done) | skip
    unfold blsD at h
    cases e : blsD ds with
    | none => rw [e] at h; cases h
    | some ms =>
      rw [e] at h
      cases h
      rw [blsD_map e]
      rfl
theorem reps_ints {K : PySem.W.Frag} {M : Ms} {H : Hp} : ∀ {ns : List Int} {vs : List V}, Reps K pa M H (ns.map .int) vs → vs = ns.map V.int
  | [], _, h => by unfold Reps at h; exact h
  | i :: ns, _, h => by
    rw [List.map_cons] at h
    unfold Reps at h
    obtain ⟨v, r, rfl, h1, h2⟩ := h
    rw [h1.int, reps_ints h2]
    rfl
theorem reps_bls {K : PySem.W.Frag} {M : Ms} {H : Hp} : ∀ {ns : List Bool} {vs : List V}, Reps K pa M H (ns.map .bl) vs → vs = ns.map V.bl
  | [], _, h => by unfold Reps at h; exact h
  | i :: ns, _, h => by
    rw [List.map_cons] at h
    unfold Reps at h
    obtain ⟨v, r, rfl, h1, h2⟩ := h
    rw [h1.bl, reps_bls h2]
    rfl
theorem maxI_is {ns : List Int} {m m' : Int} (h : maxI ns = some m) (h1 : m' ∈ ns) (h2 : ∀ y ∈ ns, y ≤ m') : m = m' := by
  cases ns with
  | nil => cases h
  | cons x r =>
    have key : ∀ (r : List Int) (a : Int), a ≤ m' → (∀ y ∈ r, y ≤ m') → (a = m' ∨ m' ∈ r) → r.foldl (fun m y => if y > m then y else m) a = m' := by
      intro r
      induction r with
      | nil => intro a h1 h2 h3; simpa using h3
      | cons b r ih =>
        intro a h1 h2 h3
        rw [List.foldl_cons]
        have hb := h2 b (List.mem_cons_self)
        refine ih _ (by split <;> omega) (fun y hy => h2 y (List.mem_cons_of_mem _ hy)) ?_
        rcases h3 with h3 | h3
        · subst h3; left; split <;> omega
        · rcases List.mem_cons.mp h3 with h3 | h3
          · subst h3; left; split <;> omega
          · right; exact h3
    have e : some (r.foldl (fun m y => if y > m then y else m) x) = some m := h
    rw [← Option.some.inj e]
    exact key r x (h2 x List.mem_cons_self) (fun y hy => h2 y (List.mem_cons_of_mem _ hy)) ((List.mem_cons.mp h1).imp Eq.symm id)
theorem minI_is {ns : List Int} {m m' : Int} (h : minI ns = some m) (h1 : m' ∈ ns) (h2 : ∀ y ∈ ns, m' ≤ y) : m = m' := by
  cases ns with
  | nil => cases h
  | cons x r =>
    have key : ∀ (r : List Int) (a : Int), m' ≤ a → (∀ y ∈ r, m' ≤ y) → (a = m' ∨ m' ∈ r) → r.foldl (fun m y => if y < m then y else m) a = m' := by
      intro r
      induction r with
      | nil => intro a h1 h2 h3; simpa using h3
      | cons b r ih =>
        intro a h1 h2 h3
        rw [List.foldl_cons]
        have hb := h2 b (List.mem_cons_self)
        refine ih _ (by split <;> omega) (fun y hy => h2 y (List.mem_cons_of_mem _ hy)) ?_
        rcases h3 with h3 | h3
        · subst h3; left; split <;> omega
        · rcases List.mem_cons.mp h3 with h3 | h3
          · subst h3; left; split <;> omega
          · right; exact h3
    have e : some (r.foldl (fun m y => if y < m then y else m) x) = some m := h
    rw [← Option.some.inj e]
    exact key r x (h2 x List.mem_cons_self) (fun y hy => h2 y (List.mem_cons_of_mem _ hy)) ((List.mem_cons.mp h1).imp Eq.symm id)
/-- len of a dict, locked or not -/
def rLenD : List V → Hp → VK → Prop := fun xs H Q => ∃ (p : Addr) (u : HO) (t : Bool) (ks : List D) (vs : List V), xs = [.ref p] ∧ Rd H p u ∧ DictO t ks vs u ∧ Q (.int ((ks.length : Nat) : Int)) H
theorem call_lenDict : CallR X (.builtin "len") rLenD := by
  intro pins s σ H xs us Q I r h
  obtain ⟨p, u, t, ks, vs, rfl, hp, ho, q⟩ := h
  obtain ⟨x, rfl, rx⟩ := vals1 r
  obtain rfl : x = .ref p := rx
  cases u <;> first | exact ho.elim | skip
  · rename_i kvs
    obtain ⟨rfl, rfl, rfl, nd⟩ := ho
    rw [List.length_map] at q
    exact d_len I hp fun t s' I' => ⟨.int kvs.length, H, I', ⟨t, rfl⟩, q⟩
  · rename_i kvs
    obtain ⟨rfl, rfl, rfl, nd⟩ := ho
    rw [List.length_map] at q
    obtain ⟨z, hd, ys, rel, dd⟩ := dt_rd I.hok hp
    have hl : kvs.length = ys.length := Paired.length rel
    refine call_len_dictH hd dd (by rw [← hl, sizeLine_eq] at *; omega) ?_
    rw [← hl]
    exact ⟨.int ((kvs.length : Nat) : Int), H, I.tok _, ⟨_, rfl⟩, q⟩
theorem ro_len : rOf X pa (.builtin "len") (biD .len) := by
  refine ⟨_, call_len_seq.or (call_len_str.or call_lenDict), fun B H ds vs d Q al r e q => ?_⟩
  rcases ds with _ | ⟨d1, _ | ⟨_, _⟩⟩ <;> first | (cases e; done) | skip
  · obtain ⟨v, rfl, r1⟩ := r.inv1
    cases d1 <;> first | (cases e; done) | skip
    · rename_i z
      change (if z.length ≤ sizeLine then _ else none) = some d at e
      split at e <;> first | (cases e; done) | skip
      rename_i hz
      cases e
      unfold Rep at r1
      exact .inr (.inl ⟨z, by rw [r1], hz, q _ fun _ => rep_int⟩)
    · cases e
      obtain ⟨a, ws, rfl, g1, g2⟩ := r1.tup
      refine .inl ?_
      exact ⟨a, ws, rfl, .inr g1.sq, q _ fun _ => by rw [g2.length]; exact rep_int⟩
    · cases e
      obtain ⟨a, ws, rfl, g1, g2⟩ := r1.lst
      refine .inl ?_
      exact ⟨a, ws, rfl, .inl (.inl (.inl g1.2)), q _ fun _ => by rw [g2.length]; exact rep_int⟩
    · cases e
      obtain ⟨a, u, ws, rfl, _, g1, g2, g3⟩ := r1.dict
      exact .inr (.inr ⟨a, u, _, _, ws, rfl, g1, g2, q _ fun _ => rep_int⟩)
    · cases e
      obtain ⟨a, rfl, g1⟩ := r1.ctup
      exact .inl ⟨a, _, rfl, .inr (.inr g1), q _ fun _ => by rw [List.length_map]; exact rep_int⟩
  · cases d1 <;> cases e
theorem one_lst {g : List D → Option D} {k : List D → Option D} (hg : ∀ xs, g [.lst xs] = k xs) (h0 : ∀ ds d, g ds = some d → ∃ xs, ds = [.lst xs]) {ds : List D} {d : D} (e : g ds = some d) : ∃ xs, ds = [.lst xs] ∧ k xs = some d := by
  obtain ⟨xs, rfl⟩ := h0 ds d e
  exact ⟨xs, rfl, by rw [← hg]; exact e⟩
/-- sum(xs) of a tuple of ints -/
theorem sum_tupG {prog : Program} {w : World} {A : Around} {E : Value → Shared → Prop} {s : Shared} {l : Addr} {xs : Array (Int × Tok)} {Q : Value → Shared → Prop} (hh : A.handled = none) (ht : s.heap.IsTuple l (intItems xs))
    (h : ∀ h' tk t', (∀ b o, s.heap.get? b = some o → h'.get? b = some o) → Q (.int (preSum (numAt xs) xs.size) t') { s with heap := h', toks := tk }) :
    wpAny (model prog w) A (call (.builtin "sum") [.ref l]) Q E s := by
  have hlt : l < s.heap.objs.size := by obtain ⟨_, e, _⟩ := ht; exact Heap.lt_size e
  refine PySem.call_sum_walkG (PySem.wpAny_pyIter_tuple ht ?_)
  refine ⟨_, _, _, _, _, _, numAt xs, rfl, PySem.Walks.tuple (A := A.in1) hh _ l (Nat.ne_of_lt hlt) (intItems xs), ⟨⟨_, Heap.get?_push_size _ rfl, rfl, rfl⟩, ht.at fun o e => Heap.get?_push_of_some _ e⟩, fun b hb => ?_, (fun _ _ => intItems_at), fun h' tk t' hk => ?_⟩
  · show b < (s.heap.push _).objs.size
    rw [Heap.size_push]
    rcases List.mem_cons.mp hb with rfl | hb
    · exact Nat.lt_succ_self _
    · rcases List.mem_cons.mp hb with rfl | hb
      · exact Nat.lt_succ_of_lt hlt
      · cases hb
  · have := h h' tk t' fun b o e => hk b o (fun hm => by
      rcases List.mem_cons.mp hm with e1 | hm
      · exact absurd (e1 ▸ Heap.lt_size e) (Nat.lt_irrefl _)
      · cases hm) (Heap.get?_push_of_some _ e)
    simpa [intItems] using this
def rSumT (K : PySem.W.Frag) : List V → Hp → VK → Prop := fun vs H Q => ∃ (a : Addr) (ns : List Int), vs = [V.ref a] ∧ SqT K H a (ns.map V.int) ∧ Q (.int ns.sum) H
theorem cr_sumT (hc : X.calm = true) : CallR X (.builtin "sum") (rSumT X.K) := by
  intro pins s σ H vs us Q I r h
  obtain ⟨a, ns, rfl, hs, q⟩ := h
  obtain ⟨its, rv, hl, _⟩ := I.tuple hs
  rw [Vals.ref1 r]
  have hi := rv.ints
  obtain ⟨xs, e⟩ := hi.allInts.items
  have hn : numsOf (intItems xs).toList = ns := by rw [← e]; exact hi.numsOf
  rw [nums_intItems] at hn
  rw [e] at hl
  refine sum_tupG (I.ok.hd hc) hl fun h' tk t' hk => ?_
  rw [preSum_eq, List.take_of_length_le (by simp), hn]
  exact ⟨.int _, H, I.kept hk, ⟨_, rfl⟩, q⟩
theorem ro_sum (hc : X.calm = true) : rOf X pa (.builtin "sum") (biD .sum) := by
  refine ⟨_, (cr_sum hc).or (cr_sumT hc), fun B H ds vs d Q al r e q => ?_⟩
  rcases ds with _ | ⟨d1, _ | ⟨_, _⟩⟩ <;> first | (cases e; done) | skip
  · obtain ⟨v, rfl, r1⟩ := r.inv1
    cases d1 <;> first | (cases e; done) | skip
    · rename_i xs
      simp only [biD] at e
      cases e2 : intsD xs with
      | none => rw [e2] at e; cases e
      | some ns =>
        rw [e2] at e
        cases e
        obtain ⟨a, ws, rfl, g1, g2⟩ := r1.tup
        rw [intsD_map e2] at g2
        rw [reps_ints g2] at g1
        exact .inr ⟨a, ns, rfl, g1.sq, q _ fun _ => rep_int⟩
    · rename_i xs
      simp only [biD] at e
      cases e2 : intsD xs with
      | none => rw [e2] at e; cases e
      | some ns =>
        rw [e2] at e
        cases e
        obtain ⟨a, ws, rfl, g1, g2⟩ := r1.lst
        rw [intsD_map e2] at g2
        rw [reps_ints g2] at g1
        exact .inl ⟨a, ns, rfl, .inl (.inl g1.2), q _ fun _ => rep_int⟩
  · cases d1 <;> cases e
theorem maxI_ne {ns : List Int} {m : Int} (h : maxI ns = some m) : 0 < ns.length := by
  cases ns with
  | nil => cases h
  | cons => simp
theorem minI_ne {ns : List Int} {m : Int} (h : minI ns = some m) : 0 < ns.length := by
  cases ns with
  | nil => cases h
  | cons => simp
theorem ro_max1 (hc : X.calm = true) : rOf X pa (.builtin "max") (biD .max1) := by
  refine ⟨_, cr_max hc, fun B H ds vs d Q al r e q => ?_⟩
  rcases ds with _ | ⟨d1, _ | ⟨_, _⟩⟩ <;> first | (cases e; done) | skip
  · obtain ⟨v, rfl, r1⟩ := r.inv1
    cases d1 <;> first | (cases e; done) | skip
    rename_i xs
    simp only [biD] at e
    cases e2 : intsD xs with
    | none => rw [e2] at e; cases e
    | some ns =>
      rw [e2] at e
      cases e3 : maxI ns with
      | none => simp [e3] at e
      | some m =>
        simp [e3] at e
        subst e
        obtain ⟨a, ws, rfl, g1, g2⟩ := r1.lst
        rw [intsD_map e2] at g2
        rw [reps_ints g2] at g1
        exact ⟨a, ns, rfl, .inl (.inl g1.2), maxI_ne e3, fun m' h1 h2 => by rw [← maxI_is e3 h1 h2]; exact q _ fun _ => rep_int⟩
  · cases d1 <;> cases e
theorem two_ints {b : Bi} {k : Int → Int → Int} (hk : ∀ ds d, biD b ds = some d → ∃ i j, ds = [.int i, .int j] ∧ d = .int (k i j)) {id : String} {r : List V → Hp → VK → Prop} (hr : CallR X (.builtin id) r) (h : ∀ i j H Q, Q (.int (k i j)) H → r [.int i, .int j] H Q) : rOf X pa (.builtin id) (biD b) := by
  refine ⟨_, hr, fun B H ds vs d Q al rr e q => ?_⟩
  obtain ⟨i, j, rfl, rfl⟩ := hk ds d e
  obtain ⟨v, w, rfl, r1, r2⟩ := rr.inv2
  cases r1.int; cases r2.int
  exact h i j H Q (q _ fun _ => rep_int)
theorem ro_max2 (hc : X.calm = true) : rOf X pa (.builtin "max") (biD .max2) := two_ints (k := fun i j => if j > i then j else i) (fun ds d e => by
  unfold biD at e
  split at e <;> first | (cases e; done) | skip
  all_goals first | (cases e; exact ⟨_, _, rfl, rfl⟩) | (rename_i h; cases h)) (call_max2 hc) fun i j H Q q => ⟨i, j, rfl, q⟩
theorem ro_min2 (hc : X.calm = true) : rOf X pa (.builtin "min") (biD .min2) := two_ints (k := fun i j => if j < i then j else i) (fun ds d e => by
  unfold biD at e
  split at e <;> first | (cases e; done) | skip
  all_goals first | (cases e; exact ⟨_, _, rfl, rfl⟩) | (rename_i h; cases h)) (call_min2 hc) fun i j H Q q => ⟨i, j, rfl, q⟩
theorem ro_abs : rOf X pa (.builtin "abs") (biD .abs) := by
  refine ⟨_, call_abs, fun B H ds vs d Q al r e q => ?_⟩
  rcases ds with _ | ⟨d1, _ | ⟨_, _⟩⟩ <;> first | (cases e; done) | skip
  · obtain ⟨v, rfl, r1⟩ := r.inv1
    cases d1 <;> first | (cases e; done) | skip
    cases e
    cases r1.int
    exact ⟨_, rfl, q _ fun _ => rep_int⟩
  · cases d1 <;> cases e
theorem ro_all (hc : X.calm = true) : rOf X pa (.builtin "all") (biD .all) := by
  refine ⟨_, cr_all hc, fun B H ds vs d Q al r e q => ?_⟩
  rcases ds with _ | ⟨d1, _ | ⟨_, _⟩⟩ <;> first | (cases e; done) | skip
  · obtain ⟨v, rfl, r1⟩ := r.inv1
    cases d1 <;> first | (cases e; done) | skip
    rename_i xs
    simp only [biD] at e
    cases e2 : blsD xs with
    | none => rw [e2] at e; cases e
    | some ns =>
      rw [e2] at e
      cases e
      obtain ⟨a, ws, rfl, g1, g2⟩ := r1.lst
      rw [blsD_map e2] at g2
      rw [reps_bls g2] at g1
      exact ⟨a, ns, rfl, .inl (.inl g1.2), q _ fun _ => rep_bl⟩
  · cases d1 <;> cases e
theorem ro_any (hc : X.calm = true) : rOf X pa (.builtin "any") (biD .any) := by
  refine ⟨_, cr_any hc, fun B H ds vs d Q al r e q => ?_⟩
  rcases ds with _ | ⟨d1, _ | ⟨_, _⟩⟩ <;> first | (cases e; done) | skip
  · obtain ⟨v, rfl, r1⟩ := r.inv1
    cases d1 <;> first | (cases e; done) | skip
    rename_i xs
    simp only [biD] at e
    cases e2 : blsD xs with
    | none => rw [e2] at e; cases e
    | some ns =>
      rw [e2] at e
      cases e
      obtain ⟨a, ws, rfl, g1, g2⟩ := r1.lst
      rw [blsD_map e2] at g2
      rw [reps_bls g2] at g1
      exact ⟨a, ns, rfl, .inl (.inl g1.2), q _ fun _ => rep_bl⟩
  · cases d1 <;> cases e
theorem boot_repr : bootBuiltins "repr" = some (.builtin "repr") := by decide +kernel
def rRepr (K : PySem.W.Frag) : List V → Hp → VK → Prop := fun vs H Q => ∃ v d, vs = [v] ∧ Dp K H v d ∧ SeqAt.shaped d = true ∧ d.showable = true ∧ d.shown.length ≤ sizeLine ∧ Q (.str d.shown) H
theorem call_reprD (gu : X.A.guards = some []) (hu : X.A.units + 66 < cLine) : CallR X (.builtin "repr") (rRepr X.K) := by
  intro pins s σ H vs us Q I r h
  obtain ⟨v, d, rfl, hd, sh, sw, sz, q⟩ := h
  obtain ⟨u, rfl, ru⟩ := vals1 r
  obtain ⟨as, rd⟩ := Dp.reads I d v u hd ru
  have lay := sh
  unfold SeqAt.shaped at lay
  simp only [Bool.and_eq_true, decide_eq_true_eq] at lay
  have deep : d.depth ≤ 64 := lay.2
  have fin : ∀ h' u tk, (∀ b o, s.heap.get? b = some o → h'.get? b = some o) → EP X pins σ Q (.str d.shown u) { s with heap := h', toks := tk } := fun h' u tk k => ⟨.str d.shown, H, I.kept k, ⟨u, rfl⟩, q⟩
  have nod : d.hasDict = true → sysModules ∉ as := PyData.noDict_hsm (PyData.hasDict_of_canLay d lay.1)
  have big : ∀ {a : Addr}, Reads s.heap (.ref a) d as → wpAny (model X.prog X.w) X.A (call (.builtin "repr") [.ref a]) (EP X pins σ Q) X.xe s := fun {a} rd =>
    repr_of_reads' rd sw nod gu (by omega) (fun _ _ e => e) fin sz
  by_cases isRef : ∃ a, u = Value.ref a
  · obtain ⟨a, rfl⟩ := isRef
    exact big rd
  · cases rd <;> first
      | exact absurd ⟨_, rfl⟩ isRef
      | exact P.repr_of_none (fin s.heap _ _ fun _ _ e => e)
      | exact P.repr_of_bool (fin s.heap _ _ fun _ _ e => e)
      | exact P.repr_of_int (by simpa [PyData.showable] using sw) (fin s.heap _ _ fun _ _ e => e)
      | exact P.repr_of_str (fin s.heap _ _ fun _ _ e => e) sz
theorem ro_repr (gu : X.A.guards = some []) (hu : X.A.units + 66 < cLine) : rOf X pa (.builtin "repr") (biD .repr) := by
  refine ⟨_, call_reprD gu hu, fun B H ds vs d Q al r e q => ?_⟩
  rcases ds with _ | ⟨d1, _ | ⟨_, _⟩⟩
  · cases e
  · obtain ⟨v, rfl, r1⟩ := r.inv1
    change (if reprOk d1 = true then some (D.str (reprD d1)) else none) = some d at e
    split at e
    · cases e
      rename_i hc
      unfold reprOk at hc
      simp only [Bool.and_eq_true, decide_eq_true_eq] at hc
      exact ⟨v, toPy d1, rfl, r1.dp 60 _ _ hc.1.1, shaped_of 60 (by decide) hc.1.1, hc.1.2, hc.2, q _ fun _ => rep_str⟩
    · cases e
  · cases e
end
end PD

namespace PD
open PySem PySem.Spec PyProof.Rows L2
section
variable {cf : Str → List D → PSt → Out D} {gt : Str → Option D} {exv : ExV} {pa ca : Addr} {W : WX} {n : Nat} {X : Cx} {fns : List Str}
variable {A B' C R : E} {x y z : Expr} {xs : List Expr} {pos : Pos}
theorem RepBs.inv1 {K : PySem.W.Frag} {B M : Ms} {H : Hp} {d : D} {vs : List V} (h : RepBs K pa B M H [d] vs) : ∃ v, vs = [v] ∧ RepB K pa B M H d v := by
  obtain ⟨v, r, rfl, h1, h2⟩ := h
  have h2 : r = [] := h2
  subst h2
  exact ⟨v, rfl, h1⟩
theorem s_builtin {b : Bi} {id : String} {nm : Str} {p0 : Pos} (ok : XOk cf gt fns exv pa ca W n X) {e : Expr} {es : List Expr} (hg : Gl X nm) (hm : X.mg nm = none) (hv : bootBuiltins nm = some (.builtin id)) (hn : nm ≠ "__name__") (hd : (nm == ("__debug__" : Str)) = false) (hs : notStar e = true) {sc : Scope} {R' : E} (hc : chkEs X.N fns sc R' es = true)
    (ho : rOf X pa (.builtin id) (biD b)) (h : PA X (e :: es) (tVs cf gt exv pa ca W X.K R)) (hf : freshE (.bi b R) = false) : PE X (.Call (.Name nm p0) (e :: es) [] pos) (tV cf gt exv pa ca W X.K (.bi b R)) := by
  obtain ⟨r, hr, k⟩ := ho
  refine (pe_callB hr hg hm hv h.used hn hd (star_of hs) (nostar hc)).imp fun σ H Q ⟨B, M, env, p, S, es, h⟩ => ?_
  unfold evalE at h
  rw [Holds.bind] at h
  refine ⟨B, M, env, p, S, h.imp (fun ds p1 h1 vs H1 x1 q1 r1 => ?_) fun _ _ _ z => z⟩
  obtain ⟨d, e, h2⟩ := h1.lift
  have S1 := S.ext x1 q1
  exact k B H1 ds vs d Q (fun a ha => S1.al a (S.sub a ha)) r1 e fun v rp => h2 v H1 x1 q1 (rp M) fun z => by rw [hf] at z; cases z
theorem s_tuple {nm : Str} {p0 : Pos} (hg : Gl X nm) (hm : X.mg nm = none) (hv : bootBuiltins nm = some (.type "tuple")) (hn : nm ≠ "__name__") (hd : (nm == ("__debug__" : Str)) = false) {e : Expr} (hs : notStar e = true)
    (h : PA X [e] (tBs cf gt exv pa ca W X.K R)) : PE X (.Call (.Name nm p0) [e] [] pos) (tV cf gt exv pa ca W X.K (.bi .tuple R)) := by
  refine (pe_callTy call_tuple_of hg hm hv h hn hd (star_of hs) rfl).imp fun σ H Q ⟨B, M, env, p, S, es, h⟩ => ?_
  unfold evalE at h
  rw [Holds.bind] at h
  refine ⟨B, M, env, p, S, es, h.imp (fun ds p1 h1 vs H1 x1 q1 r1 => ?_) fun _ _ _ z => z⟩
  obtain ⟨d, e, h2⟩ := h1.lift
  have S1 := S.ext x1 q1
  rcases ds with _ | ⟨d1, _ | ⟨_, _⟩⟩ <;> first | (cases e; done) | skip
  · obtain ⟨v, rfl, r2⟩ := r1.inv1
    cases d1 <;> first | (cases e; done) | skip
    · cases e
      obtain ⟨a, ws, rfl, g1, g2⟩ := r2.tup
      refine ⟨a, ws, rfl, .inr ⟨g1.sq, h2 _ H1 x1 q1 ?_ fun z => by cases z⟩⟩
      unfold Rep
      exact ⟨a, ws, rfl, g1, g2⟩
    · cases e
      obtain ⟨a, ws, rfl, _, g1, g2⟩ := r2
      exact ⟨a, ws, rfl, .inl ⟨.inl (.inl g1), fun l hl => h2 _ _ (x1.trans (.of_same (same_new hl))) (pool_ext q1 (same_new hl)) (new_tup S1.al hl g2) fun z => by cases z⟩⟩
  · cases d1 <;> cases e
/-- the keys of a dict as values -/
def KeysAre (H : Hp) (ks : List D) (ws : List V) : Prop := ws.length = ks.length ∧ ∀ (i : Nat) (d : D) (w : V), ks[i]? = some d → ws[i]? = some w → (∃ k, d = kD k ∧ w = kV k) ∨ ∃ (k : List L2.Key) (b : Addr), d = .tup (k.map kD) ∧ w = .ref b ∧ H b = some (.tup (k.map kV))
theorem reps_of {K : PySem.W.Frag} {M : Ms} {H : Hp} : ∀ {ds : List D} {vs : List V}, vs.length = ds.length → (∀ (i : Nat) (d : D) (v : V), ds[i]? = some d → vs[i]? = some v → Rep K pa M H d v) → Reps K pa M H ds vs
  | [], [], _, _ => .nil
  | [], _ :: _, h, _ => by simp at h
  | _ :: _, [], h, _ => by simp at h
  | d :: ds, v :: vs, h, k => .cons (k 0 d v rfl rfl) (reps_of (by simpa using h) fun i d v h1 h2 => k (i + 1) d v (by simpa using h1) (by simpa using h2))
theorem keysAre_reps {K : PySem.W.Frag} {M : Ms} {H : Hp} {ks : List D} {ws : List V} (nt : ∀ a vs, M a → H a ≠ some (.tup vs)) (h : KeysAre H ks ws) : Reps K pa M H ks ws := by
  refine reps_of h.1 fun i d w h1 h2 => ?_
  rcases h.2 i d w h1 h2 with ⟨k, rfl, rfl⟩ | ⟨k, b, rfl, rfl, hb⟩
  · exact kD_rep
  · unfold Rep
    exact ⟨b, _, rfl, ⟨fun z => nt b _ z hb, hb⟩, kD_reps⟩
theorem paired_get {α β : Type} {R : α → β → Prop} : ∀ {xs : List α} {ys : List β} {i : Nat} {x : α} {y : β}, Paired R xs ys → xs[i]? = some x → ys[i]? = some y → R x y
  | _, _, i, _, _, .nil, h, _ => by simp at h
  | _, _, 0, _, _, .cons h _, h1, h2 => by
    simp at h1 h2
    subst h1 h2
    exact h
  | _, _, i + 1, _, _, .cons _ t, h1, h2 => paired_get t (by simpa using h1) (by simpa using h2)
def rListDict : List V → Hp → VK → Prop := fun xs H Q => ∃ (p : Addr) (u : HO) (t : Bool) (ks : List D) (vs : List V), xs = [.ref p] ∧ Rd H p u ∧ DictO t ks vs u ∧ ∀ q ws, H q = none → KeysAre H ks ws → Q (.ref q) (upd H q (.lst ws))
theorem call_listDict (hc : X.calm = true) : CallR X (.type "list") rListDict := by
  intro pins s σ H xs us Q I r h
  obtain ⟨p, u, t, ks, vs, rfl, hp, ho, q⟩ := h
  cases u <;> first | exact ho.elim | skip
  · rename_i kvs
    obtain ⟨rfl, rfl, rfl, nd⟩ := ho
    obtain ⟨x, rfl, rx⟩ := vals1 r
    obtain rfl : x = Value.ref p := rx
    obtain ⟨z, lo, raw, rk, hd⟩ := (hp.ok I.hok : ObjOk X.prog X.w H s.heap p (.dK kvs))
    obtain ⟨ep, hat⟩ := hd.dictAt
    have hl : kvs.length = raw.length := Paired.length rk
    have kl : (kvs.map fun kv => kV kv.1).length = (kvs.map fun q => kD q.1).length := by simp
    refine PySem.W.kdl_call (PySem.W.kdl_dict (knd := mixKind X.prog X.w) (kvs := raw) (ep := ep) lo) (I.ok.hd hc) hat (by omega) fun h' tk out c' kp hS hout => ?_
    have vs_ok : Vals (kvs.map fun kv => kV kv.1) out.toList := by
      refine vals_of_at (by have q1 := hout.1; simp only [List.length_map, Array.length_toList]; omega) fun j x w h1 h2 => ?_
      obtain ⟨k, y, hky, hi⟩ := hout.2 j w (by rw [← Array.getElem?_toList]; exact h2)
      have ek := congrArg (fun l : List L2.Key => l[j]?) (KV.keys rk)
      simp only [List.getElem?_map, hky, Option.map_some] at ek h1
      cases hj : kvs[j]? with
      | none => rw [hj] at ek; cases ek
      | some kv =>
        rw [hj] at ek h1
        cases ek
        cases h1
        exact keyIs_rel hi
    refine ⟨.ref s.heap.objs.size, _, I.laid (t' := tk) (o := .lst (kvs.map fun kv => kV kv.1)) kp (Nat.le_refl _) ⟨by rw [List.length_map]; exact z, out.toList, c', vs_ok, by rw [Array.toArray_toList]; exact hS⟩, rfl, q _ _ (I.hok.fresh (Nat.le_refl _)) ⟨kl, fun i d w h1 h2 => .inl ?_⟩⟩
    rw [List.getElem?_map] at h1 h2
    cases hj : kvs[i]? with
    | none => rw [hj] at h1; cases h1
    | some kv =>
      rw [hj] at h1 h2
      cases h1; cases h2
      exact ⟨_, rfl, rfl⟩
  · rename_i kvs
    obtain ⟨rfl, rfl, rfl, nd⟩ := ho
    refine call_list_dT hc pins s σ H _ us Q I r ⟨p, kvs, rfl, hp, fun a bs ha hk => q a _ ha ⟨by rw [List.length_map, List.length_map]; exact (Paired.length hk).symm, fun i d w h1 h2 => .inr ?_⟩⟩
    rw [List.getElem?_map] at h1 h2
    cases hj : kvs[i]? with
    | none => rw [hj] at h1; cases h1
    | some kv =>
      cases hb : bs[i]? with
      | none => rw [hb] at h2; cases h2
      | some b =>
        rw [hj] at h1
        rw [hb] at h2
        cases h1; cases h2
        exact ⟨kv.1, b, rfl, rfl, paired_get (R := fun (p : List L2.Key × V) (b : Addr) => H b = some (.tup (p.1.map kV))) hk hj hb⟩
theorem s_list {nm : Str} {p0 : Pos} (hg : Gl X nm) (hm : X.mg nm = none) (hv : bootBuiltins nm = some (.type "list")) (hn : nm ≠ "__name__") (hd : (nm == ("__debug__" : Str)) = false) {e : Expr} (hs : notStar e = true)
    (calm : X.calm = true) (h : PA X [e] (tBs cf gt exv pa ca W X.K R)) : PE X (.Call (.Name nm p0) [e] [] pos) (tV cf gt exv pa ca W X.K (.bi .list R)) := by
  refine (pe_callTy (CallR.or call_list_of (call_listDict calm)) hg hm hv h hn hd (star_of hs) rfl).imp fun σ H Q ⟨B, M, env, p, S, es, h⟩ => ?_
  unfold evalE at h
  rw [Holds.bind] at h
  refine ⟨B, M, env, p, S, es, h.imp (fun ds p1 h1 vs H1 x1 q1 r1 => ?_) fun _ _ _ z => z⟩
  obtain ⟨d, e, h2⟩ := h1.lift
  have S1 := S.ext x1 q1
  rcases ds with _ | ⟨d1, _ | ⟨_, _⟩⟩ <;> first | (cases e; done) | skip
  · obtain ⟨v, rfl, r2⟩ := r1.inv1
    cases d1 <;> first | (cases e; done) | skip
    · cases e
      obtain ⟨a, ws, rfl, g1, g2⟩ := r2.tup
      refine .inl ⟨a, ws, rfl, .inr g1.sq, fun l hl => ?_⟩
      have nl := new_lst S1.al hl g2
      exact h2 _ _ (x1.trans (.of_same (same_new hl))) (pool_ext q1 (same_new hl)) nl.1 fun _ => newv_ext S x1 q1 nl.2
    · cases e
      obtain ⟨a, ws, rfl, _, g1, g2⟩ := r2
      refine .inl ⟨a, ws, rfl, .inl (.inl (.inl g1)), fun l hl => ?_⟩
      have nl := new_lst S1.al hl g2
      exact h2 _ _ (x1.trans (.of_same (same_new hl))) (pool_ext q1 (same_new hl)) nl.1 fun _ => newv_ext S x1 q1 nl.2
    · cases e
      obtain ⟨a, u, ws, rfl, _, g1, g2, g3⟩ := r2
      refine .inr ⟨a, u, _, _, ws, rfl, g1, g2, fun l ks hl hk => ?_⟩
      have nl := new_lst (K := X.K) (pa := pa) S1.al hl (keysAre_reps S1.nt hk)
      exact h2 _ _ (x1.trans (.of_same (same_new hl))) (pool_ext q1 (same_new hl)) nl.1 fun _ => newv_ext S x1 q1 nl.2
  · cases d1 <;> cases e
/-! ### sorted -/
section
variable {prog : Program} {w : World} {A : Around} {E0 : Value → Shared → Prop} {s0 : Shared}
/-- all items of a tuple in a new list -/
theorem collect_tup {l : Addr} {vs : List Value} {Q : List Value → Shared → Prop} (hl : s0.heap.IsTuple l vs.toArray) (hz : vs.length ≤ sizeLine)
    (h : Q vs { s0 with heap := (s0.heap.push (seqObj "list" #[] 0)).update s0.heap.objs.size (Obj.mapSeq (· ++ vs.toArray)) }) : wpAny (model prog w) A (collect (.ref l)) Q E0 s0 := by
  obtain ⟨o, ho, hc, n, hd⟩ := id hl
  unfold collect
  refine wpAny_bind (wpAny_runValue (codeAny_builtin PyProof.Rows.entry_proto_collect' (show wpAny _ _ (do again (.builtin "list.__iadd__" ⟨[← newList [], .ref l], []⟩)) _ _ s0 from
    wpAny_bind (wpAny_newList (wpAny_pure ⟨Code.quiet_builtin _ (by decide +kernel), codeAny_builtin PyProof.Rows.entry_list_iadd' ?_⟩)))))
  have at0 : (s0.heap.push (seqObj "list" #[] 0)).get? s0.heap.objs.size = some (seqObj "list" #[] 0) := Heap.get?_push_size _ rfl
  have at1 := Heap.get?_push_of_some (seqObj "list" #[] 0) ho
  show wpAny _ _ (Builtin.List.listExtendWith (.ref s0.heap.objs.size) (.ref l) (.ref s0.heap.objs.size)) _ _ { s0 with heap := s0.heap.push (seqObj "list" #[] 0) }
  unfold Builtin.List.listExtendWith
  refine wpAny_bind (wpAny_typeOf (T := "tuple") ⟨o, at1, hc⟩ ?_)
  have ht : (Value.type "tuple" == Value.type "tuple") = true := by rfl
  rw [if_pos (by rw [ht]; simp)]
  refine wpAny_bind (PyProof.Rows.listItems_at at1 hd (wpAny_bind (PyProof.Rows.listItems_at (xs := #[]) (n := 0) at0 rfl ?_)))
  rw [if_neg (by simp)]
  refine wpAny_bind (PyProof.Rows.listUpdate_at (xs := #[]) (n := 0) at0 rfl (wpAny_pure ?_) (Nat.zero_le _) (by show (#[] ++ vs.toArray).size ≤ sizeLine + 1; simp only [Array.size_append, List.size_toArray, List.length_nil]; omega))
  refine wpAny_bind (wpAny_load (PyProof.Rows.get?_update_seq at0 _) ?_)
  show wpAny _ _ (pure ((#[] : Array Value) ++ vs.toArray).toList) Q E0 _
  have e0 : ((#[] : Array Value) ++ vs.toArray).toList = vs := by simp
  rw [e0]
  exact wpAny_pure h
end
section
open PySem.W PySem.Calls
variable {prog : Program} {w : World} {A : Around} {E0 : Value → Shared → Prop} {s0 : Shared} {β : Type} {vs : List Value} {bs : List β} {enc : β → PyData} {R : Value → β → Prop}
/-- sorted of a tuple -/
theorem sorted_tup {l : Addr} {Q : Value → Shared → Prop} (hl : s0.heap.IsTuple l vs.toArray) (e : EachIs R vs bs) (er : EachIs (fun v b => ∃ as, Reads s0.heap v (enc b) as) vs bs) (hal : AllAlike (bs.map enc)) (hk : Sortable (bs.map enc)) (hL : bs.length ≤ sizeLine)
    (hu : ∀ b, b ∈ bs → A.units + 2 + (enc b).depth < cLine) (h : ∀ out, out.length = bs.length → EachIs R out (bs.mergeSort (dataLe false enc)) → Q (.ref (s0.heap.objs.size + 1)) { s0 with heap := sortedAll s0.heap vs (List.toArray out) }) :
    wpAny (model prog w) A (call (.builtin "sorted") [.ref l]) Q E0 s0 := by
  have hz : vs.length ≤ sizeLine := by rw [e.length]; exact hL
  have er2 : EachIs (fun v b => ∃ as, Reads (sortingHeap (copyHeap s0.heap vs) (s0.heap.objs.size + 1) vs) v (enc b) as) vs bs := er.mono fun _ _ ⟨as, r⟩ => ⟨as, PyProof.Rows.Reads.keeps (fun _ _ => sorting_copy_old) r⟩
  have S := SortsAt.data (prog := prog) (w := w) (A := A.in1.in1) (s := { s0 with heap := sortingHeap (copyHeap s0.heap vs) (s0.heap.objs.size + 1) vs }) (each_map (R := fun v d => ∃ as, Reads (sortingHeap (copyHeap s0.heap vs) (s0.heap.objs.size + 1) vs) v d as) enc er2) hal hk (bound_map hu)
  have fin := h _ (by rw [sortVals_length false rfl]; exact e.length) (sortVals_data false e er2 hal)
  refine call_function_entry_kw PyProof.Rows.kind_sorted PyProof.Rows.plain_sorted PyProof.Rows.entry_sorted (PyProof.Rows.args_sorted1 _) ?_
  unfold Builtin.«sorted»
  refine wpAny_bind (m := checkCount "sorted" 1 1 _) (wpAny_pure (wpAny_bind (collect_tup hl hz (wpAny_bind (wpAny_newList ?_ hz)))))
  have hsz : ((s0.heap.push (seqObj "list" #[] 0)).update s0.heap.objs.size (Obj.mapSeq (· ++ vs.toArray))).objs.size = s0.heap.objs.size + 1 := by rw [Heap.size_update, size_push']
  show wpAny _ _ _ _ _ { s0 with heap := copyHeap s0.heap vs }
  rw [hsz]
  refine wpAny_bind (wpAny_holding (wpAny_call_entry_kw PyProof.Rows.slot_list_sort ⟨_, copyHeap_at s0.heap vs, rfl⟩ PyProof.Rows.entry_list_sort ?body (PyProof.Rows.args_list_sort _)))
  exact list_sort_vals (s := { s0 with heap := copyHeap s0.heap vs }) (copyHeap_at s0.heap vs) S hz ⟨_, rfl, wpAny_pure ⟨_, rfl, fin⟩⟩
end
theorem leD_dataLe : PySem.W.dataLe false toPy = leD := by rw [PySem.W.dataLe_eq]; rfl
theorem leD_dataGe : PySem.W.dataLe true toPy = fun a b => leD b a := by rw [PySem.W.dataLe_eq]; rfl
theorem each_reps {K : PySem.W.Frag} {M : Ms} {H : Hp} : ∀ {ds : List D} {ws : List V} {its : List Value}, Reps K pa M H ds ws → Vals ws its → PySem.W.EachIs (fun v d => ∃ x, RelV x v ∧ Rep K pa M H d x) its ds
  | [], ws, its, r, h => by
    unfold Reps at r
    subst r
    cases h
    exact .nil
  | d :: ds, ws, its, r, h => by
    unfold Reps at r
    obtain ⟨v, t, rfl, r1, r2⟩ := r
    cases h with
    | cons h1 h2 => exact .cons ⟨v, h1, r1⟩ (each_reps r2 h2)
theorem reps_each {K : PySem.W.Frag} {M : Ms} {H : Hp} : ∀ {ds : List D} {its : List Value}, PySem.W.EachIs (fun v d => ∃ x, RelV x v ∧ Rep K pa M H d x) its ds → ∃ ws, Reps K pa M H ds ws ∧ Vals ws its
  | _, _, .nil => ⟨[], .nil, .nil⟩
  | _, _, .cons ⟨x, h1, h2⟩ t => by
    obtain ⟨ws, g1, g2⟩ := reps_each t
    exact ⟨x :: ws, .cons h2 g1, .cons h1 g2⟩
theorem each_at {α : Type} {R : Value → α → Prop} : ∀ {its : List Value} {ds : List α} {i : Nat} {v : Value} {d : α}, PySem.W.EachIs R its ds → its.toArray[i]? = some v → ds[i]? = some d → R v d
  | _, _, _, _, _, .nil, _, h => by cases h
  | _, _, 0, _, _, .cons h1 _, hv, hd => by
    simp at hv hd
    rw [← hv, ← hd]
    exact h1
  | _, _, i + 1, _, _, .cons _ t, hv, hd => each_at t (by simpa using hv) (by simpa using hd)
theorem sortOk_parts {ds : List D} (h : sortOk ds = true) : (∀ d ∈ ds, D.fits 60 d = true) ∧ ds.length ≤ sizeLine ∧ PySem.W.AllAlike (ds.map toPy) ∧ PySem.W.Sortable (ds.map toPy) := by
  unfold sortOk at h
  simp only [Bool.and_eq_true, Bool.or_eq_true, decide_eq_true_eq] at h
  obtain ⟨⟨⟨h1, h2⟩, h3⟩, h4⟩ := h
  refine ⟨fitsL_mem h1, h2, ?_, ?_⟩
  · intro d hd d' hd'
    obtain ⟨x, hx, rfl⟩ := List.mem_map.mp hd
    obtain ⟨y, hy, rfl⟩ := List.mem_map.mp hd'
    exact List.all_eq_true.mp (List.all_eq_true.mp h3 x hx) y hy
  · rcases h4 with h4 | h4
    · refine .inl fun d hd => ?_
      obtain ⟨x, hx, rfl⟩ := List.mem_map.mp hd
      have q := List.all_eq_true.mp h4 x hx
      cases x <;> first | (cases q; done) | skip
      rename_i xs
      cases xs with
      | nil => cases q
      | cons y ys => exact ⟨toPy y, toPys ys, by simp [toPy, toPys]⟩
    · refine .inr fun d hd => ?_
      obtain ⟨x, hx, rfl⟩ := List.mem_map.mp hd
      have q := List.all_eq_true.mp h4 x hx
      cases x <;> first | (cases q; done) | exact ⟨by simp [toPy], by simp [toPy]⟩
def rSortD (K : PySem.W.Frag) (pa : Addr) : List V → Hp → VK → Prop := fun vs H Q => ∃ (a : Addr) (ws : List V) (ds : List D) (M : Ms), vs = [.ref a] ∧ (SqL K H a ws ∨ SqT K H a ws) ∧ Reps K pa M H ds ws ∧ sortOk ds = true ∧
  ∀ p ys, H p = none → Reps K pa M H (ds.mergeSort leD) ys → Q (.ref p) (upd H p (.lst ys))
theorem call_sortD (hu : X.A.units + 65 < cLine) : CallR X (.builtin "sorted") (rSortD X.K pa) := by
  intro pins s σ H vs us Q I r h
  obtain ⟨a, ws, ds, M, rfl, hs, rp, ok, q⟩ := h
  obtain ⟨u, rfl, ru⟩ := vals1 r
  obtain rfl : u = Value.ref a := ru
  obtain ⟨f1, f2, f3, f4⟩ := sortOk_parts ok
  have units : ∀ d, d ∈ ds → X.A.units + 2 + (toPy d).depth < cLine := fun d hd => by
    have := (fits_lay 60 d (f1 d hd)).2
    omega
  have reads : ∀ its, Vals ws its → PySem.W.EachIs (fun v b => ∃ as, Reads s.heap v (toPy b) as) its ds := fun its hv => by
    have key : ∀ {ds : List D} {its : List Value}, (∀ d ∈ ds, D.fits 60 d = true) → PySem.W.EachIs (fun v d => ∃ x, RelV x v ∧ Rep X.K pa M H d x) its ds → PySem.W.EachIs (fun v b => ∃ as, Reads s.heap v (toPy b) as) its ds := by
      intro ds its hf e
      induction e with
      | nil => exact .nil
      | cons h1 _ ih =>
        obtain ⟨x, g1, g2⟩ := h1
        exact .cons (Dp.reads I _ x _ (g2.dp 60 _ _ (hf _ (by simp))) g1) (ih fun d hd => hf d (by simp [hd]))
    exact key f1 (each_reps rp hv)
  have fin : ∀ its : List Value, Vals ws its → ∀ out : List Value, out.length = ds.length → PySem.W.EachIs (fun v d => ∃ x, RelV x v ∧ Rep X.K pa M H d x) out (ds.mergeSort (PySem.W.dataLe false toPy)) →
      EP X pins σ Q (.ref (s.heap.objs.size + 1)) { s with heap := sortedAll s.heap its (List.toArray out) } := fun its hv out hl ho => by
    rw [leD_dataLe] at ho
    obtain ⟨ys, g1, g2⟩ := reps_each ho
    obtain ⟨ep, he⟩ := PyProof.Rows.sortedAll_at s.heap its out.toArray
    have hys : ys.length ≤ sizeLine := by rw [g1.length, List.length_mergeSort]; exact f2
    exact ⟨.ref _, upd H (s.heap.objs.size + 1) (.lst ys), I.laid (t' := s.toks) (fun _ _ => PyProof.Rows.sortedAll_old) (Nat.le_succ _) ⟨hys, out, ep, g2, he⟩, rfl, q _ ys (I.hok.fresh (Nat.le_succ _)) g1⟩
  rcases hs with hs | hs
  · obtain ⟨its, rv, hl, hz⟩ := I.list hs
    exact PySem.W.sorted_data hl.isList (each_reps rp rv) (reads its rv) f3 f4 f2 units (fin its rv)
  · obtain ⟨its, rv, hl, hz⟩ := I.tuple hs
    obtain ⟨o, h1, h2, n, h3⟩ := hl
    exact sorted_tup ⟨o, h1, h2, n, h3⟩ (each_reps rp rv) (reads its rv) f3 f4 f2 units (fin its rv)
theorem boot_sorted' : bootBuiltins "sorted" = some (.builtin "sorted") := by decide +kernel
theorem s_sorted {nm : Str} {p0 : Pos} (ok : XOk cf gt fns exv pa ca W n X) (hg : Gl X nm) (hm : X.mg nm = none) (hv : bootBuiltins nm = some (.builtin "sorted")) (hn : nm ≠ "__name__") (hd : (nm == ("__debug__" : Str)) = false) {e : Expr} (hs : notStar e = true)
    (h : PA X [e] (tBs cf gt exv pa ca W X.K R)) : PE X (.Call (.Name nm p0) [e] [] pos) (tV cf gt exv pa ca W X.K (.bi .sorted R)) := by
  refine (pe_callB (call_sortD (pa := pa) (units_of ok)) hg hm hv h hn hd (star_of hs) rfl).imp fun σ H Q ⟨B, M, env, p, S, es, h⟩ => ?_
  unfold evalE at h
  rw [Holds.bind] at h
  refine ⟨B, M, env, p, S, es, h.imp (fun ds p1 h1 vs H1 x1 q1 r1 => ?_) fun _ _ _ z => z⟩
  obtain ⟨d, e, h2⟩ := h1.lift
  have S1 := S.ext x1 q1
  rcases ds with _ | ⟨d1, _ | ⟨_, _⟩⟩ <;> first | (cases e; done) | skip
  · obtain ⟨v, rfl, r2⟩ := r1.inv1
    have e : sortD d1 = some d := e
    cases d1 <;> first | (cases e; done) | skip
    · rename_i xs _
      change (if sortOk xs = true then some (D.lst (xs.mergeSort leD)) else none) = some d at e
      split at e <;> first | (cases e; done) | skip
      rename_i so
      cases e
      obtain ⟨a, ws, rfl, g1, g2⟩ := r2.tup
      refine ⟨a, ws, xs, M, rfl, .inr g1.sq, g2, so, fun l ys hl hr => ?_⟩
      have nl := new_lst (K := X.K) (pa := pa) S1.al hl hr
      exact h2 _ _ (x1.trans (.of_same (same_new hl))) (pool_ext q1 (same_new hl)) nl.1 fun _ => newv_ext S x1 q1 nl.2
    · rename_i xs _
      change (if sortOk xs = true then some (D.lst (xs.mergeSort leD)) else none) = some d at e
      split at e <;> first | (cases e; done) | skip
      rename_i so
      cases e
      obtain ⟨a, ws, rfl, _, g1, g2⟩ := r2
      refine ⟨a, ws, xs, M, rfl, .inl (.inl (.inl g1)), g2, so, fun l ys hl hr => ?_⟩
      have nl := new_lst (K := X.K) (pa := pa) S1.al hl hr
      exact h2 _ _ (x1.trans (.of_same (same_new hl))) (pool_ext q1 (same_new hl)) nl.1 fun _ => newv_ext S x1 q1 nl.2
mutual
/-- what holds nothing that changes is seen from anywhere -/
theorem Rep.nt {K : PySem.W.Frag} {H : Hp} {M1 M2 : Ms} (h : ∀ a vs, M2 a → H a ≠ some (.tup vs)) : ∀ {d : D} {v : V}, D.clean d = true → Rep K pa M1 H d v → Rep K pa M2 H d v
  | .non, _, _, r => by unfold Rep at *; exact r
  | .bl b, _, _, r => by unfold Rep at *; exact r
  | .int i, _, _, r => by unfold Rep at *; exact r
  | .str _, _, _, r => by unfold Rep at *; exact r
  | .tup ds, _, c, r => by
    unfold D.clean at c
    unfold Rep at *
    obtain ⟨a, vs, e, h1, h2⟩ := r
    exact ⟨a, vs, e, ⟨fun z => h a vs z h1.2, h1.2⟩, Reps.nt h c h2⟩
  | .lst _, _, c, _ => by cases c
  | .dict _ _ _, _, c, _ => by cases c
  | .ctup _, _, _, r => by unfold Rep at *; exact r
  | .pool, _, c, _ => by cases c
theorem Reps.nt {K : PySem.W.Frag} {H : Hp} {M1 M2 : Ms} (h : ∀ a vs, M2 a → H a ≠ some (.tup vs)) : ∀ {ds : List D} {vs : List V}, D.cleanL ds = true → Reps K pa M1 H ds vs → Reps K pa M2 H ds vs
  | [], _, _, r => by unfold Reps at *; exact r
  | d :: ds, _, c, r => by
    unfold D.cleanL at c
    rw [Bool.and_eq_true] at c
    unfold Reps at *
    obtain ⟨v, r', e, h1, h2⟩ := r
    exact ⟨v, r', e, Rep.nt h c.1 h1, Reps.nt h c.2 h2⟩
end
/-- the least of alike data: the item itself -/
def rMinD (K : PySem.W.Frag) (pa : Addr) : List V → Hp → VK → Prop := fun vs H Q => ∃ (a : Addr) (ws : List V) (x : D) (ds : List D) (M : Ms), vs = [.ref a] ∧ SqL K H a ws ∧ Reps K pa M H (x :: ds) ws ∧ sortOk (x :: ds) = true ∧
  ∀ v, Rep K pa M H (minT x ds) v → Q v H
theorem call_minD (hc : X.calm = true) (hu : X.A.units + 65 < cLine) : CallR X (.builtin "min") (rMinD X.K pa) := by
  intro pins s σ H vs us Q I r h
  obtain ⟨a, ws, x, ds, M, rfl, hs, rp, ok, q⟩ := h
  rw [Vals.ref1 r]
  obtain ⟨f1, f2, f3, f4⟩ := sortOk_parts ok
  obtain ⟨its, rv, hl, hz⟩ := I.list hs
  have er := each_reps rp rv
  have nn : ∀ d ∈ (x :: ds).map toPy, d ≠ .none := fun d hd => by
    rcases f4 with f4 | f4
    · obtain ⟨y, r, rfl⟩ := f4 d hd
      intro z; cases z
    · exact (f4 d hd).1
  have reads : PySem.W.EachIs (fun v b => ∃ as, Reads s.heap v (toPy b) as) its (x :: ds) := by
    have key : ∀ {ds : List D} {its : List Value}, (∀ d ∈ ds, D.fits 60 d = true) → PySem.W.EachIs (fun v d => ∃ x, RelV x v ∧ Rep X.K pa M H d x) its ds → PySem.W.EachIs (fun v b => ∃ as, Reads s.heap v (toPy b) as) its ds := by
      intro ds its hf e
      induction e with
      | nil => exact .nil
      | cons h1 _ ih =>
        obtain ⟨x, g1, g2⟩ := h1
        exact .cons (Dp.reads I _ x _ (g2.dp 60 _ _ (hf _ (by simp))) g1) (ih fun d hd => hf d (by simp [hd]))
    exact key f1 er
  obtain ⟨as, hr⟩ := PySem.W.each_readsAll toPy reads
  have hn : its.toArray.size = ds.length + 1 := by
    have := PySem.W.readsAll_len (vs := its.toArray) (xs := (x :: ds).map toPy) hr
    simpa using this
  have dep : PyData.depthAll ((x :: ds).map toPy) ≤ 61 := by
    have key : ∀ l : List D, (∀ d ∈ l, D.fits 60 d = true) → PyData.depthAll (l.map toPy) ≤ 61 := fun l => by
      induction l with
      | nil => intro _; simp [PyData.depthAll]
      | cons d l ih =>
        intro h
        have h1 := ih fun d hd => h d (by simp [hd])
        have h2 := (fits_lay 60 d (h d (by simp))).2
        simp only [List.map_cons, PyData.depthAll]
        omega
    exact key _ f1
  refine PySem.call_min_walkH (PySem.W.iter_listW (A := X.A.in1) (I.ok.hd hc) hl.isList fun s₂ e W st hfp hw hk => ?_)
  refine ⟨_, _, _, _, _, _, _, s.heap, _, rfl, W, st, hfp, by omega, hw, hk, PySem.W.cmpIn_lt (A := X.A.in1) hr ⟨f3, nn⟩ (by show X.A.units + 1 + _ < _; omega), fun v s' hP m => ?_⟩
  obtain ⟨h', tk, rfl, hk'⟩ := PySem.W.moved_old e rfl m
  have e1 : its.toArray.size - 1 = ds.length := by omega
  have bt : (fun i j : Nat => PySem.W.dataLt (((x :: ds).map toPy).getD i .none) (((x :: ds).map toPy).getD j .none)) = fun i j => (fun a b => PySem.W.dataLt (toPy a) (toPy b)) ((x :: ds).getD i .non) ((x :: ds).getD j .non) := by
    have g : ∀ i, ((x :: ds).map toPy).getD i .none = toPy ((x :: ds).getD i .non) := fun i => by
      rw [List.getD_eq_getElem?_getD, List.getD_eq_getElem?_getD, List.getElem?_map]
      cases (x :: ds)[i]? with
      | none => simp [toPy]
      | some d => rfl
    funext i j
    rw [g, g]
  rw [e1, bt] at hP
  have e2 := PySem.W.argBest_fold (fun a b => PySem.W.dataLt (toPy a) (toPy b)) D.non x ds ds.length (Nat.le_refl _)
  rw [List.take_length] at e2
  obtain ⟨l1, e2⟩ := e2
  generalize argBest (fun i j => (fun a b => PySem.W.dataLt (toPy a) (toPy b)) ((x :: ds).getD i .non) ((x :: ds).getD j .non)) ds.length = i at *
  have hi : i < (x :: ds).length := by simp; omega
  obtain ⟨w, r1, r2⟩ := each_at er hP (List.getElem?_eq_getElem hi)
  refine ⟨w, H, I.kept hk', r1, q w ?_⟩
  have : (x :: ds)[i] = minT x ds := by
    have e3 : (x :: ds).getD i .non = (x :: ds)[i] := by rw [List.getD_eq_getElem?_getD, List.getElem?_eq_getElem hi]; rfl
    rw [← e3]
    exact e2
  rw [← this]
  exact r2
theorem s_min1 {nm : Str} {p0 : Pos} (ok : XOk cf gt fns exv pa ca W n X) (hg : Gl X nm) (hm : X.mg nm = none) (hv : bootBuiltins nm = some (.builtin "min")) (hn : nm ≠ "__name__") (hd : (nm == ("__debug__" : Str)) = false) {e : Expr} (hs : notStar e = true)
    (h : PA X [e] (tVs cf gt exv pa ca W X.K R)) : PE X (.Call (.Name nm p0) [e] [] pos) (tV cf gt exv pa ca W X.K (.bi .min1 R)) := by
  refine (pe_callB ((cr_min ok.calm).or (call_minD (pa := pa) ok.calm (units_of ok))) hg hm hv h.used hn hd (star_of hs) rfl).imp fun σ H Q ⟨B, M, env, p, S, es, h⟩ => ?_
  unfold evalE at h
  rw [Holds.bind] at h
  refine ⟨B, M, env, p, S, h.imp (fun ds p1 h1 vs H1 x1 q1 r1 => ?_) fun _ _ _ z => z⟩
  obtain ⟨d, e, h2⟩ := h1.lift
  have S1 := S.ext x1 q1
  rcases ds with _ | ⟨d1, _ | ⟨_, _⟩⟩ <;> first | (cases e; done) | skip
  · obtain ⟨v, rfl, r2⟩ := r1.inv1
    cases d1 <;> first | (cases e; done) | skip
    rename_i xs
    have e : min1D xs = some d := e
    obtain ⟨a, ws, rfl, g1, g2⟩ := r2.lst
    unfold min1D at e
    cases e2 : intsD xs with
    | some ns =>
      rw [e2] at e
      dsimp only at e
      cases e3 : minI ns with
      | none => simp [e3] at e
      | some m =>
        simp [e3] at e
        subst e
        rw [intsD_map e2] at g2
        rw [reps_ints g2] at g1
        exact .inl ⟨a, ns, rfl, .inl (.inl g1.2), minI_ne e3, fun m' h1 h3 => by rw [← minI_is e3 h1 h3]; exact h2 _ H1 x1 q1 rep_int fun z => by cases z⟩
    | none =>
      rw [e2] at e
      dsimp only at e
      unfold minTD at e
      cases xs with
      | nil => cases e
      | cons x r =>
        dsimp only at e
        split at e <;> first | (cases e; done) | skip
        rename_i so
        rw [Bool.and_eq_true] at so
        cases e
        exact .inr ⟨a, ws, x, r, B, rfl, .inl (.inl g1.2), g2, so.1, fun v rv => h2 v H1 x1 q1 (Rep.nt S1.nt so.2 rv) fun z => by cases z⟩
  · cases d1 <;> cases e
theorem boot_int' : bootBuiltins "int" = some (.type "int") := by decide +kernel
theorem s_int1 {p0 : Pos} (hg : Gl X "int") (hm : X.mg "int" = none) (hn : ("int" : Str) ≠ "__name__") (hd : (("int" : Str) == ("__debug__" : Str)) = false) {e : Expr} (hs : notStar e = true)
    (h : PA X [e] (tVs cf gt exv pa ca W X.K R)) : PE X (.Call (.Name "int" p0) [e] [] pos) (tV cf gt exv pa ca W X.K (.bi .int R)) := by
  refine (pe_callTy call_int1 hg hm boot_int' h.used hn hd (star_of hs) rfl).imp fun σ H Q ⟨B, M, env, p, S, es, h⟩ => ?_
  unfold evalE at h
  rw [Holds.bind] at h
  refine ⟨B, M, env, p, S, h.imp (fun ds p1 h1 vs H1 x1 q1 r1 => ?_) fun _ _ _ z => z⟩
  obtain ⟨d, e, h2⟩ := h1.lift
  rcases ds with _ | ⟨d1, _ | ⟨_, _⟩⟩ <;> first | (cases e; done) | skip
  · obtain ⟨v, rfl, r2⟩ := r1.inv1
    cases d1 <;> first | (cases e; done) | skip
    · cases e
      cases r2.bl
      exact .inr ⟨_, rfl, h2 _ H1 x1 q1 rep_int fun z => by cases z⟩
    · cases e
      cases r2.int
      exact .inl ⟨_, rfl, h2 _ H1 x1 q1 rep_int fun z => by cases z⟩
  · cases d1 <;> cases e
theorem pool_of {i : Nat} {B M : Ms} {σ : L2.St} {H : Hp} {env : SEnv} {p : PSt} (S : SOk X.K pa ca B M σ H env p) (h : isPool (view env) i = true) : σ[i]? = some (some (.ref pa)) := by
  unfold isPool at h
  split at h <;> first | (cases h; done) | skip
  rename_i e
  rcases view_some e with e | e
  · obtain ⟨v, h1, h2⟩ := S.sl i _ e
    unfold Rep at h2
    rw [← h2]
    exact h1
  · obtain ⟨a, vs, ds, u, z, _⟩ := S.sl i _ e
    rcases z with ⟨z, _⟩ | ⟨_, _, z, _⟩ <;> cases z
theorem s_pfld {i k : Nat} {e : Expr} {j p1} {p2 : Pos} (he : PE X e (tVar i)) : PE X (.Subscript e (.Constant (.int (k : Int)) j p1) p2) (tV cf gt exv pa ca W X.K (.pfld i k)) := by
  refine (pe_ix ix_list he pe_int (fun _ _ => rfl)).imp fun σ H Q ⟨B, M, env, p, S, _, h⟩ => ?_
  unfold evalE at h
  split at h <;> first | exact h.elim | skip
  rename_i hp
  obtain ⟨d, e, h2⟩ := h.lift
  cases e3 : fldP p k with
  | none => rw [e3] at e; cases e
  | some m =>
    rw [e3] at e
    cases e
    have at_ : atI [V.ref ca, .int p.idx, .int p.cur, .int p.cnt, .int p.salt] (k : Int) = some (.int m) := by
      refine atI_nat ?_
      unfold fldP at e3
      split at e3 <;> first | (cases e3; done) | (cases e3; rfl)
    exact ⟨.ref pa, pool_of S hp, pa, _, k, _, rfl, rfl, .inl (.inl S.pool.hp), at_, h2 _ H .refl S.pool rep_int fun z => by cases z⟩
theorem s_plen {i : Nat} {e : Expr} {j p1} {p0 p2 p3 : Pos} (hg : Gl X "len") (hm : X.mg "len" = none) (he : PE X e (tVar i)) : PE X (.Call (.Name "len" p0) [.Subscript e (.Constant (.int 0) j p1) p2] [] p3) (tV cf gt exv pa ca W X.K (.plen i)) := by
  refine (pe_callB call_len_seq hg hm PySem.boot_len (pa_cons (pe_ix ix_list he pe_int (fun _ _ => rfl)) pa_nil rfl) (by decide) (by decide) rfl rfl).imp fun σ H Q ⟨B, M, env, p, S, _, h⟩ => ?_
  unfold evalE at h
  split at h <;> first | exact h.elim | skip
  rename_i hp
  exact ⟨.ref pa, pool_of S hp, pa, _, 0, .ref ca, rfl, rfl, .inl (.inl S.pool.hp), rfl, ca, _, rfl, .inl (.inl (.inl S.pool.hc)), h _ H .refl S.pool (by rw [List.length_map]; exact rep_int) fun z => by cases z⟩
theorem s_pcell {i : Nat} {e e2 : Expr} {j p1 j2 p4} {p2 p3 p5 : Pos} (he : PE X e (tVar i)) (he2 : PE X e2 (tVar i)) : PE X (.Subscript (.Subscript e (.Constant (.int 0) j p1) p2) (.Subscript e2 (.Constant (.int 1) j2 p4) p5) p3) (tV cf gt exv pa ca W X.K (.pcell i)) := by
  refine (pe_ix ix_list (pe_ix ix_list he pe_int (fun _ _ => rfl)) (pe_ix ix_list he2 pe_int (fun _ _ => rfl)) (fun _ _ => rfl)).imp fun σ H Q ⟨B, M, env, p, S, _, h⟩ => ?_
  unfold evalE at h
  split at h <;> first | exact h.elim | skip
  rename_i hp
  obtain ⟨d, e, h2⟩ := h.lift
  cases e3 : p.cells[p.idx]? with
  | none => rw [e3] at e; cases e
  | some m =>
    rw [e3] at e
    cases e
    refine ⟨.ref pa, pool_of S hp, pa, _, 0, .ref ca, rfl, rfl, .inl (.inl S.pool.hp), rfl, .ref pa, pool_of S hp, pa, _, 1, .int p.idx, rfl, rfl, .inl (.inl S.pool.hp), rfl, ca, _, _, .int m, rfl, rfl, .inl (.inl S.pool.hc), atI_nat ?_, h2 _ H .refl S.pool rep_int fun z => by cases z⟩
    rw [List.getElem?_map, e3]
    rfl
theorem s_bi {b : Bi} {g : Expr} {sc : Scope} (ok : XOk cf gt fns exv pa ca W n X) (hsc : X.env.scope = sc) (hn : nmB sc (biName b) g = true) (hl : xs.length = biArity b) (hc : chkEs X.N fns sc R xs = true)
    (h : PA X xs (tVs cf gt exv pa ca W X.K R)) (hb : PA X xs (tBs cf gt exv pa ca W X.K R)) : PE X (.Call g xs [] pos) (tV cf gt exv pa ca W X.K (.bi b R)) := by
  obtain ⟨p0, rfl, hg, hd, h0⟩ := gl_of hsc hn
  have ex : ∃ e es, xs = e :: es := by
    cases xs with
    | nil => cases b <;> simp [biArity] at hl
    | cons e es => exact ⟨e, es, rfl⟩
  obtain ⟨e, es, rfl⟩ := ex
  unfold chkEs at hc
  cases R <;> first | (cases hc; done) | skip
  simp only [Bool.and_eq_true] at hc
  obtain ⟨⟨_, hs⟩, hc2⟩ := hc
  have one : biArity b = 1 → es = [] := fun z => by
    rw [z] at hl
    cases es with
    | nil => rfl
    | cons _ _ => simp at hl
  cases b
  · exact s_builtin ok hg ok.len PySem.boot_len h0 hd hs hc2 ro_len h rfl
  · exact s_builtin ok hg ok.sum boot_sum h0 hd hs hc2 (ro_sum ok.calm) h rfl
  · exact s_builtin ok hg ok.max boot_max h0 hd hs hc2 (ro_max1 ok.calm) h rfl
  · cases one rfl
    exact s_min1 ok hg ok.min boot_min h0 hd hs h
  · exact s_builtin ok hg ok.max boot_max h0 hd hs hc2 (ro_max2 ok.calm) h rfl
  · exact s_builtin ok hg ok.min boot_min h0 hd hs hc2 (ro_min2 ok.calm) h rfl
  · exact s_builtin ok hg ok.abs boot_abs h0 hd hs hc2 ro_abs h rfl
  · cases one rfl
    exact s_tuple hg ok.tuple PyProof.Rows.boot_tuple h0 hd hs hb
  · cases one rfl
    exact s_list hg ok.list PyProof.Rows.boot_list h0 hd hs ok.calm hb
  · exact s_builtin ok hg ok.all boot_all h0 hd hs hc2 (ro_all ok.calm) h rfl
  · exact s_builtin ok hg ok.any boot_any h0 hd hs hc2 (ro_any ok.calm) h rfl
  · cases one rfl
    exact s_int1 hg ok.int h0 hd hs h
  · exact s_builtin ok hg ok.repr boot_repr h0 hd hs hc2 (ro_repr ok.gu (by have := ok.room.un; omega)) h rfl
  · cases one rfl
    exact s_sorted ok hg ok.sorted boot_sorted' h0 hd hs hb
theorem boot_ty (t : Ty) : bootBuiltins (Str.ofString (tyName t)) = some (.type (tyName t)) := by
  cases t <;> decide +kernel
theorem kit_isD {K : PySem.W.Frag} {t : Ty} {d : D} {b : Bool} (h : isD t d = some b) {M : Ms} {H : Hp} {v : V} (r : Rep K pa M H d v) : ∃ ty, TyX K H v ty ∧ PySem.W.kitOne K ty (.type (tyName t)) = some b := by
  cases d with
  | non =>
    unfold Rep at r; subst r
    refine ⟨_, .base .non, kit_ty ?_⟩
    cases t <;> (cases h; decide +kernel)
  | bl c =>
    cases r.bl
    refine ⟨_, .base (.bl c), kit_ty ?_⟩
    cases t <;> (cases h; decide +kernel)
  | int i =>
    cases r.int
    refine ⟨_, .base (.int i), kit_ty ?_⟩
    cases t <;> (cases h; decide +kernel)
  | str s =>
    cases r.str
    refine ⟨_, .base (.str s), kit_ty ?_⟩
    cases t <;> (cases h; decide +kernel)
  | tup ds =>
    obtain ⟨a, vs, rfl, g, _⟩ := r.tup
    have ty : TyX K H (.ref a) (.type "tuple") := by
      exact .base (.tup g.2)
    refine ⟨_, ty, kit_ty ?_⟩
    cases t <;> (cases h; decide +kernel)
  | lst ds =>
    obtain ⟨a, vs, rfl, g, _⟩ := r.lst
    refine ⟨_, .base (.lst g.2), kit_ty ?_⟩
    cases t <;> (cases h; decide +kernel)
  | dict _ _ _ => cases t <;> cases h
  | ctup _ => cases t <;> cases h
  | pool => cases t <;> cases h
theorem ty_none (ok : XOk cf gt fns exv pa ca W n X) (t : Ty) : X.mg (Str.ofString (tyName t)) = none := by
  cases t
  · exact ok.int
  · exact ok.bool
  · exact ok.str
  · exact ok.tuple
  · exact ok.list
  · exact ok.dict
theorem s_isi {g : Expr} {t : Ty} {sc : Scope} (ok : XOk cf gt fns exv pa ca W n X) (hsc : X.env.scope = sc) (hn : nmB sc "isinstance" g = true) (ht : nmB sc (Str.ofString (tyName t)) y = true) (hs : notStar x = true) (ha : PE X x (tC cf gt exv pa ca W X.K A)) :
    PE X (.Call g [x, y] [] pos) (tV cf gt exv pa ca W X.K (.isi A t)) := by
  obtain ⟨p0, rfl, hg, hd, h0⟩ := gl_of hsc hn
  obtain ⟨p1, rfl, hg1, hd1, h01⟩ := gl_of hsc ht
  have py : PE X (.Name (Str.ofString (tyName t)) p1) (L2.tC (.ty (tyName t))) := pe_bltn hg1 (ty_none ok t) (boot_ty t) rfl h01 hd1
  refine (pe_callB call_isi hg ok.isinstance boot_isinstance (pa_cons ha (pa_cons py pa_nil) (star_of hs)) h0 hd (star_of hs) rfl).imp fun σ H Q ⟨B, M, env, p, S, es, h⟩ => ?_
  unfold evalE at h
  rw [Holds.bind] at h
  refine ⟨B, M, env, p, S, h.imp (fun d1 p1 h1 v1 H1 x1 q1 r1 => ?_) fun _ _ _ z => z⟩
  obtain ⟨d, e, h2⟩ := h1.lift
  cases e2 : isD t d1 with
  | none => rw [e2] at e; cases e
  | some b =>
    rw [e2] at e
    cases e
    obtain ⟨ty, g1, g2⟩ := kit_isD e2 r1
    exact ⟨v1, .ty (tyName t), ty, .type (tyName t), b, rfl, .ty _, g1, g2, h2 _ H1 x1 q1 rep_bl fun z => by cases z⟩
end
end PD

namespace PD
open PySem PySem.Spec PyProof.Rows L2
section
variable {cf : Str → List D → PSt → Out D} {gt : Str → Option D} {exv : ExV} {pa ca : Addr} {W : WX} {n : Nat} {X : Cx} {fns : List Str}
variable {A B' C R : E} {x y z : Expr} {xs : List Expr} {pos : Pos}

/-! ### binding -/
theorem SOk.set {K : PySem.W.Frag} {B M : Ms} {σ : L2.St} {H : Hp} {env : SEnv} {p : PSt} {d : D} {v : V} (S : SOk K pa ca B M σ H env p) (i : Nat) (r : Rep K pa M H d v) : SOk K pa ca B M (σ.set i (some v)) H (env.set i (.val d)) p := by
  have old : ∀ {j : Nat} {s : Sl}, j ≠ i → (env.set i (.val d))[j]? = some s → env[j]? = some s := fun {j s} h e => by rwa [List.getElem?_set_ne (Ne.symm h)] at e
  have own : ∀ {j : Nat} {d' : D}, (env.set i (.val d))[j]? = some (.own d') → j ≠ i := fun {j d'} e z => by
    subst z
    by_cases h : j < env.length
    · rw [List.getElem?_set_self h] at e; cases e
    · rw [List.getElem?_eq_none (by simpa using h)] at e; cases e
  refine ⟨S.pool, S.bp, S.bc, S.sub, S.al, S.nt, fun j s e => ?_, fun j l d' d'' a e1 e2 h1 h2 => ?_, by simp [S.len]⟩
  · by_cases hj : j = i
    · subst hj
      by_cases h : j < env.length
      · rw [List.getElem?_set_self h] at e
        cases e
        exact ⟨v, by rw [List.getElem?_set_self (by rw [← S.len]; exact h)], r⟩
      · rw [List.getElem?_eq_none (by simpa using h)] at e; cases e
    · have q := S.sl j s (old hj e)
      have e3 : (σ.set i (some v))[j]? = σ[j]? := List.getElem?_set_ne (Ne.symm hj)
      cases s with
      | no => trivial
      | val d' => obtain ⟨w, q1, q2⟩ := q; exact ⟨w, e3.trans q1, q2⟩
      | own d' => obtain ⟨a, vs, ds, u, q0, q1, q2⟩ := q; exact ⟨a, vs, ds, u, q0, e3.trans q1, q2⟩
  · have n1 := own e1
    have n2 := own e2
    rw [List.getElem?_set_ne (Ne.symm n1)] at h1
    rw [List.getElem?_set_ne (Ne.symm n2)] at h2
    exact S.sep j l d' d'' a (old n1 e1) (old n2 e2) h1 h2
theorem view_set (env : SEnv) (i : Nat) (s : Sl) : view (env.set i s) = (view env).set i s.see := by
  unfold view
  rw [List.map_set]
theorem view_setSs : ∀ (is : List Nat) (ds : List D) (env : SEnv), view (setSs env is ds) = setEnvs (view env) is ds
  | [], _, env => by simp [setSs, setEnvs]
  | i :: is, [], env => by simp [setSs, setEnvs]
  | i :: is, d :: ds, env => by
    simp only [setSs, setEnvs]
    rw [view_setSs is ds, view_set]
    rfl
theorem view_bind (tg : Tg) (d : D) (env : SEnv) : (bindS tg d env).map view = bindTg tg d (view env) := by
  cases tg with
  | name i =>
    simp only [bindS, bindTg, Option.map_some, view_set]
    rfl
  | tup is =>
    cases d <;> simp only [bindS, bindTg, Option.map_none]
    split
    · simp [view_setSs]
    · rfl
/-- the slots that a target stores alone -/
def Only (is : List Nat) (σ σ' : L2.St) : Prop := σ'.length = σ.length ∧ ∀ j, j ∉ is → σ'[j]? = σ[j]?
theorem wipe_only {is : List Nat} {σ σ' : L2.St} (h : Only is σ σ') : wipe σ' is = wipe σ is := by
  have at_ : ∀ (is : List Nat) (σ : L2.St) (j : Nat), (wipe σ is)[j]? = if j ∈ is ∧ j < σ.length then some none else σ[j]? := by
    intro is
    induction is with
    | nil => intro σ j; simp [wipe]
    | cons i is ih =>
      intro σ j
      unfold wipe
      by_cases hj : i = j
      · subst hj
        by_cases hl : i < σ.length
        · rw [List.getElem?_set_self (by rw [wipe_length]; exact hl)]
          simp [hl]
        · rw [List.getElem?_eq_none (by rw [List.length_set, wipe_length]; omega)]
          rw [if_neg (fun z => hl z.2), List.getElem?_eq_none (by omega)]
      · rw [List.getElem?_set_ne hj, ih]
        have : (j ∈ i :: is) ↔ j ∈ is := by simp [Ne.symm hj]
        simp only [this]
  apply List.ext_getElem?
  intro j
  rw [at_, at_, h.1]
  by_cases hj : j ∈ is
  · by_cases hl : j < σ.length
    · simp [hj, hl]
    · rw [if_neg (fun z => hl z.2), if_neg (fun z => hl z.2), List.getElem?_eq_none (by rw [h.1]; omega), List.getElem?_eq_none (by omega)]
  · rw [if_neg (fun z => hj z.1), if_neg (fun z => hj z.1)]
    exact h.2 j hj
def tG (pa ca : Addr) (K : PySem.W.Frag) (tg : Tg) : TG := fun v σ H Q => ∃ (B M : Ms) (env : SEnv) (p : PSt) (d : D) (env' : SEnv), SOk K pa ca B M σ H env p ∧ Rep K pa M H d v ∧ bindS tg d env = some env' ∧
  ∀ σ', SOk K pa ca B M σ' H env' p → Only tg.own σ σ' → Q σ' H
theorem _root_.L2.PG.imp {e : Expr} {t t0 : TG} (h : PG X e t0) (k : ∀ v σ H Q, t v σ H Q → t0 v σ H Q) : PG X e t := ⟨fun pins s σ H v u Q I r hw => h.run pins s σ H v u Q I r (k v σ H Q hw)⟩
theorem _root_.L2.PGs.imp {e : List Expr} {t t0 : TGs} (h : PGs X e t0) (k : ∀ v σ H Q, t v σ H Q → t0 v σ H Q) : PGs X e t := ⟨fun pins s σ H v u Q I r hw => h.run pins s σ H v u Q I r (k v σ H Q hw)⟩
theorem loc_of {N : List Str} {scope : Scope} {i : Nat} {e : Expr} (h : chkName N scope i e = true) : ∃ u pos, e = .Name u pos ∧ N[i]? = some u ∧ (scope.names.lookup u = some .local ∨ scope.names.lookup u = some .cell) := by
  cases e <;> first | (cases h; done) | skip
  rename_i u pos
  simp only [chkName, Bool.and_eq_true, beq_iff_eq] at h
  refine ⟨u, pos, rfl, h.1, ?_⟩
  have h2 := h.2
  unfold locB at h2
  split at h2
  · rename_i q; exact .inl q
  · rename_i q; exact .inr q
  · cases h2
/-- names that may be stored in the context -/
def MayStore (X : Cx) (scope : Scope) : Prop := ∀ u, scope.names.lookup u = some .local ∨ scope.names.lookup u = some .cell → Loc X.env.scope u ∧ (X.fn u = true ∨ X.env.scope.names.lookup u = some .local)
theorem g_name {scope : Scope} {i : Nat} {e : Expr} (nd : X.N.Nodup) (ms : MayStore X scope) (h : chkName X.N scope i e = true) : PG X e (gName i) := by
  obtain ⟨u, pos, rfl, h1, h2⟩ := loc_of h
  obtain ⟨h3, h4⟩ := ms u h2
  exact pg_name nd h1 h3 h4
def tGs (pa ca : Addr) (K : PySem.W.Frag) (is : List Nat) : TGs := fun vs σ H Q => ∃ (B M : Ms) (env : SEnv) (p : PSt) (ds : List D), SOk K pa ca B M σ H env p ∧ Reps K pa M H ds vs ∧ ds.length = is.length ∧
  ∀ σ', SOk K pa ca B M σ' H (setSs env is ds) p → Only is σ σ' → Q σ' H
theorem eachs {X : Cx} {e : Expr} {es : List Expr} {u : Str} {pos : Pos} (h : e = .Name u pos) : (assignEach (e :: es) X.env).map (·.2) = assign e X.env :: (assignEach es X.env).map (·.2) := by subst h; rfl
theorem g_names {scope : Scope} (nd : X.N.Nodup) (ms : MayStore X scope) : ∀ {is : List Nat} {es : List Expr}, chkNames X.N scope is es = true → PGs X es (tGs pa ca X.K is)
  | [], [], _ => pgs_nil.imp fun vs σ H Q ⟨B, M, env, p, ds, S, r, hl, k⟩ => by
    cases ds with
    | cons _ _ => simp at hl
    | nil =>
      unfold Reps at r
      exact ⟨r, k σ S ⟨rfl, fun _ _ => rfl⟩⟩
  | i :: is, e :: es, h => by
    simp only [chkNames, Bool.and_eq_true] at h
    obtain ⟨u, pos, e1, _, _⟩ := loc_of h.1
    refine (pgs_cons (g_name nd ms h.1) (g_names nd ms h.2) (eachs e1)).imp fun vs σ H Q ⟨B, M, env, p, ds, S, r, hl, k⟩ => ?_
    cases ds with
    | nil => simp at hl
    | cons d ds =>
      unfold Reps at r
      obtain ⟨v, rr, rfl, r1, r2⟩ := r
      refine ⟨v, rr, rfl, B, M, env.set i (.val d), p, ds, S.set i r1, r2, by simpa using hl, fun σ' S' o => k σ' S' ?_⟩
      refine ⟨by rw [o.1, List.length_set], fun j hj => ?_⟩
      simp only [List.mem_cons, not_or] at hj
      rw [o.2 j hj.2, List.getElem?_set_ne (Ne.symm hj.1)]
  | [], _ :: _, h => by cases h
  | _ :: _, [], h => by cases h
theorem names_each {N : List Str} {scope : Scope} {env : PySem.Env} : ∀ {is : List Nat} {es : List Expr}, chkNames N scope is es = true → (assignEach es env).length = is.length ∧ (assignEach es env).findIdx? (·.1) = none
  | [], [], _ => ⟨rfl, rfl⟩
  | i :: is, e :: es, h => by
    simp only [chkNames, Bool.and_eq_true] at h
    obtain ⟨u, pos, rfl, _, _⟩ := loc_of h.1
    have q := @names_each N scope env is es h.2
    have e1 : assignEach (.Name u pos :: es) env = (false, assign (.Name u pos) env) :: assignEach es env := rfl
    rw [e1]
    refine ⟨by simp [q.1], ?_⟩
    rw [List.findIdx?_cons]
    simp [q.2]
  | [], _ :: _, h => by cases h
  | _ :: _, [], h => by cases h
theorem g_tg {scope : Scope} {tg : Tg} {e : Expr} (hc : X.calm = true) (nd : X.N.Nodup) (ms : MayStore X scope) (h : chkTg X.N scope tg e = true) : PG X e (tG pa ca X.K tg) := by
  cases tg with
  | name i =>
    refine (g_name nd ms h).imp fun v σ H Q ⟨B, M, env, p, d, env', S, r, e, k⟩ => ?_
    cases e
    exact k _ (S.set i r) ⟨by simp, fun j hj => List.getElem?_set_ne (fun z => hj (by rw [← z]; exact List.mem_singleton.mpr rfl))⟩
  | tup is =>
    cases e <;> first | (cases h; done) | skip
    rename_i es kk pos
    have h : chkNames X.N scope is es = true := h
    have q := names_each (env := X.env) h
    refine (pg_tup hc (g_names (pa := pa) (ca := ca) nd ms h) q.1 q.2).imp fun v σ H Q ⟨B, M, env, p, d, env', S, r, e, k⟩ => ?_
    cases d <;> first | (cases e; done) | skip
    rename_i ds
    simp only [bindS] at e
    split at e
    · cases e
      rename_i hl
      obtain ⟨a, vs, rfl, g1, g2⟩ := r.tup
      exact ⟨a, vs, rfl, g1.sq, by rw [g2.length]; exact hl, B, M, env, p, ds, S, g2, hl, fun σ' S' o => k σ' S' ⟨o.1, fun j hj => o.2 j fun z => hj ((onceN_mem j is).mpr z)⟩⟩
    · cases e

/-! ### what is walked -/
structure ItOk (pa : Addr) (K : PySem.W.Frag) (J : It) (B M : Ms) (H1 : Hp) (ds : List D) : Prop where
  ok : ∃ (G : Hp → Prop) (Y : Nat → Hp → V → Hp → Prop), Walk J ds.length G Y ∧ (∀ M2 H2, Keep pa B M H1 M2 H2 → G H2) ∧
    ∀ i H2 M2 x H3, Keep pa B M H1 M2 H2 → (∀ a, M2 a → H2 a ≠ none) → (∀ a vs, M2 a → H2 a ≠ some (.tup vs)) → i < ds.length → Y i H2 x H3 → Same H2 H3 ∧ ∃ d, ds[i]? = some d ∧ Rep K pa M2 H3 d x
def tI (cf : Str → List D → PSt → Out D) (gt : Str → Option D) (exv : ExV) (pa ca : Addr) (W : WX) (K : PySem.W.Frag) (it : E) : TI := fun σ H R => ∃ (B M : Ms) (env : SEnv) (p : PSt), SOk K pa ca B M σ H env p ∧ escOk (escE it) env ∧
  Holds (evalE cf gt it (view env) p) (fun d p' => ∃ ds, itemsD d = some ds ∧ ∀ J H', Ext pa H H' → PoolOk pa ca H' p' → ItOk pa K J B M H' ds → R J H') (exQ exv pa ca W σ H)
theorem _root_.L2.PI.imp {t e : Expr} {w w0 : TI} (h : PI X t e w0) (k : ∀ σ H R, w σ H R → w0 σ H R) : PI X t e w := ⟨fun pins s σ H R I hw => h.run pins s σ H R I (k σ H R hw)⟩
theorem it_list {K : PySem.W.Frag} {a : Addr} {vs : List V} {ds : List D} {B M : Ms} {H : Hp} (h : LstAt M H a vs) (r : Reps K pa M H ds vs) : ItOk pa K (Itl K a) B M H ds := by
  refine ⟨_, _, (by rw [← r.length]; exact walk_list (K := K) (a := a) (xs := vs)), fun M2 H2 k => ?_, fun i H2 M2 x H3 k al _ hi y => ?_⟩
  · exact .inl (.inl (k.1 _ _ h.1 h.2).2)
  · obtain ⟨rfl, e⟩ := y
    obtain ⟨d, e2, r2⟩ := (r.mono k.1).get' e
    exact ⟨Same.refl _, d, e2, r2⟩
theorem it_tup {K : PySem.W.Frag} {a : Addr} {vs : List V} {ds : List D} {B M : Ms} {H : Hp} (h : TupAt M H a vs) (r : Reps K pa M H ds vs) : ItOk pa K (Itt K a) B M H ds := by
  refine ⟨_, _, (by rw [← r.length]; exact walk_tup (K := K) (a := a) (xs := vs)), fun M2 H2 k => ?_, fun i H2 M2 x H3 k al _ hi y => ?_⟩
  · exact (h.mono k.1).sq
  · obtain ⟨rfl, e⟩ := y
    obtain ⟨d, e2, r2⟩ := (r.mono k.1).get' e
    exact ⟨Same.refl _, d, e2, r2⟩
theorem it_range {K : PySem.W.Frag} {B M : Ms} {H : Hp} {lo : Int} {k : Nat} : ItOk pa K (Itr lo k) B M H (rangeL lo k) := by
  have hl : (rangeL lo k).length = k := by simp [rangeL]
  refine ⟨_, _, (by rw [hl]; exact walk_range), fun _ _ _ => trivial, fun i H2 M2 x H3 _ _ _ hi y => ?_⟩
  obtain ⟨rfl, rfl⟩ := y
  rw [hl] at hi
  refine ⟨Same.refl _, .int (lo + i), ?_, rep_int⟩
  simp [rangeL, hi]
theorem it_str {K : PySem.W.Frag} {B M : Ms} {H : Hp} {z : Str} : ItOk pa K (Its z) B M H (z.cps.toList.map fun c => .str ⟨#[c]⟩) := by
  have hl : (z.cps.toList.map fun c => D.str ⟨#[c]⟩).length = z.cps.size := by simp
  refine ⟨_, _, (by rw [hl]; exact walk_str), fun _ _ _ => trivial, fun i H2 M2 x H3 _ _ _ hi y => ?_⟩
  obtain ⟨rfl, c, hc, rfl⟩ := y
  refine ⟨Same.refl _, .str ⟨#[c]⟩, ?_, by unfold Rep; rfl⟩
  rw [List.getElem?_map, Array.getElem?_toList, hc]
  rfl
theorem it_ktup {K : PySem.W.Frag} {a : Addr} {ss : List Str} {B M : Ms} {H : Hp} (h : KTup K a (ss.map V.str)) : ItOk pa K (Itt K a) B M H (ss.map .str) := by
  refine ⟨_, _, (by rw [List.length_map, ← List.length_map (f := V.str)]; exact walk_tup (K := K) (a := a) (xs := ss.map V.str)), fun M2 H2 k => (Or.inr h : SqT K H2 a (ss.map V.str)), fun i H2 M2 x H3 k al _ hi y => ?_⟩
  obtain ⟨rfl, e⟩ := y
  rw [List.getElem?_map] at e
  cases hs : ss[i]? with
  | none => rw [hs] at e; cases e
  | some w =>
    rw [hs] at e
    cases e
    exact ⟨Same.refl _, .str w, by rw [List.getElem?_map, hs]; rfl, by unfold Rep; rfl⟩
/-- a list or a tuple, walked -/
theorem pi_val {t e : Expr} (h : PE X e (tV cf gt exv pa ca W X.K A)) : PI X t e (tI cf gt exv pa ca W X.K A) := by
  refine ⟨fun pins s σ H R I hw => ?_⟩
  obtain ⟨B, M, env, p, S, es, hw⟩ := hw
  cases e1 : evalE cf gt A (view env) p with
  | bad => rw [e1] at hw; exact hw.elim
  | exc c xs p' =>
    rw [e1] at hw
    exact (pi_list h).run pins s σ H R I ⟨B, M, env, p, S, es, by rw [e1]; exact hw⟩
  | ok d p' =>
    rw [e1] at hw
    obtain ⟨ds, e, k⟩ := hw
    cases d <;> first | (cases e; done) | skip
    · cases e
      refine (pi_str h).run pins s σ H R I ⟨B, M, env, p, S, es, ?_⟩
      rw [e1]
      intro v H' x q r _
      unfold Rep at r
      exact ⟨_, r, k _ H' x q it_str⟩
    · cases e
      refine (pi_tup h).run pins s σ H R I ⟨B, M, env, p, S, es, ?_⟩
      rw [e1]
      intro v H' x q r _
      obtain ⟨a, vs, rfl, g1, g2⟩ := r.tup
      exact ⟨a, rfl, ⟨vs, g1.sq⟩, k _ H' x q (it_tup g1 g2)⟩
    · cases e
      refine (pi_list h).run pins s σ H R I ⟨B, M, env, p, S, es, ?_⟩
      rw [e1]
      intro v H' x q r _
      obtain ⟨a, vs, rfl, g1, g2⟩ := r.lst
      exact ⟨a, rfl, ⟨vs, .inl (.inl g1.2)⟩, k _ H' x q (it_list g1 g2)⟩
    · cases e
      refine (pi_tup h).run pins s σ H R I ⟨B, M, env, p, S, es, ?_⟩
      rw [e1]
      intro v H' x q r _
      obtain ⟨a, rfl, g1⟩ := r.ctup
      exact ⟨a, rfl, ⟨_, .inr g1⟩, k _ H' x q (it_ktup g1)⟩
theorem in62_of {i : Int} (h : in62 i = true) : -(2 ^ 62) ≤ i ∧ i < 2 ^ 62 := of_decide_eq_true h
theorem pi_rng1 {t g e : Expr} {sc : Scope} (ok : XOk cf gt fns exv pa ca W n X) (hsc : X.env.scope = sc) (hn : nmB sc "range" g = true) (hs : notStar e = true) (h : PE X e (tC cf gt exv pa ca W X.K A)) :
    PI X t (.Call g [e] [] pos) (tI cf gt exv pa ca W X.K (.rng1 A)) := by
  obtain ⟨p0, rfl, hg, hd, h0⟩ := gl_of hsc hn
  refine (pi_range1 hg ok.range (pa_cons h pa_nil (star_of hs)) (star_of hs)).imp fun σ H R' ⟨B, M, env, p, S, es, hw⟩ => ?_
  simp only [evalE, Holds.bind] at hw
  refine ⟨B, M, env, p, S, hw.imp (fun d p1 h1 v H1 x1 q1 r1 => ?_) fun _ _ _ z => z⟩
  obtain ⟨d2, e2, out, e3, k⟩ := Holds.lift (o := rngD [d]) (p := p1) h1
  cases d <;> first | (cases e2; done) | skip
  simp only [rngD] at e2
  split at e2 <;> first | (cases e2; done) | skip
  cases e2
  cases e3
  cases r1.int
  rename_i hz
  exact ⟨_, rfl, (in62_of hz).1, (in62_of hz).2, k _ H1 x1 q1 it_range⟩
theorem pi_rng2 {t g e e' : Expr} {sc : Scope} (ok : XOk cf gt fns exv pa ca W n X) (hsc : X.env.scope = sc) (hn : nmB sc "range" g = true) (hs : notStar e = true) (hs' : notStar e' = true) (h : PE X e (tC cf gt exv pa ca W X.K A)) (h' : PE X e' (tC cf gt exv pa ca W X.K B')) :
    PI X t (.Call g [e, e'] [] pos) (tI cf gt exv pa ca W X.K (.rng2 A B')) := by
  obtain ⟨p0, rfl, hg, hd, h0⟩ := gl_of hsc hn
  refine (pi_range2 hg ok.range (pa_cons h (pa_cons h' pa_nil (star_of hs')) (star_of hs)) (by rw [star_of hs, star_of hs']; rfl) (by rw [star_of hs']; rfl)).imp fun σ H R' ⟨B, M, env, p, S, es, hw⟩ => ?_
  simp only [evalE, Holds.bind] at hw
  refine ⟨B, M, env, p, S, hw.imp (fun d p1 h1 v H1 x1 q1 r1 => ?_) fun _ _ _ z => z⟩
  refine ⟨B, M, env, p1, S.ext x1 q1, Holds.imp h1 (fun d' p2 h2 v2 H2 x2 q2 r2 => ?_) (exQ.mono x1)⟩
  obtain ⟨d2, e2, out, e3, k⟩ := Holds.lift (o := rngD [d, d']) (p := p2) h2
  cases d <;> cases d' <;> first | (cases e2; done) | skip
  simp only [rngD] at e2
  split at e2 <;> first | (cases e2; done) | skip
  cases e2
  cases e3
  cases r1.int
  cases r2.int
  rename_i hz
  rw [Bool.and_eq_true] at hz
  exact ⟨_, _, rfl, ⟨(in62_of hz.1).1, (in62_of hz.1).2, (in62_of hz.2).1, (in62_of hz.2).2⟩, k _ H2 (x1.trans x2) q2 it_range⟩
end
end PD

namespace PD
open PySem PySem.Spec PyProof.Rows L2
section
variable {cf : Str → List D → PSt → Out D} {gt : Str → Option D} {exv : ExV} {pa ca : Addr} {W : WX} {n : Nat} {X : Cx} {fns : List Str}
variable {A B' C R : E} {x y z : Expr} {xs : List Expr} {pos : Pos}
def tCnd (cf : Str → List D → PSt → Out D) (gt : Str → Option D) (exv : ExV) (pa ca : Addr) (W : WX) (K : PySem.W.Frag) (c : E) : TT := fun σ H Q => ∃ (B M : Ms) (env : SEnv) (p : PSt), SOk K pa ca B M σ H env p ∧
  Holds (evalC cf gt c (view env) p) (fun b p' => ∀ H', Ext pa H H' → PoolOk pa ca H' p' → Q b H') (exQ exv pa ca W σ H)
theorem _root_.L2.PTs.imp {e : List Expr} {t t0 : TT} (h : PTs X e t0) (k : ∀ σ H Q, t σ H Q → t0 σ H Q) : PTs X e t := ⟨fun pins s σ H Q I hw => h.run pins s σ H Q I (k σ H Q hw)⟩
theorem c_nil : PTs X [] (tCnd cf gt exv pa ca W X.K .nil) := pts_nil.imp fun σ H Q ⟨B, M, env, p, S, h⟩ => by
  unfold evalC at h
  exact h H .refl S.pool
theorem c_one (h : PT X x (tT cf gt exv pa ca W X.K A)) : PTs X [x] (tCnd cf gt exv pa ca W X.K (.cons A .nil)) := (pts_one h).imp fun σ H Q ⟨B, M, env, p, S, h⟩ => by
  refine ⟨B, M, env, p, S, ?_⟩
  unfold evalC at h
  unfold evalT
  exact h
def wipeS : SEnv → List Nat → SEnv
  | env, [] => env
  | env, i :: is => (wipeS env is).set i .no
theorem wipeS_length (env : SEnv) : ∀ is : List Nat, (wipeS env is).length = env.length
  | [] => rfl
  | i :: is => by unfold wipeS; rw [List.length_set, wipeS_length env is]
theorem wipeS_get (env : SEnv) (j : Nat) : ∀ is : List Nat, (wipeS env is)[j]? = if j ∈ is ∧ j < env.length then some .no else env[j]?
  | [] => by simp [wipeS]
  | i :: is => by
    unfold wipeS
    by_cases hj : i = j
    · subst hj
      by_cases hl : i < env.length
      · rw [List.getElem?_set_self (by rw [wipeS_length]; exact hl)]
        simp [hl]
      · rw [List.getElem?_eq_none (by rw [List.length_set, wipeS_length]; omega), if_neg (fun z => hl z.2), List.getElem?_eq_none (by omega)]
    · rw [List.getElem?_set_ne hj, wipeS_get env j is]
      have : (j ∈ i :: is) ↔ j ∈ is := by simp [Ne.symm hj]
      simp only [this]
theorem wipe_get (σ : L2.St) (j : Nat) : ∀ is : List Nat, (wipe σ is)[j]? = if j ∈ is ∧ j < σ.length then some none else σ[j]?
  | [] => by simp [wipe]
  | i :: is => by
    unfold wipe
    by_cases hj : i = j
    · subst hj
      by_cases hl : i < σ.length
      · rw [List.getElem?_set_self (by rw [wipe_length]; exact hl)]
        simp [hl]
      · rw [List.getElem?_eq_none (by rw [List.length_set, wipe_length]; omega), if_neg (fun z => hl z.2), List.getElem?_eq_none (by omega)]
    · rw [List.getElem?_set_ne hj, wipe_get σ j is]
      have : (j ∈ i :: is) ↔ j ∈ is := by simp [Ne.symm hj]
      simp only [this]
theorem SOk.wipe {K : PySem.W.Frag} {B M : Ms} {σ : L2.St} {H : Hp} {env : SEnv} {p : PSt} (S : SOk K pa ca B M σ H env p) (is : List Nat) : SOk K pa ca B M (L2.wipe σ is) H (wipeS env is) p := by
  have old : ∀ {j : Nat} {s : Sl}, (wipeS env is)[j]? = some s → s ≠ .no → env[j]? = some s ∧ (L2.wipe σ is)[j]? = σ[j]? := fun {j s} e h => by
    rw [wipeS_get] at e
    by_cases hc : j ∈ is ∧ j < env.length
    · rw [if_pos hc] at e; cases e; exact absurd rfl h
    · rw [if_neg hc] at e
      refine ⟨e, ?_⟩
      rw [wipe_get, if_neg (by rw [← S.len]; exact hc)]
  refine ⟨S.pool, S.bp, S.bc, S.sub, S.al, S.nt, fun j s e => ?_, fun j l d d' a e1 e2 h1 h2 => ?_, by rw [wipeS_length, wipe_length]; exact S.len⟩
  · cases s with
    | no => trivial
    | val d =>
      obtain ⟨e1, e2⟩ := old e (by intro z; cases z)
      obtain ⟨v, q1, q2⟩ := S.sl j _ e1
      exact ⟨v, e2.trans q1, q2⟩
    | own d =>
      obtain ⟨e1, e2⟩ := old e (by intro z; cases z)
      obtain ⟨a, vs, ds, u, q0, q1, q2⟩ := S.sl j _ e1
      exact ⟨a, vs, ds, u, q0, e2.trans q1, q2⟩
  · obtain ⟨f1, f2⟩ := old e1 (by intro z; cases z)
    obtain ⟨g1, g2⟩ := old e2 (by intro z; cases z)
    exact S.sep j l d d' a f1 g1 (f2 ▸ h1) (g2 ▸ h2)
theorem setSs_get : ∀ (is : List Nat) (ds : List D) (env : SEnv) (j : Nat), j ∉ is → (setSs env is ds)[j]? = env[j]?
  | [], _, env, j, _ => by simp [setSs]
  | i :: is, [], env, j, _ => by simp [setSs]
  | i :: is, d :: ds, env, j, h => by
    simp only [List.mem_cons, not_or] at h
    simp only [setSs]
    rw [setSs_get is ds _ j h.2, List.getElem?_set_ne (Ne.symm h.1)]
theorem setSs_length : ∀ (is : List Nat) (ds : List D) (env : SEnv), (setSs env is ds).length = env.length
  | [], _, env => by simp [setSs]
  | i :: is, [], env => by simp [setSs]
  | i :: is, d :: ds, env => by simp only [setSs]; rw [setSs_length is ds]; simp
/-- only what the environments hold elsewhere matters -/
theorem setSs_same : ∀ (is : List Nat) (ds : List D) (e1 e2 : SEnv), ds.length = is.length → e1.length = e2.length → (∀ j, j ∉ is → e1[j]? = e2[j]?) → setSs e1 is ds = setSs e2 is ds
  | [], _, e1, e2, _, hl, h => by
    simp only [setSs]
    exact List.ext_getElem? fun j => h j (by simp)
  | i :: is, [], _, _, hd, _, _ => by simp at hd
  | i :: is, d :: ds, e1, e2, hd, hl, h => by
    simp only [setSs]
    refine setSs_same is ds _ _ (by simpa using hd) (by simp [hl]) fun j hj => ?_
    by_cases hi : i = j
    · subst hi
      by_cases hlt : i < e1.length
      · rw [List.getElem?_set_self hlt, List.getElem?_set_self (by rw [← hl]; exact hlt)]
      · rw [List.getElem?_eq_none (by simpa using hlt), List.getElem?_eq_none (by rw [List.length_set, ← hl]; omega)]
    · rw [List.getElem?_set_ne hi, List.getElem?_set_ne hi]
      exact h j (by simp [Ne.symm hi, hj])
theorem bind_wipe (tg : Tg) (d : D) (env : SEnv) : bindS tg d (wipeS env tg.own) = bindS tg d env := by
  cases tg with
  | name i =>
    simp only [bindS, Tg.own, wipeS, List.set_set]
  | tup is =>
    cases d <;> simp only [bindS]
    split
    · rename_i hl
      congr 1
      refine setSs_same is _ _ _ hl (wipeS_length env _) fun j hj => ?_
      rw [wipeS_get]
      exact if_neg fun z => hj ((onceN_mem j is).mp z.1)
    · rfl
theorem setSs_own : ∀ (is : List Nat) (ds : List D) (env : SEnv), ds.length = is.length → ∀ j ∈ is, ∀ d, (setSs env is ds)[j]? ≠ some (.own d)
  | [], _, _, _, _, h, _, _ => by cases h
  | i :: is, [], _, hd, _, _, _, _ => by simp at hd
  | i :: is, d :: ds, env, hd, j, hj, d', e => by
    simp only [setSs] at e
    by_cases hm : j ∈ is
    · exact setSs_own is ds _ (by simpa using hd) j hm d' e
    · have : j = i := by simpa [hm] using hj
      subst this
      rw [setSs_get is ds _ j hm] at e
      by_cases hl : j < env.length
      · rw [List.getElem?_set_self hl] at e; cases e
      · rw [List.getElem?_eq_none (by simpa using hl)] at e; cases e
theorem bind_own {tg : Tg} {d : D} {env env' : SEnv} (h : bindS tg d env = some env') : (∀ j ∈ tg.own, ∀ d', env'[j]? ≠ some (.own d')) ∧ (∀ j, j ∉ tg.own → env'[j]? = env[j]?) ∧ env'.length = env.length := by
  cases tg with
  | name i =>
    cases h
    refine ⟨fun j hj d' e => ?_, fun j hj => List.getElem?_set_ne (fun z => hj (by rw [← z]; exact List.mem_singleton.mpr rfl)), by simp⟩
    have : j = i := List.mem_singleton.mp hj
    subst this
    by_cases hl : j < env.length
    · rw [List.getElem?_set_self hl] at e; cases e
    · rw [List.getElem?_eq_none (by simpa using hl)] at e; cases e
  | tup is =>
    cases d <;> first | (cases h; done) | skip
    simp only [bindS] at h
    split at h
    · cases h
      rename_i hl
      exact ⟨fun j hj => setSs_own is _ env hl j ((onceN_mem j is).mp hj), fun j hj => setSs_get is _ env j fun z => hj ((onceN_mem j is).mpr z), setSs_length is _ env⟩
    · cases h
theorem own_map {N : List Str} : ∀ {is : List Nat}, is.all (fun i => (N[i]?).isSome) = true → ((is.filterMap fun i => (N[i]?).map fun x => (x, i)).map (·.2)) = is
  | [], _ => rfl
  | i :: is, h => by
    simp only [List.all_cons, Bool.and_eq_true] at h
    obtain ⟨u, e⟩ := Option.isSome_iff_exists.mp h.1
    rw [List.filterMap_cons, e]
    simp only [Option.map_some, List.map_cons]
    rw [own_map h.2]
theorem compL_cons {f : D → PSt → Out (Option D)} {d : D} {ds acc : List D} {p : PSt} {ok ex} (h : Holds (compL f (d :: ds) acc p) ok ex) :
    Holds (f d p) (fun o p' => match o with | none => Holds (compL f ds acc p') ok ex | some y => acc.length < sizeLine ∧ Holds (compL f ds (acc ++ [y]) p') ok ex) (fun _ _ _ => False) := by
  unfold compL at h
  cases e : f d p with
  | bad => rw [e] at h; exact h
  | exc c xs p' => rw [e] at h; exact h
  | ok o p' =>
    rw [e] at h
    cases o with
    | none => exact h
    | some y =>
      dsimp only at h
      split at h
      · rename_i hz; exact ⟨hz, h⟩
      · exact h.elim
theorem Only.wipe {is : List Nat} {σ : L2.St} : Only is σ (L2.wipe σ is) := ⟨wipe_length σ is, fun j hj => by rw [wipe_get, if_neg fun z => hj z.1]⟩
/-- what a comprehension does with an item -/
def fCx (cf : Str → List D → PSt → Out D) (gt : Str → Option D) (elt c : E) (tg : Tg) (env : Env) (x : D) (p : PSt) : Out (Option D) := match bindTg tg x env with
  | none => .bad
  | some env' => (evalC cf gt c env' p).bind fun b p => if b = true then (evalE cf gt elt env' p).bind fun y p => .ok (some y) p else .ok none p
/-- the turns of a comprehension -/
theorem comp_core {elt c : E} {tg : Tg} {B M : Ms} {env : SEnv} {p1 : PSt} {H1 : Hp} {σ : L2.St} {J : It} {ds : List D} {okc : D → PSt → Prop} {exc : Str → List D → PSt → Prop} {Qd : Hp → Prop} {L : Addr} (S1 : SOk X.K pa ca B M σ H1 env p1) (q1 : PoolOk pa ca H1 p1) (io : ItOk pa X.K J B M H1 ds)
    (es : escOk ((escE elt).filter fun i => !tg.own.contains i) env) (hD : H1 L = none)
    (h1 : Holds (compL (fCx cf gt elt c tg (view env)) ds [] p1) okc exc)
    (fin : ∀ (d : D) (p2 : PSt) (H2 : Hp) (acc : List V) (accD : List D), okc d p2 → d = .lst accD → Ext pa H1 H2 → PoolOk pa ca H2 p2 → H2 L = some (.lst acc) → Reps X.K pa (fun b => M b ∨ b = L) H2 accD acc → Qd H2) :
    ∃ W : Nat → Nat → Hp → Prop, (∃ m, W 0 m (upd H1 L (.lst []))) ∧ ∀ i m H, W i m H →
      (J.stop i H ∧ Qd H) ∨ (J.go i H ∧ ∃ Nx : Hp → Prop, (∀ H', Nx H' → ∃ m', m' < m ∧ W (i + 1) m' H') ∧ ∀ x H', J.yld i H x H' → tG pa ca X.K tg x (L2.wipe σ tg.own) H' fun σ2 H2 => L2.wipe σ2 tg.own = L2.wipe σ tg.own ∧ tCnd cf gt exv pa ca (fun _ _ _ _ => False) X.K c σ2 H2 fun b H3 =>
        if b = true then tV cf gt exv pa ca (fun _ _ _ _ => False) X.K elt σ2 H3 fun y H4 => ∃ acc, H4 L = some (.lst acc) ∧ acc.length < sizeLine ∧ Nx (upd H4 L (.lst (acc ++ [y]))) else Nx H3) := by
  obtain ⟨G, Y, wk, hG, hY⟩ := io.ok
  have nDM : ¬ M L := fun z => S1.al L z hD
  have hk : ∀ {H2 : Hp}, Ext pa H1 H2 → Keep pa B M H1 (fun b => M b ∨ b = L) H2 := fun {H2} x => by
    refine ⟨fun b u hb e => ⟨fun z => z.elim hb fun z => ?_, x b u (fun z => hb (z ▸ S1.mpa)) e⟩, fun b u _ hn e => x b u hn e⟩
    rw [z, hD] at e; cases e
  have al1 : ∀ {H2 : Hp} {p2 : PSt} {acc : List V}, Ext pa H1 H2 → PoolOk pa ca H2 p2 → H2 L = some (.lst acc) → ∀ a, (M a ∨ a = L) → H2 a ≠ none := fun {H2 p2 acc} x q e a ha => by
    rcases ha with ha | ha
    · exact (S1.ext x q).al a ha
    · rw [ha, e]; simp
  refine lc_it wk (fun i H2 => ∃ (p2 : PSt) (acc : List V) (accD : List D), Ext pa H1 H2 ∧ PoolOk pa ca H2 p2 ∧ H2 L = some (.lst acc) ∧ Reps X.K pa (fun b => M b ∨ b = L) H2 accD acc ∧
    Holds (compL _ (ds.drop i) accD p2) okc exc) ⟨p1, [], [], .upd hD, pool_ext q1 (same_new hD), upd_same, .nil, h1⟩ (fun i H2 _ ⟨p2, acc, accD, x2, _⟩ => hG _ H2 (hk x2)) (fun i x H2 H3 hi ⟨p2, acc, accD, x2, q2, e2, r2, h2⟩ y => ?_) fun H2 ⟨p2, acc, accD, x2, q2, e2, r2, h2⟩ => ?_
  · obtain ⟨sm, dd, e3, r3⟩ := hY i H2 _ x H3 (hk x2) (al1 x2 q2 e2) (fun a vs ha z => ha.elim (fun ha => (S1.ext x2 q2).nt a vs ha z) (fun ha => by rw [ha, e2] at z; cases z)) hi y
    rw [List.drop_eq_getElem_cons hi] at h2
    have e4 : ds[i] = dd := by
      rw [List.getElem?_eq_getElem hi] at e3
      exact Option.some.inj e3
    rw [e4] at h2
    have h3 := compL_cons h2
    unfold fCx at h3
    have x3 : Ext pa H1 H3 := x2.trans (.of_same sm)
    have q3 := pool_ext q2 sm
    have S3 : SOk X.K pa ca B (fun b => M b ∨ b = L) σ H3 env p2 := by
      have S3' := S1.ext x3 q3
      refine ⟨S3'.pool, S3'.bp, S3'.bc, fun a ha => .inl (S3'.sub a ha), al1 x3 q3 (sm _ _ e2), fun a vs ha z => ?_, fun j s e => ?_, S3'.sep, S3'.len⟩
      · rcases ha with ha | ha
        · exact S3'.nt a vs ha z
        · rw [ha, sm _ _ e2] at z; cases z
      have q := S1.sl j s e
      cases s with
      | no => trivial
      | val d' =>
        obtain ⟨v, g1, g2⟩ := q
        exact ⟨v, g1, g2.mono (hk x3).1⟩
      | own d' =>
        obtain ⟨a, vs, ds', u, g0, g1, g2, g3, g4, g5⟩ := q
        exact ⟨a, vs, ds', u, g0, g1, .inl g2, g3, x3 _ _ (fun z => g3 (z ▸ S1.bp)) g4, g5.mono (hk x3).1⟩
    have vb := view_bind tg dd env
    cases e5 : bindS tg dd env with
    | none =>
      rw [e5] at vb
      simp only [← vb, Option.map_none] at h3
      exact h3.elim
    | some env3 =>
      rw [e5] at vb
      simp only [← vb, Option.map_some] at h3
      obtain ⟨bo1, bo2, _⟩ := bind_own e5
      refine ⟨B, fun b => M b ∨ b = L, wipeS env tg.own, p2, dd, env3, S3.wipe tg.own, r3, by rw [bind_wipe]; exact e5, fun σ2 S4 on => ⟨?_, ?_⟩⟩
      · rw [wipe_only on]
        exact wipe_only Only.wipe
      · rw [Holds.bind] at h3
        refine ⟨B, _, env3, p2, S4, h3.imp (fun b p3 h4 H4 x4 q4 => ?_) fun c xs p z => z.elim⟩
        have S5 := S4.ext x4 q4
        cases b with
        | false =>
          dsimp only
          rw [if_neg Bool.false_ne_true] at h4 ⊢
          exact ⟨p3, acc, accD, x3.trans x4, q4, x4 _ _ (fun z => by rw [z] at hD; rw [q1.hp] at hD; cases hD) (sm _ _ e2), (x4.reps (.inl S1.mpa) ((Ext.of_same sm).reps (.inl S1.mpa) r2)), h4⟩
        | true =>
          dsimp only
          rw [if_pos rfl] at h4 ⊢
          rw [Holds.bind] at h4
          refine ⟨B, _, env3, p3, S5, fun j hj d' e => ?_, h4.imp (fun yd p4 h5 yv H5 x5 q5 r5 _ => ?_) fun c xs p z => z.elim⟩
          · by_cases hm : j ∈ tg.own
            · exact bo1 j hm d' e
            · rw [bo2 j hm] at e
              exact es j (List.mem_filter.mpr ⟨hj, by simpa using hm⟩) d' e
          · have nDp : L ≠ pa := fun z => by rw [z, q1.hp] at hD; cases hD
            have nDc : ca ≠ L := fun z => by rw [← z, q1.hc] at hD; cases hD
            have e6 := x5 _ _ nDp (x4 _ _ nDp (sm _ _ e2))
            have r6 := x5.reps (.inl S1.mpa) (x4.reps (.inl S1.mpa) ((Ext.of_same sm).reps (.inl S1.mpa) r2))
            have kk : ∀ b u, ¬ (M b ∨ b = L) → H5 b = some u → ¬ (M b ∨ b = L) ∧ (upd H5 L (.lst (acc ++ [yv]))) b = some u := fun b u hb e => ⟨hb, by rw [upd_ne fun z => hb (.inr z)]; exact e⟩
            obtain ⟨hz, h6⟩ := h5
            refine ⟨acc, e6, by rw [r2.length]; exact hz, p4, acc ++ [yv], accD ++ [yd], fun b u hb e => ?_, ⟨q5.ne, q5.le, by rw [upd_ne (Ne.symm nDp)]; exact q5.hp, by rw [upd_ne nDc]; exact q5.hc⟩, upd_same, (r6.append (.one r5)).mono kk, h6⟩
            rw [upd_ne fun z => by rw [z, hD] at e; cases e]
            exact x5 b u hb (x4 b u hb (x3 b u hb e))
  · rw [List.drop_length] at h2
    unfold compL at h2
    exact fin _ p2 H2 acc accD h2 rfl x2 q2 e2 r2
theorem comp_red {elt it c : E} {tg : Tg} (ho : tg.own.all (fun i => (X.N[i]?).isSome) = true) {σ : L2.St} {H : Hp} {Q : VK} (hw : tV cf gt exv pa ca W X.K (.comp elt tg it c) σ H Q) :
    tLc (tI cf gt exv pa ca W X.K it) (tG pa ca X.K tg) (tCnd cf gt exv pa ca (fun _ _ _ _ => False) X.K c) (tV cf gt exv pa ca (fun _ _ _ _ => False) X.K elt) ((ownOf X.N tg).map (·.2)) σ H Q := by
  obtain ⟨B, M, env, p, S, es, h⟩ := hw
  have om : (ownOf X.N tg).map (·.2) = tg.own := own_map ho
  rw [om]
  unfold evalE at h
  rw [Holds.bind] at h
  refine ⟨B, M, env, p, S, es.appl, h.imp (fun d p1 h1 => ?_) fun _ _ _ z => z⟩
  cases e1 : itemsD d with
  | none => simp only [e1] at h1; exact h1.elim
  | some ds =>
    simp only [e1] at h1
    refine ⟨ds, rfl, fun J H1 x1 q1 io L hD => ?_⟩
    have S1 := S.ext x1 q1
    refine comp_core S1 q1 io (fun i hi => es.appr i hi) hD h1 fun d p2 H2 acc accD h2 hd x2 q2 e2 r2 => ?_
    subst hd
    have nDM : ¬ M L := fun z => S1.al L z hD
    refine h2 (.ref L) H2 (x1.trans x2) q2 ?_ fun _ => newv_ext S x1 q1 ⟨L, acc, rfl, hD, e2, r2⟩
    unfold Rep
    exact ⟨L, acc, rfl, ⟨nDM, e2⟩, r2.mono fun b u hb e => ⟨fun z => hb (.inl z), e⟩⟩
theorem notset_of {i : Expr} {env : PySem.Env} (hs : notSet i = true) : ∀ v, foldedSetIterable i env v = pure v := fun v => by
  cases i <;> first | (cases hs; done) | rfl
theorem s_comp {el t i : Expr} {ifs : List Expr} {scope : Scope} {elt it c : E} {tg : Tg} (hc : X.calm = true) (nd : X.N.Nodup) (hi : PI X t i (tI cf gt exv pa ca W X.K it)) (ok : BlkOk X.N X.env.scope scope (ownOf X.N tg)) (ho : tg.own.all (fun i => (X.N[i]?).isSome) = true)
    (hg : ∀ (s : Shared) (H : Hp) (C : Addr) (cl : List (Str × Addr)) (fp : List Addr), PG (X.blk s H scope (compEnvC scope cl C X.env) fp) t (tG pa ca X.K tg))
    (ht : ∀ (s : Shared) (H : Hp) (C : Addr) (cl : List (Str × Addr)) (fp : List Addr), PTs (X.blk s H scope (compEnvC scope cl C X.env) fp) ifs (tCnd cf gt exv pa ca (fun _ _ _ _ => False) X.K c))
    (he : ∀ (s : Shared) (H : Hp) (C : Addr) (cl : List (Str × Addr)) (fp : List Addr), PE (X.blk s H scope (compEnvC scope cl C X.env) fp) el (tV cf gt exv pa ca (fun _ _ _ _ => False) X.K elt))
    (hs : notSet i = true) : PE X (.ListComp el [⟨t, i, ifs, 0⟩] scope pos) (tV cf gt exv pa ca W X.K (.comp elt tg it c)) :=
  (pe_lc hc nd hi ok hg ht he (notset_of hs)).imp fun σ H Q hw => comp_red ho hw
end
end PD

namespace PD
open PySem PySem.Spec PyProof.Rows L2
section
variable {cf : Str → List D → PSt → Out D} {gt : Str → Option D} {exv : ExV} {pa ca : Addr} {W : WX} {n : Nat} {X : Cx} {fns : List Str}
/-- each item's own rule -/
def PEs (cf : Str → List D → PSt → Out D) (gt : Str → Option D) (exv : ExV) (pa ca : Addr) (W : WX) (X : Cx) : List Expr → E → Prop
  | [], .nil => True
  | x :: xs, .cons a r => PE X x (tV cf gt exv pa ca W X.K a) ∧ PEs cf gt exv pa ca W X xs r
  | _, _ => False
/-- the pairs of a display whose keys are texts -/
def tPs (K : PySem.W.Frag) (cf : Str → List D → PSt → Out D) (gt : Str → Option D) (exv : ExV) (pa ca : Addr) (W : WX) : List Str → E → List (TE × TE)
  | k :: ks, .cons a r => (fun _ H Q => Q (.str k) H, tV cf gt exv pa ca W K a) :: tPs K cf gt exv pa ca W ks r
  | _, _ => []
theorem pps_of {pos : Pos} : ∀ {ks : List Str} {es : E} {keys : List (Option Expr)} {vals : List Expr}, chkKeys ks keys = true → PEs cf gt exv pa ca W X vals es → ks.length = vals.length →
    PPs X pos keys vals (tPs X.K cf gt exv pa ca W ks es) := by
  intro ks
  induction ks with
  | nil =>
    intro es keys vals h1 h2 h3
    cases keys with
    | cons a b => simp [chkKeys] at h1
    | nil =>
      cases vals with
      | cons _ _ => cases h3
      | nil => exact pps_nil
  | cons k ks ih =>
    intro es keys vals h1 h2 h3
    unfold chkKeys at h1
    split at h1 <;> first | (cases h1; done) | skip
    · rename_i q; cases q
    rename_i k' ks' t u pos' es' q
    cases q
    simp only [Bool.and_eq_true, beq_iff_eq] at h1
    obtain ⟨⟨rfl, _⟩, h1⟩ := h1
    cases vals with
    | nil => cases h3
    | cons x xs =>
      cases es <;> first | exact h2.elim | skip
      exact pps_cons pe_str h2.1 (ih h1 h2.2 (by simpa using h3))
theorem keys_len {ks : List Str} : ∀ {keys : List (Option Expr)}, chkKeys ks keys = true → keys.length = ks.length ∧ keys.all (·.isSome) = true ∧ ks.Nodup := by
  induction ks with
  | nil =>
    intro keys h
    cases keys with
    | nil => simp
    | cons _ _ => simp [chkKeys] at h
  | cons k ks ih =>
    intro keys h
    unfold chkKeys at h
    split at h <;> first | (cases h; done) | skip
    · rename_i q; cases q
    rename_i q
    cases q
    simp only [Bool.and_eq_true, Bool.not_eq_true'] at h
    have := ih h.2
    refine ⟨by simp [this.1], by simpa using this.2.1, List.nodup_cons.mpr ⟨?_, this.2.2⟩⟩
    have := h.1.2
    simpa using this
def kvs_of (ks : List Str) (vs : List V) : List (Key × V) := (ks.zip vs).map fun q => (Sum.inr q.1, q.2)
theorem pairs_run {σ : L2.St} {B M : Ms} {env : SEnv} : ∀ {ks : List Str} {es : E} {vals : List Expr} {H : Hp} {p : PSt} {Q : List (V × V) → Hp → Prop}, PEs cf gt exv pa ca W X vals es → ks.length = vals.length → SOk X.K pa ca B M σ H env p → escOk (escE es) env →
    Holds (evalEs cf gt es (view env) p) (fun ds p' => ∀ vs H', Ext pa H H' → PoolOk pa ca H' p' → Reps X.K pa M H' ds vs → Q ((kvs_of ks vs).map fun q => (kV q.1, q.2)) H') (exQ exv pa ca W σ H) → tPairs (tPs X.K cf gt exv pa ca W ks es) σ H Q := by
  intro ks
  induction ks with
  | nil =>
    intro es vals H p Q hp hl S ec h
    cases vals with
    | cons _ _ => cases hl
    | nil =>
      cases es <;> first | exact hp.elim | skip
      unfold evalEs at h
      exact h [] H .refl S.pool .nil
  | cons k ks ih =>
    intro es vals H p Q hp hl S ec h
    cases vals with
    | nil => cases hl
    | cons x xs =>
      cases es <;> first | exact hp.elim | skip
      rename_i a r
      unfold evalEs at h
      rw [Holds.bind] at h
      refine ⟨B, M, env, p, S, ec.appl, h.imp (fun d1 p1 h1 v1 H1 x1 q1 r1 _ => ?_) fun _ _ _ z => z⟩
      rw [Holds.bind] at h1
      refine ih hp.2 (by simpa using hl) (S.ext x1 q1) ec.appr (h1.imp (fun d2 p2 h2 v2 H2 x2 q2 r2 => ?_) (exQ.mono x1))
      exact h2 (v1 :: v2) H2 (x1.trans x2) q2 (.cons (x2.rep S.mpa r1) r2)
theorem merge_nodup : ∀ {kvs acc : List (Key × V)}, ((acc ++ kvs).map (·.1)).Nodup → mergeK acc kvs = acc ++ kvs := by
  intro kvs
  induction kvs with
  | nil => intro acc _; simp [mergeK]
  | cons q r ih =>
    intro acc h
    have e : putK acc q.1 q.2 = acc ++ [q] := by
      refine putK_new _ ?_
      unfold valV
      rw [Option.map_eq_none_iff, List.find?_eq_none]
      intro y hy
      simp only [decide_eq_true_eq]
      intro z
      rw [List.map_append, List.nodup_append] at h
      exact h.2.2 y.1 (List.mem_map_of_mem hy) q.1 (by simp) z
    show mergeK (putK acc q.1 q.2) r = _
    rw [e, ih (by simpa using h)]
    simp
theorem val_of : ∀ {ks : List Str} {ds : List D} {vs : List V} {M : Ms} {H : Hp} {K : PySem.W.Frag} {s : Str} {d : D}, Reps K pa M H ds vs → (ks.zip ds).lookup s = some d → ∃ v, valV (kvs_of ks vs) (Sum.inr s) = some v ∧ Rep K pa M H d v := by
  intro ks
  induction ks with
  | nil => intro ds vs M H K s d _ e; simp at e
  | cons k ks ih =>
    intro ds vs M H K s d r e
    cases ds with
    | nil => simp at e
    | cons d1 ds =>
      unfold Reps at r
      obtain ⟨v, w, rfl, h1, h2⟩ := r
      rw [List.zip_cons_cons, List.lookup_cons] at e
      by_cases hk : s = k
      · subst hk
        simp at e
        subst e
        exact ⟨v, valV_pos (p := (Sum.inr s, v)) rfl, h1⟩
      · have hb : (s == k) = false := by simpa using hk
        rw [hb] at e
        obtain ⟨v', e1, e2⟩ := ih h2 e
        refine ⟨v', ?_, e2⟩
        show valV ((Sum.inr k, v) :: kvs_of ks w) _ = _
        rw [valV_neg (p := (Sum.inr k, v)) (fun z => hk (by cases z; rfl))]
        exact e1
mutual
theorem Rep.mono2 {M M' : Ms} {H H' : Hp} {K : PySem.W.Frag} (k : ∀ b vs, (H b = some (.tup vs) → ¬ M b → ¬ M' b ∧ H' b = some (.tup vs)) ∧ (H b = some (.lst vs) → ¬ M b → ¬ M' b ∧ H' b = some (.lst vs))) : ∀ {d : D} {v : V}, D.noDict d = true → Rep K pa M H d v → Rep K pa M' H' d v
  | .non, _, _, h => by unfold Rep at *; exact h
  | .bl b, _, _, h => by unfold Rep at *; exact h
  | .int i, _, _, h => by unfold Rep at *; exact h
  | .str s, _, _, h => by unfold Rep at *; exact h
  | .tup ds, _, n, h => by
    unfold Rep at *
    obtain ⟨a, vs, e, h1, h2⟩ := h
    unfold D.noDict at n
    exact ⟨a, vs, e, (k a vs).1 h1.2 h1.1, Reps.mono2 k n h2⟩
  | .lst ds, _, n, h => by
    unfold Rep at *
    obtain ⟨a, vs, e, h1, h2⟩ := h
    unfold D.noDict at n
    exact ⟨a, vs, e, (k a vs).2 h1.2 h1.1, Reps.mono2 k n h2⟩
  | .dict _ _ _, _, n, _ => by unfold D.noDict at n; cases n
  | .ctup _, _, _, h => by unfold Rep at *; exact h
  | .pool, _, _, h => by unfold Rep at *; exact h
theorem Reps.mono2 {M M' : Ms} {H H' : Hp} {K : PySem.W.Frag} (k : ∀ b vs, (H b = some (.tup vs) → ¬ M b → ¬ M' b ∧ H' b = some (.tup vs)) ∧ (H b = some (.lst vs) → ¬ M b → ¬ M' b ∧ H' b = some (.lst vs))) : ∀ {ds : List D} {vs : List V}, D.noDictL ds = true → Reps K pa M H ds vs → Reps K pa M' H' ds vs
  | [], _, _, h => by unfold Reps at *; exact h
  | d :: ds, _, n, h => by
    unfold Reps at *
    obtain ⟨v, r, e, h1, h2⟩ := h
    unfold D.noDictL at n
    rw [Bool.and_eq_true] at n
    exact ⟨v, r, e, Rep.mono2 k n.1 h1, Reps.mono2 k n.2 h2⟩
end
theorem s_pick {ks : List Str} {es k : E} {keys : List (Option Expr)} {vals : List Expr} {i : Expr} {pos pos2 : Pos} (ok : XOk cf gt fns exv pa ca W n X) (hk : chkKeys ks keys = true) (he : PEs cf gt exv pa ca W X vals es) (hi : PE X i (tC cf gt exv pa ca W X.K k))
    (hs : notSlice i = true) (h15 : keys.length ≤ 15) (h0 : ks ≠ []) (hl : ks.length = vals.length) : PE X (.Subscript (.Dict keys vals pos2) i pos) (tV cf gt exv pa ca W X.K (.pick ks es k)) := by
  have ns : NoSl i := by
    cases i <;> first | (cases hs; done) | exact fun _ _ => rfl
  obtain ⟨hkl, hka, hkn⟩ := keys_len hk
  have hu : X.A.units + 1 < cLine := by have := ok.room.un; omega
  refine (pe_dget hu (pe_disp (pps_of hk he hl) hka (by omega) (fun z => by rw [z] at hkl; cases ks <;> first | exact h0 rfl | cases hkl) h15) hi ns).imp fun σ H Q ⟨B, M, env, p, S, ec, h⟩ => ?_
  intro q hq
  have S0 := S.ext (.of_same (same_new (o := .dK []) hq)) (pool_ext S.pool (same_new hq))
  have x0 : Ext pa H (upd H q (.dK [])) := .of_same (same_new hq)
  unfold evalE at h
  rw [Holds.bind] at h
  refine pairs_run he hl S0 ec (h.imp (fun ds p1 h1 vs H1 x1 q1 r1 => ?_) (exQ.mono x0))
  have hqp : q ≠ pa := fun z => by rw [z] at hq; rw [S.pool.hp] at hq; cases hq
  have eq1 : H1 q = some (.dK []) := x1 q _ hqp upd_same
  refine ⟨eq1, kvs_of ks vs, rfl, ?_, ?_⟩
  · unfold kvs_of
    rw [List.length_map, List.length_zip]
    omega
  have x2 : Ext pa H (upd H1 q (.dK (mergeK [] (kvs_of ks vs)))) := fun b u hb e => by
    rw [upd_ne (ne_of_none e hq)]
    exact x1 b u hb (same_new hq b u e)
  have q2 : PoolOk pa ca (upd H1 q (.dK (mergeK [] (kvs_of ks vs)))) p1 := ⟨q1.ne, q1.le, by rw [upd_ne (Ne.symm hqp)]; exact q1.hp, by rw [upd_ne (fun z => by rw [← z] at hq; rw [S.pool.hc] at hq; cases hq)]; exact q1.hc⟩
  rw [Holds.bind] at h1
  refine ⟨B, M, env, p1, S.ext x2 q2, h1.imp (fun y p2 h2 v2 H2 x3 q3 r3 => ?_) (exQ.mono x2)⟩
  obtain ⟨d, e, kk⟩ := h2.lift
  cases y <;> first | (cases e; done) | skip
  rename_i s
  cases r3.str
  change (if ks.length = ds.length ∧ D.noDictL ds = true then (ks.zip ds).lookup s else none) = some d at e
  have hlen2 : ks.length = ds.length ∧ D.noDictL ds = true := by
    by_cases z : ks.length = ds.length ∧ D.noDictL ds = true
    · exact z
    · rw [if_neg z] at e; cases e
  rw [if_pos hlen2] at e
  have hlen := hlen2.1
  have r2 : Reps X.K pa M (upd H1 q (.dK (mergeK [] (kvs_of ks vs)))) ds vs := Reps.mono2 (M := M) (M' := M) (H := H1) (K := X.K) (k := fun b us => ⟨fun e g => ⟨g, by rw [upd_ne (fun z => by rw [z, eq1] at e; cases e)]; exact e⟩, fun e g => ⟨g, by rw [upd_ne (fun z => by rw [z, eq1] at e; cases e)]; exact e⟩⟩) hlen2.2 r1
  have em : mergeK [] (kvs_of ks vs) = kvs_of ks vs := by
    rw [merge_nodup]
    · rfl
    · have : (([] : List (Key × V)) ++ kvs_of ks vs).map (·.1) = (ks.map Sum.inr : List Key).take vs.length := by
        rw [List.nil_append]
        unfold kvs_of
        rw [List.map_map]
        have : ((fun x : Key × V => x.1) ∘ fun q : Str × V => ((Sum.inr q.1 : Key), q.2)) = (Sum.inr ∘ Prod.fst) := rfl
        rw [this, ← List.map_map, List.map_fst_zip (by rw [r1.length]; omega), r1.length, ← hlen, ← List.length_map (f := (Sum.inr : Str → Key)), List.take_length]
      rw [this]
      exact (List.Pairwise.map _ (fun a b z w => z (by cases w; rfl)) hkn).sublist (List.take_sublist _ _)
  rw [em] at r2 x2 q2 x3
  obtain ⟨v, e1, e2⟩ := val_of r2 e
  have e3 : H2 q = some (.dK (kvs_of ks vs)) := x3 q _ hqp upd_same
  refine ⟨q, v, rfl, ?_, kk v H2 (x2.trans x3) q3 (x3.rep (S.sub _ S.bp) e2) fun z => by cases z⟩
  exact .inl ⟨_, Sum.inr s, .inl e3, rfl, e1.symm⟩
end
end PD

namespace PD
open PySem PySem.Spec PyProof.Rows L2
section
variable {cf : Str → List D → PSt → Out D} {gt : Str → Option D} {exv : ExV} {pa ca : Addr} {W : WX} {n : Nat} {X : Cx} {fns : List Str}
variable {A B' C R : E} {x y z : Expr} {xs : List Expr} {pos : Pos}
/-! ### more things that a for walks -/
theorem it_rev {K : PySem.W.Frag} {a : Addr} {vs : List V} {ds : List D} {B M : Ms} {H : Hp} (h : LstAt M H a vs) (r : Reps K pa M H ds vs) : ItOk pa K (Itv K a vs.length) B M H ds.reverse := by
  refine ⟨_, _, (by rw [List.length_reverse, ← r.length]; exact walk_rev (K := K) (a := a) (xs := vs)), fun M2 H2 k => ?_, fun i H2 M2 x H3 k al _ hi y => ?_⟩
  · exact .inl (.inl (k.1 _ _ h.1 h.2).2)
  · obtain ⟨rfl, e⟩ := y
    obtain ⟨d, e2, r2⟩ := (r.mono k.1).get' e
    refine ⟨Same.refl _, d, ?_, r2⟩
    rw [List.length_reverse] at hi
    rw [List.getElem?_reverse hi, ← r.length]
    exact e2
theorem walk_revT {K : PySem.W.Frag} {a : Addr} {xs : List V} : Walk (RT.ItvT K a xs.length) xs.length (fun H => SqT K H a xs) (fun i H x H' => H' = H ∧ xs[xs.length - 1 - i]? = some x) :=
  ⟨fun i _ hi q => ⟨hi, xs, xs[xs.length - 1 - i]'(by omega), q, by simp [show xs.length - 1 - i < xs.length by omega]⟩, fun _ _ => Nat.le_refl _, fun _ _ _ _ _ q y => ⟨y.1, y.2 xs q⟩⟩
theorem it_revT {K : PySem.W.Frag} {a : Addr} {vs : List V} {ds : List D} {B M : Ms} {H : Hp} (h : TupAt M H a vs) (r : Reps K pa M H ds vs) : ItOk pa K (RT.ItvT K a vs.length) B M H ds.reverse := by
  refine ⟨_, _, (by rw [List.length_reverse, ← r.length]; exact walk_revT (K := K) (a := a) (xs := vs)), fun M2 H2 k => ?_, fun i H2 M2 x H3 k al _ hi y => ?_⟩
  · exact (h.mono k.1).sq
  · obtain ⟨rfl, e⟩ := y
    obtain ⟨d, e2, r2⟩ := (r.mono k.1).get' e
    refine ⟨Same.refl _, d, ?_, r2⟩
    rw [List.length_reverse] at hi
    rw [List.getElem?_reverse hi, ← r.length]
    exact e2
theorem it_rangeC {K : PySem.W.Frag} {B M : Ms} {H : Hp} {lo c : Int} {k : Nat} {ds : List D} (hd : ds = (List.range k).map fun (i : Nat) => .int (lo + (i : Int) * c)) : ItOk pa K (Itc lo c k) B M H ds := by
  subst hd
  have hl : ((List.range k).map fun (i : Nat) => D.int (lo + (i : Int) * c)).length = k := by simp
  refine ⟨_, _, (by rw [hl]; exact walk_rangeC), fun _ _ _ => trivial, fun i H2 M2 x H3 _ _ _ hi y => ?_⟩
  obtain ⟨rfl, rfl⟩ := y
  rw [hl] at hi
  refine ⟨Same.refl _, .int (lo + i * c), ?_, rep_int⟩
  simp [hi]
theorem zipL_get : ∀ {xs ys : List D} {i : Nat} {x y : D}, xs[i]? = some x → ys[i]? = some y → (zipL xs ys)[i]? = some (.tup [x, y])
  | [], _, _, _, _, h, _ => by simp at h
  | _ :: _, [], _, _, _, _, h => by simp at h
  | x :: xs, y :: ys, 0, _, _, h1, h2 => by
    simp at h1 h2
    subst h1 h2
    rfl
  | x :: xs, y :: ys, i + 1, _, _, h1, h2 => zipL_get (xs := xs) (ys := ys) (i := i) (by simpa using h1) (by simpa using h2)
theorem zipL_len : ∀ xs ys : List D, (zipL xs ys).length = min xs.length ys.length
  | [], _ => by simp [zipL]
  | _ :: _, [] => by simp [zipL]
  | x :: xs, y :: ys => by
    show (zipL xs ys).length + 1 = _
    rw [zipL_len xs ys]
    simp only [List.length_cons]
    omega
theorem it_zip {K : PySem.W.Frag} {J : It} {G : Hp → Prop} {vs ws : List V} {ds es : List D} {B M : Ms} {H : Hp} (wk : Walk J (min vs.length ws.length) G (YPair (fun i => vs[i]?) (fun i => ws[i]?))) (hG : ∀ M2 H2, Keep pa B M H M2 H2 → G H2) (r : Reps K pa M H ds vs) (r' : Reps K pa M H es ws) : ItOk pa K J B M H (zipL ds es) := by
  refine ⟨G, _, (by rw [zipL_len, ← r.length, ← r'.length]; exact wk), hG, fun i H2 M2 x H3 k al _ hi y => ?_⟩
  obtain ⟨T, u, v, rfl, hT, rfl, e1, e2⟩ := y
  obtain ⟨d, f1, g1⟩ := (r.mono k.1).get' e1
  obtain ⟨e, f2, g2⟩ := (r'.mono k.1).get' e2
  exact ⟨same_new hT, .tup [d, e], zipL_get f1 f2, new_tup al hT (.cons g1 (.one g2))⟩
theorem walk_zipT {K : PySem.W.Frag} {a b : Addr} {xs ys : List V} : Walk (RZ.ItzT K a b) (min xs.length ys.length) (fun H => SqT K H a xs ∧ SqT K H b ys) (YPair (fun i => xs[i]?) (fun i => ys[i]?)) := by
  refine ⟨fun i _ hi q => ?_, fun _ q => ⟨xs, ys, q.1, q.2, by omega⟩, fun i H v H' _ q y => ?_⟩
  · have h1 : i < xs.length := by omega
    have h2 : i < ys.length := by omega
    exact ⟨xs, ys, xs[i], ys[i], q.1, q.2, by simp [h1], by simp [h2]⟩
  · obtain ⟨T, x, z, h1, h2, h3, h4, h5⟩ := y
    exact ⟨T, x, z, h1, h2, h3, h4 xs q.1, h5 ys q.2⟩
theorem pi_revd {t g e : Expr} {sc : Scope} (ok : XOk cf gt fns exv pa ca W n X) (hsc : X.env.scope = sc) (hn : nmB sc "reversed" g = true) (hs : notStar e = true) (h : PE X e (tV cf gt exv pa ca W X.K A)) :
    PI X t (.Call g [e] [] pos) (tI cf gt exv pa ca W X.K (.revd A)) := by
  obtain ⟨p0, rfl, hg, hd, h0⟩ := gl_of hsc hn
  refine (RT.pi_revA hg ok.reversed h (star_of hs)).imp fun σ H R' ⟨B, M, env, p, S, es, hw⟩ => ?_
  simp only [evalE, Holds.bind] at hw
  refine ⟨B, M, env, p, S, es, hw.imp (fun d p1 h1 v H1 x1 q1 r1 _ => ?_) fun _ _ _ z => z⟩
  cases d <;> first | exact h1.elim | skip
  · obtain ⟨ds, e, k⟩ := h1
    cases e
    obtain ⟨a, vs, rfl, g1, g2⟩ := r1.tup
    exact ⟨a, vs, rfl, .inr ⟨g1.sq, k _ H1 x1 q1 (it_revT g1 g2)⟩⟩
  · obtain ⟨ds, e, k⟩ := h1
    cases e
    obtain ⟨a, vs, rfl, g1, g2⟩ := r1.lst
    exact ⟨a, vs, rfl, .inl ⟨.inl (.inl g1.2), k _ H1 x1 q1 (it_rev g1 g2)⟩⟩
theorem pi_revr {t g g2 e : Expr} {sc : Scope} {p2 : Pos} (ok : XOk cf gt fns exv pa ca W n X) (hsc : X.env.scope = sc) (hn : nmB sc "reversed" g = true) (hn2 : nmB sc "range" g2 = true) (hs : notStar e = true) (h : PE X e (tC cf gt exv pa ca W X.K A)) :
    PI X t (.Call g [.Call g2 [e] [] p2] [] pos) (tI cf gt exv pa ca W X.K (.revr A)) := by
  obtain ⟨p0, rfl, hg, hd, h0⟩ := gl_of hsc hn
  obtain ⟨p1, rfl, hg2, hd2, h02⟩ := gl_of hsc hn2
  refine (pi_revR hg ok.reversed (prg_1 hg2 ok.range h (star_of hs)) rfl).imp fun σ H R' ⟨B, M, env, p, S, es, hw⟩ => ?_
  simp only [evalE, Holds.bind] at hw
  refine ⟨B, M, env, p, S, hw.imp (fun d p1 h1 v H1 x1 q1 r1 => ?_) fun _ _ _ z => z⟩
  cases d <;> first | exact h1.elim | skip
  rename_i i
  cases r1.int
  by_cases hz : in62 i = true
  · simp only [hz, if_true] at h1
    obtain ⟨ds, e, k⟩ := h1
    cases e
    refine ⟨i, rfl, by decide, by decide, (in62_of hz).1, (in62_of hz).2, k _ H1 x1 q1 (it_rangeC ?_)⟩
    rw [Int.sub_zero]
    apply List.ext_getElem?
    intro j
    by_cases hj : j < i.toNat
    · rw [List.getElem?_reverse (by simp [rangeL]; omega), List.getElem?_map, List.getElem?_range hj]
      have hl : (rangeL 0 i.toNat).length = i.toNat := by simp [rangeL]
      rw [hl]
      unfold rangeL
      rw [List.getElem?_map, List.getElem?_range (by omega)]
      simp only [Option.map_some, Option.some.injEq, D.int.injEq]
      omega
    · rw [List.getElem?_eq_none (by simp [rangeL]; omega), List.getElem?_eq_none (by simp; omega)]
  · simp only [hz] at h1
    exact h1.elim
end
end PD

namespace PD
open PySem PySem.Spec PyProof.Rows L2
section
variable {cf : Str → List D → PSt → Out D} {gt : Str → Option D} {exv : ExV} {pa ca : Addr} {W : WX} {n : Nat} {X : Cx} {fns : List Str}
variable {A B' C R : E} {x y z : Expr} {xs : List Expr} {pos : Pos}
/-! ### the heap with a dict locked or unlocked -/
def DictHO : HO → Prop
  | .dK _ => True
  | .dT _ => True
  | _ => False
theorem DictO.ho {t : Bool} {ks : List D} {vs : List V} {u : HO} (h : DictO t ks vs u) : DictHO u := by cases u <;> first | exact trivial | exact h.elim
/-- H' is H but for how the dict at a is held -/
structure Swap (a : Addr) (H H' : Hp) : Prop where
  out : ∀ b, b ≠ a → H' b = H b
  rd : ∀ w, DictHO w → Rd H a w → Rd H' a w
  nt : ∀ vs, H a ≠ some (.tup vs)
  nl : ∀ vs, H a ≠ some (.lst vs)
  ex : H' a ≠ none
  nt' : ∀ vs, H' a ≠ some (.tup vs)
theorem Swap.keepT {a : Addr} {H H' : Hp} (s : Swap a H H') {b : Addr} {vs : List V} (h : H b = some (.tup vs)) : H' b = some (.tup vs) := by
  rw [s.out b fun z => s.nt vs (z ▸ h)]; exact h
theorem Swap.keepL {a : Addr} {H H' : Hp} (s : Swap a H H') {b : Addr} {vs : List V} (h : H b = some (.lst vs)) : H' b = some (.lst vs) := by
  rw [s.out b fun z => s.nl vs (z ▸ h)]; exact h
theorem Swap.keepR {a : Addr} {H H' : Hp} (s : Swap a H H') {b : Addr} {w : HO} (hw : DictHO w) (h : Rd H b w) : Rd H' b w := by
  by_cases z : b = a
  · subst z; exact s.rd w hw h
  · unfold Rd
    rw [s.out b z]
    exact h
mutual
theorem Rep.swap {K : PySem.W.Frag} {M : Ms} {a : Addr} {H H' : Hp} (s : Swap a H H') : ∀ {d : D} {v : V}, Rep K pa M H d v → Rep K pa M H' d v
  | .non, _, h => by unfold Rep at *; exact h
  | .bl b, _, h => by unfold Rep at *; exact h
  | .int i, _, h => by unfold Rep at *; exact h
  | .str _, _, h => by unfold Rep at *; exact h
  | .tup ds, _, h => by
    unfold Rep at *
    obtain ⟨b, vs, e, h1, h2⟩ := h
    exact ⟨b, vs, e, ⟨h1.1, s.keepT h1.2⟩, Reps.swap s h2⟩
  | .lst ds, _, h => by
    unfold Rep at *
    obtain ⟨b, vs, e, h1, h2⟩ := h
    exact ⟨b, vs, e, ⟨h1.1, s.keepL h1.2⟩, Reps.swap s h2⟩
  | .dict t ks ds, _, h => by
    unfold Rep at *
    obtain ⟨b, u, vs, e, h1, h2, h3, h4⟩ := h
    exact ⟨b, u, vs, e, h1, s.keepR h3.ho h2, h3, Reps.swap s h4⟩
  | .ctup _, _, h => by unfold Rep at *; exact h
  | .pool, _, h => by unfold Rep at *; exact h
theorem Reps.swap {K : PySem.W.Frag} {M : Ms} {a : Addr} {H H' : Hp} (s : Swap a H H') : ∀ {ds : List D} {vs : List V}, Reps K pa M H ds vs → Reps K pa M H' ds vs
  | [], _, h => by unfold Reps at *; exact h
  | d :: ds, _, h => by
    unfold Reps at *
    obtain ⟨v, r, e, h1, h2⟩ := h
    exact ⟨v, r, e, Rep.swap s h1, Reps.swap s h2⟩
end
theorem PoolOk.swap {a : Addr} {H H' : Hp} {p : PSt} (s : Swap a H H') (q : PoolOk pa ca H p) : PoolOk pa ca H' p := ⟨q.ne, q.le, s.keepL q.hp, s.keepL q.hc⟩
theorem SOk.swap {K : PySem.W.Frag} {B M : Ms} {σ : L2.St} {env : SEnv} {p : PSt} {a : Addr} {H H' : Hp} (s : Swap a H H') (na : ¬ M a) (S : SOk K pa ca B M σ H env p) : SOk K pa ca B M σ H' env p := by
  have ne : ∀ b, M b → H' b = H b := fun b hb => s.out b fun z => na (z ▸ hb)
  refine ⟨S.pool.swap s, S.bp, S.bc, S.sub, fun b hb => by rw [ne b hb]; exact S.al b hb, fun b vs hb => by rw [ne b hb]; exact S.nt b vs hb, fun i sl e => ?_, S.sep, S.len⟩
  have q := S.sl i sl e
  cases sl with
  | no => trivial
  | val d => obtain ⟨v, h1, h2⟩ := q; exact ⟨v, h1, h2.swap s⟩
  | own d =>
    obtain ⟨b, vs, ds, u, g0, g1, g2, g3, g4, g5⟩ := q
    exact ⟨b, vs, ds, u, g0, g1, g2, g3, by rw [ne b g2]; exact g4, g5.swap s⟩
theorem swap_lock {a : Addr} {u : HO} {o : Obj} {H : Hp} (h : H a = some u) (hu : DictHO u) : Swap a H (upd H a (.frz o u)) := by
  refine ⟨fun b hb => upd_ne hb, fun w _ hw => ?_, fun vs z => ?_, fun vs z => ?_, by rw [upd_same]; simp, fun vs => by rw [upd_same]; simp⟩
  · rcases hw with hw | ⟨o', hw⟩
    · rw [h] at hw
      cases hw
      exact .inr ⟨o, upd_same⟩
    · rw [h] at hw
      cases hw
      exact hu.elim
  · rw [h] at z; cases z; exact hu
  · rw [h] at z; cases z; exact hu
theorem swap_unlock {a : Addr} {u : HO} {o : Obj} {H : Hp} (h : H a = some (.frz o u)) (hu : DictHO u) : Swap a H (upd H a u) := by
  refine ⟨fun b hb => upd_ne hb, fun w dw hw => ?_, fun vs z => ?_, fun vs z => ?_, by rw [upd_same]; simp, fun vs => ?_⟩
  · rcases hw with hw | ⟨o', hw⟩
    · rw [h] at hw
      cases hw
      exact dw.elim
    · rw [h] at hw
      cases hw
      exact .inl upd_same
  · rw [h] at z; cases z
  · rw [h] at z; cases z
  · rw [upd_same]
    intro z
    cases z
    exact hu
/-- what walks the keys of a dict -/
theorem it_keys {K : PySem.W.Frag} {B M : Ms} {H : Hp} {a : Addr} {o : Obj} {t : Bool} {ks : List D} {vs : List V} {u : HO} (na : ¬ M a) (h : H a = some (.frz o u)) (ho : DictO t ks vs u) :
    ∃ J, (∀ (X : Cx) (R : It → Hp → Prop) (td : TE) (σ : L2.St), (∀ Q, Q (V.ref a) H → td σ H Q) → R J H → iKeys td σ H R) ∧ ItOk pa K J B M H ks := by
  cases u <;> first | exact ho.elim | skip
  · rename_i kvs
    obtain ⟨rfl, rfl, rfl, nd⟩ := ho
    refine ⟨Itk a o kvs, fun X R td σ ht hr => ht _ ⟨a, o, rfl, .inl ⟨kvs, h, hr⟩⟩, ⟨_, _, by rw [List.length_map]; exact walk_keys, fun M2 H2 k => (k.1 _ _ na h).2, fun i H2 M2 x H3 k al nt hi y => ?_⟩⟩
    obtain ⟨rfl, key, v, e, rfl⟩ := y
    exact ⟨Same.refl _, kD key, by rw [List.getElem?_map, e]; rfl, kD_rep⟩
  · rename_i kvs
    obtain ⟨rfl, rfl, rfl, nd⟩ := ho
    refine ⟨Itkt a o kvs, fun X R td σ ht hr => ht _ ⟨a, o, rfl, .inr ⟨kvs, h, hr⟩⟩, ⟨_, _, by rw [List.length_map]; exact walk_keysT, fun M2 H2 k => (k.1 _ _ na h).2, fun i H2 M2 x H3 k al nt hi y => ?_⟩⟩
    obtain ⟨rfl, key, v, q, e, rfl, hq⟩ := y
    refine ⟨Same.refl _, .tup (key.map kD), by rw [List.getElem?_map, e]; rfl, ?_⟩
    unfold Rep
    exact ⟨q, _, rfl, ⟨fun z => nt q _ z hq, hq⟩, kD_reps⟩

/-! ### expressions with dicts -/
theorem s_dnew {t : Bool} : PE X (.Dict [] [] pos) (tV cf gt exv pa ca W X.K (.dnew t)) := by
  cases t with
  | false =>
    refine pe_dnewK.imp fun σ H Q ⟨B, M, env, p, S, _, h⟩ q hq => ?_
    unfold evalE at h
    refine h (.ref q) _ (.of_same (same_new hq)) (pool_ext S.pool (same_new hq)) ?_ fun _ => ⟨q, .dK [], [], rfl, hq, upd_same, ⟨rfl, rfl, rfl, by simp⟩, .nil⟩
    unfold Rep
    exact ⟨q, .dK [], [], rfl, new_not S.al hq, .inl upd_same, ⟨rfl, rfl, rfl, by simp⟩, .nil⟩
  | true =>
    refine pe_dnewT.imp fun σ H Q ⟨B, M, env, p, S, _, h⟩ q hq => ?_
    unfold evalE at h
    refine h (.ref q) _ (.of_same (same_new hq)) (pool_ext S.pool (same_new hq)) ?_ fun _ => ⟨q, .dT [], [], rfl, hq, upd_same, ⟨rfl, rfl, rfl, by simp⟩, .nil⟩
    unfold Rep
    exact ⟨q, .dT [], [], rfl, new_not S.al hq, .inl upd_same, ⟨rfl, rfl, rfl, by simp⟩, .nil⟩
theorem DictO.isD {t : Bool} {ks : List D} {vs : List V} {u : HO} {a : Addr} {H : Hp} (h : DictO t ks vs u) (r : Rd H a u) : IsD H a := by
  cases u <;> first | exact h.elim | exact .inl ⟨_, r⟩ | exact .inr ⟨_, r⟩
theorem base_of {o : Expr} {m : Str} {env : PySem.Env} (h : nameE o = true) : attributeBase o m env (eval o env) = eval o env := by
  cases o <;> first | (cases h; done) | rfl
theorem m1_of {o e : Expr} {m : Str} {ap cp : Pos} (h : nameE o = true) (hl : (ap.endLine == cp.line) = true) (hs : notStar e = true) : M1 X o m ap e cp :=
  ⟨base_of h, by rw [star_of hs]; rfl, hl, by rw [star_of hs]; rfl⟩
theorem m2_of {o e f : Expr} {m : Str} {ap cp : Pos} (h : nameE o = true) (hl : (ap.endLine == cp.line) = true) (hs : notStar e = true) (hs' : notStar f = true) : M2 X o m ap e f cp :=
  ⟨base_of h, by rw [star_of hs, star_of hs']; rfl, hl, by rw [star_of hs, star_of hs']; rfl⟩
theorem s_dget {ap : Pos} (ok : XOk cf gt fns exv pa ca W n X) (hn : nameE x = true) (hl : (ap.endLine == pos.line) = true) (hs : notStar y = true) (ha : PE X x (tB cf gt exv pa ca W X.K A)) (hb : PE X y (tC cf gt exv pa ca W X.K B')) :
    PE X (.Call (.Attribute x "get" ap) [y] [] pos) (tV cf gt exv pa ca W X.K (.dget A B')) := by
  refine (pe_dget1 (by have := units_of ok; omega) ha hb (m1_of hn hl hs)).imp fun σ H Q ⟨B, M, env, p, S, es, h⟩ => ?_
  unfold evalE at h
  rw [Holds.bind] at h
  refine ⟨B, M, env, p, S, es, h.imp (fun d1 p1 h1 v1 H1 x1 q1 r1 => ?_) fun _ _ _ z => z⟩
  cases d1 <;> first | exact False.elim h1 | skip
  rename_i t ks ds
  obtain ⟨a, u, vs, rfl, na, g2, g3, g4⟩ := r1.dict
  rw [Holds.bind] at h1
  have S1 := S.ext x1 q1
  refine ⟨a, rfl, g3.isD g2, B, M, env, p1, S1, h1.imp (fun d2 p2 h2 v2 H2 x2 q2 r2 => ?_) (exQ.mono x1)⟩
  have g2 := x2.rd (fun z => na (by rw [z]; exact S.bp)) g2
  have g4 := x2.reps S.mpa g4
  split at h2 <;> first | exact h2.elim | skip
  rename_i hk
  rcases dict_get g3 g2 g4 hk r2 with ⟨d', v, e1, e2, e3, _⟩ | ⟨e1, e2, _⟩
  · rw [e1] at h2
    exact ⟨_, e2, h2 v H2 (x1.trans x2) q2 e3 fun z => by cases z⟩
  · rw [e1] at h2
    exact ⟨_, e2, h2 .non H2 (x1.trans x2) q2 rep_non fun z => by cases z⟩
theorem s_dget2 {ap : Pos} {C : E} (ok : XOk cf gt fns exv pa ca W n X) (hn : nameE x = true) (hl : (ap.endLine == pos.line) = true) (hs : notStar y = true) (hs' : notStar z = true) (ha : PE X x (tB cf gt exv pa ca W X.K A)) (hb : PE X y (tC cf gt exv pa ca W X.K B')) (hc : PE X z (tV cf gt exv pa ca W X.K C)) :
    PE X (.Call (.Attribute x "get" ap) [y, z] [] pos) (tV cf gt exv pa ca W X.K (.dget2 A B' C)) := by
  refine (pe_dget2 (by have := units_of ok; omega) ha hb hc (m2_of hn hl hs hs')).imp fun σ H Q ⟨B, M, env, p, S, es, h⟩ => ?_
  unfold evalE at h
  rw [Holds.bind] at h
  refine ⟨B, M, env, p, S, es.appl, h.imp (fun d1 p1 h1 v1 H1 x1 q1 r1 => ?_) fun _ _ _ z => z⟩
  cases d1 <;> first | exact False.elim h1 | skip
  rename_i t ks ds
  obtain ⟨a, u, vs, rfl, na, g2, g3, g4⟩ := r1.dict
  rw [Holds.bind] at h1
  have S1 := S.ext x1 q1
  refine ⟨a, rfl, g3.isD g2, B, M, env, p1, S1, h1.imp (fun d2 p2 h2 v2 H2 x2 q2 r2 => ?_) (exQ.mono x1)⟩
  rw [Holds.bind] at h2
  refine ⟨B, M, env, p2, S1.ext x2 q2, es.appr, h2.imp (fun d3 p3 h3 v3 H3 x3 q3 r3 _ => ?_) (exQ.mono (x1.trans x2))⟩
  have g2 := (x2.trans x3).rd (fun z => na (by rw [z]; exact S.bp)) g2
  have g4 := (x2.trans x3).reps S.mpa g4
  have r2 := x3.rep S.bp r2
  split at h3 <;> first | exact h3.elim | skip
  rename_i hk
  rcases dict_get g3 g2 g4 hk r2 with ⟨d', v, e1, e2, e3, _⟩ | ⟨e1, e2, _⟩
  · rw [e1] at h3
    exact ⟨_, e2, h3 v H3 (x1.trans (x2.trans x3)) q3 e3 fun z => by cases z⟩
  · rw [e1] at h3
    exact ⟨_, e2, h3 v3 H3 (x1.trans (x2.trans x3)) q3 r3 fun z => by cases z⟩
mutual
/-- a dict's own place does not matter to what holds no dict -/
theorem Rep.unfz {K : PySem.W.Frag} {M M' : Ms} {a : Addr} {H : Hp} (hm : ∀ b, M b → M' b ∨ b = a) (nt : ∀ vs, H a ≠ some (.tup vs)) (nl : ∀ vs, H a ≠ some (.lst vs)) : ∀ {d : D} {v : V}, D.noDict d = true → Rep K pa M' H d v → Rep K pa M H d v
  | .non, _, _, h => by unfold Rep at *; exact h
  | .bl b, _, _, h => by unfold Rep at *; exact h
  | .int i, _, _, h => by unfold Rep at *; exact h
  | .str _, _, _, h => by unfold Rep at *; exact h
  | .tup ds, _, n, h => by
    unfold D.noDict at n
    unfold Rep at *
    obtain ⟨b, vs, e, h1, h2⟩ := h
    exact ⟨b, vs, e, ⟨fun z => (hm b z).elim h1.1 fun z => nt vs (z ▸ h1.2), h1.2⟩, Reps.unfz hm nt nl n h2⟩
  | .lst ds, _, n, h => by
    unfold D.noDict at n
    unfold Rep at *
    obtain ⟨b, vs, e, h1, h2⟩ := h
    exact ⟨b, vs, e, ⟨fun z => (hm b z).elim h1.1 fun z => nl vs (z ▸ h1.2), h1.2⟩, Reps.unfz hm nt nl n h2⟩
  | .dict _ _ _, _, n, _ => by unfold D.noDict at n; cases n
  | .ctup _, _, _, h => by unfold Rep at *; exact h
  | .pool, _, _, h => by unfold Rep at *; exact h
theorem Reps.unfz {K : PySem.W.Frag} {M M' : Ms} {a : Addr} {H : Hp} (hm : ∀ b, M b → M' b ∨ b = a) (nt : ∀ vs, H a ≠ some (.tup vs)) (nl : ∀ vs, H a ≠ some (.lst vs)) : ∀ {ds : List D} {vs : List V}, D.noDictL ds = true → Reps K pa M' H ds vs → Reps K pa M H ds vs
  | [], _, _, h => by unfold Reps at *; exact h
  | d :: ds, _, n, h => by
    unfold D.noDictL at n
    rw [Bool.and_eq_true] at n
    unfold Reps at *
    obtain ⟨v, r, e, h1, h2⟩ := h
    exact ⟨v, r, e, Rep.unfz hm nt nl n.1 h1, Reps.unfz hm nt nl n.2 h2⟩
end
theorem noDictL_app : ∀ {xs ys : List D}, D.noDictL (xs ++ ys) = (D.noDictL xs && D.noDictL ys)
  | [], _ => by simp [D.noDictL]
  | x :: xs, ys => by simp [D.noDictL, noDictL_app (xs := xs), Bool.and_assoc]
/-- a comprehension whose items hold no dict -/
theorem compL_nd {f : D → PSt → Out Bool} {g : D → PSt → Out D} {h f' : D → PSt → Out (Option D)}
    (e1 : ∀ x p, f' x p = (f x p).bind fun b p => if b = true then (g x p).bind fun y p => if D.noDict y = true then .ok (some y) p else .bad else .ok none p)
    (e2 : ∀ x p, h x p = (f x p).bind fun b p => if b = true then (g x p).bind fun y p => .ok (some y) p else .ok none p) {d : D} {p2 : PSt} : ∀ {xs acc : List D} {p : PSt}, D.noDictL acc = true → compL f' xs acc p = .ok d p2 → compL h xs acc p = .ok d p2 ∧ ∃ ys, d = .lst ys ∧ D.noDictL ys = true
  | [], acc, p, hn, e => by
    unfold compL at e ⊢
    cases e
    exact ⟨rfl, acc, rfl, hn⟩
  | x :: xs, acc, p, hn, e => by
    unfold compL at e ⊢
    rw [e1] at e
    rw [e2]
    cases ef : f x p with
    | bad => rw [ef] at e; cases e
    | exc c zs p' => rw [ef] at e; cases e
    | ok b p' =>
      rw [ef] at e
      simp only [Out.bind_ok] at e ⊢
      cases b with
      | false =>
        simp only [Bool.false_eq_true, if_false] at e ⊢
        exact compL_nd e1 e2 hn e
      | true =>
        simp only [if_true] at e ⊢
        cases eg : g x p' with
        | bad => rw [eg] at e; cases e
        | exc c zs p3 => rw [eg] at e; cases e
        | ok y p3 =>
          rw [eg] at e
          simp only [Out.bind_ok] at e ⊢
          by_cases hy : D.noDict y = true
          · rw [if_pos hy] at e
            dsimp only at e ⊢
            split at e
            · rename_i hz
              rw [if_pos hz]
              exact compL_nd e1 e2 (by rw [noDictL_app, hn]; simp [D.noDictL, hy]) e
            · cases e
          · rw [if_neg hy] at e; cases e

def fCxN (cf : Str → List D → PSt → Out D) (gt : Str → Option D) (elt c : E) (tg : Tg) (env : Env) (x : D) (p : PSt) : Out (Option D) := match bindTg tg x env with
  | none => .bad
  | some env' => (evalC cf gt c env' p).bind fun b p => if b = true then (evalE cf gt elt env' p).bind fun y p => if D.noDict y = true then .ok (some y) p else .bad else .ok none p
/-- a comprehension over a dict that is locked -/
theorem compD_red {elt c : E} {tg : Tg} {j : Nat} (ho : tg.own.all (fun i => (X.N[i]?).isSome) = true) {B M : Ms} {env : SEnv} {p : PSt} {σ : L2.St} {H : Hp} {Q : VK} {a : Addr} {o : Obj} {u : HO} {t : Bool} {ks : List D} {vs : List V} {d : D} {p2 : PSt} (S : SOk X.K pa ca B M σ H env p) (hj : σ[j]? = some (some (.ref a))) (na : ¬ M a) (hl : H a = some (.frz o u)) (hu : DictO t ks vs u)
    (es : escOk ((escE elt).filter fun i => !tg.own.contains i) env)
    (h1 : compL (fCx cf gt elt c tg (view env)) ks [] p = .ok d p2)
    (fin : ∀ (L : Addr) (H2 : Hp) (acc : List V) (accD : List D), H L = none → d = .lst accD → Ext pa H H2 → PoolOk pa ca H2 p2 → H2 L = some (.lst acc) → Reps X.K pa (fun b => M b ∨ b = L) H2 accD acc → Q (.ref L) H2) :
    tLc (iKeys (tVar j)) (tG pa ca X.K tg) (tCnd cf gt exv pa ca (fun _ _ _ _ => False) X.K c) (tV cf gt exv pa ca (fun _ _ _ _ => False) X.K elt) ((ownOf X.N tg).map (·.2)) σ H Q := by
  have om : (ownOf X.N tg).map (·.2) = tg.own := own_map ho
  rw [om]
  obtain ⟨J, hJ, io⟩ := it_keys (pa := pa) (K := X.K) (B := B) na hl hu
  refine hJ X _ _ σ (fun Q' q => ⟨_, hj, q⟩) fun L hD => ?_
  refine comp_core (okc := fun d' p' => d' = d ∧ p' = p2) (exc := fun _ _ _ => True) S S.pool io es hD (by rw [h1]; exact ⟨rfl, rfl⟩) fun d' p3 H2 acc accD e hd x2 q2 e2 r2 => ?_
  obtain ⟨rfl, rfl⟩ := e
  exact fin L H2 acc accD hD hd x2 q2 e2 r2
theorem compD_heart {elt c : E} {tg : Tg} {j : Nat} (ho : tg.own.all (fun i => (X.N[i]?).isSome) = true) {σ : L2.St} {H : Hp} {Q : VK} (hw : tV cf gt exv pa ca W X.K (.compD elt tg j c) σ H Q) :
    (∃ d u, H d = some u ∧ Mut (some u) ∧ ∀ od, tLc (iKeys (tVar j)) (tG pa ca X.K tg) (tCnd cf gt exv pa ca (fun _ _ _ _ => False) X.K c) (tV cf gt exv pa ca (fun _ _ _ _ => False) X.K elt) ((ownOf X.N tg).map (·.2)) σ (upd H d (.frz od u)) fun v H' => H' d = some (.frz od u) ∧ Q v (upd H' d u)) ∨
    tLc (iKeys (tVar j)) (tG pa ca X.K tg) (tCnd cf gt exv pa ca (fun _ _ _ _ => False) X.K c) (tV cf gt exv pa ca (fun _ _ _ _ => False) X.K elt) ((ownOf X.N tg).map (·.2)) σ H Q := by
  obtain ⟨B, M, env, p, S, es, h⟩ := hw
  unfold evalE at h
  split at h <;> first | exact h.elim | skip
  rename_i t' ks ds e1
  change Holds (compL (fCxN cf gt elt c tg (view env)) ks [] p) _ _ at h
  cases e2 : compL (fCxN cf gt elt c tg (view env)) ks [] p with
  | bad => rw [e2] at h; exact h.elim
  | exc cc xx pp =>
    exfalso
    have key : ∀ (f : D → PSt → Out (Option D)) (xs acc : List D) (p : PSt), compL f xs acc p ≠ .exc cc xx pp := fun f xs => by
      induction xs with
      | nil => intro acc p z; unfold compL at z; cases z
      | cons x xs ih =>
        intro acc p z
        unfold compL at z
        split at z
        · exact ih _ _ z
        · split at z
          · exact ih _ _ z
          · cases z
        · cases z
    exact key _ _ _ _ e2
  | ok d p2 =>
    rw [e2] at h
    have h : ∀ v H', Ext pa H H' → PoolOk pa ca H' p2 → Rep X.K pa M H' d v → (freshE (.compD elt tg j c) = true → NewV X.K pa M H d v H') → Q v H' := h
    obtain ⟨e3, ys, rfl, hnd⟩ := compL_nd (f := fun x p => match bindTg tg x (view env) with
        | none => .bad
        | some env' => evalC cf gt c env' p) (g := fun x p => match bindTg tg x (view env) with
        | none => .bad
        | some env' => evalE cf gt elt env' p) (h := fCx cf gt elt c tg (view env))
      (fun x p => by unfold fCxN; cases bindTg tg x (view env) <;> rfl) (fun x p => by unfold fCx; cases bindTg tg x (view env) <;> rfl) rfl e2
    obtain ⟨M', l, l2, S'⟩ := S.fzAtS j
    have vw : view (fzAt env j) = view env := view_fzAt env j
    have ej : (fzAt env j)[j]? = some (.val (.dict t' ks ds)) := by
      rw [fzAt_get, if_pos rfl]
      rcases view_some e1 with e | e <;> rw [e] <;> rfl
    obtain ⟨v, g1, g2⟩ := S'.sl j _ ej
    obtain ⟨a, u, vs, rfl, na, hr, hu, rv⟩ := g2.dict
    have hm : ∀ b, M b → M' b ∨ b = a := fun b hb => (l2 b hb).imp id fun z => by
      rw [g1] at z
      cases z
      rfl
    have esf : escOk ((escE elt).filter fun i => !tg.own.contains i) (fzAt env j) := fun i hi d' e => by
      rw [fzAt_get] at e
      by_cases z : i = j
      · rw [if_pos z] at e
        cases e4 : env[i]? with
        | none => rw [e4] at e; cases e
        | some sl => rw [e4] at e; cases sl <;> cases e
      · rw [if_neg z] at e
        exact es i hi d' e
    rw [← vw] at e3
    rcases hr with hr | ⟨o, hr⟩
    · have dh := hu.ho
      refine .inl ⟨a, u, hr, by cases u <;> first | exact dh.elim | exact trivial, fun od => ?_⟩
      have sw := swap_lock (o := od) hr dh
      have Sl := S'.swap sw na
      refine compD_red ho Sl g1 na upd_same hu esf e3 fun L H2 acc accD hL hd x2 q2 e4 r2 => ?_
      cases hd
      have eq : H2 a = some (.frz od u) := x2 a _ (fun z => na (by rw [z]; exact S'.mpa)) upd_same
      have sw2 := swap_unlock eq dh
      have La : L ≠ a := fun z => by rw [z, upd_same] at hL; cases hL
      have hL0 : H L = none := by rw [upd_ne La] at hL; exact hL
      refine ⟨eq, h (.ref L) _ (fun b w hb e => ?_) (q2.swap sw2) ?_ fun _ => ⟨L, acc, rfl, hL0, by rw [upd_ne La]; exact e4, ?_⟩⟩
      · by_cases z : b = a
        · subst z
          rw [hr] at e
          cases e
          exact upd_same
        · rw [upd_ne z]
          exact x2 b w hb (by rw [upd_ne z]; exact e)
      · have r3 := (Reps.unfz (M := fun b => M b ∨ b = L) (a := a) (fun b hb => hb.elim (fun hb => (hm b hb).elim (fun z => .inl (.inl z)) .inr) fun hb => .inl (.inr hb)) sw2.nt sw2.nl hnd r2).swap sw2
        unfold Rep
        exact ⟨L, acc, rfl, ⟨fun z => S.al L z hL0, by rw [upd_ne La]; exact e4⟩, r3.mono fun b w hb e => ⟨fun z => hb (.inl z), e⟩⟩
      · exact (Reps.unfz (M := fun b => M b ∨ b = L) (a := a) (fun b hb => hb.elim (fun hb => (hm b hb).elim (fun z => .inl (.inl z)) .inr) fun hb => .inl (.inr hb)) sw2.nt sw2.nl hnd r2).swap sw2
    · have dh := hu.ho
      refine .inr (compD_red ho S' g1 na hr hu esf e3 fun L H2 acc accD hL hd x2 q2 e4 r2 => ?_)
      cases hd
      have eq : H2 a = some (.frz o u) := x2 a _ (fun z => na (by rw [z]; exact S'.mpa)) hr
      have sw2 := swap_unlock eq dh
      have r3 := Reps.unfz (M := fun b => M b ∨ b = L) (a := a) (fun b hb => hb.elim (fun hb => (hm b hb).elim (fun z => .inl (.inl z)) .inr) fun hb => .inl (.inr hb)) sw2.nt sw2.nl hnd r2
      refine h (.ref L) _ x2 q2 ?_ fun _ => ⟨L, acc, rfl, hL, e4, r3⟩
      unfold Rep
      exact ⟨L, acc, rfl, ⟨fun z => S.al L z hL, e4⟩, r3.mono fun b w hb e => ⟨fun z => hb (.inl z), e⟩⟩
theorem s_compD {el t i : Expr} {ifs : List Expr} {scope : Scope} {elt c : E} {tg : Tg} {j : Nat} (hc : X.calm = true) (nd : X.N.Nodup) (hv : PE X i (tVar j)) (ok : BlkOk X.N X.env.scope scope (ownOf X.N tg)) (ho : tg.own.all (fun i => (X.N[i]?).isSome) = true)
    (hg : ∀ (s : Shared) (H : Hp) (C : Addr) (cl : List (Str × Addr)) (fp : List Addr), PG (X.blk s H scope (compEnvC scope cl C X.env) fp) t (tG pa ca X.K tg))
    (ht : ∀ (s : Shared) (H : Hp) (C : Addr) (cl : List (Str × Addr)) (fp : List Addr), PTs (X.blk s H scope (compEnvC scope cl C X.env) fp) ifs (tCnd cf gt exv pa ca (fun _ _ _ _ => False) X.K c))
    (he : ∀ (s : Shared) (H : Hp) (C : Addr) (cl : List (Str × Addr)) (fp : List Addr), PE (X.blk s H scope (compEnvC scope cl C X.env) fp) el (tV cf gt exv pa ca (fun _ _ _ _ => False) X.K elt))
    (hs : notSet i = true) : PE X (.ListComp el [⟨t, i, ifs, 0⟩] scope pos) (tV cf gt exv pa ca W X.K (.compD elt tg j c)) := by
  have L0 := pe_lc (pos := pos) hc nd (pi_keys hv) ok hg ht he (notset_of hs)
  refine ⟨fun pins s σ H Q I hw => ?_⟩
  rcases compD_heart ho hw with h | h
  · exact (pe_lock L0).run pins s σ H Q I h
  · exact L0.run pins s σ H Q I h
end
end PD

namespace PD
open PySem PySem.Spec PyProof.Rows L2
section
variable {cf : Str → List D → PSt → Out D} {gt : Str → Option D} {exv : ExV} {pa ca : Addr} {W : WX} {n : Nat} {X : Cx} {fns : List Str}
variable {A B' C R : E} {x y z : Expr} {xs : List Expr} {pos : Pos}
/-! ### a key put into a dict -/
section
variable {κ : Type} [DecidableEq κ] {K : PySem.W.Frag} {M : Ms} {H : Hp} {f : κ → D}
theorem any_has (hf : ∀ a b, keq (f a) (f b) = decide (a = b)) (x : κ) (kvs : List (κ × V)) : dhas (kvs.map fun q => f q.1) (f x) = kvs.any fun kv => decide (kv.1 = x) := by
  rw [dhas_val hf, valV_any]
theorem dputK_put (hf : ∀ a b, keq (f a) (f b) = decide (a = b)) (x : κ) (v : V) (kvs : List (κ × V)) : dputK (kvs.map fun q => f q.1) (f x) = (putK kvs x v).map fun q => f q.1 := by
  unfold dputK putK
  rw [any_has hf]
  split
  · rw [List.map_map]
    apply List.map_congr_left
    intro q _
    dsimp only [Function.comp]
    split <;> rfl
  · simp
theorem putK_keys (x : κ) (v : V) (kvs : List (κ × V)) : (putK kvs x v).map (·.1) = if (kvs.any fun kv => decide (kv.1 = x)) = true then kvs.map (·.1) else kvs.map (·.1) ++ [x] := by
  unfold putK
  split
  · rw [List.map_map]
    apply List.map_congr_left
    intro q _
    dsimp only [Function.comp]
    split <;> rfl
  · simp
theorem putK_nodup (x : κ) (v : V) {kvs : List (κ × V)} (nd : (kvs.map (·.1)).Nodup) : ((putK kvs x v).map (·.1)).Nodup := by
  rw [putK_keys]
  split
  · exact nd
  · rename_i h
    rw [List.nodup_append]
    refine ⟨nd, by simp, fun a ha b hb => ?_⟩
    obtain rfl : b = x := by simpa using hb
    rintro rfl
    apply h
    rw [List.any_eq_true]
    obtain ⟨q, hq, e⟩ := List.mem_map.mp ha
    exact ⟨q, hq, decide_eq_true e⟩
theorem putK_off {x : κ} {v : V} : ∀ {kvs : List (κ × V)}, x ∉ kvs.map (·.1) → kvs.map (fun kv => if kv.1 = x then (kv.1, v) else kv) = kvs
  | [], _ => rfl
  | q :: r, h => by
    simp only [List.map_cons, List.mem_cons, not_or] at h
    rw [List.map_cons, if_neg (Ne.symm h.1), putK_off h.2]
theorem putK_ne {x : κ} {v : V} {q : κ × V} {r : List (κ × V)} (h : q.1 ≠ x) : putK (q :: r) x v = q :: putK r x v := by
  unfold putK
  rw [List.any_cons, decide_eq_false h, Bool.false_or]
  split
  · rw [List.map_cons, if_neg h]
  · rfl
theorem putK_eq {x : κ} {v : V} {q : κ × V} {r : List (κ × V)} (h : q.1 = x) (nd : ((q :: r).map (·.1)).Nodup) : putK (q :: r) x v = (q.1, v) :: r := by
  unfold putK
  rw [List.any_cons, decide_eq_true h, Bool.true_or, if_pos rfl, List.map_cons, if_pos h, putK_off]
  rw [List.map_cons, List.nodup_cons] at nd
  rw [← h]
  exact nd.1
theorem dputV_put (hf : ∀ a b, keq (f a) (f b) = decide (a = b)) (x : κ) {d : D} {v : V} (rd : Rep K pa M H d v) : ∀ {kvs : List (κ × V)} {ds : List D}, (kvs.map (·.1)).Nodup → Reps K pa M H ds (kvs.map (·.2)) →
    Reps K pa M H (dputV (kvs.map fun q => f q.1) ds (f x) d) ((putK kvs x v).map (·.2))
  | [], ds, _, r => by
    have : dputV [] ds (f x) d = [d] := by cases ds <;> rfl
    rw [List.map_nil, this]
    exact .one rd
  | q :: kvs, ds, nd, r => by
    have hl := r.length
    cases ds with
    | nil => simp at hl
    | cons d1 ds =>
      unfold Reps at r
      obtain ⟨w, ws, e, h1, h2⟩ := r
      rw [List.map_cons] at e
      injection e with e1 e2
      subst e1 e2
      rw [List.map_cons]
      unfold dputV
      by_cases z : q.1 = x
      · rw [hf, decide_eq_true z, if_pos rfl, putK_eq z nd]
        exact .cons rd h2
      · rw [hf, decide_eq_false z, if_neg Bool.false_ne_true, putK_ne z]
        rw [List.map_cons, List.nodup_cons] at nd
        exact .cons h1 (dputV_put hf x rd nd.2 h2)
def putAll (acc kvs : List (κ × V)) : List (κ × V) := kvs.foldl (fun acc kv => putK acc kv.1 kv.2) acc
theorem putAll_le (kvs : List (κ × V)) : ∀ acc : List (κ × V), (putAll acc kvs).length ≤ acc.length + kvs.length := by
  induction kvs with
  | nil => intro acc; exact Nat.le_refl _
  | cons q r ih =>
    intro acc
    have h1 := ih (putK acc q.1 q.2)
    have h2 := length_putK acc q.1 q.2
    show (putAll (putK acc q.1 q.2) r).length ≤ _
    rw [List.length_cons]
    omega
/-- what a list of pairs puts into a dict -/
theorem pairs_runs {t : Bool} {P : κ → V → Prop} (hf : ∀ a b, keq (f a) (f b) = decide (a = b)) (hk : ∀ d, isKey t d = true → ∃ k, d = f k) (hP : ∀ k v, Rep K pa M H (f k) v → P k v) : ∀ {ds : List D} {ws : List V} {acc : List (κ × V)} {vD : List D} {r : D},
    (acc.map (·.1)).Nodup → Reps K pa M H vD (acc.map (·.2)) → pairsL t ds (acc.map fun q => f q.1) vD = some r → Reps K pa M H ds ws →
    ∃ (ps : List Addr) (kvs : List (κ × V)) (vD' : List D), ws = ps.map V.ref ∧ Paired (fun (p : Addr) (kv : κ × V) => ∃ vk, H p = some (.tup [vk, kv.2]) ∧ P kv.1 vk) ps kvs ∧
      r = .dict t ((putAll acc kvs).map fun q => f q.1) vD' ∧ Reps K pa M H vD' ((putAll acc kvs).map (·.2)) ∧ ((putAll acc kvs).map (·.1)).Nodup
  | [], ws, acc, vD, r, nd, rv, e, rw' => by
    unfold Reps at rw'
    subst rw'
    unfold pairsL at e
    cases e
    exact ⟨[], [], vD, rfl, .nil, rfl, rv, nd⟩
  | d :: ds, ws, acc, vD, r, nd, rv, e, rw' => by
    unfold pairsL at e
    split at e <;> first | (cases e; done) | skip
    · rename_i h; cases h
    rename_i k v r' h
    cases h
    split at e <;> first | (cases e; done) | skip
    rename_i hik
    unfold Reps at rw'
    obtain ⟨w, ws, rfl, h1, h2⟩ := rw'
    unfold Rep at h1
    obtain ⟨p, us, rfl, h3, h4⟩ := h1
    unfold Reps at h4
    obtain ⟨vk, us', rfl, g1, g2⟩ := h4
    unfold Reps at g2
    obtain ⟨vv, us'', rfl, g3, g4⟩ := g2
    unfold Reps at g4
    subst g4
    obtain ⟨kk, rfl⟩ := hk _ hik
    rw [dputK_put hf kk vv] at e
    obtain ⟨ps, kvs, vD', rfl, pr, e2, r2, n2⟩ := pairs_runs hf hk hP (putK_nodup kk vv nd) (dputV_put hf kk g3 nd rv) e h2
    exact ⟨p :: ps, (kk, vv) :: kvs, vD', rfl, .cons ⟨vk, h3.2, hP _ _ g1⟩ pr, e2, r2, n2⟩
end
theorem keq_tup (a b : List L2.Key) : keq (.tup (a.map kD)) (.tup (b.map kD)) = decide (a = b) := keqL_kD a b
/-- a key put into a tracked dict -/
theorem dict_put {K : PySem.W.Frag} {M1 M2 : Ms} {H : Hp} {t : Bool} {ks ds : List D} {vs : List V} {u : HO} {a : Addr} {k d : D} {vk v : V} (ho : DictO t ks vs u) (ha : H a = some u) (rv : Reps K pa M1 H ds vs) (hz : ks.length < sizeLine) (hk : isKey t k = true) (rk : Rep K pa M2 H k vk) (rd : Rep K pa M1 H d v) :
    ∃ u' vs', DPut H a vk v (upd H a u') ∧ DictO t (dputK ks k) vs' u' ∧ Reps K pa M1 H (dputV ks ds k d) vs' := by
  cases u <;> first | exact ho.elim | skip
  · rename_i kvs
    obtain ⟨rfl, rfl, rfl, nd⟩ := ho
    obtain ⟨x, rfl⟩ := isKey_false hk
    cases rep_kD rk
    rw [List.length_map] at hz
    refine ⟨.dK (putK kvs x v), (putK kvs x v).map (·.2), .k ha hz, ⟨rfl, dputK_put (f := kD) keq_kD x v kvs, rfl, putK_nodup x v nd⟩, dputV_put (f := kD) keq_kD x rd nd rv⟩
  · rename_i kvs
    obtain ⟨rfl, rfl, rfl, nd⟩ := ho
    obtain ⟨x, rfl⟩ := isKey_true hk
    obtain ⟨b, rfl, hb⟩ := rep_tkey rk
    rw [List.length_map] at hz
    refine ⟨.dT (putK kvs x v), (putK kvs x v).map (·.2), .t ha hb hz, ⟨rfl, dputK_put (f := fun k : List L2.Key => D.tup (k.map kD)) keq_tup x v kvs, rfl, putK_nodup x v nd⟩, dputV_put (f := fun k : List L2.Key => D.tup (k.map kD)) keq_tup x rd nd rv⟩
/-! ### dict(xs) of pairs -/
theorem kt_pairs {pins : List (Addr × Obj)} {σ : L2.St} {H : Hp} {s : Shared} (I : Inv X pins σ H s) : ∀ {ps : List Addr} {kvs : List (List L2.Key × V)}, Paired (fun (p : Addr) (kv : List L2.Key × V) => ∃ vk, H p = some (.tup [vk, kv.2]) ∧ ∃ b, vk = .ref b ∧ H b = some (.tup (kv.1.map kV))) ps kvs →
    ∃ xs : List (List L2.Key × Addr × Value), KT H kvs xs ∧ xs.length = ps.length ∧ ∀ (j : Nat) (q : List L2.Key × Addr × Value), xs[j]? = some q → ∃ (b : Addr), ps[j]? = some b ∧ IsTup s.heap b #[.ref q.2.1, q.2.2]
  | _, _, .nil => ⟨[], .nil, rfl, fun j q e => by simp at e⟩
  | _, _, .cons (a := p) (b := kv) h t => by
    obtain ⟨xs, r, hl, hp⟩ := kt_pairs I t
    obtain ⟨vk, h1, b, rfl, hb⟩ := h
    obtain ⟨its, rv, ht, _⟩ := I.tuple (.inl (.inl h1))
    obtain ⟨u, y, ei, ru, ry⟩ := vals2 rv
    subst ei
    obtain rfl : u = Value.ref b := ru
    refine ⟨(kv.1, b, y) :: xs, .cons ⟨rfl, hb, ry⟩ r, by rw [List.length_cons, List.length_cons, hl], fun j q e => ?_⟩
    cases j with
    | zero =>
      have e' : (kv.1, b, y) = q := Option.some.inj e
      subst e'
      exact ⟨p, rfl, ht⟩
    | succ j =>
      obtain ⟨b', e1, e2⟩ := hp j q (by simpa using e)
      exact ⟨b', by simpa using e1, e2⟩
theorem kt_putAll {H : Hp} : ∀ {kvs acc : List (List L2.Key × V)} {xs ys : List (List L2.Key × Addr × Value)}, KT H kvs xs → KT H acc ys → KT H (putAll acc kvs) (PySem.storedAllH ys xs)
  | _, _, _, _, .nil, h => h
  | _, _, _, _, .cons (a := q) (b := w) h t, g => by
    obtain ⟨h1, h2, h3⟩ := h
    have := kt_putAll t (KT.put g q.1 h2 h3)
    rw [h1] at this
    show KT H (putAll (putK _ q.1 q.2) _) (PySem.storedAllH (storedH _ w.1 w.2.1 w.2.2) _)
    rw [h1]
    exact this
theorem call_dictTP (hu : X.A.units + 3 < cLine) (hcalm : X.calm = true) : CallR X (.type "dict") (fun xs H Q => ∃ (a : Addr) (ps : List Addr) (kvs : List (List L2.Key × V)), xs = [.ref a] ∧ SqL X.K H a (ps.map V.ref) ∧ Paired (fun (p : Addr) (kv : List L2.Key × V) => ∃ vk, H p = some (.tup [vk, kv.2]) ∧ ∃ b, vk = .ref b ∧ H b = some (.tup (kv.1.map kV))) ps kvs ∧
    ∀ p, H p = none → Q (.ref p) (upd H p (.dT (putAll [] kvs)))) := by
  intro pins s σ H xs us Q I r q
  obtain ⟨a, ps, kvs, ex, hq, hp, q⟩ := q
  subst ex
  obtain ⟨u, eu, rx⟩ := vals1 r
  subst eu
  cases rx
  obtain ⟨its, rv, pl, hz⟩ := I.list hq
  have ei := refs_at rv
  subst ei
  rw [List.length_map] at hz
  obtain ⟨xs, kt, hl, hpr⟩ := kt_pairs I hp
  have lt : ∀ {b : Addr} {o : Obj}, s.heap.get? b = some o → b ≠ s.heap.objs.size := fun e => Nat.ne_of_lt (Heap.lt_size e)
  refine PySem.call_dict_pairsH (knd := tupleKind (mixKind X.prog X.w)) (ps := xs) (PySem.PairArg.list a (ps.map Value.ref).toArray (fun j => ps.getD j 0) (xs.map fun q => (.ref q.2.1, q.2.2))) (I.ok.hd hcalm) (tupleKind_room_in1 (A := X.A.in1) (by show X.A.units + 1 + 1 < cLine; omega))
    ⟨pl, by simp [hl], fun j k v e => ?_⟩ ⟨by simp, fun i k v e => ?_⟩ (fun h' hk x hx => ?_) (by simpa [hl] using hz) fun h' tk hd' hk => ?_
  · rw [List.getElem?_map] at e
    obtain ⟨w, e1, e2⟩ := Option.map_eq_some_iff.mp e
    cases e2
    obtain ⟨b, e3, e4⟩ := hpr j w e1
    refine ⟨by simp [e3], .inl ?_⟩
    simp only [List.getD_eq_getElem?_getD, e3, Option.getD_some]
    exact e4
  · have e : (xs.map fun q => ((Value.ref q.2.1, q.2.2) : Value × Value))[i]? = some (k, v) := e
    rw [List.getElem?_map] at e
    obtain ⟨w, e1, e2⟩ := Option.map_eq_some_iff.mp e
    cases e2
    exact ⟨w.1, w.2.1, e1, rfl⟩
  · obtain ⟨i, hi⟩ := List.mem_iff_getElem?.mp hx
    have : ∃ kv : List L2.Key × V, kv.1 = x.1 ∧ H x.2.1 = some (.tup (kv.1.map kV)) := by
      have all : ∀ {l : List (List L2.Key × V)} {m : List (List L2.Key × Addr × Value)}, KT H l m → ∀ x ∈ m, ∃ kv : List L2.Key × V, kv.1 = x.1 ∧ H x.2.1 = some (.tup (kv.1.map kV)) := by
        intro l m q
        induction q with
        | nil => intro x hx; exact nomatch hx
        | @cons p q ps qs hq t ih =>
          intro x hx
          rcases List.mem_cons.mp hx with e | hx
          · subst e; exact ⟨p, hq.1, hq.2.1⟩
          · exact ih x hx
      exact all kt x hx
    obtain ⟨kv, e1, e2⟩ := this
    rw [e1] at e2
    obtain ⟨o, it, n', h1, h2, h3⟩ := key_of I.hok e2
    exact ⟨o, it, n', hk _ _ (lt h1) (by simp) h1, h2, h3⟩
  · have hm : (s.heap.objs.size == sysModules) = false := beq_eq_false_iff_ne.mpr (Nat.ne_of_gt I.big)
    have hlen : (putAll [] kvs).length ≤ sizeLine := by
      refine Nat.le_trans (putAll_le kvs []) ?_
      rw [List.length_nil, Nat.zero_add, Paired.length kt, hl]
      exact hz
    have hf : H s.heap.objs.size = none := I.hok.fresh (Nat.le_refl _)
    obtain ⟨o, es, ep, g1, g2, g3, g4, _, g5⟩ := hd'
    refine ⟨.ref s.heap.objs.size, upd H s.heap.objs.size (.dT (putAll [] kvs)), I.laid (t' := tk) (fun b o e => hk b o (by simp) e) (Nat.le_refl _) (show ObjOk X.prog X.w _ _ _ (.dT (putAll [] kvs)) from ⟨hlen, hm, _, (kt_putAll kt .nil).keeps fun c ys ec => ?_, o, es, ep, g1, g2, g3, g4, g5⟩), rfl, q _ hf⟩
    rw [upd_ne (fun z => by rw [z, hf] at ec; cases ec)]
    exact ec
end
end PD

namespace PD
open PySem PySem.Spec PyProof.Rows L2
section
variable {cf : Str → List D → PSt → Out D} {gt : Str → Option D} {exv : ExV} {pa ca : Addr} {W : WX} {n : Nat} {X : Cx} {fns : List Str}
variable {A B' C R : E} {x y z : Expr} {xs : List Expr} {pos : Pos}
theorem boot_dict' : bootBuiltins "dict" = some (.type "dict") := by decide +kernel
theorem boot_set' : bootBuiltins "set" = some (.type "set") := by decide +kernel
/-- a new dict -/
theorem new_dict {M : Ms} {H : Hp} {K : PySem.W.Frag} {t : Bool} {ks ds : List D} {vs : List V} {u : HO} {q : Addr} (al : ∀ a, M a → H a ≠ none) (h : H q = none) (ho : DictO t ks vs u) (r : Reps K pa M H ds vs) :
    Rep K pa M (upd H q u) (.dict t ks ds) (.ref q) ∧ NewV K pa M H (.dict t ks ds) (.ref q) (upd H q u) := by
  have n := new_rep (o := u) h r
  refine ⟨?_, q, u, vs, rfl, h, upd_same, ho, n⟩
  unfold Rep
  exact ⟨q, u, vs, rfl, new_not al h, .inl upd_same, ho, n.mono fun b u hb e => ⟨fun z => hb (.inl z), e⟩⟩
def rDictP (pa : Addr) (K : PySem.W.Frag) (t : Bool) : List V → Hp → VK → Prop := fun xs H Q => ∃ (a : Addr) (ws : List V) (ds : List D) (ks vD : List D) (M : Ms), xs = [.ref a] ∧ SqL K H a ws ∧ Reps K pa M H ds ws ∧ pairsL t ds [] [] = some (.dict t ks vD) ∧
  ∀ q u vs, H q = none → DictO t ks vs u → Reps K pa M H vD vs → Q (.ref q) (upd H q u)
theorem call_dictD (hu : X.A.units + 65 < cLine) (hc : X.calm = true) : ∀ t, CallR X (.type "dict") (rDictP pa X.K t)
  | false => by
    intro pins s σ H xs us Q I r h
    obtain ⟨a, ws, ds, ks, vD, M, rfl, hq, rv, e, q⟩ := h
    obtain ⟨ps, kvs, vD', rfl, pr, e2, r2, nd⟩ := pairs_runs (κ := L2.Key) (f := kD) (t := false) (P := fun k v => v = kV k) (acc := []) (vD := []) keq_kD (fun d => isKey_false) (fun k v => rep_kD) (by simp) .nil e rv
    cases e2
    refine call_dictP hc pins s σ H _ us Q I r ⟨a, ps, kvs, rfl, hq, Paired.mapP pr fun p kv z => ?_, fun p hp => q p (.dK (putAll [] kvs)) _ hp ⟨rfl, rfl, rfl, nd⟩ r2⟩
    obtain ⟨vk, h1, rfl⟩ := z
    exact .inl (.inl h1)
  | true => by
    intro pins s σ H xs us Q I r h
    obtain ⟨a, ws, ds, ks, vD, M, rfl, hq, rv, e, q⟩ := h
    obtain ⟨ps, kvs, vD', rfl, pr, e2, r2, nd⟩ := pairs_runs (κ := List L2.Key) (f := fun k => .tup (k.map kD)) (t := true) (P := fun k v => ∃ b, v = .ref b ∧ H b = some (.tup (k.map kV))) (acc := []) (vD := []) keq_tup (fun d => isKey_true) (fun k v => rep_tkey) (by simp) .nil e rv
    cases e2
    exact call_dictTP (by omega) hc pins s σ H _ us Q I r ⟨a, ps, kvs, rfl, hq, pr, fun p hp => q p (.dT (putAll [] kvs)) _ hp ⟨rfl, rfl, rfl, nd⟩ r2⟩
theorem s_dpairs {nm : Str} {t : Bool} {p0 : Pos} (ok : XOk cf gt fns exv pa ca W n X) (hg : Gl X nm) (hm : X.mg nm = none) (hv : bootBuiltins nm = some (.type "dict")) (hn : nm ≠ "__name__") (hd : (nm == ("__debug__" : Str)) = false) {e : Expr} (hs : notStar e = true)
    (h : PE X e (tB cf gt exv pa ca W X.K A)) : PE X (.Call (.Name nm p0) [e] [] pos) (tV cf gt exv pa ca W X.K (.dpairs t A)) := by
  refine (pe_callTy (call_dictD (pa := pa) (units_of ok) ok.calm t) hg hm hv (pa_cons h pa_nil (star_of hs)) hn hd (star_of hs) rfl).imp fun σ H Q ⟨B, M, env, p, S, es, h⟩ => ?_
  unfold evalE at h
  rw [Holds.bind] at h
  refine ⟨B, M, env, p, S, es, h.imp (fun d p1 h1 v H1 x1 q1 r1 => ?_) fun _ _ _ z => z⟩
  have S1 := S.ext x1 q1
  obtain ⟨d', e', h2⟩ := h1.lift
  cases d <;> first | (cases e'; done) | skip
  rename_i ds
  unfold pairsD at e'
  dsimp only at e'
  split at e' <;> first | (cases e'; done) | skip
  obtain ⟨a, ws, rfl, _, g1, g2⟩ := r1
  have hd' : ∃ ks vD, d' = .dict t ks vD := by
    have key : ∀ (ds ks vs : List D), pairsL t ds ks vs = some d' → ∃ ks vD, d' = .dict t ks vD := by
      intro ds
      induction ds with
      | nil => intro ks vs e; unfold pairsL at e; cases e; exact ⟨_, _, rfl⟩
      | cons d ds ih =>
        intro ks vs e
        unfold pairsL at e
        split at e <;> first | (cases e; done) | skip
        · rename_i h; cases h
        · rename_i h
          cases h
          split at e <;> first | (cases e; done) | skip
          exact ih _ _ e
    exact key _ _ _ e'
  obtain ⟨ks, vD, rfl⟩ := hd'
  refine ⟨a, ws, ds, ks, vD, M, rfl, .inl (.inl g1), g2, e', fun q u vs hq ho rv => ?_⟩
  have nd := new_dict (K := X.K) (pa := pa) S1.al hq ho rv
  exact h2 _ _ (x1.trans (.of_same (same_new hq))) (pool_ext q1 (same_new hq)) nd.1 fun _ => newv_ext S x1 q1 nd.2
/-! ### dict(d) of a dict -/
theorem call_dictCopy : CallR X (.type "dict") (fun xs H Q => ∃ a kvs, xs = [.ref a] ∧ Rd H a (.dK kvs) ∧ ∀ p, H p = none → Q (.ref p) (upd H p (.dK kvs))) := by
  intro pins s σ H xs us Q I r h
  obtain ⟨a, kvs, rfl, hr, q⟩ := h
  obtain ⟨u, rfl, ru⟩ := vals1 r
  obtain rfl : u = Value.ref a := ru
  exact d_copyOf I hr fun p s' hp I' => ⟨.ref p, _, I', rfl, q p hp⟩
theorem s_dcopy {nm : Str} {p0 : Pos} (ok : XOk cf gt fns exv pa ca W n X) (hg : Gl X nm) (hm : X.mg nm = none) (hv : bootBuiltins nm = some (.type "dict")) (hn : nm ≠ "__name__") (hd : (nm == ("__debug__" : Str)) = false) {e : Expr} (hs : notStar e = true)
    (h : PE X e (tB cf gt exv pa ca W X.K A)) : PE X (.Call (.Name nm p0) [e] [] pos) (tV cf gt exv pa ca W X.K (.dcopy A)) := by
  refine (pe_callTy call_dictCopy hg hm hv (pa_cons h pa_nil (star_of hs)) hn hd (star_of hs) rfl).imp fun σ H Q ⟨B, M, env, p, S, es, h⟩ => ?_
  unfold evalE at h
  rw [Holds.bind] at h
  refine ⟨B, M, env, p, S, es, h.imp (fun d p1 h1 v H1 x1 q1 r1 => ?_) fun _ _ _ z => z⟩
  have S1 := S.ext x1 q1
  cases d <;> first | exact h1.elim | skip
  rename_i t ks ds
  cases t <;> first | exact h1.elim | skip
  obtain ⟨a, u, vs, rfl, na, g2, g3, g4⟩ := r1.dict
  cases u <;> first | exact g3.elim | skip
  · rename_i kvs
    refine ⟨a, kvs, rfl, g2, fun q hq => ?_⟩
    have nd := new_dict (K := X.K) (pa := pa) S1.al hq g3 g4
    exact h1 _ _ (x1.trans (.of_same (same_new hq))) (pool_ext q1 (same_new hq)) nd.1 fun _ => newv_ext S x1 q1 nd.2
  · exact absurd g3.1 Bool.false_ne_true
/-! ### tuples and lists made of others -/
theorem s_trev {p0 p2 pos2 : Pos} (ok : XOk cf gt fns exv pa ca W n X) (hg : Gl X "tuple") (hg2 : Gl X "reversed") {e : Expr} (hs : notStar e = true)
    (h : PE X e (tB cf gt exv pa ca W X.K A)) : PE X (.Call (.Name "tuple" p0) [.Call (.Name "reversed" p2) [e] [] pos2] [] pos) (tV cf gt exv pa ca W X.K (.trev A)) := by
  refine (RT.pe_tupRev ok.calm hg ok.tuple hg2 ok.reversed h (star_of hs) rfl).imp fun σ H Q ⟨B, M, env, p, S, es, h⟩ => ?_
  unfold evalE at h
  rw [Holds.bind] at h
  refine ⟨B, M, env, p, S, es, h.imp (fun d p1 h1 v H1 x1 q1 r1 => ?_) fun _ _ _ z => z⟩
  have S1 := S.ext x1 q1
  cases d <;> first | exact h1.elim | skip
  rename_i ds
  obtain ⟨a, ws, rfl, _, g1, g2⟩ := r1
  refine ⟨a, ws, rfl, .inl (.inl g1), fun q hq => ?_⟩
  exact h1 _ _ (x1.trans (.of_same (same_new hq))) (pool_ext q1 (same_new hq)) (new_tup S1.al hq g2.reverse) fun z => by cases z
theorem rg_reps {K : PySem.W.Frag} {M : Ms} {H : Hp} {n : Int} : Reps K pa M H (rangeL 0 n.toNat) (rgV 0 n) := by
  unfold rangeL rgV
  rw [Int.sub_zero]
  refine reps_of (by simp) fun i d v e1 e2 => ?_
  rw [List.getElem?_map] at e1 e2
  obtain ⟨w, f1, rfl⟩ := Option.map_eq_some_iff.mp e1
  obtain ⟨w', f2, rfl⟩ := Option.map_eq_some_iff.mp e2
  rw [f1] at f2
  cases f2
  unfold Rep
  rfl
theorem s_lrng {p0 p2 pos2 : Pos} (ok : XOk cf gt fns exv pa ca W n X) (hg : Gl X "list") (hg2 : Gl X "range") {e : Expr} (hs : notStar e = true)
    (h : PE X e (tC cf gt exv pa ca W X.K A)) : PE X (.Call (.Name "list" p0) [.Call (.Name "range" p2) [e] [] pos2] [] pos) (tV cf gt exv pa ca W X.K (.lrng A)) := by
  refine (pe_listRg ok.calm hg ok.list (prg_1 hg2 ok.range h (star_of hs)) rfl).imp fun σ H Q ⟨B, M, env, p, S, es, h⟩ => ?_
  unfold evalE at h
  rw [Holds.bind] at h
  refine ⟨B, M, env, p, S, h.imp (fun d p1 h1 v H1 x1 q1 r1 => ?_) fun _ _ _ z => z⟩
  have S1 := S.ext x1 q1
  cases d <;> first | exact h1.elim | skip
  rename_i i
  cases r1.int
  dsimp only at h1
  split at h1 <;> first | exact h1.elim | skip
  rename_i hz
  rw [Bool.and_eq_true, decide_eq_true_eq] at hz
  have i6 := in62_of hz.1
  refine ⟨i, rfl, ⟨by decide, by decide, i6.1, i6.2, by omega⟩, fun q hq => ?_⟩
  have nl := new_lst (K := X.K) (pa := pa) S1.al hq (rg_reps (n := i))
  exact h1 _ _ (x1.trans (.of_same (same_new hq))) (pool_ext q1 (same_new hq)) nl.1 fun _ => newv_ext S x1 q1 nl.2
theorem s_trng {p0 p2 pos2 : Pos} (ok : XOk cf gt fns exv pa ca W n X) (hg : Gl X "tuple") (hg2 : Gl X "range") {e : Expr} (hs : notStar e = true)
    (h : PE X e (tC cf gt exv pa ca W X.K A)) : PE X (.Call (.Name "tuple" p0) [.Call (.Name "range" p2) [e] [] pos2] [] pos) (tV cf gt exv pa ca W X.K (.trng A)) := by
  refine (pe_tupRg ok.calm hg ok.tuple (prg_1 hg2 ok.range h (star_of hs)) rfl).imp fun σ H Q ⟨B, M, env, p, S, es, h⟩ => ?_
  unfold evalE at h
  rw [Holds.bind] at h
  refine ⟨B, M, env, p, S, h.imp (fun d p1 h1 v H1 x1 q1 r1 => ?_) fun _ _ _ z => z⟩
  have S1 := S.ext x1 q1
  cases d <;> first | exact h1.elim | skip
  rename_i i
  cases r1.int
  dsimp only at h1
  split at h1 <;> first | exact h1.elim | skip
  rename_i hz
  rw [Bool.and_eq_true, decide_eq_true_eq] at hz
  have i6 := in62_of hz.1
  refine ⟨i, rfl, ⟨by decide, by decide, i6.1, i6.2, by omega⟩, fun q hq => ?_⟩
  exact h1 _ _ (x1.trans (.of_same (same_new hq))) (pool_ext q1 (same_new hq)) (new_tup S1.al hq rg_reps) fun z => by cases z
/-! ### sorted(set(xs)) of ints -/
def tSortSet (K : PySem.W.Frag) (ta : TE) : TE := fun σ H Q => ta σ H fun x H1 => ∃ (l : Addr) (ns : List Int), x = .ref l ∧ SqL K H1 l (ns.map V.int) ∧ ns.length ≤ 4000 ∧ (onceL ns).length < 64 ∧
  ∀ q, H1 q = none → Q (.ref q) (upd H1 q (.lst (((onceL ns).mergeSort fun a b => decide (a ≤ b)).map V.int)))
theorem onceL_eq (ns : List Int) : PyProof.Rows.firstMet (fun i => ns.getD i 0) ns.length = onceL ns := by
  unfold PyProof.Rows.firstMet onceL
  have : (List.range ns.length).map (fun i => ns.getD i 0) = ns := by
    apply List.ext_getElem?
    intro i
    rw [List.getElem?_map]
    by_cases h : i < ns.length
    · rw [List.getElem?_range h, List.getElem?_eq_getElem h]
      simp [List.getD_eq_getElem?_getD, List.getElem?_eq_getElem h]
    · rw [List.getElem?_eq_none (by simpa using h), List.getElem?_eq_none (by omega)]
      rfl
  rw [this]
  congr 1
  funext acc x
  unfold step_dedup
  have : (acc.any fun y => y == x) = acc.contains x := by
    rw [List.contains_eq_any_beq]
    congr 1
    funext y
    by_cases h : x = y
    · subst h; rfl
    · have h1 : (y == x) = false := by simpa using fun z : y = x => h z.symm
      have h2 : (x == y) = false := by simpa using h
      rw [h1, h2]
  rw [this]
theorem onceL_nodup (ns : List Int) : (onceL ns).Nodup := by
  have key : ∀ (ns acc : List Int), acc.Nodup → (ns.foldl (fun acc x => if acc.contains x then acc else acc ++ [x]) acc).Nodup := by
    intro ns
    induction ns with
    | nil => intro acc h; exact h
    | cons x r ih =>
      intro acc h
      rw [List.foldl_cons]
      refine ih _ ?_
      split
      · exact h
      · rename_i hx
        rw [List.nodup_append]
        refine ⟨h, by simp, fun a ha b hb e => ?_⟩
        obtain rfl : b = x := by simpa using hb
        subst e
        exact hx (List.contains_iff_mem.mpr ha)
  exact key ns [] (by simp)
theorem sorted_unique : ∀ {l m : List Int}, l.Pairwise (· < ·) → m.Pairwise (· < ·) → (∀ k, k ∈ l ↔ k ∈ m) → l = m
  | [], [], _, _, _ => rfl
  | [], y :: m, _, _, h => absurd ((h y).mpr List.mem_cons_self) (by simp)
  | x :: l, [], _, _, h => absurd ((h x).mp List.mem_cons_self) (by simp)
  | x :: l, y :: m, hl, hm, h => by
    rw [List.pairwise_cons] at hl hm
    have e : x = y := by
      have h1 := (h x).mp List.mem_cons_self
      have h2 := (h y).mpr List.mem_cons_self
      rcases List.mem_cons.mp h1 with e | h1
      · exact e
      rcases List.mem_cons.mp h2 with e | h2
      · exact e.symm
      have := hm.1 x h1
      have := hl.1 y h2
      omega
    subst e
    rw [sorted_unique hl.2 hm.2 fun k => ⟨fun hk => ?_, fun hk => ?_⟩]
    · rcases List.mem_cons.mp ((h k).mp (List.mem_cons_of_mem _ hk)) with e | q
      · subst e; exact absurd (hl.1 k hk) (by omega)
      · exact q
    · rcases List.mem_cons.mp ((h k).mpr (List.mem_cons_of_mem _ hk)) with e | q
      · subst e; exact absurd (hm.1 k hk) (by omega)
      · exact q
theorem onceL_sorted (ns : List Int) : ((onceL ns).mergeSort fun a b => decide (a ≤ b)).Pairwise (· < ·) := by
  have h1 : ((onceL ns).mergeSort fun a b => decide (a ≤ b)).Pairwise (fun a b => a ≤ b) := by
    have := List.pairwise_mergeSort (le := fun (a b : Int) => decide (a ≤ b)) (fun a b c h1 h2 => by simp only [decide_eq_true_eq] at *; omega) (fun a b => by simp only [Bool.or_eq_true, decide_eq_true_eq]; omega) (onceL ns)
    exact this.imp fun h => by simpa using h
  have h2 : ((onceL ns).mergeSort fun a b => decide (a ≤ b)).Nodup := (List.mergeSort_perm _ _).nodup_iff.mpr (onceL_nodup ns)
  exact (h1.and h2).imp fun ⟨h, h'⟩ => by omega
end
end PD

namespace PD
open PySem PySem.Spec PyProof.Rows L2
section
variable {cf : Str → List D → PSt → Out D} {gt : Str → Option D} {exv : ExV} {pa ca : Addr} {W : WX} {n : Nat} {X : Cx} {fns : List Str}
variable {A B' C R : E} {x y z : Expr} {xs : List Expr} {pos : Pos}
/-! ### a comprehension that makes a dict -/
def fDx (cf : Str → List D → PSt → Out D) (gt : Str → Option D) (k v c : E) (tg : Tg) (env : Env) (x : D) (p : PSt) : Out (Option (D × D)) := match bindTg tg x env with
  | none => .bad
  | some env' => (evalC cf gt c env' p).bind fun b p => if b = true then (evalE cf gt k env' p).bind fun x p => (evalE cf gt v env' p).bind fun y p => .ok (some (x, y)) p else .ok none p
theorem dc_it {J : It} {n : Nat} {G : Hp → Prop} {Y : Nat → Hp → V → Hp → Prop} (w : Walk J n G Y) {g : TG} {tt : TT} {tk tv : TE} {vs : List Nat} {σ : L2.St} {H1 : Hp} {D : Addr} {Qd : Hp → Prop} (Pv : Nat → Hp → Prop) (h0 : Pv 0 (upd H1 D (.dK []))) (hG : ∀ i H, i ≤ n → Pv i H → G H)
    (hs : ∀ i x H H', i < n → Pv i H → Y i H x H' → g x (L2.wipe σ vs) H' fun σ2 H2 => L2.wipe σ2 vs = L2.wipe σ vs ∧ tt σ2 H2 fun b H3 =>
      if b = true then tk σ2 H3 fun y H4 => tv σ2 H4 fun z H5 => ∃ kvs k, y = kV k ∧ H5 D = some (.dK kvs) ∧ kvs.length < sizeLine ∧ Pv (i + 1) (upd H5 D (.dK (putK kvs k z))) else Pv (i + 1) H3) (hd : ∀ H, Pv n H → Qd H) :
    ∃ W : Nat → Nat → Hp → Prop, (∃ m, W 0 m (upd H1 D (.dK []))) ∧ ∀ i m H, W i m H →
      (J.stop i H ∧ Qd H) ∨ (J.go i H ∧ ∃ Nx : Hp → Prop, (∀ H', Nx H' → ∃ m', m' < m ∧ W (i + 1) m' H') ∧ ∀ x H', J.yld i H x H' → g x (L2.wipe σ vs) H' fun σ2 H2 => L2.wipe σ2 vs = L2.wipe σ vs ∧ tt σ2 H2 fun b H3 =>
        if b = true then tk σ2 H3 fun y H4 => tv σ2 H4 fun z H5 => ∃ kvs k, y = kV k ∧ H5 D = some (.dK kvs) ∧ kvs.length < sizeLine ∧ Nx (upd H5 D (.dK (putK kvs k z))) else Nx H3) := by
  refine ⟨fun i m H => m = n - i ∧ i ≤ n ∧ Pv i H, ⟨n, by simp, Nat.zero_le _, h0⟩, fun i m H ⟨em, hi, hp⟩ => ?_⟩
  subst em
  have hg := hG i H hi hp
  rcases Nat.lt_or_eq_of_le hi with lt | rfl
  · exact .inr ⟨w.goes i H lt hg, Pv (i + 1), fun H' hp' => ⟨n - (i + 1), by omega, rfl, lt, hp'⟩, fun x H' hy => hs i x H H' lt hp (w.yields i H x H' lt hg hy)⟩
  · exact .inl ⟨w.stops H hg, hd H hp⟩
theorem compDL_cons {t : Bool} {f : D → PSt → Out (Option (D × D))} {d : D} {ds ks vs : List D} {p : PSt} {ok ex} (h : Holds (compDL t f (d :: ds) ks vs p) ok ex) :
    Holds (f d p) (fun o p' => match o with | none => Holds (compDL t f ds ks vs p') ok ex | some (k, y) => (ks.length < sizeLine ∧ isKey t k = true) ∧ Holds (compDL t f ds (dputK ks k) (dputV ks vs k y) p') ok ex) (fun _ _ _ => False) := by
  unfold compDL at h
  cases e : f d p with
  | bad => rw [e] at h; exact h
  | exc c xs p' => rw [e] at h; exact h
  | ok o p' =>
    rw [e] at h
    cases o with
    | none => exact h
    | some y =>
      obtain ⟨k, y⟩ := y
      dsimp only at h
      split at h
      · rename_i hz
        rw [Bool.and_eq_true, decide_eq_true_eq] at hz
        exact ⟨hz, h⟩
      · exact h.elim
theorem dcomp_red {k v it c : E} {tg : Tg} (ho : tg.own.all (fun i => (X.N[i]?).isSome) = true) {σ : L2.St} {H : Hp} {Q : VK} (hw : tV cf gt exv pa ca W X.K (.dcomp k v tg it c) σ H Q) :
    tDc (tI cf gt exv pa ca W X.K it) (tG pa ca X.K tg) (tCnd cf gt exv pa ca (fun _ _ _ _ => False) X.K c) (tC cf gt exv pa ca (fun _ _ _ _ => False) X.K k) (tV cf gt exv pa ca (fun _ _ _ _ => False) X.K v) ((ownOf X.N tg).map (·.2)) σ H Q := by
  obtain ⟨B, M, env, p, S, es, h⟩ := hw
  have om : (ownOf X.N tg).map (·.2) = tg.own := own_map ho
  rw [om]
  unfold evalE at h
  rw [Holds.bind] at h
  refine ⟨B, M, env, p, S, es.appl, h.imp (fun d p1 h1 => ?_) fun _ _ _ z => z⟩
  cases e1 : itemsD d with
  | none => simp only [e1] at h1; exact h1.elim
  | some ds =>
    simp only [e1] at h1
    refine ⟨ds, rfl, fun J H1 x1 q1 io L hD => ?_⟩
    have S1 := S.ext x1 q1
    change Holds (compDL false (fDx cf gt k v c tg (view env)) ds [] [] p1) _ _ at h1
    obtain ⟨G, Y, wk, hG, hY⟩ := io.ok
    have nDM : ¬ M L := fun z => S1.al L z hD
    have hk : ∀ {H2 : Hp}, Ext pa H1 H2 → Keep pa B M H1 (fun b => M b ∨ b = L) H2 := fun {H2} x => by
      refine ⟨fun b u hb e => ⟨fun z => z.elim hb fun z => ?_, x b u (fun z => hb (z ▸ S1.mpa)) e⟩, fun b u _ hn e => x b u hn e⟩
      rw [z, hD] at e; cases e
    have al1 : ∀ {H2 : Hp} {p2 : PSt} {acc : List (L2.Key × V)}, Ext pa H1 H2 → PoolOk pa ca H2 p2 → H2 L = some (.dK acc) → ∀ a, (M a ∨ a = L) → H2 a ≠ none := fun {H2 p2 acc} x q e a ha => by
      rcases ha with ha | ha
      · exact (S1.ext x q).al a ha
      · rw [ha, e]; simp
    refine dc_it wk (fun i H2 => ∃ (p2 : PSt) (acc : List (L2.Key × V)) (vD : List D), Ext pa H1 H2 ∧ PoolOk pa ca H2 p2 ∧ H2 L = some (.dK acc) ∧ (acc.map (·.1)).Nodup ∧ Reps X.K pa (fun b => M b ∨ b = L) H2 vD (acc.map (·.2)) ∧
      Holds (compDL false (fDx cf gt k v c tg (view env)) (ds.drop i) (acc.map fun q => kD q.1) vD p2) _ _) ⟨p1, [], [], .upd hD, pool_ext q1 (same_new hD), upd_same, by simp, .nil, h1⟩ (fun i H2 _ ⟨p2, acc, vD, x2, _⟩ => hG _ H2 (hk x2)) (fun i x H2 H3 hi ⟨p2, acc, vD, x2, q2, e2, nd, r2, h2⟩ y => ?_) fun H2 ⟨p2, acc, vD, x2, q2, e2, nd, r2, h2⟩ => ?_
    · obtain ⟨sm, dd, e3, r3⟩ := hY i H2 _ x H3 (hk x2) (al1 x2 q2 e2) (fun a vs ha z => ha.elim (fun ha => (S1.ext x2 q2).nt a vs ha z) (fun ha => by rw [ha, e2] at z; cases z)) hi y
      rw [List.drop_eq_getElem_cons hi] at h2
      have e4 : ds[i] = dd := by
        rw [List.getElem?_eq_getElem hi] at e3
        exact Option.some.inj e3
      rw [e4] at h2
      have h3 := compDL_cons h2
      unfold fDx at h3
      have x3 : Ext pa H1 H3 := x2.trans (.of_same sm)
      have q3 := pool_ext q2 sm
      have S3 : SOk X.K pa ca B (fun b => M b ∨ b = L) σ H3 env p2 := by
        have S3' := S1.ext x3 q3
        refine ⟨S3'.pool, S3'.bp, S3'.bc, fun a ha => .inl (S3'.sub a ha), al1 x3 q3 (sm _ _ e2), fun a vs ha z => ?_, fun j s e => ?_, S3'.sep, S3'.len⟩
        · rcases ha with ha | ha
          · exact S3'.nt a vs ha z
          · rw [ha, sm _ _ e2] at z; cases z
        have q := S1.sl j s e
        cases s with
        | no => trivial
        | val d' =>
          obtain ⟨v, g1, g2⟩ := q
          exact ⟨v, g1, g2.mono (hk x3).1⟩
        | own d' =>
          obtain ⟨a, vs, ds', u, g0, g1, g2, g3, g4, g5⟩ := q
          exact ⟨a, vs, ds', u, g0, g1, .inl g2, g3, x3 _ _ (fun z => g3 (z ▸ S1.bp)) g4, g5.mono (hk x3).1⟩
      have vb := view_bind tg dd env
      cases e5 : bindS tg dd env with
      | none =>
        rw [e5] at vb
        simp only [← vb, Option.map_none] at h3
        exact h3.elim
      | some env3 =>
        rw [e5] at vb
        simp only [← vb, Option.map_some] at h3
        obtain ⟨bo1, bo2, _⟩ := bind_own e5
        refine ⟨B, fun b => M b ∨ b = L, wipeS env tg.own, p2, dd, env3, S3.wipe tg.own, r3, by rw [bind_wipe]; exact e5, fun σ2 S4 on => ⟨?_, ?_⟩⟩
        · rw [wipe_only on]
          exact wipe_only Only.wipe
        · rw [Holds.bind] at h3
          refine ⟨B, _, env3, p2, S4, h3.imp (fun b p3 h4 H4 x4 q4 => ?_) fun c xs p z => z.elim⟩
          have S5 := S4.ext x4 q4
          have nDp : L ≠ pa := fun z => by rw [z, q1.hp] at hD; cases hD
          have nDc : ca ≠ L := fun z => by rw [← z, q1.hc] at hD; cases hD
          cases b with
          | false =>
            dsimp only
            rw [if_neg Bool.false_ne_true] at h4 ⊢
            exact ⟨p3, acc, vD, x3.trans x4, q4, x4 _ _ nDp (sm _ _ e2), nd, (x4.reps (.inl S1.mpa) ((Ext.of_same sm).reps (.inl S1.mpa) r2)), h4⟩
          | true =>
            dsimp only
            rw [if_pos rfl] at h4 ⊢
            rw [Holds.bind] at h4
            refine ⟨B, _, env3, p3, S5, h4.imp (fun kd p4 h5 kv H5 x5 q5 r5 => ?_) fun c xs p z => z.elim⟩
            rw [Holds.bind] at h5
            have S6 := S5.ext x5 q5
            refine ⟨B, _, env3, p4, S6, fun j hj d' e => ?_, h5.imp (fun yd p5 h6 yv H6 x6 q6 r6 _ => ?_) fun c xs p z => z.elim⟩
            · by_cases hm : j ∈ tg.own
              · exact bo1 j hm d' e
              · rw [bo2 j hm] at e
                exact es.appr j (List.mem_filter.mpr ⟨hj, by simpa using hm⟩) d' e
            · have e6 := x6 _ _ nDp (x5 _ _ nDp (x4 _ _ nDp (sm _ _ e2)))
              have r7 := x6.reps (.inl S1.mpa) (x5.reps (.inl S1.mpa) (x4.reps (.inl S1.mpa) ((Ext.of_same sm).reps (.inl S1.mpa) r2)))
              obtain ⟨⟨hz, hik⟩, h7⟩ := h6
              obtain ⟨kk, rfl⟩ := isKey_false hik
              cases rep_kD r5
              have kk' : ∀ b u, ¬ (M b ∨ b = L) → H6 b = some u → ¬ (M b ∨ b = L) ∧ (upd H6 L (.dK (putK acc kk yv))) b = some u := fun b u hb e => ⟨hb, by rw [upd_ne fun z => hb (.inr z)]; exact e⟩
              rw [List.length_map] at hz
              rw [dputK_put (f := kD) keq_kD kk yv acc] at h7
              refine ⟨acc, kk, rfl, e6, hz, p5, putK acc kk yv, _, fun b u hb e => ?_, ⟨q6.ne, q6.le, by rw [upd_ne (Ne.symm nDp)]; exact q6.hp, by rw [upd_ne nDc]; exact q6.hc⟩, upd_same, putK_nodup kk yv nd, (dputV_put (f := kD) keq_kD kk r6 nd r7).mono kk', h7⟩
              rw [upd_ne fun z => by rw [z, hD] at e; cases e]
              exact x6 b u hb (x5 b u hb (x4 b u hb (x3 b u hb e)))
    · rw [List.drop_length] at h2
      unfold compDL at h2
      have ho' : DictO false (acc.map fun q => kD q.1) (acc.map (·.2)) (.dK acc) := ⟨rfl, rfl, rfl, nd⟩
      refine h2 (.ref L) H2 (x1.trans x2) q2 ?_ fun _ => newv_ext S x1 q1 ⟨L, .dK acc, acc.map (·.2), rfl, hD, e2, ho', r2⟩
      unfold Rep
      exact ⟨L, .dK acc, acc.map (·.2), rfl, nDM, .inl e2, ho', r2.mono fun b u hb e => ⟨fun z => hb (.inl z), e⟩⟩
theorem s_dcomp {kx vx t i : Expr} {ifs : List Expr} {scope : Scope} {k v it c : E} {tg : Tg} (hc : X.calm = true) (nd : X.N.Nodup) (hi : PI X t i (tI cf gt exv pa ca W X.K it)) (ok : BlkOk X.N X.env.scope scope (ownOf X.N tg)) (ho : tg.own.all (fun i => (X.N[i]?).isSome) = true)
    (hg : ∀ (s : Shared) (H : Hp) (C : Addr) (cl : List (Str × Addr)) (fp : List Addr), PG (X.blk s H scope (compEnvC scope cl C X.env) fp) t (tG pa ca X.K tg))
    (ht : ∀ (s : Shared) (H : Hp) (C : Addr) (cl : List (Str × Addr)) (fp : List Addr), PTs (X.blk s H scope (compEnvC scope cl C X.env) fp) ifs (tCnd cf gt exv pa ca (fun _ _ _ _ => False) X.K c))
    (hk : ∀ (s : Shared) (H : Hp) (C : Addr) (cl : List (Str × Addr)) (fp : List Addr), PE (X.blk s H scope (compEnvC scope cl C X.env) fp) kx (tC cf gt exv pa ca (fun _ _ _ _ => False) X.K k))
    (he : ∀ (s : Shared) (H : Hp) (C : Addr) (cl : List (Str × Addr)) (fp : List Addr), PE (X.blk s H scope (compEnvC scope cl C X.env) fp) vx (tV cf gt exv pa ca (fun _ _ _ _ => False) X.K v))
    (hs : notSet i = true) : PE X (.DictComp kx vx [⟨t, i, ifs, 0⟩] scope pos) (tV cf gt exv pa ca W X.K (.dcomp k v tg it c)) :=
  (pe_dc hc nd hi ok hg ht hk he (notset_of hs)).imp fun σ H Q hw => dcomp_red ho hw
/-! ### {k: v} -/
theorem s_ddisp1 {k v : E} (hk : PE X x (tC cf gt exv pa ca W X.K k)) (hv : PE X y (tV cf gt exv pa ca W X.K v)) : PE X (.Dict [some x] [y] pos) (tV cf gt exv pa ca W X.K (.ddisp1 k v)) := by
  refine (pe_disp (pps_cons hk hv pps_nil) rfl rfl (by simp) (by simp)).imp fun σ H Q ⟨B, M, env, p, S, es, h⟩ => ?_
  intro q hq
  have nM : ¬ M q := fun z => S.al q z hq
  have x0 : Ext pa H (upd H q (.dK [])) := .of_same (same_new hq)
  have q0 := pool_ext S.pool (same_new (o := .dK []) hq)
  have k0 : ∀ b u, ¬ M b → H b = some u → ¬ (M b ∨ b = q) ∧ (upd H q (.dK [])) b = some u := fun b u hb e => ⟨fun z => z.elim hb fun z => (by rw [z, hq] at e; cases e), same_new hq b u e⟩
  have S0 : SOk X.K pa ca B (fun b => M b ∨ b = q) σ (upd H q (.dK [])) env p := by
    have S1 := S.ext x0 q0
    refine ⟨q0, S.bp, S.bc, fun a ha => .inl (S.sub a ha), fun a ha => ?_, fun a vs ha z => ?_, fun j s e => ?_, S.sep, S.len⟩
    · rcases ha with ha | rfl
      · exact S1.al a ha
      · rw [upd_same]; simp
    · rcases ha with ha | rfl
      · exact S1.nt a vs ha z
      · rw [upd_same] at z; cases z
    · have g := S.sl j s e
      cases s with
      | no => trivial
      | val d' =>
        obtain ⟨w, g1, g2⟩ := g
        exact ⟨w, g1, g2.mono k0⟩
      | own d' =>
        obtain ⟨a, vs, ds', u, g0, g1, g2, g3, g4, g5⟩ := g
        exact ⟨a, vs, ds', u, g0, g1, .inl g2, g3, x0 _ _ (fun z => g3 (z ▸ S.bp)) g4, g5.mono k0⟩
  unfold evalE at h
  rw [Holds.bind] at h
  refine ⟨B, _, env, p, S0, h.imp (fun d1 p1 h1 v1 H1 x1 q1 r1 => ?_) (exQ.mono x0)⟩
  rw [Holds.bind] at h1
  have S1 := S0.ext x1 q1
  refine ⟨B, _, env, p1, S1, es, h1.imp (fun d2 p2 h2 v2 H2 x2 q2 r2 _ => ?_) (exQ.mono (x0.trans x1))⟩
  split at h2 <;> first | exact h2.elim | skip
  rename_i hik
  obtain ⟨kk, rfl⟩ := isKey_false hik
  cases rep_kD r1
  have nqp : q ≠ pa := fun z => by rw [z, S.pool.hp] at hq; cases hq
  have nqc : ca ≠ q := fun z => by rw [← z, S.pool.hc] at hq; cases hq
  have eq2 : H2 q = some (.dK []) := x2 q _ nqp (x1 q _ nqp upd_same)
  refine ⟨eq2, [(kk, v2)], rfl, by simp, ?_⟩
  have em : mergeK [] [(kk, v2)] = [(kk, v2)] := rfl
  rw [em]
  have x3 : Ext pa H (upd H2 q (.dK [(kk, v2)])) := fun b u hb e => by
    rw [upd_ne (ne_of_none e hq)]
    exact x2 b u hb (x1 b u hb (same_new hq b u e))
  have q3 : PoolOk pa ca (upd H2 q (.dK [(kk, v2)])) p2 := ⟨q2.ne, q2.le, by rw [upd_ne (Ne.symm nqp)]; exact q2.hp, by rw [upd_ne nqc]; exact q2.hc⟩
  have k2 : ∀ b u, ¬ (M b ∨ b = q) → H2 b = some u → ¬ (M b ∨ b = q) ∧ (upd H2 q (.dK [(kk, v2)])) b = some u := fun b u hb e => ⟨hb, by rw [upd_ne fun z => hb (.inr z)]; exact e⟩
  have ho : DictO false [kD kk] [v2] (.dK [(kk, v2)]) := ⟨rfl, rfl, rfl, by simp⟩
  have r3 : Reps X.K pa (fun b => M b ∨ b = q) (upd H2 q (.dK [(kk, v2)])) [d2] [v2] := .one (r2.mono k2)
  refine h2 (.ref q) _ x3 q3 ?_ fun _ => ⟨q, _, [v2], rfl, hq, upd_same, ho, r3⟩
  unfold Rep
  exact ⟨q, _, [v2], rfl, nM, .inl upd_same, ho, r3.mono fun b u hb e => ⟨fun z => hb (.inl z), e⟩⟩
theorem s_ddisp2 {x2 y2 : Expr} {k v k2 v2 : E} (hk : PE X x (tC cf gt exv pa ca W X.K k)) (hv : PE X y (tV cf gt exv pa ca W X.K v)) (hk2 : PE X x2 (tC cf gt exv pa ca W X.K k2)) (hv2 : PE X y2 (tV cf gt exv pa ca W X.K v2)) : PE X (.Dict [some x, some x2] [y, y2] pos) (tV cf gt exv pa ca W X.K (.ddisp2 k v k2 v2)) := by
  refine (pe_disp (pps_cons hk hv (pps_cons hk2 hv2 pps_nil)) rfl rfl (by simp) (by simp)).imp fun σ H Q ⟨B, M, env, p, S, es, h⟩ => ?_
  intro q hq
  have nM : ¬ M q := fun z => S.al q z hq
  have x0 : Ext pa H (upd H q (.dK [])) := .of_same (same_new hq)
  have q0 := pool_ext S.pool (same_new (o := .dK []) hq)
  have k0 : ∀ b u, ¬ M b → H b = some u → ¬ (M b ∨ b = q) ∧ (upd H q (.dK [])) b = some u := fun b u hb e => ⟨fun z => z.elim hb fun z => (by rw [z, hq] at e; cases e), same_new hq b u e⟩
  have S0 : SOk X.K pa ca B (fun b => M b ∨ b = q) σ (upd H q (.dK [])) env p := by
    have S1 := S.ext x0 q0
    refine ⟨q0, S.bp, S.bc, fun a ha => .inl (S.sub a ha), fun a ha => ?_, fun a vs ha z => ?_, fun j s e => ?_, S.sep, S.len⟩
    · rcases ha with ha | rfl
      · exact S1.al a ha
      · rw [upd_same]; simp
    · rcases ha with ha | rfl
      · exact S1.nt a vs ha z
      · rw [upd_same] at z; cases z
    · have g := S.sl j s e
      cases s with
      | no => trivial
      | val d' =>
        obtain ⟨w, g1, g2⟩ := g
        exact ⟨w, g1, g2.mono k0⟩
      | own d' =>
        obtain ⟨a, vs, ds', u, g0, g1, g2, g3, g4, g5⟩ := g
        exact ⟨a, vs, ds', u, g0, g1, .inl g2, g3, x0 _ _ (fun z => g3 (z ▸ S.bp)) g4, g5.mono k0⟩
  have es1 : escOk (escE v) env := es.appl
  have es2 : escOk (escE v2) env := es.appr
  unfold evalE at h
  rw [Holds.bind] at h
  refine ⟨B, _, env, p, S0, h.imp (fun d1 p1 h1 v1 H1 x1 q1 r1 => ?_) (exQ.mono x0)⟩
  rw [Holds.bind] at h1
  have S1 := S0.ext x1 q1
  refine ⟨B, _, env, p1, S1, es1, h1.imp (fun d2 p2 h2 v2' H2 x2' q2 r2 _ => ?_) (exQ.mono (x0.trans x1))⟩
  rw [Holds.bind] at h2
  have S2 := S1.ext x2' q2
  refine ⟨B, _, env, p2, S2, h2.imp (fun d3 p3 h3 v3 H3 x3 q3 r3 => ?_) (exQ.mono ((x0.trans x1).trans x2'))⟩
  rw [Holds.bind] at h3
  have S3 := S2.ext x3 q3
  refine ⟨B, _, env, p3, S3, es2, h3.imp (fun d4 p4 h4 v4 H4 x4 q4 r4 _ => ?_) (exQ.mono (((x0.trans x1).trans x2').trans x3))⟩
  split at h4 <;> first | exact h4.elim | skip
  rename_i hik
  rw [Bool.and_eq_true] at hik
  obtain ⟨kk, rfl⟩ := isKey_false hik.1
  obtain ⟨kk2, rfl⟩ := isKey_false hik.2
  cases rep_kD r1
  cases rep_kD r3
  have nqp : q ≠ pa := fun z => by rw [z, S.pool.hp] at hq; cases hq
  have nqc : ca ≠ q := fun z => by rw [← z, S.pool.hc] at hq; cases hq
  have eq4 : H4 q = some (.dK []) := x4 q _ nqp (x3 q _ nqp (x2' q _ nqp (x1 q _ nqp upd_same)))
  refine ⟨eq4, [(kk, v2'), (kk2, v4)], rfl, by simp, ?_⟩
  have em : mergeK [] [(kk, v2'), (kk2, v4)] = putK [(kk, v2')] kk2 v4 := rfl
  rw [em]
  have r2' : Reps X.K pa (fun b => M b ∨ b = q) H4 [d2] [v2'] := x4.reps (.inl S.mpa) (x3.reps (.inl S.mpa) (.one r2))
  have nd1 : ([(kk, v2')].map (·.1)).Nodup := by simp
  have rr := dputV_put (f := kD) keq_kD kk2 r4 nd1 r2'
  have ek := dputK_put (f := kD) keq_kD kk2 v4 [(kk, v2')]
  have x5 : Ext pa H (upd H4 q (.dK (putK [(kk, v2')] kk2 v4))) := fun b u hb e => by
    rw [upd_ne (ne_of_none e hq)]
    exact x4 b u hb (x3 b u hb (x2' b u hb (x1 b u hb (same_new hq b u e))))
  have q5 : PoolOk pa ca (upd H4 q (.dK (putK [(kk, v2')] kk2 v4))) p4 := ⟨q4.ne, q4.le, by rw [upd_ne (Ne.symm nqp)]; exact q4.hp, by rw [upd_ne nqc]; exact q4.hc⟩
  have k4 : ∀ b u, ¬ (M b ∨ b = q) → H4 b = some u → ¬ (M b ∨ b = q) ∧ (upd H4 q (.dK (putK [(kk, v2')] kk2 v4))) b = some u := fun b u hb e => ⟨hb, by rw [upd_ne fun z => hb (.inr z)]; exact e⟩
  have ho : DictO false (dputK [kD kk] (kD kk2)) ((putK [(kk, v2')] kk2 v4).map (·.2)) (.dK (putK [(kk, v2')] kk2 v4)) := ⟨rfl, ek, rfl, putK_nodup kk2 v4 nd1⟩
  have r5 := rr.mono k4
  refine h4 (.ref q) _ x5 q5 ?_ fun _ => ⟨q, _, _, rfl, hq, upd_same, ho, r5⟩
  unfold Rep
  exact ⟨q, _, _, rfl, nM, .inl upd_same, ho, r5.mono fun b u hb e => ⟨fun z => hb (.inl z), e⟩⟩
end
end PD

namespace L2
open PySem PySem.Spec PyProof.Rows
section
variable {P : Program} {w : World} {A : Around} {E : Value → Shared → Prop} {s : Shared}
set_option maxHeartbeats 3200000 in
theorem call_set_listI {l : Addr} {items : Array Value} (ns : List Int) {Q : Value → Shared → Prop} (hh : A.handled = none) (hl : s.heap.IsList l items) (hit : IntsAre items.toList ns) (hb : ns.length + 1 < scanBound)
    (h : ∀ (h' : Heap) (tk c : Nat), SetR w h' s.heap.objs.size (fun j => decide (j ∈ ns)) c → c ≤ ns.length → (∀ b o, s.heap.get? b = some o → h'.get? b = some o) → Q (.ref s.heap.objs.size) { s with heap := h', toks := tk }) :
    wpAny (model P w) A (call (.type "set") [.ref l]) Q E s := by
  have hisz : items.size = ns.length := by
    have q := IntsAre.length hit
    rw [Array.length_toList] at q
    exact q
  obtain ⟨c, tl, hmro⟩ := F.called_set.mro
  have hmade := F.called_set.made
  have hsub := F.called_set.sub
  refine wpAny_call (codeAny_of_tree ?_)
  show wpAny _ _ (callAny (.type "set") _) _ _ _
  refine wpAny_pure ⟨Code.quiet_builtin _ (by decide +kernel), codeAny_builtin F.entry_type_call ?_⟩
  rw [Around.under_plain (weight_type_call_type "set" [.ref l] []) rfl]
  have h1 := F.called_set.notType
  have h2 := F.called_set.canCreate
  have hct := F.typeCall_set_1 (.ref l)
  repeat (any_goals (first | assumption | wp_step))

  refine codeAny_mono (code_set_led1 (.ref l) (E := E) (Q₁ := fun obj s₁ => obj = .ref s.heap.objs.size ∧ s₁ = { s with heap := s.heap.push { cls := .type "set", dict := none, data := .set #[] 0 (.fresh 0 0 (!w.params.followText "set-order")) } }) ⟨rfl, rfl⟩) fun r s₁ hr => ?_
  cases r with
  | error e => exact hr
  | ok fl =>
    cases fl with
    | ret obj =>
      obtain ⟨rfl, rfl⟩ := hr
      have hS : (s.heap.push { cls := .type "set", dict := none, data := .set #[] 0 (.fresh 0 0 (!w.params.followText "set-order")) }).get? s.heap.objs.size = some { cls := .type "set", dict := none, data := .set #[] 0 (.fresh 0 0 (!w.params.followText "set-order")) } := Heap.get?_push_size _ rfl
      have hT : Shared.TypeIs { s with heap := s.heap.push { cls := .type "set", dict := none, data := .set #[] 0 (.fresh 0 0 (!w.params.followText "set-order")) } } (.ref s.heap.objs.size) "set" := ⟨_, hS, rfl⟩
      have hli := F.called_set.init.lookup
      have hbi := F.called_set.init.bind (.ref s.heap.objs.size)
      repeat (any_goals (first | assumption | wp_step))

      refine codeAny_mono (codeAny_call_builtin (R := wants (fun r s₂ => r = .none ∧ ∃ h' tk c, s₂ = { s with heap := h', toks := tk } ∧ SetR w h' s.heap.objs.size (fun j => decide (j ∈ ns)) c ∧ c ≤ ns.length ∧
          (∀ b o, s.heap.get? b = some o → h'.get? b = some o)) E) F.called_set.init.plain F.entry_set_init (check_set_init_1 hT ?_)) fun r₂ s₂ hr₂ => ?_
      · obtain ⟨ol, hol, hcl, nl, hdl⟩ := hl
        obtain ⟨ocls, odict, odata, oslots⟩ := ol
        simp only at hcl hdl
        subst hcl; subst hdl
        have hol' : (s.heap.push { cls := .type "set", dict := none, data := .set #[] 0 (.fresh 0 0 (!w.params.followText "set-order")) }).get? l = some { cls := .type "list", dict := odict, data := .seq items nl, slots := oslots } := Heap.get?_push_of_some _ hol
        have hsls := F.sub_list_set
        have hslf := F.sub_list_frozenset
        have hne : (Value.type "list" == Value.type "dict") = false := by decide
        have hl1 : (s.heap.push { cls := .type "set", dict := none, data := .set #[] 0 (.fresh 0 0 (!w.params.followText "set-order")) }).IsList l items := ⟨_, hol', rfl, nl, rfl⟩
        unfold Builtin.«set.__init__» noKeywords Builtin.Frozenset.updateFrom
        generalize hPI : pyIter = PI
        wp_walk
        subst hPI

        refine wpAny_pyIter_list hl1 ?_
        refine wpAny_bind (wpAny_runValue ?_)
        have hlS : l < s.heap.objs.size := Heap.lt_size hol
        have hh3 : A.in1.in1.in1.handled = none := by simp [hh]
        have hz1 : (s.heap.push { cls := .type "set", dict := none, data := .set #[] 0 (.fresh 0 0 (!w.params.followText "set-order")) }).objs.size = s.heap.objs.size + 1 := Heap.size_push ..
        have hneI : l ≠ (s.heap.push { cls := .type "set", dict := none, data := .set #[] 0 (.fresh 0 0 (!w.params.followText "set-order")) }).objs.size := by
          rw [Heap.size_push]; exact Nat.ne_of_lt (Nat.lt_succ_of_lt hlS)
        have hSf : s.heap.objs.size ∉ [(s.heap.push { cls := .type "set", dict := none, data := .set #[] 0 (.fresh 0 0 (!w.params.followText "set-order")) }).objs.size, l] := by
          rw [Heap.size_push]; simp only [List.mem_cons, List.mem_singleton, List.not_mem_nil, or_false, not_or]
          exact ⟨Nat.ne_of_lt (Nat.lt_succ_self _), Nat.ne_of_gt hlS⟩
        have hval : ∀ (i : Nat) (v : Value), items[i]? = some v → ∃ k t, ns[i]? = some k ∧ v = .int k t := fun i v hv => by
          have hi : i < ns.length := by rw [← hisz]; exact (Array.getElem?_eq_some_iff.mp hv).1
          obtain ⟨t, e⟩ := PyProof.Rows.IntsAre.int_at hit i v (by rw [Array.getElem?_toList]; exact hv)
          refine ⟨ns[i], t, List.getElem?_eq_getElem hi, ?_⟩
          rw [e, List.getD_eq_getElem?_getD, List.getElem?_eq_getElem hi] <;> rfl
        refine set_update_ints ((Walks.list hh3 _ l hneI items).toS) s.heap.objs.size
          hSf ns hisz hb hval (items.size - 0) 0 _ (by omega) (Nat.zero_le _)
          ⟨⟨_, Heap.get?_push_size _ rfl, rfl, rfl⟩, (hl1.push _)⟩ ?hS0 ?hR
        case hS0 =>
          have hget : ((s.heap.push { cls := .type "set", dict := none, data := .set #[] 0 (.fresh 0 0 (!w.params.followText "set-order")) }).push { cls := .type "list_iterator", data := .fields #[.ref l, .int 0 0] }).get? s.heap.objs.size
              = some { cls := .type "set", dict := none, data := .set #[] 0 (.fresh 0 0 (!w.params.followText "set-order")) } := Heap.get?_push_of_some _ hS
          exact ⟨0, Nat.le_refl 0, setR_new_at hget⟩
        case hR =>
          intro s' c' hm hc' hS'
          obtain ⟨h', g2, d', tk', os'⟩ := s'
          have eg : g2 = s.gens := hm.gens
          have ed : d' = s.drawn := hm.drawn
          have eo : os' = s.os := hm.os
          subst eg; subst ed; subst eo
          show wpAny _ _ _ _ _ _
          refine wpAny_pure ?_
          show wpAny _ _ (ret Value.none) _ _ _
          rw [hisz] at hc'
          refine wpAny_pure ⟨rfl, h', tk', c', rfl, hS', hc', fun b o e => ?_⟩
          have hb0 : b < s.heap.objs.size := Heap.lt_size e
          have hb1 : b ≠ s.heap.objs.size := Nat.ne_of_lt hb0
          have hb2 : b ≠ (s.heap.push { cls := .type "set", dict := none, data := .set #[] 0 (.fresh 0 0 (!w.params.followText "set-order")) }).objs.size := by
            rw [Heap.size_push]; exact Nat.ne_of_lt (Nat.lt_succ_of_lt hb0)
          exact hm.heap b o (by simp only [List.mem_cons, List.mem_singleton, List.not_mem_nil, or_false, not_or]; exact ⟨hb1, hb2⟩) (Heap.get?_push_of_some _ (Heap.get?_push_of_some _ e))

      · cases r₂ with
        | error e => exact hr₂
        | ok fl₂ =>
          cases fl₂ with
          | ret r =>
            obtain ⟨rfl, h', tk, c', rfl, hS', hc', hk'⟩ := hr₂
            repeat (any_goals (first | assumption | wp_step))
            exact h _ _ _ hS' hc' hk'
          | _ => exact hr₂.elim
    | _ => exact hr.elim

end
end L2
namespace PD
open PySem PySem.Spec PyProof.Rows L2
theorem onceL_mem (ns : List Int) (k : Int) : k ∈ onceL ns ↔ k ∈ ns := by
  have key : ∀ (ns acc : List Int), k ∈ (ns.foldl (fun acc x => if acc.contains x then acc else acc ++ [x]) acc) ↔ k ∈ acc ∨ k ∈ ns := by
    intro ns
    induction ns with
    | nil => intro acc; simp
    | cons x r ih =>
      intro acc
      rw [List.foldl_cons, ih]
      split
      · rename_i hx
        have hx := List.contains_iff_mem.mp hx
        constructor
        · rintro (h | h)
          · exact .inl h
          · exact .inr (List.mem_cons_of_mem _ h)
        · rintro (h | h)
          · exact .inl h
          · rcases List.mem_cons.mp h with rfl | h
            · exact .inl hx
            · exact .inr h
      · rw [List.mem_append, List.mem_singleton, List.mem_cons, or_assoc]
  have h := key ns []
  rw [show (k ∈ ([] : List Int)) = False from by simp, false_or] at h
  exact h
section
variable {cf : Str → List D → PSt → Out D} {gt : Str → Option D} {exv : ExV} {pa ca : Addr} {W : WX} {n : Nat} {X : Cx} {fns : List Str}
variable {A B' C R : E} {x y z : Expr} {xs : List Expr} {pos : Pos}
theorem setR_size {w : World} {h : Heap} {a : Addr} {ns : List Int} {c : Nat} (R : SetR w h a (fun j => decide (j ∈ ns)) c) : c = (onceL ns).length := by
  obtain ⟨o, es, ep, t, ho, hex, hdt, g, nd, hm2, hb, hf, hn, hr, hl2⟩ := R
  have pm : (es.toList.map keyOf).Perm (onceL ns) := (List.perm_ext_iff_of_nodup nd (onceL_nodup ns)).mpr fun k => by
    rw [← hm2 k, decide_eq_true_eq, onceL_mem]
  rw [← pm.length_eq, List.length_map, Array.length_toList, hn]
def rSetLi (K : PySem.W.Frag) (w : World) : List V → Hp → VK → Prop := fun xs H Q => ∃ (a : Addr) (ns : List Int), xs = [.ref a] ∧ SqL K H a (ns.map V.int) ∧ ns.length ≤ 4000 ∧ ∀ p, H p = none → Q (.ref p) (upd H p (SetO w p (fun j => decide (j ∈ ns)) (onceL ns).length))
theorem cr_setL (hc : X.calm = true) : CallR X (.type "set") (rSetLi X.K X.w) := by
  intro pins s σ H xs us Q I r h
  obtain ⟨a, ns, rfl, hq, hl, q⟩ := h
  rw [Vals.ref1 r]
  obtain ⟨its, rv, p', hz⟩ := I.list hq
  have hi : IntsAre its.toArray.toList ns := ints_of_vals rv
  refine call_set_listI ns (I.ok.hd hc) p'.isList hi (by unfold scanBound; omega) fun h' tk c R1 hcn k => ?_
  obtain rfl := setR_size R1
  exact ⟨.ref _, upd H s.heap.objs.size (SetO X.w s.heap.objs.size (fun j => decide (j ∈ ns)) (onceL ns).length), I.laid (t' := tk) k (Nat.le_refl _) (setO_new R1), rfl, q _ (I.hok.fresh (Nat.le_refl _))⟩
end
end PD

namespace PD
open PySem PySem.Spec PyProof.Rows L2
section
variable {cf : Str → List D → PSt → Out D} {gt : Str → Option D} {exv : ExV} {pa ca : Addr} {W : WX} {n : Nat} {X : Cx} {fns : List Str}
variable {A B' C R : E} {x y z : Expr} {xs : List Expr} {pos : Pos}
theorem reps_ints_of {K : PySem.W.Frag} {M : Ms} {H : Hp} : ∀ ns : List Int, Reps K pa M H (ns.map .int) (ns.map V.int)
  | [] => .nil
  | n :: ns => .cons (by unfold Rep; rfl) (reps_ints_of ns)
theorem s_sortset {p0 p2 pos2 : Pos} (ok : XOk cf gt fns exv pa ca W n X) (hg : Gl X "sorted") (hg2 : Gl X "set") {e : Expr} (hs : notStar e = true)
    (h : PE X e (tB cf gt exv pa ca W X.K A)) : PE X (.Call (.Name "sorted" p0) [.Call (.Name "set" p2) [e] [] pos2] [] pos) (tV cf gt exv pa ca W X.K (.sortset A)) := by
  refine (pe_callB (cr_sortedSet ok.calm) hg ok.sorted boot_sorted' (pa_cons (pe_callTy (cr_setL ok.calm) hg2 ok.set boot_set' (pa_cons h pa_nil (star_of hs)) (by decide) rfl (star_of hs) rfl) pa_nil) (by decide) rfl rfl rfl).imp fun σ H Q ⟨B, M, env, p, S, es, h⟩ => ?_
  unfold evalE at h
  rw [Holds.bind] at h
  refine ⟨B, M, env, p, S, es, h.imp (fun d p1 h1 v H1 x1 q1 r1 => ?_) fun _ _ _ z => z⟩
  have S1 := S.ext x1 q1
  cases d <;> first | exact h1.elim | skip
  rename_i ds
  dsimp only at h1
  cases e2 : intsD ds with
  | none => rw [e2] at h1; exact h1.elim
  | some ns =>
    rw [e2] at h1
    dsimp only at h1
    split at h1 <;> first | exact h1.elim | skip
    rename_i hz
    obtain ⟨a, ws, rfl, _, g1, g2⟩ := r1
    rw [intsD_map e2] at g2
    rw [reps_ints g2] at g1
    refine ⟨a, ns, rfl, .inl (.inl g1), hz.1, fun q hq => ?_⟩
    refine ⟨q, _, _, rfl, upd_same, hz.2, fun ms r hp hm hl hr => ?_⟩
    have em : ms = (onceL ns).mergeSort fun a b => decide (a ≤ b) := sorted_unique hp (onceL_sorted ns) fun k => by
      rw [hm k, decide_eq_true_eq, (List.mergeSort_perm _ _).mem_iff, onceL_mem]
    subst em
    have x2 : Ext pa H1 (upd H1 q (SetO X.w q (fun j => decide (j ∈ ns)) (onceL ns).length)) := .of_same (same_new hq)
    have q2 := pool_ext q1 (same_new (o := SetO X.w q (fun j => decide (j ∈ ns)) (onceL ns).length) hq)
    have S2 := S1.ext x2 q2
    have nl := new_lst (K := X.K) (pa := pa) (M := M) S2.al hr (reps_ints_of ((onceL ns).mergeSort fun a b => decide (a ≤ b)))
    exact h1 _ _ ((x1.trans x2).trans (.of_same (same_new hr))) (pool_ext q2 (same_new hr)) nl.1 fun _ => newv_ext S (x1.trans x2) q2 nl.2
theorem sorted_desc {l m : List Int} (h1 : l.Pairwise (· ≥ ·)) (h2 : m.Pairwise (· ≥ ·)) (h : l.Perm m) : l = m := h.eq_of_pairwise (fun a b _ _ x y => by omega) h1 h2
theorem s_sortr {p0 : Pos} {m : Nat} {pb pk : Pos} (ok : XOk cf gt fns exv pa ca W n X) (hg : Gl X "sorted") {e : Expr} (hs : notStar e = true)
    (h : PE X e (tB cf gt exv pa ca W X.K A)) : PE X (.Call (.Name "sorted" p0) [e] [⟨some "reverse", .Constant (.bool true) m pb, pk⟩] pos) (tV cf gt exv pa ca W X.K (.sortr A)) := by
  refine (pe_callBK (ks := ["reverse"]) (cr_sortedRev (b := true)) hg ok.sorted boot_sorted' (pa_cons h pa_nil (star_of hs)) (pk_cons pe_bl pk_nil) (by decide) rfl (by rw [star_of hs]; rfl) (by rw [star_of hs]; rfl)).imp fun σ H Q ⟨B, M, env, p, S, es, h⟩ => ?_
  unfold evalE at h
  rw [Holds.bind] at h
  refine ⟨B, M, env, p, S, es, h.imp (fun d p1 h1 v H1 x1 q1 r1 => ?_) fun _ _ _ z => z⟩
  have S1 := S.ext x1 q1
  obtain ⟨d2, e2, h2⟩ := h1.lift
  cases d <;> first | (cases e2; done) | skip
  rename_i ds
  unfold sortrD at e2
  dsimp only at e2
  cases e3 : intsD ds with
  | none => rw [e3] at e2; cases e2
  | some ns =>
    rw [e3] at e2
    dsimp only at e2
    split at e2 <;> first | (cases e2; done) | skip
    cases e2
    obtain ⟨a, ws, rfl, _, g1, g2⟩ := r1
    rw [intsD_map e3] at g2
    rw [reps_ints g2] at g1
    refine ⟨a, ns, rfl, rfl, .inl (.inl g1), fun ns' q hp ho hq => ?_⟩
    have em : ns' = ns.mergeSort fun a b => decide (b ≤ a) := sorted_desc (by simpa [OrdB] using ho) (by
      have := List.pairwise_mergeSort (le := fun a b : Int => decide (b ≤ a)) (fun a b c h1 h2 => by simp at *; omega) (fun a b => by simp; omega) ns
      simpa using this) (hp.trans (List.mergeSort_perm _ _).symm)
    subst em
    have nl := new_lst (K := X.K) (pa := pa) (M := M) S1.al hq (reps_ints_of (ns.mergeSort fun a b => decide (b ≤ a)))
    exact h2 _ _ (x1.trans (.of_same (same_new hq))) (pool_ext q1 (same_new hq)) nl.1 fun _ => newv_ext S x1 q1 nl.2
def rMinDf (K : PySem.W.Frag) : List V → List V → Hp → VK → Prop := fun vs zs H Q => ∃ (a : Addr) (ns : List Int) (i : Int), vs = [V.ref a] ∧ zs = [V.int i] ∧ SqL K H a (ns.map V.int) ∧ Q (.int ((minI ns).getD i)) H
theorem minI_foldl (n : Int) : ∀ r : List Int, (minI (n :: r)) = some (r.foldl min n) := fun r => by
  unfold minI
  congr 1
  have : (fun m y : Int => if y < m then y else m) = min := by
    funext m y
    rw [Int.min_def]
    split <;> split <;> omega
  rw [this]
theorem cr_mind (hc : X.calm = true) (hu : X.A.units + 65 < cLine) : CallRK X (.builtin "min") [Str.ofString "default"] (rMinDf X.K) := by
  intro pins s σ H vs zs us ws Q I r rz h
  obtain ⟨a, ns, i, rfl, rfl, hs, q⟩ := h
  obtain rfl := Vals.ref1 r
  obtain ⟨w1, rfl, t, rfl⟩ := vals1 rz
  obtain ⟨its, rv, hl, hz⟩ := I.list hs
  have rp : Reps X.K 0 (fun _ => True) H (ns.map .int) (ns.map V.int) := reps_ints_of ns
  have er := each_reps rp rv
  have reads : PySem.W.EachIs (fun v b => ∃ as, Reads s.heap v (toPy b) as) its (ns.map D.int) := by
    have key : ∀ {ds : List D} {its : List Value}, (∀ d ∈ ds, D.fits 60 d = true) → PySem.W.EachIs (fun v d => ∃ x, RelV x v ∧ Rep X.K 0 (fun _ => True) H d x) its ds → PySem.W.EachIs (fun v b => ∃ as, Reads s.heap v (toPy b) as) its ds := by
      intro ds its hf e
      induction e with
      | nil => exact .nil
      | cons h1 _ ih =>
        obtain ⟨x, g1, g2⟩ := h1
        exact .cons (Dp.reads I _ x _ (g2.dp 60 _ _ (hf _ (by simp))) g1) (ih fun d hd => hf d (by simp [hd]))
    exact key (fun d hd => by
      obtain ⟨k, _, rfl⟩ := List.mem_map.mp hd
      unfold D.fits; rfl) er
  obtain ⟨as, hr⟩ := PySem.W.each_readsAll toPy reads
  have em : (ns.map D.int).map toPy = ns.map PyData.int := by
    rw [List.map_map]
    congr 1
  rw [em] at hr
  have al : PySem.W.AlikeAll (ns.map PyData.int) := by
    refine ⟨fun d hd d' hd' => ?_, fun d hd => ?_⟩
    · obtain ⟨k, _, rfl⟩ := List.mem_map.mp hd
      obtain ⟨k', _, rfl⟩ := List.mem_map.mp hd'
      rfl
    · obtain ⟨k, _, rfl⟩ := List.mem_map.mp hd
      intro z; cases z
  have dep : PyData.depthAll (ns.map PyData.int) ≤ 61 := by
    have key : ∀ l : List Int, PyData.depthAll (l.map PyData.int) ≤ 61 := fun l => by
      induction l with
      | nil => simp [PyData.depthAll]
      | cons d l ih =>
        simp only [List.map_cons, PyData.depthAll, PyData.depth]
        omega
    exact key ns
  refine PySem.W.min_list_default (vs := its.toArray) (I.ok.hd hc) hl.isList hr al (by omega) (fun e h' tk hk => ?_) (fun y ys j v h' tk bs e hv hr' hk => ?_)
  · have : ns = [] := by simpa using e
    subst this
    exact ⟨.int i, H, I.kept hk, ⟨t, rfl⟩, q⟩
  · cases ns with
    | nil => cases e
    | cons n r =>
      simp only [List.map_cons, List.cons.injEq] at e
      obtain ⟨rfl, rfl⟩ := e
      rw [PySem.W.minD_ints] at hr'
      rw [minI_foldl, Option.getD_some] at q
      cases hr'
      exact ⟨.int _, H, I.kept hk, ⟨_, rfl⟩, q⟩
theorem boot_min' : bootBuiltins "min" = some (.builtin "min") := by decide +kernel
theorem s_mind {p0 : Pos} {i : Int} {m : Nat} {pb pk : Pos} (ok : XOk cf gt fns exv pa ca W n X) (hg : Gl X "min") {e : Expr} (hs : notStar e = true)
    (h : PE X e (tC cf gt exv pa ca W X.K A)) : PE X (.Call (.Name "min" p0) [e] [⟨some "default", .Constant (.int i) m pb, pk⟩] pos) (tV cf gt exv pa ca W X.K (.mind A i)) := by
  refine (pe_callBK (ks := ["default"]) (cr_mind ok.calm (units_of ok)) hg ok.min boot_min' (pa_cons h pa_nil (star_of hs)) (pk_cons pe_int pk_nil) (by decide) rfl (by rw [star_of hs]; rfl) (by rw [star_of hs]; rfl)).imp fun σ H Q ⟨B, M, env, p, S, es, h⟩ => ?_
  unfold evalE at h
  rw [Holds.bind] at h
  refine ⟨B, M, env, p, S, h.imp (fun d p1 h1 v H1 x1 q1 r1 => ?_) fun _ _ _ z => z⟩
  have S1 := S.ext x1 q1
  cases d <;> first | exact h1.elim | skip
  rename_i ds
  dsimp only at h1
  cases e3 : intsD ds with
  | none => rw [e3] at h1; exact h1.elim
  | some ns =>
    rw [e3] at h1
    dsimp only at h1
    unfold Rep at r1
    obtain ⟨a, ws, rfl, g1, g2⟩ := r1
    rw [intsD_map e3] at g2
    rw [reps_ints g2] at g1
    exact ⟨a, ns, i, rfl, rfl, .inl (.inl g1.2), h1 _ H1 x1 q1 rep_int fun z => by cases z⟩
end
end PD

set_option maxHeartbeats 1000000
namespace RZ2
open PySem
open PySem.Sem (wp)
abbrev IsZipG (h : Heap) (z TI TO : Addr) (f0 f1 : Value) : Prop :=
  h.get? z = some { cls := .type "zip", dict := none, data := .fields #[f0, f1, .bool false, .ref TI, .ref TO], slots := #[] }
section
variable {prog : Program} {w : World} {A : Around} {E : Value → Shared → Prop} {s : Shared}
theorem wpAny_loadIfAlive {a : Addr} {Q : Option Obj → Shared → Prop} (h : Q (s.heap.get? a) s) : wpAny (model prog w) A (loadIfAlive a) Q E s := fun _ _ _ => h
theorem notFree {z TI TO T : Addr} {b : Bool} {Q : Bool → Shared → Prop} (hz : IsZipG s.heap z TI TO (rawInt T) (.bool b)) (hT : ∃ o, s.heap.get? T = some o)
    (h : ∀ h', IsZipG h' z TI TO (rawInt T) (.bool true) → Heap.ExtBut z s.heap h' → h'.objs.size = s.heap.objs.size → Q false { s with heap := h' }) :
    wpAny (model prog w) A (Builtin.SmallTypes.ownedTupleIsFree (.ref z)) Q E s := by
  unfold Builtin.SmallTypes.ownedTupleIsFree
  refine wpAny_bind (wpAny_field hz rfl (x := rawInt T) rfl ?_)
  show wpAny _ _ (loadIfAlive ((T : Nat) : Int).toNat >>= _) _ _ _
  refine wpAny_bind (wpAny_loadIfAlive ?_)
  obtain ⟨o, ho⟩ := hT
  rw [Int.toNat_natCast, ho]
  simp only [Option.isNone_some, Bool.false_eq_true, if_false]
  refine wpAny_bind (wpAny_field hz rfl (x := .bool b) rfl ?_)
  cases b with
  | true =>
    show wpAny _ _ (pure false) _ _ _
    exact wpAny_pure (h _ hz (fun _ _ _ e => e) rfl)
  | false =>
    show wpAny _ _ (setField (.ref z) 1 (.bool true) >>= _) _ _ _
    refine wpAny_bind (wpAny_setField_rec hz (by simp) fun h₁ hz₁ hs₁ => ?_)
    replace hz₁ : IsZipG h₁ z TI TO (rawInt T) (.bool true) := hz₁
    exact wpAny_pure (h _ hz₁ hs₁.extBut hs₁.1)
theorem next2_item {z TI TO i1 i2 l1 l2 T : Addr} {k1 k2 : Nat} {xs ys : Array Value} {x y : Value} {b : Bool} {Q : Value → Shared → Prop} (D : ZipApart z TI TO i1 i2 l1 l2)
    (hz : IsZipG s.heap z TI TO (rawInt T) (.bool b)) (hT : ∃ o, s.heap.get? T = some o) (hTI : IsPair s.heap TI (.ref i1) (.ref i2))
    (h1 : s.heap.IsTupleIter i1 l1 k1) (h2 : s.heap.IsTupleIter i2 l2 k2) (hl1 : s.heap.IsTuple l1 xs) (hl2 : s.heap.IsTuple l2 ys) (hx : xs[k1]? = some x) (hy : ys[k2]? = some y)
    (hQ : ∀ h', IsZipG h' z TI TO (rawInt T) (.bool true) → h'.IsTupleIter i1 l1 (k1 + 1) → h'.IsTupleIter i2 l2 (k2 + 1) → IsPair h' s.heap.objs.size x y → h'.objs.size = s.heap.objs.size + 1 →
      (∀ c o, c ≠ z → c ≠ i1 → c ≠ i2 → s.heap.get? c = some o → h'.get? c = some o) → Q (.ref s.heap.objs.size) { s with heap := h' }) :
    wpAny (model prog w) A (Builtin.«zip.__next__» ⟨[.ref z], []⟩) (fun fin s' => ∃ v, fin = .done (.ret v) ∧ Q v s') E s := by
  show wpAny _ _ (field (.ref z) 2 >>= _) _ _ _
  refine wpAny_bind (wpAny_field hz rfl (x := .bool false) rfl ?_)
  show wpAny _ _ (field (.ref z) 3 >>= _) _ _ _
  refine wpAny_bind (wpAny_field hz rfl (x := .ref TI) rfl ?_)
  refine wpAny_bind (wpAny_seqItems hTI rfl ?_)
  show wpAny _ _ (Builtin.SmallTypes.ownedTupleIsFree (.ref z) >>= _) _ _ _
  refine wpAny_bind (notFree hz hT fun h₁ hz₁ hs₁ hsz₁ => ?_)
  simp only [Bool.false_eq_true, if_false]
  refine wpAny_bind ?_
  rw [← Array.forIn_toList]
  simp only [List.forIn_cons, List.forIn_nil]
  refine wpAny_bind (wpAny_bind (wpAny_holding ?_))
  show wpAny _ _ (Builtin.SmallTypes.nextOf (.ref i1) >>= _) _ _ _
  refine wpAny_bind (RZ.nextOf_tuple_item (h1.extBut hs₁ D.i1z) (hl1.extBut hs₁ D.l1z) hx fun h₂ h1₂ hs₂ => wpAny_pure ?_)
  refine wpAny_pure ?_
  dsimp only
  refine wpAny_bind (wpAny_bind (wpAny_holding ?_))
  show wpAny _ _ (Builtin.SmallTypes.nextOf (.ref i2) >>= _) _ _ _
  refine wpAny_bind (RZ.nextOf_tuple_item ((h2.extBut hs₁ D.i2z).extBut hs₂.extBut D.i12.symm) ((hl2.extBut hs₁ D.l2z).extBut hs₂.extBut D.l2i1) hy fun h₃ h2₃ hs₃ => wpAny_pure ?_)
  refine wpAny_pure ?_
  dsimp only
  refine wpAny_pure ?_
  dsimp only
  have hsz : h₃.objs.size = s.heap.objs.size := by rw [hs₃.1, hs₂.1, hsz₁]
  rw [show ((#[].push x).push y).toList = [x, y] from rfl]
  refine wpAny_bind (wpAny_newTuple ?_)
  refine wpAny_pure ⟨_, rfl, ?_⟩
  have hz₃ : IsZipG h₃ z TI TO (rawInt T) (.bool true) := hs₃.extBut _ _ D.i2z.symm (hs₂.extBut _ _ D.i1z.symm hz₁)
  have hp : IsPair (h₃.push { cls := .type "tuple", data := .seq #[x, y] }) h₃.objs.size x y := Heap.get?_push_size _ rfl
  rw [hsz] at hp
  show Q (.ref h₃.objs.size) _
  rw [hsz]
  exact hQ _ (Heap.get?_push_of_some _ hz₃) ((h1₂.extBut hs₃.extBut D.i12).at fun o e => Heap.get?_push_of_some _ e) (h2₃.at fun o e => Heap.get?_push_of_some _ e) hp (by rw [Heap.size_push, hsz])
    fun c o c1 c2 c3 e => Heap.get?_push_of_some _ (hs₃.extBut _ _ c3 (hs₂.extBut _ _ c2 (hs₁ _ _ c1 e)))
theorem next2_end {z TI TO i1 i2 l1 l2 T : Addr} {k1 k2 : Nat} {xs ys : Array Value} {b : Bool} {Q : Fin → Shared → Prop} (hh : A.handled = none) (D : ZipApart z TI TO i1 i2 l1 l2)
    (hz : IsZipG s.heap z TI TO (rawInt T) (.bool b)) (hT : ∃ o, s.heap.get? T = some o) (hTI : IsPair s.heap TI (.ref i1) (.ref i2))
    (h1 : s.heap.IsTupleIter i1 l1 k1) (h2 : s.heap.IsTupleIter i2 l2 k2) (hl1 : s.heap.IsTuple l1 xs) (hl2 : s.heap.IsTuple l2 ys) (hend : xs[k1]? = none ∨ ys[k2]? = none)
    (hE : ∀ h' e, (∀ c o, c ≠ z → c ≠ i1 → c ≠ i2 → s.heap.get? c = some o → h'.get? c = some o) → (∃ o, h'.get? e = some o ∧ o.cls = .type "StopIteration") → E (.ref e) { s with heap := h' }) :
    wpAny (model prog w) A (Builtin.«zip.__next__» ⟨[.ref z], []⟩) Q E s := by
  show wpAny _ _ (field (.ref z) 2 >>= _) _ _ _
  refine wpAny_bind (wpAny_field hz rfl (x := .bool false) rfl ?_)
  show wpAny _ _ (field (.ref z) 3 >>= _) _ _ _
  refine wpAny_bind (wpAny_field hz rfl (x := .ref TI) rfl ?_)
  refine wpAny_bind (wpAny_seqItems hTI rfl ?_)
  show wpAny _ _ (Builtin.SmallTypes.ownedTupleIsFree (.ref z) >>= _) _ _ _
  refine wpAny_bind (notFree hz hT fun h₁ hz₁ hs₁ hsz₁ => ?_)
  simp only [Bool.false_eq_true, if_false]
  refine wpAny_bind ?_
  rw [← Array.forIn_toList]
  simp only [List.forIn_cons, List.forIn_nil]
  refine wpAny_bind (wpAny_bind (wpAny_holding ?_))
  show wpAny _ _ (Builtin.SmallTypes.nextOf (.ref i1) >>= _) _ _ _
  cases hx : xs[k1]? with
  | none =>
    refine wpAny_bind (RZ.nextOf_tuple_end hh (h1.extBut hs₁ D.i1z) (hl1.extBut hs₁ D.l1z) hx fun h₂ e hs₂ he => ?_)
    exact hE h₂ e (fun c o c1 c2 c3 x => hs₂ _ _ c2 (hs₁ _ _ c1 x)) he
  | some x =>
    have hy : ys[k2]? = none := by rcases hend with h | h; rw [hx] at h; cases h; exact h
    refine wpAny_bind (RZ.nextOf_tuple_item (h1.extBut hs₁ D.i1z) (hl1.extBut hs₁ D.l1z) hx fun h₂ h1₂ hs₂ => wpAny_pure ?_)
    refine wpAny_pure ?_
    dsimp only
    refine wpAny_bind (wpAny_bind (wpAny_holding ?_))
    show wpAny _ _ (Builtin.SmallTypes.nextOf (.ref i2) >>= _) _ _ _
    refine wpAny_bind (RZ.nextOf_tuple_end hh ((h2.extBut hs₁ D.i2z).extBut hs₂.extBut D.i12.symm) ((hl2.extBut hs₁ D.l2z).extBut hs₂.extBut D.l2i1) hy fun h₃ e hs₃ he => ?_)
    exact hE h₃ e (fun c o c1 c2 c3 x => hs₃ _ _ c3 (hs₂.extBut _ _ c2 (hs₁ _ _ c1 x))) he
theorem pyNext2_item {z TI TO i1 i2 l1 l2 T : Addr} {k1 k2 : Nat} {xs ys : Array Value} {x y : Value} {b : Bool} {Q : Option Value → Shared → Prop} (D : ZipApart z TI TO i1 i2 l1 l2)
    (hz : IsZipG s.heap z TI TO (rawInt T) (.bool b)) (hT : ∃ o, s.heap.get? T = some o) (hTI : IsPair s.heap TI (.ref i1) (.ref i2))
    (h1 : s.heap.IsTupleIter i1 l1 k1) (h2 : s.heap.IsTupleIter i2 l2 k2) (hl1 : s.heap.IsTuple l1 xs) (hl2 : s.heap.IsTuple l2 ys) (hx : xs[k1]? = some x) (hy : ys[k2]? = some y)
    (hQ : ∀ h', IsZipG h' z TI TO (rawInt T) (.bool true) → h'.IsTupleIter i1 l1 (k1 + 1) → h'.IsTupleIter i2 l2 (k2 + 1) → IsPair h' s.heap.objs.size x y → h'.objs.size = s.heap.objs.size + 1 →
      (∀ c o, c ≠ z → c ≠ i1 → c ≠ i2 → s.heap.get? c = some o → h'.get? c = some o) → Q (some (.ref s.heap.objs.size)) { s with heap := h' }) :
    wpAny (model prog w) A (pyNext (.ref z)) Q E s := by
  have hTy : s.TypeIs (.ref z) "zip" := ⟨_, hz, rfl⟩
  unfold pyNext
  exact wpAny_bind (wpAny_attempt (wpAny_callSpecial?_slot (name := Str.ofString "__next__") hTy F.slot_zip_next
    (wpAny_call_entry F.slot_zip_next hTy F.entry_zip_next
      (next2_item D hz hT hTI h1 h2 hl1 hl2 hx hy fun h' a1 a2 a3 a4 a5 a6 => wpAny_pure (hQ h' a1 a2 a3 a4 a5 a6)) (F.args_zip_next_1 _))))
theorem pyNext2_end {z TI TO i1 i2 l1 l2 T : Addr} {k1 k2 : Nat} {xs ys : Array Value} {b : Bool} {Q : Option Value → Shared → Prop} (hh : A.handled = none) (D : ZipApart z TI TO i1 i2 l1 l2)
    (hz : IsZipG s.heap z TI TO (rawInt T) (.bool b)) (hT : ∃ o, s.heap.get? T = some o) (hTI : IsPair s.heap TI (.ref i1) (.ref i2))
    (h1 : s.heap.IsTupleIter i1 l1 k1) (h2 : s.heap.IsTupleIter i2 l2 k2) (hl1 : s.heap.IsTuple l1 xs) (hl2 : s.heap.IsTuple l2 ys) (hend : xs[k1]? = none ∨ ys[k2]? = none)
    (hQ : ∀ h', (∀ c o, c ≠ z → c ≠ i1 → c ≠ i2 → s.heap.get? c = some o → h'.get? c = some o) → Q none { s with heap := h' }) : wpAny (model prog w) A (pyNext (.ref z)) Q E s := by
  have hTy : s.TypeIs (.ref z) "zip" := ⟨_, hz, rfl⟩
  unfold pyNext
  refine wpAny_bind (wpAny_attempt (wpAny_callSpecial?_slot (name := Str.ofString "__next__") hTy F.slot_zip_next
    (wpAny_call_entry F.slot_zip_next hTy F.entry_zip_next (next2_end hh D hz hT hTI h1 h2 hl1 hl2 hend fun h' e hk he => ?_) (F.args_zip_next_1 _))))
  obtain ⟨o, ho, hc⟩ := he
  refine wpAny_bind (wpAny_isInstance (T := "StopIteration") (b := true) ⟨o, ho, hc⟩ isSubtype_stop ?_)
  exact wpAny_pure (hQ _ hk)
end
namespace F
theorem zip_no_len : typeLookup (.type "zip") "__len__" = pure none := by rw [typeLookup_type, builtinLookup_eq_fast]; kernel_rfl
theorem zip_no_hint : typeLookup (.type "zip") "__length_hint__" = pure none := by rw [typeLookup_type, builtinLookup_eq_fast]; kernel_rfl
end F
/-- an iterator whose items so far are known -/
structure WalksV (prog : Program) (w : World) (A : Around) (I S : Addr) (n : Nat) (St Fn : List Value → Heap → Prop) : Prop where
  frame : ∀ vs h h', St vs h → (∀ b o, b ≠ S → h.get? b = some o → h'.get? b = some o) → h.objs.size = h'.objs.size → St vs h'
  item : ∀ vs (s : Shared) (Q : Option Value → Shared → Prop) (E : Value → Shared → Prop), vs.length < n → St vs s.heap →
    (∀ v h', St (vs ++ [v]) h' → (∀ o, s.heap.get? S = some o → h'.get? S = some o) → Q (some v) { s with heap := h' }) → wpAny (model prog w) A (pyNext (.ref I)) Q E s
  done : ∀ vs (s : Shared) (Q : Option Value → Shared → Prop) (E : Value → Shared → Prop), vs.length = n → St vs s.heap →
    (∀ h', Fn vs h' → (∀ o, s.heap.get? S = some o → h'.get? S = some o) → Q none { s with heap := h' }) → wpAny (model prog w) A (pyNext (.ref I)) Q E s
  self : ∀ vs (s : Shared) (Q : Value → Shared → Prop) (E : Value → Shared → Prop), St vs s.heap → Q (.ref I) s → wpAny (model prog w) A (pyIter (.ref I)) Q E s
  ty : ∀ vs (s : Shared), St vs s.heap → s.TypeIs (.ref I) "zip"
section
variable {prog : Program} {w : World} {A : Around} {s : Shared} {R : Result → Shared → Prop} {I S : Addr} {n : Nat} {St Fn : List Value → Heap → Prop}
theorem loopV (W : WalksV prog w A.in1 I S n St Fn) (hn : n ≤ sizeLine) (res : Value) :
    ∀ (k : Nat) (vs : List Value) (s : Shared) (c : Nat), n - vs.length = k → vs.length ≤ n → St vs s.heap → s.heap.get? S = some { cls := .type "list", dict := none, data := .seq vs.toArray c, slots := #[] } →
    (∀ h' vs' c', vs'.length = n → Fn vs' h' → h'.get? S = some { cls := .type "list", dict := none, data := .seq vs'.toArray c', slots := #[] } → R (.ok (.ret res)) { s with heap := h' }) →
    codeAny (model prog w) A (.builtin "list.extend.loop" ⟨[.ref S, .ref I, res], []⟩) R s := by
  intro k
  induction k with
  | zero =>
    intro vs s c hk hi hst hS hR
    refine codeAny_builtin PySem.F.entry_extend_loop ?_
    rw [Around.under_plainId PySem.F.plain_extend_loop _]
    show wpAny _ A.in1 (pyNext (.ref I) >>= _) _ _ s
    refine wpAny_bind (W.done vs s _ _ (by omega) hst fun h' hf hk' => ?_)
    exact wpAny_pure (hR h' vs c (by omega) hf (hk' _ hS))
  | succ k ih =>
    intro vs s c hk hi hst hS hR
    refine codeAny_builtin PySem.F.entry_extend_loop ?_
    rw [Around.under_plainId PySem.F.plain_extend_loop _]
    show wpAny _ A.in1 (pyNext (.ref I) >>= _) _ _ s
    refine wpAny_bind (W.item vs s _ _ (by omega) hst fun v h' hst' hk' => ?_)
    have hS' : h'.get? S = some { cls := .type "list", dict := none, data := .seq vs.toArray c, slots := #[] } := hk' _ hS
    show wpAny _ A.in1 (updateSeq S (·.push v) >>= _) _ _ _
    refine wpAny_bind ?_
    have ev : vs.toArray.push v = (vs ++ [v]).toArray := by simp
    refine wpAny_updateSeq hS' rfl (wpAny_pure ⟨plainId_quiet PySem.F.plain_extend_loop _, ih (vs ++ [v]) _ _ (by simp; omega) (by simp; omega) (W.frame _ h' _ hst' (fun b o hb e => (Heap.get?_update_other _ _ (Ne.symm hb)).trans e) (Heap.SameBut.update ..).1.symm) (by rw [← ev]; exact Heap.get?_update_self _ hS' rfl) fun h'' vs'' c'' l2 f2 s2 => ?_⟩)
      (by simp; omega) (by show (vs.toArray.push v).size ≤ sizeLine + 1; rw [Array.size_push]; simp; omega)
    exact hR h'' vs'' c'' l2 f2 s2
theorem extendV (W : WalksV prog w A.in1 I S n St Fn) (res : Value) (c₀ : Nat) (hst : St [] s.heap) (hSI : S ≠ I)
    (hS : s.heap.get? S = some { cls := .type "list", data := .seq #[] c₀ })
    (hR : ∀ h' vs' c', vs'.length = n → Fn vs' h' → h'.get? S = some { cls := .type "list", dict := none, data := .seq vs'.toArray c', slots := #[] } → R (.ok (.ret res)) { s with heap := h' }) (hn : n ≤ sizeLine) :
    wpAny (model prog w) A.in1 (Builtin.List.listExtendWith (.ref S) (.ref I) res)
      (fun fin s' => match fin with | .done f => R (.ok f) s' | .again c' => c'.quiet = true ∧ codeAny (model prog w) A c' R s') (fun e s' => R (.error e) s') s := by
  unfold Builtin.List.listExtendWith
  refine wpAny_bind (wpAny_typeOf (W.ty _ _ hst) ?_)
  have h1 : Builtin.List.listSameRef (.ref S) (.ref I) = false := by simp [Builtin.List.listSameRef, hSI]
  have h2 : (Value.type "zip" == Value.type "list") = false := by decide
  have h3 : (Value.type "zip" == Value.type "tuple") = false := by decide
  simp only [h1, h2, h3, Bool.or_false, Bool.false_eq_true, if_false]
  refine wpAny_bind (W.self [] _ _ _ hst ?_)
  refine wpAny_bind (wpAny_holding ?_)
  unfold Builtin.List.listLengthHint
  refine wpAny_bind (wpAny_specialOf (W.ty _ _ hst) F.zip_no_len ?_)
  show wpAny _ A.in1 (specialOf (Value.ref I) (Str.ofString "__length_hint__") >>= _) _ _ _
  refine wpAny_bind (wpAny_specialOf (W.ty _ _ hst) F.zip_no_hint ?_)
  refine wpAny_pure ?_
  show wpAny _ A.in1 (rule "list.extend.makes-room" >>= fun _ => Builtin.List.listTouch (.ref S) >>= fun _ =>
    again (.builtin "list.extend.loop" ⟨[.ref S, .ref I, res], []⟩)) _ _ _
  refine wpAny_bind (wpAny_rule ?_)
  refine wpAny_bind ?_
  show wpAny _ A.in1 (updateSeq S (·.push .none) >>= fun _ => updateSeq S (·.pop)) _ _ _
  refine wpAny_bind (wpAny_updateSeq hS rfl ?_)
  have hS₂ := Heap.get?_update_self (Obj.mapSeq (·.push Value.none)) hS rfl
  refine wpAny_updateSeq (hz := by seq_fits) hS₂ rfl ?_
  have hS₃ := Heap.get?_update_self (Obj.mapSeq (·.pop)) hS₂ rfl
  have oth : ∀ b o, b ≠ S → s.heap.get? b = some o → ((s.heap.update S (Obj.mapSeq (·.push Value.none))).update S (Obj.mapSeq (·.pop))).get? b = some o :=
    fun b o hb e => (Heap.get?_update_other _ _ (Ne.symm hb)).trans ((Heap.get?_update_other _ _ (Ne.symm hb)).trans e)
  refine wpAny_pure ⟨plainId_quiet PySem.F.plain_extend_loop _, loopV W hn _ n [] _ _ rfl (Nat.zero_le _)
    (W.frame _ _ _ hst oth (by rw [(Heap.SameBut.update ..).1, (Heap.SameBut.update ..).1])) hS₃ fun h' vs' c' l2 f2 s2 => ?_⟩
  exact hR h' vs' c' l2 f2 s2
theorem initV (W : WalksV prog w A.in1 I S n St Fn) (hst : St [] s.heap) (hSI : S ≠ I)
    (hS : s.heap.get? S = some { cls := .type "list", data := .seq #[] })
    (hR : ∀ h' vs' c', vs'.length = n → Fn vs' h' → h'.get? S = some { cls := .type "list", dict := none, data := .seq vs'.toArray c', slots := #[] } → R (.ok (.ret .none)) { s with heap := h' }) (hn : n ≤ sizeLine) :
    wpAny (model prog w) A.in1 (Builtin.«list.__init__» ⟨[.ref S, .ref I], []⟩)
      (fun fin s' => match fin with | .done f => R (.ok f) s' | .again c' => c'.quiet = true ∧ codeAny (model prog w) A c' R s') (fun e s' => R (.error e) s') s := by
  show wpAny _ A.in1 (do let old ← Builtin.List.listItems (.ref S); Builtin.List.listUpdate (.ref S) (fun _ => #[]); letGo old.toList.reverse; Builtin.List.listExtendWith (.ref S) (.ref I) .none) _ _ s
  refine wpAny_bind ?_
  unfold Builtin.List.listItems
  refine wpAny_bind (wpAny_seqItems hS rfl (wpAny_pure ?_))
  show wpAny _ A.in1 (updateSeq S (fun _ => #[]) >>= fun _ => letGo (#[] : Array Value).toList.reverse >>= fun _ => Builtin.List.listExtendWith (.ref S) (.ref I) .none) _ _ s
  refine wpAny_bind (wpAny_updateSeq hS rfl ?_)
  have hS₂ := Heap.get?_update_self (Obj.mapSeq (fun _ => (#[] : Array Value))) hS rfl
  have oth : ∀ b o, b ≠ S → s.heap.get? b = some o → (s.heap.update S (Obj.mapSeq (fun _ => (#[] : Array Value)))).get? b = some o :=
    fun b o hb e => (Heap.get?_update_other _ _ (Ne.symm hb)).trans e
  refine wpAny_bind (wpAny_letGo ?_)
  exact extendV W .none _ (W.frame _ _ _ hst oth (by rw [(Heap.SameBut.update ..).1])) hSI hS₂ (fun h' vs' c' l2 f2 s2 => hR h' vs' c' l2 f2 s2) hn
end
section
variable {prog : Program} {w : World} {A : Around} {E : Value → Shared → Prop} {s : Shared} {I : Addr} {n : Nat} {St Fn : List Value → Heap → Prop}
theorem call_listV {Q : Value → Shared → Prop} (W : WalksV prog w A.in1.in1 I s.heap.objs.size n St Fn) (hst : St [] (s.heap.push { cls := .type "list", data := .seq #[] })) (hI : I < s.heap.objs.size)
    (hQ : ∀ h' vs' c', vs'.length = n → Fn vs' h' → h'.get? s.heap.objs.size = some { cls := .type "list", dict := none, data := .seq vs'.toArray c', slots := #[] } → Q (.ref s.heap.objs.size) { s with heap := h' }) (hn : n ≤ sizeLine) :
    wpAny (model prog w) A (call (.type "list") [.ref I]) Q E s := by
  refine callType_codes (Q₁ := fun obj s₁ => obj = .ref s.heap.objs.size ∧ s₁ = { s with heap := s.heap.push { cls := .type "list", data := .seq #[] } }) PySem.F.called_list (PySem.F.typeCall_list_1 _) PySem.F.entry_list_init
    (code_list_new _ ⟨rfl, rfl⟩) fun obj s₁ h₁ => ?_
  obtain ⟨rfl, rfl⟩ := h₁
  have hS : (s.heap.push { cls := .type "list", data := .seq #[] }).get? s.heap.objs.size = some { cls := .type "list", data := .seq #[] } := Heap.get?_push_size _ rfl
  refine ⟨⟨_, hS, rfl⟩, PySem.F.args_list_init_2 _ _, initV (s := { s with heap := s.heap.push { cls := .type "list", data := .seq #[] } }) W hst (Nat.ne_of_gt hI) hS (fun h' vs' c' l2 f2 s2 => ?_) hn⟩
  exact ⟨rfl, hQ h' vs' c' l2 f2 s2⟩
end
/-- where a zip of two tuples stands -/
structure ZSt (h0 : Heap) (z TI TO i1 i2 l1 l2 : Addr) (xs ys : Array Value) (base : Nat) (vs : List Value) (h : Heap) : Prop where
  ti : IsPair h TI (.ref i1) (.ref i2)
  t1 : h.IsTupleIter i1 l1 vs.length
  t2 : h.IsTupleIter i2 l2 vs.length
  u1 : h.IsTuple l1 xs
  u2 : h.IsTuple l2 ys
  zp : (vs = [] ∧ IsZip h z TI TO .none ∧ ∃ a b, IsPair h TO a b) ∨ ∃ (T : Nat) (b : Bool), Value.ref T ∈ vs ∧ IsZipG h z TI TO (rawInt T) (.bool b)
  old : ∀ c o, h0.get? c = some o → h.get? c = some o
  pr : ∀ (j : Nat) v x y, vs[j]? = some v → xs[j]? = some x → ys[j]? = some y → ∃ T : Nat, v = .ref T ∧ base ≤ T ∧ T < h.objs.size ∧ IsPair h T x y
  nd : vs.Pairwise fun a b => a ≠ b
  rg : ∀ v ∈ vs, ∃ T : Nat, v = Value.ref T ∧ base ≤ T ∧ T < h.objs.size ∧ ∃ o, h.get? T = some o
structure ZFn (h0 : Heap) (xs ys : Array Value) (base : Nat) (vs : List Value) (h : Heap) : Prop where
  old : ∀ c o, h0.get? c = some o → h.get? c = some o
  pr : ∀ (j : Nat) v x y, vs[j]? = some v → xs[j]? = some x → ys[j]? = some y → ∃ T : Nat, v = .ref T ∧ base ≤ T ∧ IsPair h T x y
  nd : vs.Pairwise fun a b => a ≠ b

structure ZPos (h0 : Heap) (z TI TO i1 i2 l1 l2 S base : Nat) : Prop where
  zb : z < base
  TIb : TI < base
  TOb : TO < base
  i1b : i1 < base
  i2b : i2 < base
  Sb : S < base
  z0 : h0.objs.size ≤ z
  TI0 : h0.objs.size ≤ TI
  TO0 : h0.objs.size ≤ TO
  i10 : h0.objs.size ≤ i1
  i20 : h0.objs.size ≤ i2
  S0 : h0.objs.size ≤ S
  l10 : l1 < h0.objs.size
  l20 : l2 < h0.objs.size
  zS : z ≠ S
  TIS : TI ≠ S
  TOS : TO ≠ S
  i1S : i1 ≠ S
  i2S : i2 ≠ S
section
variable {prog : Program} {w : World} {A : Around} {h0 : Heap} {z TI TO i1 i2 l1 l2 S base : Nat} {xs ys : Array Value}
theorem ZSt.step (P : ZPos h0 z TI TO i1 i2 l1 l2 S base) (D : ZipApart z TI TO i1 i2 l1 l2) {vs : List Value} {h h' : Heap} {x y : Value} (st : ZSt h0 z TI TO i1 i2 l1 l2 xs ys base vs h) (hb : base ≤ h.objs.size) (hx : xs[vs.length]? = some x) (hy : ys[vs.length]? = some y)
    (hz : ∃ b, IsZipG h' z TI TO (rawInt h.objs.size) (.bool b) ∨ ∃ T : Nat, Value.ref T ∈ vs ∧ IsZipG h' z TI TO (rawInt T) (.bool b)) (t1 : h'.IsTupleIter i1 l1 (vs.length + 1)) (t2 : h'.IsTupleIter i2 l2 (vs.length + 1)) (hp : IsPair h' h.objs.size x y) (hsz : h'.objs.size = h.objs.size + 1)
    (hk : ∀ c o, c ≠ z → c ≠ TO → c ≠ i1 → c ≠ i2 → h.get? c = some o → h'.get? c = some o) : ZSt h0 z TI TO i1 i2 l1 l2 xs ys base (vs ++ [.ref h.objs.size]) h' := by
  have far : ∀ T : Nat, base ≤ T → T ≠ z ∧ T ≠ TO ∧ T ≠ i1 ∧ T ≠ i2 := fun T hT => ⟨Nat.ne_of_gt (Nat.lt_of_lt_of_le P.zb hT), Nat.ne_of_gt (Nat.lt_of_lt_of_le P.TOb hT), Nat.ne_of_gt (Nat.lt_of_lt_of_le P.i1b hT), Nat.ne_of_gt (Nat.lt_of_lt_of_le P.i2b hT)⟩
  refine ⟨hk _ _ D.TIz D.TITO D.TIi1 D.TIi2 st.ti, ?_, ?_, st.u1.at fun o e => hk _ o D.l1z D.l1TO D.l1i1 D.l1i2 e, st.u2.at fun o e => hk _ o D.l2z D.l2TO D.l2i1 D.l2i2 e, ?_, ?_, ?_, ?_, ?_⟩
  · rw [List.length_append, List.length_singleton]; exact t1
  · rw [List.length_append, List.length_singleton]; exact t2
  · obtain ⟨b, hz | ⟨T, hT, hz⟩⟩ := hz
    · exact .inr ⟨h.objs.size, b, List.mem_append.mpr (.inr List.mem_cons_self), hz⟩
    · exact .inr ⟨T, b, List.mem_append.mpr (.inl hT), hz⟩
  · intro c o e
    have hc := Heap.lt_size e
    exact hk c o (Nat.ne_of_lt (Nat.lt_of_lt_of_le hc P.z0)) (Nat.ne_of_lt (Nat.lt_of_lt_of_le hc P.TO0)) (Nat.ne_of_lt (Nat.lt_of_lt_of_le hc P.i10)) (Nat.ne_of_lt (Nat.lt_of_lt_of_le hc P.i20)) (st.old c o e)
  · intro j v x' y' hv hx' hy'
    by_cases hj : j < vs.length
    · rw [List.getElem?_append_left hj] at hv
      obtain ⟨T, rfl, h1, h2, h3⟩ := st.pr j v x' y' hv hx' hy'
      have f := far T h1
      exact ⟨T, rfl, h1, by omega, hk _ _ f.1 f.2.1 f.2.2.1 f.2.2.2 h3⟩
    · rw [List.getElem?_append_right (by omega)] at hv
      have : j - vs.length = 0 := by
        refine Decidable.byContradiction fun z => ?_
        rw [List.getElem?_eq_none (by simp; omega)] at hv
        cases hv
      have hj : j = vs.length := by omega
      subst hj
      rw [this] at hv
      have hv : Value.ref h.objs.size = v := Option.some.inj hv
      rw [hx] at hx'
      rw [hy] at hy'
      cases hx'; cases hy'
      exact ⟨_, hv.symm, hb, by omega, hp⟩
  · rw [List.pairwise_append]
    refine ⟨st.nd, List.pairwise_singleton _ _, fun a ha b hb' => ?_⟩
    obtain ⟨T, rfl, _, h2, _⟩ := st.rg a ha
    rw [List.mem_singleton.mp hb']
    intro z
    exact absurd (show T = h.objs.size from Value.ref.inj z) (Nat.ne_of_lt h2)
  · intro v hv
    rcases List.mem_append.mp hv with hv | hv
    · obtain ⟨T, rfl, h1, h2, o, h3⟩ := st.rg v hv
      have f := far T h1
      exact ⟨T, rfl, h1, by omega, o, hk _ _ f.1 f.2.1 f.2.2.1 f.2.2.2 h3⟩
    · rw [List.mem_singleton.mp hv]
      exact ⟨_, rfl, hb, by omega, _, hp⟩
theorem ZSt.fin (P : ZPos h0 z TI TO i1 i2 l1 l2 S base) {vs : List Value} {h h' : Heap} (st : ZSt h0 z TI TO i1 i2 l1 l2 xs ys base vs h)
    (hk : ∀ c o, c ≠ z → c ≠ TO → c ≠ i1 → c ≠ i2 → h.get? c = some o → h'.get? c = some o) : ZFn h0 xs ys base vs h' := by
  refine ⟨fun c o e => ?_, fun j v x y hv hx hy => ?_, st.nd⟩
  · have hc := Heap.lt_size e
    exact hk c o (Nat.ne_of_lt (Nat.lt_of_lt_of_le hc P.z0)) (Nat.ne_of_lt (Nat.lt_of_lt_of_le hc P.TO0)) (Nat.ne_of_lt (Nat.lt_of_lt_of_le hc P.i10)) (Nat.ne_of_lt (Nat.lt_of_lt_of_le hc P.i20)) (st.old c o e)
  · obtain ⟨T, rfl, h1, h2, h3⟩ := st.pr j v x y hv hx hy
    exact ⟨T, rfl, h1, hk _ _ (Nat.ne_of_gt (Nat.lt_of_lt_of_le P.zb h1)) (Nat.ne_of_gt (Nat.lt_of_lt_of_le P.TOb h1)) (Nat.ne_of_gt (Nat.lt_of_lt_of_le P.i1b h1)) (Nat.ne_of_gt (Nat.lt_of_lt_of_le P.i2b h1)) h3⟩
theorem walks_zip (hh : A.handled = none) (P : ZPos h0 z TI TO i1 i2 l1 l2 S base) (D : ZipApart z TI TO i1 i2 l1 l2) :
    WalksV prog w A z S (min xs.size ys.size) (fun vs h => ZSt h0 z TI TO i1 i2 l1 l2 xs ys base vs h ∧ base ≤ h.objs.size) (ZFn h0 xs ys base) where
  frame := by
    rintro vs h h' ⟨st, hb⟩ k sz
    have old : ∀ c o, h0.get? c = some o → h'.get? c = some o := fun c o e => k c o (Nat.ne_of_lt (Nat.lt_of_lt_of_le (Heap.lt_size e) P.S0)) (st.old c o e)
    have far : ∀ T : Nat, base ≤ T → T ≠ S := fun T hT => Nat.ne_of_gt (Nat.lt_of_lt_of_le P.Sb hT)
    refine ⟨⟨k _ _ P.TIS st.ti, st.t1.at fun o e => k _ o P.i1S e, st.t2.at fun o e => k _ o P.i2S e, st.u1.at fun o e => k _ o (Nat.ne_of_lt (Nat.lt_of_lt_of_le P.l10 P.S0)) e, st.u2.at fun o e => k _ o (Nat.ne_of_lt (Nat.lt_of_lt_of_le P.l20 P.S0)) e, ?_, old, fun j v x y hv hx hy => ?_, st.nd, fun v hv => ?_⟩, by omega⟩
    · rcases st.zp with ⟨rfl, hz, a, b, hTO⟩ | ⟨T, b, hT, hz⟩
      · exact .inl ⟨rfl, k _ _ P.zS hz, a, b, k _ _ P.TOS hTO⟩
      · exact .inr ⟨T, b, hT, k _ _ P.zS hz⟩
    · obtain ⟨T, rfl, h1, h2, h3⟩ := st.pr j v x y hv hx hy
      exact ⟨T, rfl, h1, by omega, k _ _ (far T h1) h3⟩
    · obtain ⟨T, rfl, h1, h2, o, h3⟩ := st.rg v hv
      exact ⟨T, rfl, h1, by omega, o, k _ _ (far T h1) h3⟩
  item := by
    rintro vs s Q E hi ⟨st, hb⟩ hQ
    have h1 : vs.length < xs.size := by omega
    have h2 : vs.length < ys.size := by omega
    have hx : xs[vs.length]? = some xs[vs.length] := Array.getElem?_eq_getElem h1
    have hy : ys[vs.length]? = some ys[vs.length] := Array.getElem?_eq_getElem h2
    rcases id st.zp with ⟨rfl, hz, a, b, hTO⟩ | ⟨T, b, hT, hz⟩
    · refine RZ.pyNext_zipT_item D hz st.ti hTO st.t1 st.t2 st.u1 st.u2 hx hy fun h' hz' _ t1 t2 hp hsz hk => ?_
      exact hQ _ h' ⟨st.step P D hb hx hy ⟨false, .inl hz'⟩ t1 t2 hp hsz hk, by omega⟩ fun o e => hk S o P.zS.symm P.TOS.symm P.i1S.symm P.i2S.symm e
    · obtain ⟨T', e', _, _, o, ho⟩ := st.rg _ hT
      have e' := Value.ref.inj e'
      subst e'
      refine pyNext2_item D hz ⟨o, ho⟩ st.ti st.t1 st.t2 st.u1 st.u2 hx hy fun h' hz' t1 t2 hp hsz hk => ?_
      exact hQ _ h' ⟨st.step P D hb hx hy ⟨true, .inr ⟨T, hT, hz'⟩⟩ t1 t2 hp hsz fun c o c1 _ c3 c4 e => hk c o c1 c3 c4 e, by omega⟩ fun o e => hk S o P.zS.symm P.i1S.symm P.i2S.symm e
  done := by
    rintro vs s Q E hi ⟨st, hb⟩ hQ
    have he : xs[vs.length]? = none ∨ ys[vs.length]? = none := by
      by_cases h : xs.size ≤ ys.size
      · exact .inl (Array.getElem?_eq_none (by omega))
      · exact .inr (Array.getElem?_eq_none (by omega))
    rcases id st.zp with ⟨rfl, hz, a, b, hTO⟩ | ⟨T, b, hT, hz⟩
    · exact RZ.pyNext_zipT_end hh D hz st.ti hTO st.t1 st.t2 st.u1 st.u2 he fun h' hk => hQ h' (st.fin P hk) fun o e => hk S o P.zS.symm P.TOS.symm P.i1S.symm P.i2S.symm e
    · obtain ⟨T', e', _, _, o, ho⟩ := st.rg _ hT
      have e' := Value.ref.inj e'
      subst e'
      exact pyNext2_end hh D hz ⟨o, ho⟩ st.ti st.t1 st.t2 st.u1 st.u2 he fun h' hk => hQ h' (st.fin P fun c o c1 _ c3 c4 e => hk c o c1 c3 c4 e) fun o e => hk S o P.zS.symm P.i1S.symm P.i2S.symm e
  self := by
    rintro vs s Q E ⟨st, hb⟩ h
    have hT : s.TypeIs (.ref z) "zip" := by
      rcases st.zp with ⟨_, hz, _⟩ | ⟨T, b, _, hz⟩
      · exact ⟨_, hz, rfl⟩
      · exact ⟨_, hz, rfl⟩
    refine wpAny_pyIter_slot hT PySem.F.slot_zip_iter (wpAny_call_entry PySem.F.slot_zip_iter hT PySem.F.entry_zip_iter ?_ (PySem.F.args_zip_iter_1 _))
    show wpAny _ _ (ret (.ref z)) _ _ s
    exact wpAny_pure ⟨_, rfl, "zip", _, hT, PySem.F.slot_zip_next.lookup, h⟩
  ty := by
    rintro vs s ⟨st, hb⟩
    rcases st.zp with ⟨_, hz, _⟩ | ⟨T, b, _, hz⟩
    · exact ⟨_, hz, rfl⟩
    · exact ⟨_, hz, rfl⟩
end
section
variable {prog : Program} {w : World} {A : Around} {E : Value → Shared → Prop} {s : Shared}
/-- list(zip(a, b)) of two tuples -/
theorem call_listZip {l1 l2 : Nat} {xs ys : Array Value} {Q : Value → Shared → Prop} (hh : A.handled = none) (hl1 : s.heap.IsTuple l1 xs) (hl2 : s.heap.IsTuple l2 ys) (hn : min xs.size ys.size ≤ sizeLine)
    (hQ : ∀ h' vs' c', vs'.length = min xs.size ys.size → ZFn s.heap xs ys (s.heap.objs.size + 6) vs' h' → h'.get? (s.heap.objs.size + 5) = some { cls := .type "list", dict := none, data := .seq vs'.toArray c', slots := #[] } → Q (.ref (s.heap.objs.size + 5)) { s with heap := h' }) :
    wpAny (model prog w) A (call (.type "zip") [.ref l1, .ref l2]) (fun z s1 => wpAny (model prog w) A (call (.type "list") [z]) Q E s1) E s := by
  have q1 : l1 < s.heap.objs.size := by obtain ⟨_, e, _⟩ := hl1; exact Heap.lt_size e
  have q2 : l2 < s.heap.objs.size := by obtain ⟨_, e, _⟩ := hl2; exact Heap.lt_size e
  refine RZ.call_zipT hl1 hl2 fun h' hz hTI hTO h1 h2 hsz hk => ?_
  have D : ZipApart (s.heap.objs.size + 4) (s.heap.objs.size + 2) (s.heap.objs.size + 3) s.heap.objs.size (s.heap.objs.size + 1) l1 l2 := PySem.W.ktu_apart s.heap.objs.size l1 l2 q1 q2
  have P : ZPos s.heap (s.heap.objs.size + 4) (s.heap.objs.size + 2) (s.heap.objs.size + 3) s.heap.objs.size (s.heap.objs.size + 1) l1 l2 (s.heap.objs.size + 5) (s.heap.objs.size + 6) := by
    constructor <;> omega
  have W := walks_zip (prog := prog) (w := w) (A := A.in1.in1) (xs := xs) (ys := ys) hh P D
  rw [← hsz] at W
  refine call_listV (s := { s with heap := h' }) (I := s.heap.objs.size + 4) W ?_ (by show _ < h'.objs.size; omega) (fun h'' vs' c' l f g => ?_) hn
  · have pk : ∀ c o, h'.get? c = some o → (h'.push { cls := .type "list", data := .seq #[] }).get? c = some o := fun c o e => Heap.get?_push_of_some _ e
    refine ⟨⟨pk _ _ hTI, h1.at fun o e => pk _ o e, h2.at fun o e => pk _ o e, (hl1.at fun o e => hk _ o e).at fun o e => pk _ o e, (hl2.at fun o e => hk _ o e).at fun o e => pk _ o e, .inl ⟨rfl, pk _ _ hz, _, _, pk _ _ hTO⟩, fun c o e => pk c o (hk c o e), ?_, List.Pairwise.nil, ?_⟩, by show _ ≤ (h'.push _).objs.size; rw [Heap.size_push]; omega⟩
    · intro j v x y hv; cases hv
    · intro v hv; cases hv
  · have := hQ h'' vs' c' l f (by rw [← hsz]; exact g)
    rw [← hsz] at this
    exact this
end
end RZ2
namespace PD
open PySem PySem.Spec PyProof.Rows L2
section
variable {X : Cx}
theorem un_many {fs ex : List Addr} {H H' : Hp} {h h' : Heap} {P : Program} {w : World} (x : HOk P w H h) (k : ∀ b u, h.get? b = some u → h'.get? b = some u) (new : ∀ c, c < h.objs.size → H' c = H c) : Un fs ex H H' h h' where
  keep := fun b u q _ _ _ => k b u q
  slot := fun b u q _ _ _ => ⟨u.slots, k b u q⟩
  free := fun b u q n _ => by rw [new b (Heap.lt_size q)]; exact n
  there := fun b u q _ => ⟨u, k b u q⟩
  tups := fun b xs q => by rw [new b (x.lt q)]; exact q
  frzs := fun b u xs q => by rw [new b (x.lt q)]; exact q
  tbls := fun b ps q => ⟨#[], by rw [new b (x.lt q), q]; simp⟩
theorem hok_many {H H' : Hp} {h h' : Heap} {P : Program} {w : World} (x : HOk P w H h) (k : ∀ b u, h.get? b = some u → h'.get? b = some u) (new : ∀ c, c < h.objs.size → H' c = H c) (ob : ∀ a o, h.objs.size ≤ a → H' a = some o → ObjOk P w H' h' a o) : HOk P w H' h' := fun b u e => by
  by_cases hb : b < h.objs.size
  · rw [new b hb] at e
    exact (x b u e).stay (fun c v _ q => k c v q) (fun c q => by rw [new c (x.lt q)]; exact q) fun c xs q => by rw [new c (x.lt q)]; exact q
  · exact ob b u (Nat.le_of_not_lt hb) e
def tLZ (K : PySem.W.Frag) (ta : TA) : TE := fun σ H Q => ta σ H fun vs H1 => ∃ a b xs ys, vs = [V.ref a, V.ref b] ∧ SqT K H1 a xs ∧ SqT K H1 b ys ∧
  ∀ (H' : Hp) (S : Addr) (Ts : List Addr), Ts.length = min xs.length ys.length → H1 S = none → (∀ T ∈ Ts, H1 T = none) → H' S = some (.lst (Ts.map V.ref)) →
    (∀ (j : Nat) T x y, Ts[j]? = some T → xs[j]? = some x → ys[j]? = some y → H' T = some (.tup [x, y])) → (∀ c, H1 c ≠ none → H' c = H1 c) → S ∉ Ts → Q (.ref S) H'
def refOf : Value → Addr
  | .ref a => a
  | _ => 0
theorem pe_listZip {e e2 : Expr} {ta : TA} {p0 p2 pos pos2 : Pos} (hc : X.calm = true) (hg : Gl X "list") (hm : X.mg "list" = none) (hg2 : Gl X "zip") (hm2 : X.mg "zip" = none) (ha : PA X [e, e2] ta)
    (hs : starEach [e, e2] X.env = (false, eval e X.env) :: starEach [e2] X.env) (hpl : (backTo pos2 (starEach [e2] X.env)).any (·.1) = false) :
    PE X (.Call (.Name "list" p0) [.Call (.Name "zip" p2) [e, e2] [] pos2] [] pos) (tLZ X.K ta) := by
  refine ⟨fun pins s σ H Q I h => ?_⟩
  have he : starEach [Expr.Call (.Name "zip" p2) [e, e2] [] pos2] X.env = (false, eval (.Call (.Name "zip" p2) [e, e2] [] pos2) X.env) :: starEach [] X.env := rfl
  refine Call_ (ld_blt I hg hm PyProof.Rows.boot_list (PyProof.Rows.callWith_type1 (e := .Call (.Name "zip" p2) [e, e2] [] pos2) (rest := []) ?_ he rfl))
  rw [he]
  show wpAny _ _ (spliced ((false, eval (.Call (.Name "zip" p2) [e, e2] [] pos2) X.env) :: backTo pos (starEach [] X.env))) _ _ s
  refine Calls.spliced_cons ?_
  refine Call_ (ld_blt I hg2 hm2 PyProof.Rows.boot_zip (PyProof.Rows.callWith_type1 (thn (ha.run pos2 pins s σ H _ I h) fun us s1 ⟨vs, H1, I1, r1, q1⟩ => ?_) hs hpl))
  obtain ⟨a, b, xs, ys, rfl, hqx, hqy, q⟩ := q1
  obtain ⟨its, rv, p1, z1⟩ := I1.tuple hqx
  obtain ⟨its2, rv2, p2', z2⟩ := I1.tuple hqy
  have l1 := rv.length
  have l2 := rv2.length
  cases r1 with
  | cons r rr =>
    cases rr with
    | cons r' rr =>
      cases rr
      cases r
      cases r'
      refine wpAny_mono (RZ2.call_listZip (Q := fun v s' => EP X pins σ Q v s') (I1.ok.hd hc) (show s1.heap.IsTuple a its.toArray from p1) (show s1.heap.IsTuple b its2.toArray from p2') (by simp; omega) fun h' vs' c' l f g => ?_) (fun v s2 hv => Calls.spliced_nil hv) fun _ _ e => e
      have lv : vs'.length = min xs.length ys.length := by rw [l]; simp; omega
      have item : ∀ j, j < vs'.length → ∃ (T : Nat) (u v : Value) (x y : V), vs'[j]? = some (.ref T) ∧ s1.heap.objs.size + 6 ≤ T ∧ IsPair h' T u v ∧ xs[j]? = some x ∧ ys[j]? = some y ∧ RelV x u ∧ RelV y v := fun j hj => by
        have hx : xs[j]? = some (xs[j]'(by omega)) := List.getElem?_eq_getElem _
        have hy : ys[j]? = some (ys[j]'(by omega)) := List.getElem?_eq_getElem _
        obtain ⟨u, hu, ru⟩ := Vals.get rv hx
        obtain ⟨v, hv, rv'⟩ := Vals.get rv2 hy
        obtain ⟨T, e1, e2, e3⟩ := f.pr j vs'[j] u v (List.getElem?_eq_getElem hj) (by simpa using hu) (by simpa using hv)
        exact ⟨T, u, v, _, _, by rw [List.getElem?_eq_getElem hj, e1], e2, e3, hx, hy, ru, rv'⟩
      obtain ⟨Ts, hTs⟩ : ∃ Ts : List Addr, Ts = vs'.map refOf := ⟨_, rfl⟩
      have evs : vs' = Ts.map Value.ref := by
        rw [hTs, List.map_map]
        apply List.ext_getElem
        · simp
        · intro j hj _
          obtain ⟨T, _, _, _, _, e1, _⟩ := item j hj
          rw [List.getElem?_eq_getElem hj] at e1
          rw [List.getElem_map, Option.some.inj e1]
          rfl
      have lt : Ts.length = vs'.length := by rw [hTs, List.length_map]
      have ti : ∀ (j : Nat) (T : Addr), Ts[j]? = some T → vs'[j]? = some (Value.ref T) := fun j T hT => by rw [evs, List.getElem?_map, hT]; rfl
      have nd : Ts.Nodup := by
        have := f.nd
        rw [evs, List.pairwise_map] at this
        exact List.Pairwise.imp (fun h z => h (by rw [z])) this
      have far : ∀ T ∈ Ts, s1.heap.objs.size + 6 ≤ (T : Nat) := fun T hT => by
        obtain ⟨j, hj, e⟩ := List.getElem_of_mem hT
        obtain ⟨T', _, _, _, _, e1, e2, _⟩ := item j (by omega)
        have e3 := ti j T (by rw [List.getElem?_eq_getElem hj, e])
        rw [e1] at e3
        have e4 := Value.ref.inj (Option.some.inj e3)
        rw [← e4]
        exact e2
      let H' : Hp := fun c => if c = s1.heap.objs.size + 5 then some (.lst (Ts.map V.ref)) else if c ∈ Ts then some (.tup [xs.getD (Ts.idxOf c) .non, ys.getD (Ts.idxOf c) .non]) else H1 c
      have hS : H' (s1.heap.objs.size + 5) = some (.lst (Ts.map V.ref)) := if_pos rfl
      have hT : ∀ (j : Nat) T x y, Ts[j]? = some T → xs[j]? = some x → ys[j]? = some y → H' T = some (.tup [x, y]) := fun j T x y e1 e2 e3 => by
        have m := List.mem_of_getElem? e1
        have fr := far T m
        obtain ⟨hj, e4⟩ := List.getElem?_eq_some_iff.mp e1
        have ix : Ts.idxOf T = j := by rw [← e4]; exact List.Nodup.idxOf_getElem nd j hj
        show (if T = s1.heap.objs.size + 5 then _ else if T ∈ Ts then _ else _) = _
        rw [if_neg (fun z => by rw [z] at fr; exact absurd fr (by omega)), if_pos m, ix, List.getD_eq_getElem?_getD, List.getD_eq_getElem?_getD, e2, e3]
        rfl
      have low : ∀ c, c < s1.heap.objs.size → H' c = H1 c := fun c hc => by
        show (if c = s1.heap.objs.size + 5 then _ else if c ∈ Ts then _ else _) = _
        rw [if_neg (fun z => by rw [z] at hc; exact absurd hc (by omega)), if_neg (fun m => absurd (far c m) (by show ¬ (s1.heap.objs.size + 6 ≤ c); exact Nat.not_le.mpr (Nat.lt_of_lt_of_le hc (Nat.le_add_right _ _))))]
      have ob : ∀ c o, s1.heap.objs.size ≤ c → H' c = some o → ObjOk X.prog X.w H' h' c o := fun c o hc ho => by
        by_cases e1 : c = s1.heap.objs.size + 5
        · rw [e1] at ho ⊢
          rw [hS] at ho
          cases ho
          refine ⟨by rw [List.length_map, lt]; omega, Ts.map Value.ref, c', ?_, by rw [← evs]; exact g⟩
          clear nd far hTs lt evs ti item hS hT low H'
          induction Ts with
          | nil => exact .nil
          | cons T Ts ih => exact .cons rfl ih
        · by_cases e2 : c ∈ Ts
          · obtain ⟨j, hj, e3⟩ := List.getElem_of_mem e2
            have e4 : Ts[j]? = some c := by rw [List.getElem?_eq_getElem hj, e3]
            obtain ⟨T, u, v, x, y, k1, k2, k3, k4, k5, k6, k7⟩ := item j (by omega)
            have e5 := ti j c e4
            rw [k1] at e5
            have e6 : T = c := Value.ref.inj (Option.some.inj e5)
            subst e6
            rw [hT j T x y e4 k4 k5] at ho
            cases ho
            exact ⟨by rw [sizeLine_eq]; simp, [u, v], .cons k6 (.cons k7 .nil), ⟨_, k3, rfl, _, rfl⟩⟩
          · have e3 : H' c = H1 c := by
              show (if c = s1.heap.objs.size + 5 then _ else if c ∈ Ts then _ else _) = _
              rw [if_neg e1, if_neg e2]
            rw [e3, I1.hok.fresh hc] at ho
            cases ho
      have I2 : Inv X pins σ H' { s1 with heap := h', toks := s1.toks } := I1.un (un_many I1.hok f.old low) (hok_many I1.hok f.old low ob)
      refine ⟨.ref (s1.heap.objs.size + 5), H', I2, rfl, q H' _ Ts (by rw [lt, lv]) (I1.hok.fresh (Nat.le_add_right _ _)) (fun T hT => I1.hok.fresh (Nat.le_trans (Nat.le_add_right _ _) (far T hT))) hS hT (fun c hc => ?_) fun m => absurd (far _ m) (by omega)⟩
      cases e : H1 c with
      | none => exact absurd e hc
      | some u => rw [low c (I1.hok.lt e), e]
end
end PD
namespace PD
open PySem PySem.Spec PyProof.Rows L2
section
variable {cf : Str → List D → PSt → Out D} {gt : Str → Option D} {exv : ExV} {pa ca : Addr} {W : WX} {n : Nat} {X : Cx} {fns : List Str}
variable {A B' C R : E} {x y z : Expr} {xs : List Expr} {pos : Pos}
theorem zip_reps {K : PySem.W.Frag} {M M' : Ms} {H H' : Hp} (mo : ∀ b u, ¬ M b → H b = some u → ¬ M' b ∧ H' b = some u) : ∀ {xs ys : List D} {vs ws : List V} {Ts : List Addr}, Reps K pa M H xs vs → Reps K pa M H ys ws → Ts.length = min vs.length ws.length → (∀ T ∈ Ts, ¬ M' T) →
    (∀ (j : Nat) T x y, Ts[j]? = some T → vs[j]? = some x → ws[j]? = some y → H' T = some (.tup [x, y])) → Reps K pa M' H' (zipL xs ys) (Ts.map V.ref)
  | [], ys, vs, ws, Ts, r1, r2, hl, _, _ => by
    have : vs = [] := by unfold Reps at r1; exact r1
    subst this
    have : Ts = [] := List.eq_nil_of_length_eq_zero (by simpa using hl)
    subst this
    simp only [zipL, List.map_nil]
    exact .nil
  | x :: xs, [], vs, ws, Ts, r1, r2, hl, _, _ => by
    have : ws = [] := by unfold Reps at r2; exact r2
    subst this
    have : Ts = [] := List.eq_nil_of_length_eq_zero (by simpa using hl)
    subst this
    simp only [zipL, List.map_nil]
    exact .nil
  | x :: xs, y :: ys, vs, ws, Ts, r1, r2, hl, hn, hT => by
    unfold Reps at r1 r2
    obtain ⟨v, vs', rfl, a1, a2⟩ := r1
    obtain ⟨w, ws', rfl, b1, b2⟩ := r2
    cases Ts with
    | nil => simp at hl
    | cons T Ts =>
      have t0 := hT 0 T v w rfl rfl rfl
      simp only [zipL, List.map_cons]
      refine .cons ?_ (zip_reps mo a2 b2 (by simp at hl; omega) (fun T hT => hn T (List.mem_cons_of_mem _ hT)) fun j T x y e1 e2 e3 => hT (j + 1) T x y (by simpa using e1) (by simpa using e2) (by simpa using e3))
      unfold Rep
      exact ⟨T, _, rfl, ⟨hn T (by simp), t0⟩, .cons (a1.mono mo) (.cons (b1.mono mo) .nil)⟩
theorem s_lzip {p0 p2 pos2 : Pos} {e e' : Expr} (ok : XOk cf gt fns exv pa ca W n X) (hg : Gl X "list") (hg2 : Gl X "zip") (hs : notStar e = true) (hs' : notStar e' = true) (h : PE X e (tV cf gt exv pa ca W X.K A)) (h' : PE X e' (tV cf gt exv pa ca W X.K B')) :
    PE X (.Call (.Name "list" p0) [.Call (.Name "zip" p2) [e, e'] [] pos2] [] pos) (tV cf gt exv pa ca W X.K (.lzip A B')) := by
  refine (pe_listZip ok.calm hg ok.list hg2 ok.zip (pa_cons h (pa_cons h' pa_nil (star_of hs')) (star_of hs)) (star_of hs) (by rw [star_of hs']; rfl)).imp fun σ H Q ⟨B, M, env, p, S, es, hw⟩ => ?_
  simp only [evalE, Holds.bind] at hw
  refine ⟨B, M, env, p, S, es.appl, hw.imp (fun d p1 h1 v1 H1 x1 q1 r1 _ => ?_) fun _ _ _ z => z⟩
  have S1 := S.ext x1 q1
  refine ⟨B, M, env, p1, S1, es.appr, Holds.imp h1 (fun d' p2 h2 v2 H2 x2 q2 r2 _ => ?_) (exQ.mono x1)⟩
  obtain ⟨d2, e2, h3⟩ := Holds.lift (o := lzipD d d') (p := p2) h2
  have r1 := x2.rep S.mpa r1
  have S2 := S1.ext x2 q2
  cases d <;> cases d' <;> first | (cases e2; done) | skip
  cases e2
  obtain ⟨a, vs, rfl, g1, g2⟩ := r1.tup
  obtain ⟨b, ws, rfl, g3, g4⟩ := r2.tup
  refine ⟨a, b, vs, ws, rfl, g1.sq, g3.sq, fun H' S' Ts hl hS hT k1 k2 k3 kn => ?_⟩
  have same : Same H2 H' := fun b u e => by rw [k3 b (by rw [e]; simp)]; exact e
  have nS : ∀ b u, H2 b = some u → b ≠ S' := fun b u e z => by rw [z, hS] at e; cases e
  have rp : Reps X.K pa (fun b => M b ∨ b = S') H' (zipL _ _) (Ts.map V.ref) := zip_reps (fun b u hb e => ⟨fun z => z.elim hb (nS b u e), same b u e⟩) g2 g4 hl (fun T hm z => z.elim (fun z => S2.al T z (hT T hm)) fun z => kn (z ▸ hm)) k2
  refine h3 (.ref S') H' ((x1.trans x2).trans (.of_same same)) (pool_ext q2 same) ?_ fun _ => newv_ext S (x1.trans x2) q2 ⟨S', _, rfl, hS, k1, rp⟩
  unfold Rep
  exact ⟨S', _, rfl, ⟨fun z => S2.al S' z hS, k1⟩, rp.mono fun b u hb e => ⟨fun z => hb (.inl z), e⟩⟩
end
end PD

set_option maxHeartbeats 1000000
/-! PD10j: zip of a list and a tuple, in either order. -/
namespace RZ3
open PySem PySem.Spec PyProof.Rows L2
/-- where an iterator over a tuple (t) or a list stands -/
def ItB (t : Bool) (h : Heap) (it l : Addr) (k : Nat) : Prop := match t with
  | true => h.IsTupleIter it l k
  | false => h.IsListIter it l k
def SqB (K : PySem.W.Frag) (t : Bool) (H : Hp) (a : Addr) (xs : List V) : Prop := match t with
  | true => SqT K H a xs
  | false => SqL K H a xs
def SeqB (t : Bool) (h : Heap) (l : Addr) (its : Array Value) : Prop := match t with
  | true => h.IsTuple l its
  | false => h.IsList l its
theorem ItB.obj {t : Bool} {h : Heap} {it l : Addr} {k : Nat} (st : ItB t h it l k) : ∃ o, h.get? it = some o ∧ ∀ v, o.data ≠ .cell v := by
  cases t with
  | true =>
    obtain ⟨o, e, _, d⟩ := st
    exact ⟨o, e, fun v q => by rw [d] at q; cases q⟩
  | false =>
    obtain ⟨o, e, _, d⟩ := st
    exact ⟨o, e, fun v q => by rw [d] at q; cases q⟩
theorem ItB.mv {t : Bool} {h h' : Heap} {it l : Addr} {k : Nat} (st : ItB t h it l k) (f : ∀ o, h.get? it = some o → h'.get? it = some o) : ItB t h' it l k := by
  cases t with
  | true => exact Heap.IsTupleIter.at st f
  | false => exact Heap.IsListIter.at st f
theorem draws (prog : Program) (w : World) {A : Around} (hh : A.handled = none) (t : Bool) (it l : Addr) (hne : l ≠ it) (items : Array Value) :
    Draws prog w A it [it, l] items.size (fun i v => items[i]? = some v) (fun i h => ItB t h it l i ∧ SeqB t h l items) := by
  cases t with
  | true => exact Draws.tuple hh it l hne items
  | false => exact Draws.list hh it l hne items
theorem seqB_of {X : Cx} {pins : List (Addr × Obj)} {σ : L2.St} {H : Hp} {s : Shared} {t : Bool} {a : Addr} {xs : List V} (I : Inv X pins σ H s) (q : SqB X.K t H a xs) : ∃ its : List Value, Vals xs its ∧ SeqB t s.heap a its.toArray := by
  cases t with
  | true =>
    obtain ⟨its, rv, p, _⟩ := I.tuple q
    exact ⟨its, rv, p⟩
  | false =>
    obtain ⟨its, rv, p, _⟩ := I.list q
    exact ⟨its, rv, p.isList⟩
theorem seqB_lt {t : Bool} {h : Heap} {a : Addr} {its : Array Value} (q : SeqB t h a its) : a < h.objs.size := by
  cases t with
  | true => obtain ⟨o, e, _⟩ := q; exact Heap.lt_size e
  | false => obtain ⟨o, e, _⟩ := q; exact Heap.lt_size e
theorem sqB_inj {X : Cx} {pins : List (Addr × Obj)} {σ : L2.St} {H : Hp} {s : Shared} {t : Bool} {a : Addr} {xs ys : List V} (I : Inv X pins σ H s) (q : SqB X.K t H a xs) (q' : SqB X.K t H a ys) : xs = ys := by
  cases t with
  | true => exact I.tuple_inj q q'
  | false => exact I.list_inj q q'
theorem sep_of {z TI TO i1 i2 a b : Addr} (D : ZipApart z TI TO i1 i2 a b) : ZipSep2 z TI TO i1 i2 [i1, a] [i2, b] where
  TIz := D.TIz
  TOz := D.TOz
  TITO := D.TITO
  TIi1 := D.TIi1
  mem1 := by simp
  zf1 := by simp [D.i1z.symm, D.l1z.symm]
  Tf1 := by simp [D.TOi1, D.l1TO.symm]
  TIi2 := D.TIi2
  mem2 := by simp
  zf2 := by simp [D.i2z.symm, D.l2z.symm]
  Tf2 := by simp [D.TOi2, D.l2TO.symm]
  sep1_2 := by simp [D.i12, D.l2i1.symm]
  sep2_1 := by simp [D.i12.symm, D.l1i2.symm]
/-- the sequences at a and b, as they stand at each turn, their items in new pairs -/
def ItzB (K : PySem.W.Frag) (t u : Bool) (a b : Addr) : It :=
  ⟨fun i H => ∃ (xs ys : List V) (x y : V), SqB K t H a xs ∧ SqB K u H b ys ∧ xs[i]? = some x ∧ ys[i]? = some y,
    fun i H v H' => ∃ T x y, v = .ref T ∧ H T = none ∧ H' = upd H T (.tup [x, y]) ∧ (∀ xs, SqB K t H a xs → xs[i]? = some x) ∧ ∀ ys, SqB K u H b ys → ys[i]? = some y,
    fun i H => ∃ xs ys : List V, SqB K t H a xs ∧ SqB K u H b ys ∧ i ≤ xs.length ∧ i ≤ ys.length ∧ (i = xs.length ∨ i = ys.length)⟩
theorem turn_zipB {P : Program} {w : World} {K : PySem.W.Frag} {elts : List Expr} {kk : Nat} {tpos : Pos} {t u : Bool} {a b z TI TO i1 i2 : Addr} (D : ZipApart z TI TO i1 i2 a b) :
    Turn P w K (.Tuple elts kk tpos) (ItzB K t u a b) [z, TI, TO, i1, i2] z (fun i h => IsZip h z TI TO .none ∧ IsTupOf2 h TI (.ref i1) (.ref i2) ∧ (∃ x y, IsTupOf2 h TO x y) ∧ ItB t h i1 a i ∧ ItB u h i2 b i) where
  mem := by simp
  obj := fun i h st c hc => by
    obtain ⟨hz, hTI, ⟨x, y, hTO⟩, h1, h2⟩ := st
    have e' : c = z ∨ c = TI ∨ c = TO ∨ c = i1 ∨ c = i2 := by simpa using hc
    rcases e' with q | q | q | q | q <;> subst q
    · exact ⟨_, hz, fun v q => nomatch q⟩
    · exact ⟨_, hTI, fun v q => nomatch q⟩
    · exact ⟨_, hTO, fun v q => nomatch q⟩
    · exact h1.obj
    · exact h2.obj
  keep := fun i h h' st k => by
    obtain ⟨hz, hTI, ⟨x, y, hTO⟩, h1, h2⟩ := st
    exact ⟨k z (by simp) _ hz, k TI (by simp) _ hTI, ⟨x, y, k TO (by simp) _ hTO⟩, h1.mv fun o q => k i1 (by simp) o q, h2.mv fun o q => k i2 (by simp) o q⟩
  item := by
    intro X hP hw hK hc i pins s σ H E I hf st hg
    subst hP hw hK
    obtain ⟨hz, hTI, ⟨x0, y0, hTO⟩, h1, h2⟩ := st
    obtain ⟨xs, ys, x, y, hqx, hqy, hx, hy⟩ := hg
    obtain ⟨its, rv, p⟩ := seqB_of I hqx
    obtain ⟨its2, rv2, p2⟩ := seqB_of I hqy
    obtain ⟨v1, hu, ru⟩ := rv.get hx
    obtain ⟨v2, hu2, ru2⟩ := rv2.get hy
    have hi1 : i < its.toArray.size := by
      rcases Nat.lt_or_ge i its.length with q | q
      · simpa using q
      · rw [List.getElem?_eq_none q] at hu; cases hu
    have hi2 : i < its2.toArray.size := by
      rcases Nat.lt_or_ge i its2.length with q | q
      · simpa using q
      · rw [List.getElem?_eq_none q] at hu2; cases hu2
    have hzl : z < s.heap.objs.size := Heap.lt_size hz
    refine wpAny_pyNext_zipD2_item (sep_of D) (draws X.prog X.w (A := X.A.in1) (I.ok.hd hc) t i1 a D.l1i1 its.toArray) (draws X.prog X.w (A := X.A.in1) (I.ok.hd hc) u i2 b D.l2i2 its2.toArray) hz hTI hTO ⟨h1, p⟩ ⟨h2, p2⟩ hi1 hi2 fun w1 w2 h' tk e1 e2 z' TO' h1' h2' hT hsz hk => ?_
    have e1 : v1 = w1 := by
      have e1 : its[i]? = some w1 := by simpa using e1
      rw [hu] at e1
      exact Option.some.inj e1
    have e2 : v2 = w2 := by
      have e2 : its2[i]? = some w2 := by simpa using e2
      rw [hu2] at e2
      exact Option.some.inj e2
    subst e1 e2
    refine ⟨_, rfl, wpAny_letOwnedTupleGo_zip (s := { s with heap := h', toks := tk }) z' fun h'' z'' sb => ?_⟩
    have hT2 : h''.get? s.heap.objs.size = some { cls := .type "tuple", data := .seq #[v1, v2] } := (sb.2 _ (Nat.ne_of_gt hzl)).trans hT
    have new : ObjOk X.prog X.w (upd H s.heap.objs.size (.tup [x, y])) h'' s.heap.objs.size (.tup [x, y]) :=
      ⟨by show 2 ≤ sizeLine; decide, [v1, v2], .cons ru (.cons ru2 .nil), ⟨_, hT2, rfl, _, rfl⟩⟩
    have I1 : Inv X pins σ (upd H s.heap.objs.size (.tup [x, y])) { s with heap := h'', toks := tk } :=
      I.turnedNew (ch := [z, TI, TO, i1, i2]) (fun c o hb q => (sb.2 c (fun q' => hb (by simp [q']))).trans (hk c o (fun q' => hb (by simp [q'])) (fun q' => hb (by simp [q'])) (fun q' => hb (by simp [q'])) (fun q' => hb (by simp [q'])) q)) hf (Nat.le_refl _) new
    refine ⟨.ref s.heap.objs.size, _, I1, rfl, ⟨_, x, y, rfl, I.hok.fresh (Nat.le_refl _), rfl, fun l hl => by rw [sqB_inj I hl hqx]; exact hx, fun l hl => by rw [sqB_inj I hl hqy]; exact hy⟩, ⟨z'', ?_, ⟨v1, v2, ?_⟩, ?_, ?_⟩, fun c hcm => ?_⟩
    · exact (sb.2 _ D.TIz).trans (hk _ _ D.TIz D.TITO D.TIi1 D.TIi2 hTI)
    · exact (sb.2 _ D.TOz).trans TO'
    · exact h1'.1.mv fun o q => (sb.2 _ D.i1z).trans q
    · exact h2'.1.mv fun o q => (sb.2 _ D.i2z).trans q
    · have hlt : c < s.heap.objs.size := by
        have e' : c = z ∨ c = TI ∨ c = TO ∨ c = i1 ∨ c = i2 := by simpa using hcm
        rcases e' with q | q | q | q | q <;> rw [q]
        · exact hzl
        · exact Heap.lt_size hTI
        · exact Heap.lt_size hTO
        · obtain ⟨_, e1, _⟩ := h1.obj; exact Heap.lt_size e1
        · obtain ⟨_, e1, _⟩ := h2.obj; exact Heap.lt_size e1
      rw [upd_ne (Nat.ne_of_lt hlt)]
      exact (hf c hcm).1
  done := by
    intro X hP hw hK hc i pins s σ H E I hf st hg
    subst hP hw hK
    obtain ⟨hz, hTI, ⟨x0, y0, hTO⟩, h1, h2⟩ := st
    obtain ⟨xs, ys, hqx, hqy, hl1, hl2, hend⟩ := hg
    obtain ⟨its, rv, p⟩ := seqB_of I hqx
    obtain ⟨its2, rv2, p2⟩ := seqB_of I hqy
    have l1 := rv.length
    have l2 := rv2.length
    refine wpAny_pyNext_zipD2_end (sep_of D) (draws X.prog X.w (A := X.A.in1) (I.ok.hd hc) t i1 a D.l1i1 its.toArray) (draws X.prog X.w (A := X.A.in1) (I.ok.hd hc) u i2 b D.l2i2 its2.toArray) hz hTI hTO ⟨h1, p⟩ ⟨h2, p2⟩ (by simp; omega) (by simp; omega) (by simp; omega) fun h' tk hk => ⟨rfl, I.turnedL (ch := [z, TI, TO, i1, i2]) (fun c o hb q =>
      hk c o (fun q' => hb (by simp [q'])) (fun q' => hb (by simp [q'])) (fun q' => hb (by simp [q'])) (fun q' => hb (by simp [q'])) q) hf⟩
  self := fun A i s Q E st h => wpAny_pyIter_zip st.1 h
/-- a list and a tuple, or a tuple and a list -/
def iZipB (K : PySem.W.Frag) (ta : TA) : TI := fun σ H R => ta σ H fun vs H1 => ∃ (t u : Bool) (a b : Addr) (xs ys : List V), vs = [.ref a, .ref b] ∧ SqB K t H1 a xs ∧ SqB K u H1 b ys ∧ R (ItzB K t u a b) H1
/-- the new iterator of a sequence -/
def newIt (t : Bool) (a : Addr) : Obj := match t with
  | true => { cls := .type "tuple_iterator", data := .fields #[.ref a, .int 0 0] }
  | false => { cls := .type "list_iterator", data := .fields #[.ref a, .int 0 0] }
theorem begins_b (t : Bool) (a : Addr) (its : Array Value) : Begins (.ref a) (newIt t a) fun h => SeqB t h a its := by
  cases t with
  | true => exact begins_tuple a its
  | false => exact begins_list a its
theorem itB_new {t : Bool} {h : Heap} {a it : Addr} (e : h.get? it = some (newIt t a)) : ItB t h it a 0 := by
  cases t with
  | true => exact ⟨_, e, rfl, rfl⟩
  | false => exact ⟨_, e, rfl, rfl⟩
theorem apart_new {N a b : Nat} (ha : a < N) (hb : b < N) : ZipApart (N + 4) (N + 2) (N + 3) N (N + 1) a b where
  TIz := by show (N + 2 : Nat) ≠ N + 4; omega
  TOz := by show (N + 3 : Nat) ≠ N + 4; omega
  i1z := by show (N : Nat) ≠ N + 4; omega
  i2z := by show (N + 1 : Nat) ≠ N + 4; omega
  TITO := by show (N + 2 : Nat) ≠ N + 3; omega
  TIi1 := by show (N + 2 : Nat) ≠ N; omega
  TIi2 := by show (N + 2 : Nat) ≠ N + 1; omega
  TOi1 := by show (N + 3 : Nat) ≠ N; omega
  TOi2 := by show (N + 3 : Nat) ≠ N + 1; omega
  i12 := by show (N : Nat) ≠ N + 1; omega
  l1z := by show (a : Nat) ≠ N + 4; omega
  l1TO := by show (a : Nat) ≠ N + 3; omega
  l1i1 := by show (a : Nat) ≠ N; omega
  l1i2 := by show (a : Nat) ≠ N + 1; omega
  l2z := by show (b : Nat) ≠ N + 4; omega
  l2TO := by show (b : Nat) ≠ N + 3; omega
  l2i1 := by show (b : Nat) ≠ N; omega
  l2i2 := by show (b : Nat) ≠ N + 1; omega
theorem pi_zipB {X : Cx} {e e2 : Expr} {ta : TA} {p pos tpos : Pos} {elts : List Expr} {kk : Nat} (hg : Gl X "zip") (hm : X.mg "zip" = none) (ha : PA X [e, e2] ta)
    (hs : starEach [e, e2] X.env = (false, eval e X.env) :: starEach [e2] X.env := by rfl) (hpl : (backTo pos (starEach [e2] X.env)).any (·.1) = false := by rfl) :
    PI X (.Tuple elts kk tpos) (.Call (.Name "zip" p) [e, e2] [] pos) (iZipB X.K ta) := by
  refine ⟨fun pins s σ H R I h => ?_⟩
  refine Call_ (ld_blt I hg hm PyProof.Rows.boot_zip (PyProof.Rows.callWith_type1 (thn (ha.run pos pins s σ H _ I h) fun us s1 ⟨vs, H1, I1, r1, q1⟩ => ?_) hs hpl))
  obtain ⟨t, u, a, b, xs, ys, ex, hqx, hqy, q⟩ := q1
  subst ex
  cases r1 with
  | cons r rr =>
    cases rr with
    | cons r' rr =>
      cases rr
      cases r
      cases r'
      obtain ⟨its, rv, p1⟩ := seqB_of I1 hqx
      obtain ⟨its2, rv2, p2⟩ := seqB_of I1 hqy
      refine zip_begins2 (begins_b t a its.toArray) (begins_b u b its2.toArray) p1 p2 fun h' hz hTI hTO h1 h2 hsz hk => wpAny_pyIter_zip hz ?_
      have I2 : Inv X pins σ H1 { s1 with heap := h' } := I1.kept (t' := s1.toks) hk
      refine ⟨s1.heap.objs.size + 4, [s1.heap.objs.size + 4, s1.heap.objs.size + 2, s1.heap.objs.size + 3, s1.heap.objs.size, s1.heap.objs.size + 1], _, _, H1, rfl, I2, turn_zipB (apart_new (seqB_lt p1) (seqB_lt p2)), ⟨hz, hTI, ⟨_, _, hTO⟩, itB_new h1, itB_new h2⟩, fun c hcm => ?_, q⟩
      have hle : s1.heap.objs.size ≤ c := by
        have e' : c = s1.heap.objs.size + 4 ∨ c = s1.heap.objs.size + 2 ∨ c = s1.heap.objs.size + 3 ∨ c = s1.heap.objs.size ∨ c = s1.heap.objs.size + 1 := by simpa using hcm
        rcases e' with z | z | z | z | z <;> rw [z] <;> first | exact Nat.le_refl _ | exact Nat.le_add_right _ _
      exact I1.fpOk hle (I1.hok.fresh hle)
end RZ3
namespace PD
open PySem PySem.Spec PyProof.Rows L2
section
variable {cf : Str → List D → PSt → Out D} {gt : Str → Option D} {exv : ExV} {pa ca : Addr} {W : WX} {n : Nat} {X : Cx} {fns : List Str}
variable {A B' : E} {pos : Pos}
theorem walk_zipB {K : PySem.W.Frag} {t u : Bool} {a b : Addr} {xs ys : List V} : Walk (RZ3.ItzB K t u a b) (min xs.length ys.length) (fun H => RZ3.SqB K t H a xs ∧ RZ3.SqB K u H b ys) (YPair (fun i => xs[i]?) (fun i => ys[i]?)) := by
  refine ⟨fun i _ hi q => ?_, fun _ q => ⟨xs, ys, q.1, q.2, by omega, by omega, by omega⟩, fun i H v H' _ q y => ?_⟩
  · have h1 : i < xs.length := by omega
    have h2 : i < ys.length := by omega
    exact ⟨xs, ys, xs[i], ys[i], q.1, q.2, by simp [h1], by simp [h2]⟩
  · obtain ⟨T, x, z, h1, h2, h3, h4, h5⟩ := y
    exact ⟨T, x, z, h1, h2, h3, h4 xs q.1, h5 ys q.2⟩
theorem pi_zipM {t g e e' : Expr} {sc : Scope} {elts : List Expr} {kk : Nat} {tp : Pos} (ok : XOk cf gt fns exv pa ca W n X) (hsc : X.env.scope = sc) (hn : nmB sc "zip" g = true) (hs : notStar e = true) (hs' : notStar e' = true) (ht : t = .Tuple elts kk tp) (h : PE X e (tV cf gt exv pa ca W X.K A)) (h' : PE X e' (tV cf gt exv pa ca W X.K B')) :
    PI X t (.Call g [e, e'] [] pos) (tI cf gt exv pa ca W X.K (.zip A B')) := by
  subst ht
  obtain ⟨p0, rfl, hg, hd, h0⟩ := gl_of hsc hn
  refine (RZ3.pi_zipB hg ok.zip (pa_cons h (pa_cons h' pa_nil (star_of hs')) (star_of hs)) (star_of hs) (by rw [star_of hs']; rfl)).imp fun σ H R' ⟨B, M, env, p, S, es, hw⟩ => ?_
  simp only [evalE, Holds.bind] at hw
  refine ⟨B, M, env, p, S, es.appl, hw.imp (fun d p1 h1 v1 H1 x1 q1 r1 _ => ?_) fun _ _ _ z => z⟩
  have S1 := S.ext x1 q1
  refine ⟨B, M, env, p1, S1, es.appr, Holds.imp h1 (fun d' p2 h2 v2 H2 x2 q2 r2 _ => ?_) (exQ.mono x1)⟩
  obtain ⟨d2, e2, out, e3, k⟩ := Holds.lift (o := zipD d d') (p := p2) h2
  have r1 := x2.rep S.mpa r1
  cases d <;> cases d' <;> first | (cases e2; done) | skip
  · cases e2; cases e3
    obtain ⟨a, vs, rfl, g1, g2⟩ := r1.tup
    obtain ⟨b, ws, rfl, g3, g4⟩ := r2.tup
    exact ⟨true, true, a, b, vs, ws, rfl, g1.sq, g3.sq, k _ H2 (x1.trans x2) q2 (it_zip walk_zipB (fun M2 H3 kp => ⟨(g1.mono kp.1).sq, (g3.mono kp.1).sq⟩) g2 g4)⟩
  · cases e2; cases e3
    obtain ⟨a, vs, rfl, g1, g2⟩ := r1.tup
    obtain ⟨b, ws, rfl, g3, g4⟩ := r2.lst
    exact ⟨true, false, a, b, vs, ws, rfl, g1.sq, .inl (.inl g3.2), k _ H2 (x1.trans x2) q2 (it_zip walk_zipB (fun M2 H3 kp => ⟨(g1.mono kp.1).sq, .inl (.inl (kp.1 _ _ g3.1 g3.2).2)⟩) g2 g4)⟩
  · cases e2; cases e3
    obtain ⟨a, vs, rfl, g1, g2⟩ := r1.lst
    obtain ⟨b, ws, rfl, g3, g4⟩ := r2.tup
    exact ⟨false, true, a, b, vs, ws, rfl, .inl (.inl g1.2), g3.sq, k _ H2 (x1.trans x2) q2 (it_zip walk_zipB (fun M2 H3 kp => ⟨.inl (.inl (kp.1 _ _ g1.1 g1.2).2), (g3.mono kp.1).sq⟩) g2 g4)⟩
  · cases e2; cases e3
    obtain ⟨a, vs, rfl, g1, g2⟩ := r1.lst
    obtain ⟨b, ws, rfl, g3, g4⟩ := r2.lst
    exact ⟨false, false, a, b, vs, ws, rfl, .inl (.inl g1.2), .inl (.inl g3.2), k _ H2 (x1.trans x2) q2 (it_zip walk_zipB (fun M2 H3 kp => ⟨.inl (.inl (kp.1 _ _ g1.1 g1.2).2), .inl (.inl (kp.1 _ _ g3.1 g3.2).2)⟩) g2 g4)⟩
end
end PD

namespace PD
open PySem PySem.Spec PyProof.Rows L2
section
variable {cf : Str → List D → PSt → Out D} {gt : Str → Option D} {exv : ExV} {pa ca : Addr} {W : WX} {n : Nat} {X : Cx} {fns : List Str}
variable {A B' C R : E} {x y z : Expr} {xs : List Expr} {pos : Pos}
/-! ### {(i, j): v, (k, l): w}: a display with two keys that are tuples -/
theorem dict_walkT {s : Shared} {E' : Value → Shared → Prop} {A0 : Around} {env : PySem.Env} {keys : List (Option Expr)} {values : List Expr} {pos : Pos} {Q : Value → Shared → Prop} {prog : Program} {w : World} {κ : Type} [DecidableEq κ] {knd : HeapKind prog w κ} (hu : knd.room A0)
    (hall : keys.all (·.isSome) = true) (hl : keys.length = values.length) (h0 : keys ≠ []) (hlen : keys.length ≤ 15)
    (h : wpAny (model prog w) A0 (evalPairs (pairTrees keys values env pos)) (fun vs s₁ => ∃ ps, CarriesH knd s₁.heap vs ps ∧ s₁.heap.DictOfH knd s.heap.objs.size [] ∧
      ∀ h' tk, h'.DictOfH knd s.heap.objs.size (storedAllH [] ps) → Heap.SameBut s.heap.objs.size s₁.heap h' → Q (.ref s.heap.objs.size) { s₁ with heap := h', toks := tk }) E'
      { s with heap := s.heap.push { cls := .type "dict", data := .dict #[] } }) :
    wpAny (model prog w) A0 (eval (.Dict keys values pos) env) Q E' s := by
  have hn := pairTrees_length keys values env pos hall hl
  have h0' : pairTrees keys values env pos ≠ [] := fun he => by
    rw [he] at hn
    exact h0 (List.length_eq_zero_iff.mp hn.symm)
  rw [arm_eval_Dict, zip_pairTrees keys values env pos hall hl, dictDisplay_pairs _ h0' (by omega)]
  exact wpAny_bind (wpAny_standAt (wpAny_bind (wpAny_subDictH (knd := knd) (Q := fun d s' => wpAny (model prog w) A0 (pure (Value.ref d)) Q E' s') hu (by omega)
    (wpAny_mono h (fun vs s₁ h₁ => by obtain ⟨ps, hc, hm, hq⟩ := h₁; exact ⟨ps, hc, hm, fun h' tk a b => wpAny_pure (hq h' tk a b)⟩) fun _ _ e => e))))
abbrev TPk := List L2.Key × Addr × V
theorem carriesT {P : Program} {w : World} {H : Hp} {h : Heap} (ok : HOk P w H h) : ∀ {kvs : List TPk} {ws : List (Value × Value)}, (∀ q ∈ kvs, H q.2.1 = some (.tup (q.1.map kV))) → VV (kvs.map fun q => (V.ref q.2.1, q.2.2)) ws →
    ∃ rs, CarriesH (tupleKind (mixKind P w)) h ws rs ∧ KT H (kvs.map fun q => (q.1, q.2.2)) rs
  | [], _, _, r => by rw [List.map_nil] at r; cases r; exact ⟨[], True.intro, .nil⟩
  | p :: kvs, _, hh, r => by
    rw [List.map_cons] at r
    cases r with
    | @cons a b as bs h1 t =>
      obtain ⟨rs, c, q⟩ := carriesT ok (kvs := kvs) (fun q hq => hh q (List.mem_cons_of_mem _ hq)) t
      obtain ⟨b1, b2⟩ := b
      obtain ⟨e1, e2⟩ := h1
      obtain rfl : b1 = Value.ref p.2.1 := e1
      have hp := hh p List.mem_cons_self
      exact ⟨(p.1, p.2.1, b2) :: rs, ⟨rfl, rfl, key_of ok hp, c⟩, .cons ⟨rfl, hp, e2⟩ q⟩
def tDispT (trs : List (TE × TE)) : TE := fun σ H Q => ∀ p, H p = none → tPairs trs σ (upd H p (.dT [])) fun ps H2 => H2 p = some (.dT []) ∧ ∃ kvs : List TPk, ps = kvs.map (fun q => (V.ref q.2.1, q.2.2)) ∧ (∀ q ∈ kvs, H2 q.2.1 = some (.tup (q.1.map kV))) ∧ kvs.length ≤ 15 ∧ Q (.ref p) (upd H2 p (.dT (putAll [] (kvs.map fun q => (q.1, q.2.2)))))
theorem pe_dispT {X : Cx} {pos : Pos} {keys : List (Option Expr)} {values : List Expr} {trs : List (TE × TE)} (hu : X.A.units < cLine) (h : PPs X pos keys values trs) (hall : keys.all (·.isSome) = true) (hl : keys.length = values.length) (h0 : keys ≠ [])
    (h15 : keys.length ≤ 15) : PE X (.Dict keys values pos) (tDispT trs) := by
  refine ⟨fun pins s σ H Q I q => ?_⟩
  have hn := I.hok.fresh (Nat.le_refl s.heap.objs.size)
  have I1 := I.laid (a := s.heap.objs.size) (o := .dT []) (h' := s.heap.push { cls := .type "dict", data := .dict #[] }) (t' := s.toks) (fun _ _ q => Heap.get?_push_of_some _ q) (Nat.le_refl _) (dt_empty s.heap I.big)
  refine dict_walkT (knd := tupleKind (mixKind X.prog X.w)) hu hall hl h0 h15 (thn (h.run pins _ σ _ _ I1 (q _ hn)) fun ws s2 ⟨ps, H2, I2, rel, e, kvs, ep, hk, lk, q2⟩ => ?_)
  subst ep
  obtain ⟨rs, c, rk⟩ := carriesT I2.hok hk rel
  obtain ⟨z, hd, xs0, r0, dd⟩ := dt_of I2.hok e
  cases r0
  refine ⟨rs, c, dd, fun h' tk dd' hs => ⟨.ref s.heap.objs.size, _, ?_, rfl, q2⟩⟩
  have hz : (putAll [] (kvs.map fun q => (q.1, q.2.2))).length ≤ sizeLine := by
    have h1 : ∀ (more acc : List (List L2.Key × V)), (putAll acc more).length ≤ acc.length + more.length := by
      intro more
      induction more with
      | nil => intro acc; exact Nat.le_refl _
      | cons p r ih =>
        intro acc
        have a := ih (putK acc p.1 p.2)
        have b := length_putK acc p.1 p.2
        show (putAll (putK acc p.1 p.2) r).length ≤ _
        rw [List.length_cons]; omega
    have := h1 (kvs.map fun q => (q.1, q.2.2)) []
    rw [List.length_nil, List.length_map] at this
    rw [sizeLine_eq]; omega
  obtain ⟨o, es, ep, hq, h2, h3, h4, _, h5⟩ := dd'
  have kk := kt_putAll rk (KT.keeps (H := H2) .nil fun _ _ e => e)
  exact d_write I2 (by rw [e]; exact True.intro) hs ⟨o, hq⟩ ⟨hz, hd, _, kk.keeps fun c ys ec => (by
    rw [upd_ne (ne_of ec e (fun z => nomatch z))]
    exact ec), o, es, ep, hq, h2, h3, h4, h5⟩
theorem s_ddispT (hu : X.A.units < cLine) {x2 y2 : Expr} {k v k2 v2 : E} (hk : PE X x (tC cf gt exv pa ca W X.K k)) (hv : PE X y (tV cf gt exv pa ca W X.K v)) (hk2 : PE X x2 (tC cf gt exv pa ca W X.K k2)) (hv2 : PE X y2 (tV cf gt exv pa ca W X.K v2)) : PE X (.Dict [some x, some x2] [y, y2] pos) (tV cf gt exv pa ca W X.K (.ddispT k v k2 v2)) := by
  refine (pe_dispT hu (pps_cons hk hv (pps_cons hk2 hv2 pps_nil)) rfl rfl (by simp) (by simp)).imp fun σ H Q ⟨B, M, env, p, S, es, h⟩ => ?_
  intro q hq
  have nM : ¬ M q := fun z => S.al q z hq
  have x0 : Ext pa H (upd H q (.dT [])) := .of_same (same_new hq)
  have q0 := pool_ext S.pool (same_new (o := .dT []) hq)
  have k0 : ∀ b u, ¬ M b → H b = some u → ¬ (M b ∨ b = q) ∧ (upd H q (.dT [])) b = some u := fun b u hb e => ⟨fun z => z.elim hb fun z => (by rw [z, hq] at e; cases e), same_new hq b u e⟩
  have S0 : SOk X.K pa ca B (fun b => M b ∨ b = q) σ (upd H q (.dT [])) env p := by
    have S1 := S.ext x0 q0
    refine ⟨q0, S.bp, S.bc, fun a ha => .inl (S.sub a ha), fun a ha => ?_, fun a vs ha z => ?_, fun j s e => ?_, S.sep, S.len⟩
    · rcases ha with ha | rfl
      · exact S1.al a ha
      · rw [upd_same]; simp
    · rcases ha with ha | rfl
      · exact S1.nt a vs ha z
      · rw [upd_same] at z; cases z
    · have g := S.sl j s e
      cases s with
      | no => trivial
      | val d' =>
        obtain ⟨w, g1, g2⟩ := g
        exact ⟨w, g1, g2.mono k0⟩
      | own d' =>
        obtain ⟨a, vs, ds', u, g0, g1, g2, g3, g4, g5⟩ := g
        exact ⟨a, vs, ds', u, g0, g1, .inl g2, g3, x0 _ _ (fun z => g3 (z ▸ S.bp)) g4, g5.mono k0⟩
  have es1 : escOk (escE v) env := es.appl
  have es2 : escOk (escE v2) env := es.appr
  unfold evalE at h
  rw [Holds.bind] at h
  refine ⟨B, _, env, p, S0, h.imp (fun d1 p1 h1 v1 H1 x1 q1 r1 => ?_) (exQ.mono x0)⟩
  rw [Holds.bind] at h1
  have S1 := S0.ext x1 q1
  refine ⟨B, _, env, p1, S1, es1, h1.imp (fun d2 p2 h2 v2' H2 x2' q2 r2 _ => ?_) (exQ.mono (x0.trans x1))⟩
  rw [Holds.bind] at h2
  have S2 := S1.ext x2' q2
  refine ⟨B, _, env, p2, S2, h2.imp (fun d3 p3 h3 v3 H3 x3 q3 r3 => ?_) (exQ.mono ((x0.trans x1).trans x2'))⟩
  rw [Holds.bind] at h3
  have S3 := S2.ext x3 q3
  refine ⟨B, _, env, p3, S3, es2, h3.imp (fun d4 p4 h4 v4 H4 x4 q4 r4 _ => ?_) (exQ.mono (((x0.trans x1).trans x2').trans x3))⟩
  split at h4 <;> first | exact h4.elim | skip
  rename_i hik
  rw [Bool.and_eq_true] at hik
  obtain ⟨kk, rfl⟩ := isKey_true hik.1
  obtain ⟨kk2, rfl⟩ := isKey_true hik.2
  obtain ⟨b1, rfl, hb1⟩ := rep_tkey r1
  obtain ⟨b2, rfl, hb2⟩ := rep_tkey r3
  have nb1 : b1 ≠ pa := fun z => by rw [z, q1.hp] at hb1; cases hb1
  have nb2 : b2 ≠ pa := fun z => by rw [z, q3.hp] at hb2; cases hb2
  have hb1' : H4 b1 = some (.tup (kk.map kV)) := x4 b1 _ nb1 (x3 b1 _ nb1 (x2' b1 _ nb1 hb1))
  have hb2' : H4 b2 = some (.tup (kk2.map kV)) := x4 b2 _ nb2 hb2
  have nqp : q ≠ pa := fun z => by rw [z, S.pool.hp] at hq; cases hq
  have nqc : ca ≠ q := fun z => by rw [← z, S.pool.hc] at hq; cases hq
  have eq4 : H4 q = some (.dT []) := x4 q _ nqp (x3 q _ nqp (x2' q _ nqp (x1 q _ nqp upd_same)))
  refine ⟨eq4, [(kk, b1, v2'), (kk2, b2, v4)], rfl, fun t ht => ?_, by simp, ?_⟩
  · simp only [List.mem_cons, List.not_mem_nil, or_false] at ht
    rcases ht with rfl | rfl
    · exact hb1'
    · exact hb2'
  have em : putAll [] ([(kk, b1, v2'), (kk2, b2, v4)].map fun q : TPk => (q.1, q.2.2)) = putK [(kk, v2')] kk2 v4 := rfl
  rw [em]
  have r2' : Reps X.K pa (fun b => M b ∨ b = q) H4 [d2] [v2'] := x4.reps (.inl S.mpa) (x3.reps (.inl S.mpa) (.one r2))
  have nd1 : ([(kk, v2')].map (·.1)).Nodup := by simp
  have rr := dputV_put (f := fun k : List L2.Key => D.tup (k.map kD)) keq_tup kk2 r4 nd1 r2'
  have ek := dputK_put (f := fun k : List L2.Key => D.tup (k.map kD)) keq_tup kk2 v4 [(kk, v2')]
  have x5 : Ext pa H (upd H4 q (.dT (putK [(kk, v2')] kk2 v4))) := fun b u hb e => by
    rw [upd_ne (ne_of_none e hq)]
    exact x4 b u hb (x3 b u hb (x2' b u hb (x1 b u hb (same_new hq b u e))))
  have q5 : PoolOk pa ca (upd H4 q (.dT (putK [(kk, v2')] kk2 v4))) p4 := ⟨q4.ne, q4.le, by rw [upd_ne (Ne.symm nqp)]; exact q4.hp, by rw [upd_ne nqc]; exact q4.hc⟩
  have k4 : ∀ b u, ¬ (M b ∨ b = q) → H4 b = some u → ¬ (M b ∨ b = q) ∧ (upd H4 q (.dT (putK [(kk, v2')] kk2 v4))) b = some u := fun b u hb e => ⟨hb, by rw [upd_ne fun z => hb (.inr z)]; exact e⟩
  have ho : DictO true (dputK [.tup (kk.map kD)] (.tup (kk2.map kD))) ((putK [(kk, v2')] kk2 v4).map (·.2)) (.dT (putK [(kk, v2')] kk2 v4)) := ⟨rfl, ek, rfl, putK_nodup kk2 v4 nd1⟩
  have r5 := rr.mono k4
  refine h4 (.ref q) _ x5 q5 ?_ fun _ => ⟨q, _, _, rfl, hq, upd_same, ho, r5⟩
  unfold Rep
  exact ⟨q, _, _, rfl, nM, .inl upd_same, ho, r5.mono fun b u hb e => ⟨fun z => hb (.inl z), e⟩⟩
end
end PD

namespace PD
open PySem PySem.Spec PyProof.Rows L2
section
variable (cf : Str → List D → PSt → Out D) (gt : Str → Option D) (exv : ExV) (pa ca : Addr) (n : Nat) (fns : List Str)
def isZip : E → Bool
  | .zip _ _ => true
  | _ => false
def isTupE : Expr → Bool
  | .Tuple _ _ _ => true
  | _ => false
theorem zip_tup {N : List Str} {scope : Scope} {tg : Tg} {t : Expr} {it : E} (h : chkTg N scope tg t = true) (hz : zipT it tg = true) (z : isZip it = true) : isTupE t = true := by
  cases it <;> first | (cases z; done) | skip
  cases tg with
  | name i => cases hz
  | tup is =>
    unfold chkTg at h
    cases t <;> first | (cases h; done) | rfl
structure Snd (E1 : E) : Prop where
  v : ∀ {X : Cx} {W : WX}, XOk cf gt fns exv pa ca W n X → ∀ e, chkE X.N fns X.env.scope E1 e = true → PE X e (tV cf gt exv pa ca W X.K E1)
  t : ∀ {X : Cx} {W : WX}, XOk cf gt fns exv pa ca W n X → ∀ e, chkE X.N fns X.env.scope E1 e = true → PT X e (tT cf gt exv pa ca W X.K E1)
  vs : ∀ {X : Cx} {W : WX}, XOk cf gt fns exv pa ca W n X → ∀ es, chkEs X.N fns X.env.scope E1 es = true → PA X es (tVs cf gt exv pa ca W X.K E1) ∧ PA X es (tBs cf gt exv pa ca W X.K E1)
  o : ∀ {X : Cx} {W : WX}, XOk cf gt fns exv pa ca W n X → ∀ e, chkO X.N fns X.env.scope E1 e = true → PO X e (tO cf gt exv pa ca W X.K E1)
  c : ∀ {X : Cx} {W : WX}, XOk cf gt fns exv pa ca W n X → ∀ es, chkC X.N fns X.env.scope E1 es = true → PTs X es (tCnd cf gt exv pa ca W X.K E1)
  it : ∀ {X : Cx} {W : WX}, XOk cf gt fns exv pa ca W n X → ∀ t e, chkI X.N fns X.env.scope E1 e = true → (isZip E1 = true → isTupE t = true) → PI X t e (tI cf gt exv pa ca W X.K E1)
  es : ∀ {X : Cx} {W : WX}, XOk cf gt fns exv pa ca W n X → ∀ es, chkEs X.N fns X.env.scope E1 es = true → PEs cf gt exv pa ca W X es E1
end
section
variable {cf : Str → List D → PSt → Out D} {gt : Str → Option D} {exv : ExV} {pa ca : Addr} {n : Nat} {fns : List Str}
abbrev SndV (cf : Str → List D → PSt → Out D) (gt : Str → Option D) (exv : ExV) (pa ca : Addr) (n : Nat) (fns : List Str) (E1 : E) : Prop := ∀ {X : Cx} {W : WX}, XOk cf gt fns exv pa ca W n X → ∀ e, chkE X.N fns X.env.scope E1 e = true → PE X e (tV cf gt exv pa ca W X.K E1)
/-- a plain expression: its value's rule is all -/
theorem snd_of {E1 : E} (v : SndV cf gt exv pa ca n fns E1)
    (ht : ∀ {X : Cx} {W : WX}, XOk cf gt fns exv pa ca W n X → ∀ e, chkE X.N fns X.env.scope E1 e = true → PE X e (tV cf gt exv pa ca W X.K E1) → PT X e (tT cf gt exv pa ca W X.K E1))
    (hvs : ∀ N sc es, chkEs N fns sc E1 es = false) (ho : ∀ N sc es, chkO N fns sc E1 es = false) (hc : ∀ N sc es, chkC N fns sc E1 es = false) (hi : ∀ N sc e, chkI N fns sc E1 e = true → chkE N fns sc E1 e = true) : Snd cf gt exv pa ca n fns E1 :=
  ⟨v, fun ok e h => ht ok e h (v ok e h), fun _ es h => (by rw [hvs] at h; cases h), fun _ es h => (by rw [ho] at h; cases h), fun _ es h => (by rw [hc] at h; cases h), fun ok t e h _ => pi_val (v ok e (hi _ _ _ h)), fun _ es h => (by rw [hvs] at h; cases h)⟩
theorem snd_none {E1 : E} (hv : ∀ N sc e, chkE N fns sc E1 e = false) (hvs : ∀ N sc es, chkEs N fns sc E1 es = false) (ho : ∀ N sc es, chkO N fns sc E1 es = false) (hc : ∀ N sc es, chkC N fns sc E1 es = false) (hi : ∀ N sc e, chkI N fns sc E1 e = false) : Snd cf gt exv pa ca n fns E1 :=
  ⟨fun _ e h => (by rw [hv] at h; cases h), fun _ e h => (by rw [hv] at h; cases h), fun _ es h => (by rw [hvs] at h; cases h), fun _ es h => (by rw [ho] at h; cases h), fun _ es h => (by rw [hc] at h; cases h), fun _ t e h _ => (by rw [hi] at h; cases h), fun _ es h => (by rw [hvs] at h; cases h)⟩
theorem hi_of {E1 : E} (h : itOnly E1 = false) : ∀ N sc e, chkI N fns sc E1 e = true → chkE N fns sc E1 e = true := fun N sc e k => by
  rcases chkI_E k with z | z
  · rw [h] at z; cases z
  · exact z
/-- tests whose text is no and, or, not, if-else, comparison -/
theorem t_plain {X : Cx} {W : WX} {A : E} {e : Expr} (h : PE X e (tV cf gt exv pa ca W X.K A)) (he : ∀ whole, PySem.isTrue e X.env whole = (do let v ← whole; standAt e.pos; holding [v] (truthy v)) := by intro _; rfl) : PT X e (tT cf gt exv pa ca W X.K A) := t_val he h.used
theorem and_tail {A : E} {y : Expr} {rest : List Expr} {op : BoolOp} {pos : Pos} {N : List Str} {sc : Scope} (h : (match rest with | [] => chkE N fns sc A y | _ :: _ => chkE N fns sc A (.BoolOp op (y :: rest) pos)) = true) :
    (rest = [] ∧ chkE N fns sc A y = true) ∨ chkE N fns sc A (.BoolOp op (y :: rest) pos) = true := by
  cases rest with
  | nil => exact .inl ⟨rfl, h⟩
  | cons _ _ => exact .inr h

theorem mark_of {op : CmpOp} {e : Expr} (h : notSet e = true) : behindInMarks op e = false := by
  cases e <;> first | (cases h; done) | rfl
theorem blk_ok {X : Cx} {W : WX} (ok : XOk cf gt fns exv pa ca W n X) {scope : Scope} {s : Shared} {H : Hp} {cenv : PySem.Env} {fp : List Addr} : XOk cf gt fns exv pa ca (fun _ _ _ _ => False) n (X.blk s H scope cenv fp) :=
  ⟨ok.nd, ok.calm, takes0, ok.room, ok.gu, ok.fns, ok.glob, ok.exc, ok.exv, ok.len, ok.sum, ok.max, ok.min, ok.abs, ok.tuple, ok.list, ok.all, ok.any, ok.range, ok.isinstance, ok.int, ok.bool, ok.str, ok.dict, ok.repr, ok.sorted, ok.zip, ok.reversed, ok.set⟩
theorem blk_store {X : Cx} {scope : Scope} {s : Shared} {H : Hp} {C : Addr} {cl : List (Str × Addr)} {fp : List Addr} : MayStore (X.blk s H scope (compEnvC scope cl C X.env) fp) scope := fun u h => by
  have keep : ∀ k, k ≠ .free → scope.names.lookup u = some k → (relS scope X.env.scope).names.lookup u = some k := fun k hk e => lookup_relS_keep hk e
  rcases h with h | h
  · exact ⟨.inl (keep _ (by decide) h), .inr (keep _ (by decide) h)⟩
  · refine ⟨.inr (keep _ (by decide) h), .inl ?_⟩
    show (scope.names.lookup u == some .cell) = true
    rw [h]
    rfl
theorem sound : ∀ E1 : E, Snd cf gt exv pa ca n fns E1 := by
  intro E1
  induction E1 with
  | nil =>
    refine ⟨fun _ e h => ?_, fun _ e h => ?_, fun _ es h => ?_, fun _ e h => ?_, fun _ es h => ?_, fun _ t e h _ => ?_, fun _ es h => ?_⟩
    · unfold chkE at h; cases h
    · unfold chkE at h; cases h
    · unfold chkEs at h
      cases es with
      | nil => exact ⟨vs_nil, bs_nil⟩
      | cons _ _ => cases h
    · cases e with
      | none => exact o_none
      | some _ => unfold chkO at h; cases h
    · cases es with
      | nil => exact c_nil
      | cons _ _ => unfold chkC at h; cases h
    · unfold chkI at h; cases h
    · unfold chkEs at h
      cases es with
      | nil => trivial
      | cons _ _ => cases h
  | cons a r iha ihr =>
    refine ⟨fun _ e h => ?_, fun _ e h => ?_, fun ok es h => ?_, fun ok e h => ?_, fun ok es h => ?_, fun _ t e h _ => ?_, fun ok es h => ?_⟩
    · unfold chkE at h; cases h
    · unfold chkE at h; cases h
    · cases es with
      | nil => unfold chkEs at h; cases h
      | cons x xs =>
        unfold chkEs at h
        simp only [Bool.and_eq_true] at h
        have pv := iha.v ok x h.1.1
        have pr := ihr.vs ok xs h.2
        exact ⟨vs_cons pv pr.1 h.1.2, bs_cons (pv.lent rfl rfl h.1.1) pr.2 h.1.2⟩
    · unfold chkO at h
      cases r <;> cases e <;> first | (cases h; done) | skip
      exact o_some (iha.v ok _ h).used
    · unfold chkC at h
      rcases es with _ | ⟨x, _ | ⟨_, _⟩⟩ <;> cases r <;> first | (cases h; done) | skip
      exact c_one (iha.t ok _ h)
    · unfold chkI at h; cases h
    · cases es with
      | nil => unfold chkEs at h; cases h
      | cons x xs =>
        unfold chkEs at h
        simp only [Bool.and_eq_true] at h
        exact ⟨iha.v ok x h.1.1, ihr.es ok xs h.2⟩
  | var i =>
    refine snd_of (fun ok e h => ?_) (fun ok e h v => ?_) (fun _ _ _ => by unfold chkEs; rfl) (fun _ _ e => by unfold chkO; rfl) (fun _ _ es => by unfold chkC; rfl) (hi_of rfl)
    · unfold chkE at h
      exact sound_var (pe_name rfl h)
    · unfold chkE at h
      cases e <;> first | (cases h; done) | exact t_plain v
  | glob u =>
    refine snd_of (fun ok e h => ?_) (fun ok e h v => ?_) (fun _ _ _ => by unfold chkEs; rfl) (fun _ _ e => by unfold chkO; rfl) (fun _ _ es => by unfold chkC; rfl) (hi_of rfl)
    · unfold chkE at h
      obtain ⟨p0, rfl, hg, hd, _⟩ := gl_of rfl h
      exact s_glob ok hg hd
    · unfold chkE at h
      obtain ⟨p0, rfl, hg, hd, _⟩ := gl_of rfl h
      exact t_plain v
  | int i =>
    refine snd_of (fun ok e h => ?_) (fun ok e h v => ?_) (fun _ _ _ => by unfold chkEs; rfl) (fun _ _ e => by unfold chkO; rfl) (fun _ _ es => by unfold chkC; rfl) (hi_of rfl)
    · unfold chkE at h
      split at h <;> first | (cases h; done) | skip
      rw [beq_iff_eq] at h
      subst h
      exact s_int
    · unfold chkE at h
      split at h <;> first | (cases h; done) | exact t_plain v
  | str i =>
    refine snd_of (fun ok e h => ?_) (fun ok e h v => ?_) (fun _ _ _ => by unfold chkEs; rfl) (fun _ _ e => by unfold chkO; rfl) (fun _ _ es => by unfold chkC; rfl) (hi_of rfl)
    · unfold chkE at h
      split at h <;> first | (cases h; done) | skip
      rw [beq_iff_eq] at h
      subst h
      exact s_str
    · unfold chkE at h
      split at h <;> first | (cases h; done) | exact t_plain v
  | bl i =>
    refine snd_of (fun ok e h => ?_) (fun ok e h v => ?_) (fun _ _ _ => by unfold chkEs; rfl) (fun _ _ e => by unfold chkO; rfl) (fun _ _ es => by unfold chkC; rfl) (hi_of rfl)
    · unfold chkE at h
      split at h <;> first | (cases h; done) | skip
      rw [beq_iff_eq] at h
      subst h
      exact s_bl
    · unfold chkE at h
      split at h <;> first | (cases h; done) | exact t_plain v
  | non =>
    refine snd_of (fun ok e h => ?_) (fun ok e h v => ?_) (fun _ _ _ => by unfold chkEs; rfl) (fun _ _ e => by unfold chkO; rfl) (fun _ _ es => by unfold chkC; rfl) (hi_of rfl)
    · unfold chkE at h
      split at h <;> first | (cases h; done) | exact s_non
    · unfold chkE at h
      split at h <;> first | (cases h; done) | exact t_plain v
  | bin o a b iha ihb =>
    refine snd_of (fun ok e h => ?_) (fun ok e h v => ?_) (fun _ _ _ => by unfold chkEs; rfl) (fun _ _ e => by unfold chkO; rfl) (fun _ _ es => by unfold chkC; rfl) (hi_of rfl)
    · unfold chkE at h
      split at h <;> first | (cases h; done) | skip
      simp only [Bool.and_eq_true] at h
      obtain ⟨⟨h1, h2⟩, h3⟩ := h
      rw [opEq_of h1]
      exact s_bin o ((iha.v ok _ h2).lent rfl rfl h2) ((ihb.v ok _ h3).lent rfl rfl h3)
    · unfold chkE at h
      split at h <;> first | (cases h; done) | exact t_plain v
  | neg a iha =>
    refine snd_of (fun ok e h => ?_) (fun ok e h v => ?_) (fun _ _ _ => by unfold chkEs; rfl) (fun _ _ e => by unfold chkO; rfl) (fun _ _ es => by unfold chkC; rfl) (hi_of rfl)
    · unfold chkE at h
      split at h <;> first | (cases h; done) | exact s_neg (iha.v ok _ h).used
    · unfold chkE at h
      split at h <;> first | (cases h; done) | exact t_plain v
  | cmp o a b iha ihb =>
    refine snd_of (fun ok e h => ?_) (fun ok e h v => ?_) (fun _ _ _ => by unfold chkEs; rfl) (fun _ _ e => by unfold chkO; rfl) (fun _ _ es => by unfold chkC; rfl) (hi_of rfl)
    · unfold chkE at h
      split at h <;> first | (cases h; done) | skip
      simp only [Bool.and_eq_true] at h
      obtain ⟨⟨⟨h1, h2⟩, h3⟩, h4⟩ := h
      rw [copEq_of h1]
      exact s_cmp ok o (iha.v ok _ h2).used (ihb.v ok _ h3).used (mark_of h4)
    · unfold chkE at h
      split at h <;> first | (cases h; done) | skip
      simp only [Bool.and_eq_true] at h
      obtain ⟨⟨⟨h1, h2⟩, h3⟩, h4⟩ := h
      rw [copEq_of h1]
      exact t_cmp ok o (iha.v ok _ h2).used (ihb.v ok _ h3).used (mark_of h4)
  | chain o o' a b c iha ihb ihc =>
    refine snd_of (fun ok e h => ?_) (fun ok e h v => ?_) (fun _ _ _ => by unfold chkEs; rfl) (fun _ _ e => by unfold chkO; rfl) (fun _ _ es => by unfold chkC; rfl) (hi_of rfl)
    · unfold chkE at h
      split at h <;> first | (cases h; done) | skip
      simp only [Bool.and_eq_true] at h
      obtain ⟨⟨⟨⟨⟨h1, h2⟩, h3⟩, h4⟩, h5⟩, h6⟩ := h
      rw [copEq_of h1, copEq_of h2]
      exact s_chain ok o o' (iha.v ok _ h3).used (ihb.v ok _ h4).used (ihc.v ok _ h5).used (mark_of h6)
    · unfold chkE at h
      split at h <;> first | (cases h; done) | skip
      simp only [Bool.and_eq_true] at h
      obtain ⟨⟨⟨⟨⟨h1, h2⟩, h3⟩, h4⟩, h5⟩, h6⟩ := h
      rw [copEq_of h1, copEq_of h2]
      exact t_chain ok o o' (iha.v ok _ h3).used (ihb.v ok _ h4).used (ihc.v ok _ h5).used (mark_of h6)
  | isn a iha =>
    refine snd_of (fun ok e h => ?_) (fun ok e h v => ?_) (fun _ _ _ => by unfold chkEs; rfl) (fun _ _ e => by unfold chkO; rfl) (fun _ _ es => by unfold chkC; rfl) (hi_of rfl)
    · unfold chkE at h
      split at h <;> first | (cases h; done) | exact s_isn (iha.v ok _ h).used
    · unfold chkE at h
      split at h <;> first | (cases h; done) | exact t_isn (iha.v ok _ h).used
  | notn a iha =>
    refine snd_of (fun ok e h => ?_) (fun ok e h v => ?_) (fun _ _ _ => by unfold chkEs; rfl) (fun _ _ e => by unfold chkO; rfl) (fun _ _ es => by unfold chkC; rfl) (hi_of rfl)
    · unfold chkE at h
      split at h <;> first | (cases h; done) | exact s_notn (iha.v ok _ h).used
    · unfold chkE at h
      split at h <;> first | (cases h; done) | exact t_notn (iha.v ok _ h).used
  | not a iha =>
    refine snd_of (fun ok e h => ?_) (fun ok e h v => ?_) (fun _ _ _ => by unfold chkEs; rfl) (fun _ _ e => by unfold chkO; rfl) (fun _ _ es => by unfold chkC; rfl) (hi_of rfl)
    · unfold chkE at h
      split at h <;> first | (cases h; done) | exact s_not (iha.v ok _ h).used
    · unfold chkE at h
      split at h <;> first | (cases h; done) | exact t_not (iha.t ok _ h)
  | and a b iha ihb =>
    refine snd_of (fun ok e h => ?_) (fun ok e h v => ?_) (fun _ _ _ => by unfold chkEs; rfl) (fun _ _ e => by unfold chkO; rfl) (fun _ _ es => by unfold chkC; rfl) (hi_of rfl)
    · unfold chkE at h
      split at h <;> first | (cases h; done) | skip
      simp only [Bool.and_eq_true] at h
      rcases and_tail h.2 with ⟨rfl, h2⟩ | h2
      · exact s_and (iha.v ok _ h.1).used (bool_one_E (ihb.v ok _ h2))
      · exact s_and (iha.v ok _ h.1).used (ihb.v ok _ h2)
    · unfold chkE at h
      split at h <;> first | (cases h; done) | skip
      simp only [Bool.and_eq_true] at h
      rcases and_tail h.2 with ⟨rfl, h2⟩ | h2
      · exact t_and (iha.t ok _ h.1) (bool_one_T (ihb.t ok _ h2))
      · exact t_and (iha.t ok _ h.1) (ihb.t ok _ h2)
  | or a b iha ihb =>
    refine snd_of (fun ok e h => ?_) (fun ok e h v => ?_) (fun _ _ _ => by unfold chkEs; rfl) (fun _ _ e => by unfold chkO; rfl) (fun _ _ es => by unfold chkC; rfl) (hi_of rfl)
    · unfold chkE at h
      split at h <;> first | (cases h; done) | skip
      simp only [Bool.and_eq_true] at h
      rcases and_tail h.2 with ⟨rfl, h2⟩ | h2
      · exact s_or (iha.v ok _ h.1).used (bool_one_E (ihb.v ok _ h2))
      · exact s_or (iha.v ok _ h.1).used (ihb.v ok _ h2)
    · unfold chkE at h
      split at h <;> first | (cases h; done) | skip
      simp only [Bool.and_eq_true] at h
      rcases and_tail h.2 with ⟨rfl, h2⟩ | h2
      · exact t_or (iha.t ok _ h.1) (bool_one_T (ihb.t ok _ h2))
      · exact t_or (iha.t ok _ h.1) (ihb.t ok _ h2)
  | ite c a b ihc iha ihb =>
    refine snd_of (fun ok e h => ?_) (fun ok e h v => ?_) (fun _ _ _ => by unfold chkEs; rfl) (fun _ _ e => by unfold chkO; rfl) (fun _ _ es => by unfold chkC; rfl) (hi_of rfl)
    · unfold chkE at h
      split at h <;> first | (cases h; done) | skip
      simp only [Bool.and_eq_true] at h
      exact s_ite (ihc.t ok _ h.1.1) (iha.v ok _ h.1.2) (ihb.v ok _ h.2)
    · unfold chkE at h
      split at h <;> first | (cases h; done) | skip
      simp only [Bool.and_eq_true] at h
      exact t_ite (ihc.t ok _ h.1.1) (iha.t ok _ h.1.2) (ihb.t ok _ h.2)
  | tup es ih =>
    refine snd_of (fun ok e h => ?_) (fun ok e h v => ?_) (fun _ _ _ => by unfold chkEs; rfl) (fun _ _ e => by unfold chkO; rfl) (fun _ _ es => by unfold chkC; rfl) (hi_of rfl)
    · unfold chkE at h
      split at h <;> first | (cases h; done) | exact s_tup (ih.vs ok _ h).1
    · unfold chkE at h
      split at h <;> first | (cases h; done) | exact t_plain v
  | lst es ih =>
    refine snd_of (fun ok e h => ?_) (fun ok e h v => ?_) (fun _ _ _ => by unfold chkEs; rfl) (fun _ _ e => by unfold chkO; rfl) (fun _ _ es => by unfold chkC; rfl) (hi_of rfl)
    · unfold chkE at h
      split at h <;> first | (cases h; done) | exact s_lst (ih.vs ok _ h).1
    · unfold chkE at h
      split at h <;> first | (cases h; done) | exact t_plain v
  | idx a i iha ihi =>
    refine snd_of (fun ok e h => ?_) (fun ok e h v => ?_) (fun _ _ _ => by unfold chkEs; rfl) (fun _ _ e => by unfold chkO; rfl) (fun _ _ es => by unfold chkC; rfl) (hi_of rfl)
    · unfold chkE at h
      split at h <;> first | (cases h; done) | skip
      simp only [Bool.and_eq_true] at h
      exact s_idx ok ((iha.v ok _ h.1.1).lent rfl rfl h.1.1) (ihi.v ok _ h.1.2).used h.2
    · unfold chkE at h
      split at h <;> first | (cases h; done) | exact t_plain v
  | sl a lo hi iha ihl ihh =>
    refine snd_of (fun ok e h => ?_) (fun ok e h v => ?_) (fun _ _ _ => by unfold chkEs; rfl) (fun _ _ e => by unfold chkO; rfl) (fun _ _ es => by unfold chkC; rfl) (hi_of rfl)
    · unfold chkE at h
      split at h <;> first | (cases h; done) | skip
      simp only [Bool.and_eq_true] at h
      exact s_sl ((iha.v ok _ h.1.1).lent rfl rfl h.1.1) (ihl.o ok _ h.1.2) (ihh.o ok _ h.2)
    · unfold chkE at h
      split at h <;> first | (cases h; done) | exact t_plain v
  | rev a iha =>
    refine snd_of (fun ok e h => ?_) (fun ok e h v => ?_) (fun _ _ _ => by unfold chkEs; rfl) (fun _ _ e => by unfold chkO; rfl) (fun _ _ es => by unfold chkC; rfl) (hi_of rfl)
    · unfold chkE at h
      split at h <;> first | (cases h; done) | exact s_rev ((iha.v ok _ h).lent rfl rfl h)
    · unfold chkE at h
      split at h <;> first | (cases h; done) | exact t_plain v
  | call f es ih =>
    refine snd_of (fun ok e h => ?_) (fun ok e h v => ?_) (fun _ _ _ => by unfold chkEs; rfl) (fun _ _ e => by unfold chkO; rfl) (fun _ _ es => by unfold chkC; rfl) (hi_of rfl)
    · unfold chkE at h
      split at h <;> first | (cases h; done) | skip
      simp only [Bool.and_eq_true] at h
      exact s_call ok rfl h.1.1 h.1.2 h.2 (ih.vs ok _ h.2).1
    · unfold chkE at h
      split at h <;> first | (cases h; done) | exact t_plain v
  | bi b es ih =>
    refine snd_of (fun ok e h => ?_) (fun ok e h v => ?_) (fun _ _ _ => by unfold chkEs; rfl) (fun _ _ e => by unfold chkO; rfl) (fun _ _ es => by unfold chkC; rfl) (hi_of rfl)
    · unfold chkE at h
      split at h <;> first | (cases h; done) | skip
      simp only [Bool.and_eq_true, beq_iff_eq] at h
      exact s_bi ok rfl h.1.1 h.1.2 h.2 (ih.vs ok _ h.2).1 (ih.vs ok _ h.2).2
    · unfold chkE at h
      split at h <;> first | (cases h; done) | exact t_plain v
  | isi a t iha =>
    refine snd_of (fun ok e h => ?_) (fun ok e h v => ?_) (fun _ _ _ => by unfold chkEs; rfl) (fun _ _ e => by unfold chkO; rfl) (fun _ _ es => by unfold chkC; rfl) (hi_of rfl)
    · unfold chkE at h
      split at h <;> first | (cases h; done) | skip
      simp only [Bool.and_eq_true] at h
      exact s_isi ok rfl h.1.1.1 h.1.1.2 h.2 (iha.v ok _ h.1.2).used
    · unfold chkE at h
      split at h <;> first | (cases h; done) | exact t_plain v
  | rng1 a iha =>
    refine ⟨fun _ e h => ?_, fun _ e h => ?_, fun _ es h => ?_, fun _ e h => ?_, fun _ es h => ?_, fun ok t e h hz => ?_, fun _ es h => ?_⟩
    rotate_right
    · unfold chkEs at h; cases h
    · unfold chkE at h; cases h
    · unfold chkE at h; cases h
    · unfold chkEs at h; cases h
    · unfold chkO at h; cases h
    · unfold chkC at h; cases h
    · unfold chkI at h
      split at h <;> first | (cases h; done) | skip
      simp only [Bool.and_eq_true] at h
      exact pi_rng1 ok rfl h.1.1 h.2 (iha.v ok _ h.1.2).used
  | rng2 a b iha ihb =>
    refine ⟨fun _ e h => ?_, fun _ e h => ?_, fun _ es h => ?_, fun _ e h => ?_, fun _ es h => ?_, fun ok t e h hz => ?_, fun _ es h => ?_⟩
    rotate_right
    · unfold chkEs at h; cases h
    · unfold chkE at h; cases h
    · unfold chkE at h; cases h
    · unfold chkEs at h; cases h
    · unfold chkO at h; cases h
    · unfold chkC at h; cases h
    · unfold chkI at h
      split at h <;> first | (cases h; done) | skip
      simp only [Bool.and_eq_true] at h
      exact pi_rng2 ok rfl h.1.1.1.1 h.1.2 h.2 (iha.v ok _ h.1.1.1.2).used (ihb.v ok _ h.1.1.2).used
  | zip a b iha ihb =>
    refine ⟨fun _ e h => ?_, fun _ e h => ?_, fun _ es h => ?_, fun _ e h => ?_, fun _ es h => ?_, fun ok t e h hz => ?_, fun _ es h => ?_⟩
    rotate_right
    · unfold chkEs at h; cases h
    · unfold chkE at h; cases h
    · unfold chkE at h; cases h
    · unfold chkEs at h; cases h
    · unfold chkO at h; cases h
    · unfold chkC at h; cases h
    · unfold chkI at h
      split at h <;> first | (cases h; done) | skip
      simp only [Bool.and_eq_true] at h
      have ht := hz rfl
      cases t <;> first | (cases ht; done) | skip
      exact pi_zipM ok rfl h.1.1.1.1 h.1.2 h.2 rfl (iha.v ok _ h.1.1.1.2) (ihb.v ok _ h.1.1.2)
  | revd a iha =>
    refine ⟨fun _ e h => ?_, fun _ e h => ?_, fun _ es h => ?_, fun _ e h => ?_, fun _ es h => ?_, fun ok t e h hz => ?_, fun _ es h => ?_⟩
    rotate_right
    · unfold chkEs at h; cases h
    · unfold chkE at h; cases h
    · unfold chkE at h; cases h
    · unfold chkEs at h; cases h
    · unfold chkO at h; cases h
    · unfold chkC at h; cases h
    · unfold chkI at h
      split at h <;> first | (cases h; done) | skip
      simp only [Bool.and_eq_true] at h
      exact pi_revd ok rfl h.1.1 h.2 (iha.v ok _ h.1.2)
  | revr a iha =>
    refine ⟨fun _ e h => ?_, fun _ e h => ?_, fun _ es h => ?_, fun _ e h => ?_, fun _ es h => ?_, fun ok t e h hz => ?_, fun _ es h => ?_⟩
    rotate_right
    · unfold chkEs at h; cases h
    · unfold chkE at h; cases h
    · unfold chkE at h; cases h
    · unfold chkEs at h; cases h
    · unfold chkO at h; cases h
    · unfold chkC at h; cases h
    · unfold chkI at h
      split at h <;> first | (cases h; done) | skip
      simp only [Bool.and_eq_true] at h
      exact pi_revr ok rfl h.1.1.1 h.1.1.2 h.2 (iha.v ok _ h.1.2).used
  | rng3 a b c _ _ _ =>
    exact snd_none (fun _ _ _ => by unfold chkE; rfl) (fun _ _ _ => by unfold chkEs; rfl) (fun _ _ e => by unfold chkO; rfl) (fun _ _ es => by unfold chkC; rfl) (fun _ _ _ => by unfold chkI; rfl)
  | lzip a b iha ihb =>
    refine snd_of (fun ok e h => ?_) (fun ok e h v => ?_) (fun _ _ _ => by unfold chkEs; rfl) (fun _ _ e => by unfold chkO; rfl) (fun _ _ es => by unfold chkC; rfl) (hi_of rfl)
    · unfold chkE at h
      split at h <;> first | (cases h; done) | skip
      simp only [Bool.and_eq_true] at h
      obtain ⟨p0, rfl, hg, hd, h0⟩ := gl_of rfl h.1.1.1.1.1
      obtain ⟨p2, rfl, hg2, hd2, h02⟩ := gl_of rfl h.1.1.1.1.2
      exact s_lzip ok hg hg2 h.1.2 h.2 (iha.v ok _ h.1.1.1.2) (ihb.v ok _ h.1.1.2)
    · unfold chkE at h
      split at h <;> first | (cases h; done) | exact t_plain v
  | sortset a iha =>
    refine snd_of (fun ok e h => ?_) (fun ok e h v => ?_) (fun _ _ _ => by unfold chkEs; rfl) (fun _ _ e => by unfold chkO; rfl) (fun _ _ es => by unfold chkC; rfl) (hi_of rfl)
    · unfold chkE at h
      split at h <;> first | (cases h; done) | skip
      simp only [Bool.and_eq_true] at h
      obtain ⟨p0, rfl, hg, hd, h0⟩ := gl_of rfl h.1.1.1
      obtain ⟨p2, rfl, hg2, hd2, h02⟩ := gl_of rfl h.1.1.2
      exact s_sortset ok hg hg2 h.2 ((iha.v ok _ h.1.2).lent rfl rfl h.1.2)
    · unfold chkE at h
      split at h <;> first | (cases h; done) | exact t_plain v
  | lenset a _ =>
    exact snd_none (fun _ _ _ => by unfold chkE; rfl) (fun _ _ _ => by unfold chkEs; rfl) (fun _ _ e => by unfold chkO; rfl) (fun _ _ es => by unfold chkC; rfl) (fun _ _ _ => by unfold chkI; rfl)
  | sortr a iha =>
    refine snd_of (fun ok e h => ?_) (fun ok e h v => ?_) (fun _ _ _ => by unfold chkEs; rfl) (fun _ _ e => by unfold chkO; rfl) (fun _ _ es => by unfold chkC; rfl) (hi_of rfl)
    · unfold chkE at h
      split at h <;> first | (cases h; done) | skip
      simp only [Bool.and_eq_true] at h
      obtain ⟨p0, rfl, hg, hd, h0⟩ := gl_of rfl h.1.1
      exact s_sortr ok hg h.2 ((iha.v ok _ h.1.2).lent rfl rfl h.1.2)
    · unfold chkE at h
      split at h <;> first | (cases h; done) | exact t_plain v
  | mind a i iha =>
    refine snd_of (fun ok e h => ?_) (fun ok e h v => ?_) (fun _ _ _ => by unfold chkEs; rfl) (fun _ _ e => by unfold chkO; rfl) (fun _ _ es => by unfold chkC; rfl) (hi_of rfl)
    · unfold chkE at h
      split at h <;> first | (cases h; done) | skip
      simp only [Bool.and_eq_true, beq_iff_eq] at h
      obtain ⟨p0, rfl, hg, hd, h0⟩ := gl_of rfl h.1.1.1
      obtain ⟨⟨⟨_, h2⟩, h3⟩, rfl⟩ := h
      exact s_mind ok hg h3 (iha.v ok _ h2).used
    · unfold chkE at h
      split at h <;> first | (cases h; done) | exact t_plain v
  | index a b _ _ =>
    exact snd_none (fun _ _ _ => by unfold chkE; rfl) (fun _ _ _ => by unfold chkEs; rfl) (fun _ _ e => by unfold chkO; rfl) (fun _ _ es => by unfold chkC; rfl) (fun _ _ _ => by unfold chkI; rfl)
  | count a b _ _ =>
    exact snd_none (fun _ _ _ => by unfold chkE; rfl) (fun _ _ _ => by unfold chkEs; rfl) (fun _ _ e => by unfold chkO; rfl) (fun _ _ es => by unfold chkC; rfl) (fun _ _ _ => by unfold chkI; rfl)
  | trev a iha =>
    refine snd_of (fun ok e h => ?_) (fun ok e h v => ?_) (fun _ _ _ => by unfold chkEs; rfl) (fun _ _ e => by unfold chkO; rfl) (fun _ _ es => by unfold chkC; rfl) (hi_of rfl)
    · unfold chkE at h
      split at h <;> first | (cases h; done) | skip
      simp only [Bool.and_eq_true] at h
      obtain ⟨p0, rfl, hg, hd, h0⟩ := gl_of rfl h.1.1.1
      obtain ⟨p2, rfl, hg2, hd2, h02⟩ := gl_of rfl h.1.1.2
      exact s_trev ok hg hg2 h.2 ((iha.v ok _ h.1.2).lent rfl rfl h.1.2)
    · unfold chkE at h
      split at h <;> first | (cases h; done) | exact t_plain v
  | lrng a iha =>
    refine snd_of (fun ok e h => ?_) (fun ok e h v => ?_) (fun _ _ _ => by unfold chkEs; rfl) (fun _ _ e => by unfold chkO; rfl) (fun _ _ es => by unfold chkC; rfl) (hi_of rfl)
    · unfold chkE at h
      split at h <;> first | (cases h; done) | skip
      simp only [Bool.and_eq_true] at h
      obtain ⟨p0, rfl, hg, hd, h0⟩ := gl_of rfl h.1.1.1
      obtain ⟨p2, rfl, hg2, hd2, h02⟩ := gl_of rfl h.1.1.2
      exact s_lrng ok hg hg2 h.2 (iha.v ok _ h.1.2).used
    · unfold chkE at h
      split at h <;> first | (cases h; done) | exact t_plain v
  | trng a iha =>
    refine snd_of (fun ok e h => ?_) (fun ok e h v => ?_) (fun _ _ _ => by unfold chkEs; rfl) (fun _ _ e => by unfold chkO; rfl) (fun _ _ es => by unfold chkC; rfl) (hi_of rfl)
    · unfold chkE at h
      split at h <;> first | (cases h; done) | skip
      simp only [Bool.and_eq_true] at h
      obtain ⟨p0, rfl, hg, hd, h0⟩ := gl_of rfl h.1.1.1
      obtain ⟨p2, rfl, hg2, hd2, h02⟩ := gl_of rfl h.1.1.2
      exact s_trng ok hg hg2 h.2 (iha.v ok _ h.1.2).used
    · unfold chkE at h
      split at h <;> first | (cases h; done) | exact t_plain v
  | dnew t =>
    refine snd_of (fun ok e h => ?_) (fun ok e h v => ?_) (fun _ _ _ => by unfold chkEs; rfl) (fun _ _ e => by unfold chkO; rfl) (fun _ _ es => by unfold chkC; rfl) (hi_of rfl)
    · unfold chkE at h
      split at h <;> first | (cases h; done) | skip
      exact s_dnew
    · unfold chkE at h
      split at h <;> first | (cases h; done) | exact t_plain v
  | dget a k iha ihk =>
    refine snd_of (fun ok e h => ?_) (fun ok e h v => ?_) (fun _ _ _ => by unfold chkEs; rfl) (fun _ _ e => by unfold chkO; rfl) (fun _ _ es => by unfold chkC; rfl) (hi_of rfl)
    · unfold chkE at h
      split at h <;> first | (cases h; done) | skip
      simp only [Bool.and_eq_true] at h
      obtain ⟨⟨⟨⟨⟨h1, h2⟩, h3⟩, h4⟩, h5⟩, h6⟩ := h
      rw [beq_iff_eq] at h1
      subst h1
      exact s_dget ok h6 h2 h5 ((iha.v ok _ h3).lent rfl rfl h3) (ihk.v ok _ h4).used
    · unfold chkE at h
      split at h <;> first | (cases h; done) | exact t_plain v
  | dget2 a k d iha ihk ihd =>
    refine snd_of (fun ok e h => ?_) (fun ok e h v => ?_) (fun _ _ _ => by unfold chkEs; rfl) (fun _ _ e => by unfold chkO; rfl) (fun _ _ es => by unfold chkC; rfl) (hi_of rfl)
    · unfold chkE at h
      split at h <;> first | (cases h; done) | skip
      simp only [Bool.and_eq_true] at h
      obtain ⟨⟨⟨⟨⟨⟨⟨h1, h2⟩, h3⟩, h4⟩, h5⟩, h6⟩, h7⟩, h8⟩ := h
      rw [beq_iff_eq] at h1
      subst h1
      exact s_dget2 ok h8 h2 h6 h7 ((iha.v ok _ h3).lent rfl rfl h3) (ihk.v ok _ h4).used (ihd.v ok _ h5)
    · unfold chkE at h
      split at h <;> first | (cases h; done) | exact t_plain v
  | dpairs t a iha =>
    refine snd_of (fun ok e h => ?_) (fun ok e h v => ?_) (fun _ _ _ => by unfold chkEs; rfl) (fun _ _ e => by unfold chkO; rfl) (fun _ _ es => by unfold chkC; rfl) (hi_of rfl)
    · unfold chkE at h
      split at h <;> first | (cases h; done) | skip
      simp only [Bool.and_eq_true] at h
      obtain ⟨p0, rfl, hg, hd, h0⟩ := gl_of rfl h.1.1
      exact s_dpairs ok hg ok.dict boot_dict' h0 hd h.2 ((iha.v ok _ h.1.2).lent rfl rfl h.1.2)
    · unfold chkE at h
      split at h <;> first | (cases h; done) | exact t_plain v
  | ddisp2 k v k2 v2 ihk ihv ihk2 ihv2 =>
    refine snd_of (fun ok e h => ?_) (fun ok e h v => ?_) (fun _ _ _ => by unfold chkEs; rfl) (fun _ _ e => by unfold chkO; rfl) (fun _ _ es => by unfold chkC; rfl) (hi_of rfl)
    · unfold chkE at h
      split at h <;> first | (cases h; done) | skip
      simp only [Bool.and_eq_true] at h
      exact s_ddisp2 (ihk.v ok _ h.1.1.1).used (ihv.v ok _ h.1.1.2) (ihk2.v ok _ h.1.2).used (ihv2.v ok _ h.2)
    · unfold chkE at h
      split at h <;> first | (cases h; done) | exact t_plain v
  | ddispT k v k2 v2 ihk ihv ihk2 ihv2 =>
    refine snd_of (fun ok e h => ?_) (fun ok e h v => ?_) (fun _ _ _ => by unfold chkEs; rfl) (fun _ _ e => by unfold chkO; rfl) (fun _ _ es => by unfold chkC; rfl) (hi_of rfl)
    · unfold chkE at h
      split at h <;> first | (cases h; done) | skip
      simp only [Bool.and_eq_true] at h
      exact s_ddispT (by have := units_of ok; omega) (ihk.v ok _ h.1.1.1).used (ihv.v ok _ h.1.1.2) (ihk2.v ok _ h.1.2).used (ihv2.v ok _ h.2)
    · unfold chkE at h
      split at h <;> first | (cases h; done) | exact t_plain v
  | ddisp1 k v ihk ihv =>
    refine snd_of (fun ok e h => ?_) (fun ok e h v => ?_) (fun _ _ _ => by unfold chkEs; rfl) (fun _ _ e => by unfold chkO; rfl) (fun _ _ es => by unfold chkC; rfl) (hi_of rfl)
    · unfold chkE at h
      split at h <;> first | (cases h; done) | skip
      simp only [Bool.and_eq_true] at h
      exact s_ddisp1 (ihk.v ok _ h.1).used (ihv.v ok _ h.2)
    · unfold chkE at h
      split at h <;> first | (cases h; done) | exact t_plain v
  | dcopy a iha =>
    refine snd_of (fun ok e h => ?_) (fun ok e h v => ?_) (fun _ _ _ => by unfold chkEs; rfl) (fun _ _ e => by unfold chkO; rfl) (fun _ _ es => by unfold chkC; rfl) (hi_of rfl)
    · unfold chkE at h
      split at h <;> first | (cases h; done) | skip
      simp only [Bool.and_eq_true] at h
      obtain ⟨p0, rfl, hg, hd, h0⟩ := gl_of rfl h.1.1
      exact s_dcopy ok hg ok.dict boot_dict' h0 hd h.2 ((iha.v ok _ h.1.2).lent rfl rfl h.1.2)
    · unfold chkE at h
      split at h <;> first | (cases h; done) | exact t_plain v
  | dcomp k v tg it c ihk ihv ihi ihc =>
    refine snd_of (fun ok e h => ?_) (fun ok e h v => ?_) (fun _ _ _ => by unfold chkEs; rfl) (fun _ _ e => by unfold chkO; rfl) (fun _ _ es => by unfold chkC; rfl) (hi_of rfl)
    · unfold chkE at h
      split at h <;> first | (cases h; done) | skip
      simp only [Bool.and_eq_true] at h
      obtain ⟨⟨⟨⟨⟨⟨⟨⟨⟨h1, h2⟩, h3⟩, h4⟩, h5⟩, h6⟩, h7⟩, h8⟩, h9⟩, h10⟩ := h
      exact s_dcomp ok.calm ok.nd (ihi.it ok _ _ h1 (zip_tup h4 h10)) (blkOk_by h3) h6 (fun s H C cl fp => g_tg ok.calm ok.nd blk_store h4) (fun s H C cl fp => ihc.c (blk_ok ok) _ h7) (fun s H C cl fp => (ihk.v (blk_ok ok) _ h8).used) (fun s H C cl fp => ihv.v (blk_ok ok) _ h9) h2
    · unfold chkE at h
      split at h <;> first | (cases h; done) | exact t_plain v
  | compD elt tg j c ihe ihc =>
    refine snd_of (fun ok e h => ?_) (fun ok e h v => ?_) (fun _ _ _ => by unfold chkEs; rfl) (fun _ _ e => by unfold chkO; rfl) (fun _ _ es => by unfold chkC; rfl) (hi_of rfl)
    · unfold chkE at h
      split at h <;> first | (cases h; done) | skip
      simp only [Bool.and_eq_true] at h
      obtain ⟨⟨⟨⟨⟨⟨h1, h3⟩, h4⟩, h5⟩, h6⟩, h7⟩, h8⟩ := h
      refine s_compD ok.calm ok.nd (pe_name rfl h1) (blkOk_by h3) h6 (fun s H C cl fp => g_tg ok.calm ok.nd blk_store h4) (fun s H C cl fp => ihc.c (blk_ok ok) _ h7) (fun s H C cl fp => ihe.v (blk_ok ok) _ h8) ?_
      split at h1 <;> first | (cases h1; done) | rfl
    · unfold chkE at h
      split at h <;> first | (cases h; done) | exact t_plain v
  | pfld i k =>
    refine snd_of (fun ok e h => ?_) (fun ok e h v => ?_) (fun _ _ _ => by unfold chkEs; rfl) (fun _ _ e => by unfold chkO; rfl) (fun _ _ es => by unfold chkC; rfl) (hi_of rfl)
    · unfold chkE at h
      split at h <;> first | (cases h; done) | skip
      rw [Bool.and_eq_true, beq_iff_eq] at h
      obtain ⟨h1, rfl⟩ := h
      exact s_pfld (pe_name rfl h1)
    · unfold chkE at h
      split at h <;> first | (cases h; done) | exact t_plain v
  | plen i =>
    refine snd_of (fun ok e h => ?_) (fun ok e h v => ?_) (fun _ _ _ => by unfold chkEs; rfl) (fun _ _ e => by unfold chkO; rfl) (fun _ _ es => by unfold chkC; rfl) (hi_of rfl)
    · unfold chkE at h
      split at h <;> first | (cases h; done) | skip
      have h2 := h
      simp only [Bool.and_eq_true] at h
      obtain ⟨p0, rfl, hg, _, _⟩ := gl_of rfl h.1.1.1
      exact s_plen hg ok.len (pe_name rfl (by simp only [Bool.and_eq_true]; exact ⟨⟨h.1.1.2, h.1.2⟩, h.2⟩))
    · unfold chkE at h
      split at h <;> first | (cases h; done) | exact t_plain v
  | pcell i =>
    refine snd_of (fun ok e h => ?_) (fun ok e h v => ?_) (fun _ _ _ => by unfold chkEs; rfl) (fun _ _ e => by unfold chkO; rfl) (fun _ _ es => by unfold chkC; rfl) (hi_of rfl)
    · unfold chkE at h
      split at h <;> first | (cases h; done) | skip
      rw [Bool.and_eq_true, beq_iff_eq] at h
      obtain ⟨h1, rfl⟩ := h
      exact s_pcell (pe_name rfl h1) (pe_name rfl h1)
    · unfold chkE at h
      split at h <;> first | (cases h; done) | exact t_plain v
  | comp elt tg it c ihe ihi ihc =>
    refine snd_of (fun ok e h => ?_) (fun ok e h v => ?_) (fun _ _ _ => by unfold chkEs; rfl) (fun _ _ e => by unfold chkO; rfl) (fun _ _ es => by unfold chkC; rfl) (hi_of rfl)
    · unfold chkE at h
      split at h <;> first | (cases h; done) | skip
      simp only [Bool.and_eq_true] at h
      obtain ⟨⟨⟨⟨⟨⟨⟨⟨h1, h2⟩, h3⟩, h4⟩, h5⟩, h6⟩, h7⟩, h8⟩, h9⟩ := h
      exact s_comp ok.calm ok.nd (ihi.it ok _ _ h1 (zip_tup h4 h9)) (blkOk_by h3) h6 (fun s H C cl fp => g_tg ok.calm ok.nd blk_store h4) (fun s H C cl fp => ihc.c (blk_ok ok) _ h7) (fun s H C cl fp => ihe.v (blk_ok ok) _ h8) h2
    · unfold chkE at h
      split at h <;> first | (cases h; done) | exact t_plain v
  | pick ks es k ihe ihk =>
    refine snd_of (fun ok e h => ?_) (fun ok e h v => ?_) (fun _ _ _ => by unfold chkEs; rfl) (fun _ _ e => by unfold chkO; rfl) (fun _ _ es => by unfold chkC; rfl) (hi_of rfl)
    · unfold chkE at h
      split at h <;> first | (cases h; done) | skip
      simp only [Bool.and_eq_true, Bool.not_eq_true', decide_eq_true_eq, beq_iff_eq] at h
      obtain ⟨⟨⟨⟨⟨⟨h1, h2⟩, h3⟩, h4⟩, h5⟩, h6⟩, h7⟩ := h
      exact s_pick ok h1 (ihe.es ok _ h2) (ihk.v ok _ h3).used h4 h5 (fun z => by rw [z] at h6; cases h6) h7
    · unfold chkE at h
      split at h <;> first | (cases h; done) | exact t_plain v
end
end PD

namespace PD
open PySem PySem.Spec PyProof.Rows L2

/-! ### the text and its statements agree -/
def notTup : Expr → Bool
  | .Tuple _ _ _ => false
  | _ => true
def swapC (sc : Scope) (t : Str) (line : Nat) (scope : Scope) (l2 : Nat) : Bool :=
  (match sc.names.lookup t with | some .local => true | _ => false) && line == l2 && !(scope.names.any fun (n, k) => n == t && (k == .local || k == .cell))
/-- a comprehension that is given to a name on one line is stored within its frame -/
def plainSet (sc : Scope) (t v : Expr) : Bool := match v, t with
  | .ListComp _ _ scope pos, .Name x p => !swapC sc x p.line scope pos.line
  | .SetComp _ _ _ _, _ => false
  | .DictComp _ _ _ scope pos, .Name x p => !swapC sc x p.line scope pos.line
  | _, _ => true
def parOk (sc : Scope) (x y : Str) (px py : Pos) (v w : Expr) : Bool :=
  (match sc.names.lookup x with | some .local => true | _ => false) && (match sc.names.lookup y with | some .local => true | _ => false) && !(x == y) && px.line == py.line && notStar v && notStar w && !([v, w].all (foldedForSure 8)) && !([v, w].all (constantsAlone 8))
/-! ### except clauses -/
def chkHT (sc : Scope) (nm : Option Str) : HT → Expr → Bool
  | .isi h, e => match e with
    | .Call f [.Name x _, y] [] _ => nmB sc "isinstance" f && nm == some x && plainN x && nmB sc h y
    | _ => false
  | .not t, e => match e with
    | .UnaryOp .Not x _ => chkHT sc nm t x
    | _ => false
  | .and a b, e => match e with
    | .BoolOp .And (x :: y :: rest) pos => chkHT sc nm a x && (match rest with
      | [] => chkHT sc nm b y
      | _ :: _ => chkHT sc nm b (.BoolOp .And (y :: rest) pos))
    | _ => false
def chkHE (sc : Scope) (nm : Option Str) : HE → Expr → Bool
  | .c d, e => match d, e with
    | .str s, .Constant (.str t) _ _ => s == t
    | .bl b, .Constant (.bool c) _ _ => b == c
    | .int i, .Constant (.int j) _ _ => i == j
    | .non, .Constant .none _ _ => true
    | _, _ => false
  | .ite t a b, e => match e with
    | .IfExp x y z _ => chkHT sc nm t x && chkHE sc nm a y && chkHE sc nm b z
    | _ => false
def chkHd (sc : Scope) (nm : Option Str) : List (Str × HE) → List ExceptHandler → Bool
  | [], [] => true
  | q :: r, .ExceptHandler (some x) n [.Return (some e) _] _ :: hs => nmB sc q.1 x && n == nm && chkHE sc nm q.2 e && chkHd sc nm r hs
  | _, _ => false
def nmOk (N : List Str) (sc : Scope) (nm : Option Str) (hds : List (Str × HE)) : Bool := match nm with
  | none => true
  | some n => N.contains n && (match sc.names.lookup n with
    | some .local => true
    | _ => false) && hds.length == 1
section
variable (N : List Str) (fns : List Str) (sc : Scope)
mutual
def chkS : S → Stmt → Bool
  | .skip, s => match s with
    | .Pass _ => true
    | _ => false
  | .set i e o, s => match s with
    | .Assign [t] v _ => chkName N sc i t && chkE N fns sc e v && (!o || freshE e)
    | _ => false
  | .asg is e, s => match s with
    | .Assign [.Tuple es _ _] v _ => chkNames N sc is es && chkE N fns sc e v && notTup v
    | _ => false
  | .par i j a b, s => match s with
    | .Assign [.Tuple [.Name x px, .Name y py] _ _] (.Tuple [v, w] _ _) _ => N[i]? == some x && N[j]? == some y && parOk sc x y px py v w && chkE N fns sc a v && chkE N fns sc b w
    | _ => false
  | .aug i o e, s => match s with
    | .AugAssign t op v _ => chkName N sc i t && opEq op o && chkE N fns sc e v
    | _ => false
  | .put i k e, s => match s with
    | .Assign [.Subscript o x _] v _ => chkE N fns sc (.var i) o && chkE N fns sc k x && notSlice x && chkE N fns sc e v
    | _ => false
  | .augput i k o e, s => match s with
    | .AugAssign (.Subscript t x _) op v _ => chkE N fns sc (.var i) t && chkE N fns sc k x && notSlice x && opEq op o && chkE N fns sc e v
    | _ => false
  | .append i e, s => match s with
    | .Expr (.Call (.Attribute o m ap) [v] [] cp) _ => m == "append" && ap.endLine == cp.line && chkE N fns sc (.var i) o && chkE N fns sc e v && notStar v
    | _ => false
  | .extend i e, s => match s with
    | .Expr (.Call (.Attribute o m ap) [v] [] cp) _ => m == "extend" && ap.endLine == cp.line && chkE N fns sc (.var i) o && chkE N fns sc e v && notStar v
    | _ => false
  | .ret e, s => match s with
    | .Return (some v) _ => chkE N fns sc e v
    | _ => false
  | .retN, s => match s with
    | .Return none _ => true
    | _ => false
  | .ite c a b, s => match s with
    | .If t x y _ => chkE N fns sc c t && chkB a x && chkB b y
    | _ => false
  | .for tg it body, s => match s with
    | .For t i b [] _ => chkTg N sc tg t && chkI N fns sc it i && notSet i && chkB body b && zipT it tg
    | _ => false
  | .while _ c body, s => match s with
    | .While t b [] _ => chkE N fns sc c t && chkB body b
    | _ => false
  | .pput i k e, s => match s with
    | .Assign [.Subscript o (.Constant (.int j) _ _) _] v _ => chkE N fns sc (.var i) o && j == (k : Int) && chkE N fns sc e v
    | _ => false
  | .forD tg i body, s => match s with
    | .For t it b [] _ => chkTg N sc tg t && chkE N fns sc (.var i) it && chkB body b
    | _ => false
  | .ddel i k, s => match s with
    | .Delete [.Subscript o x _] _ => chkE N fns sc (.var i) o && chkE N fns sc k x
    | _ => false
  | .dupd _ _, _ => false
  | .raise c es, s => match s with
    | .Raise (some (.Call g (x :: xs) [] _)) none _ => nmB sc c g && chkEs N fns sc es (x :: xs)
    | _ => false
  | .try b nm hds, s => match s with
    | .Try body hs [] [] _ => chkB b body && nmOk N sc nm hds && chkHd sc nm hds hs && !hds.isEmpty
    | _ => false
  | .ex (.call f es), s => match s with
    | .Expr (.Call g xs [] pos) _ => chkE N fns sc (.call f es) (.Call g xs [] pos)
    | _ => false
  | .ex _, _ => false
  | .brk, s => match s with
    | .Break _ => true
    | _ => false
  | .cont, s => match s with
    | .Continue _ => true
    | _ => false
  | .seq _ _, _ => false
def chkB : S → List Stmt → Bool
  | .seq a b, ss => match ss with
    | s :: rest => chkS a s && chkB b rest
    | [] => false
  | .skip, ss => match ss with
    | [] => true
    | _ => false
  | _, _ => false
end
end

/-! ### what a statement does -/
section
variable (pa ca : Addr) (exv : ExV) (W : WX) (K : PySem.W.Frag)
def KeepR (B M : Ms) (H H' : Hp) : Prop := (∀ b u, ¬ M b → H b = some u → H' b = some u) ∧ ∀ b u, B b → b ≠ pa → H b = some u → H' b = some u
def OutS (B M : Ms) (H : Hp) (D1 : Ends) (out : Out Fl) : Prop := Holds out (fun f p' => match f with
  | .nx env' => ∀ M' σ' H', Keep pa B M H M' H' → SOk K pa ca B M' σ' H' env' p' → D1.nx σ' H'
  | .bk env' => ∀ M' σ' H', Keep pa B M H M' H' → SOk K pa ca B M' σ' H' env' p' → D1.bk σ' H'
  | .ct env' => ∀ M' σ' H', Keep pa B M H M' H' → SOk K pa ca B M' σ' H' env' p' → D1.ct σ' H'
  | .rt d => ∀ v H', KeepR pa B M H H' → PoolOk pa ca H' p' → Rep K pa B H' d v → D1.rt v H')
  (fun c xs p' => ∀ cls dx σ' H', KeepR pa B M H H' → PoolOk pa ca H' p' → exv c xs H' cls dx → W cls dx σ' H')
def tS (cf : Str → List D → PSt → Out D) (gt : Str → Option D) (s : S) : TS := fun D1 σ H => ∃ (B M : Ms) (env : SEnv) (p : PSt), SOk K pa ca B M σ H env p ∧ OutS pa ca exv W K B M H D1 (execS cf gt s env p)
end
section
variable {cf : Str → List D → PSt → Out D} {gt : Str → Option D} {exv : ExV} {pa ca : Addr} {W : WX} {n : Nat} {X : Cx} {fns : List Str}
variable {K : PySem.W.Frag} {B M M1 : Ms} {H H1 H' : Hp} {D1 : Ends} {σ : L2.St} {env : SEnv} {p p' : PSt}
theorem KeepR.of (k : Keep pa B M H M1 H1) (r : KeepR pa B M1 H1 H') : KeepR pa B M H H' :=
  ⟨fun b u hb e => let ⟨h1, e1⟩ := k.1 b u hb e; r.1 b u h1 e1, fun b u hb hn e => r.2 b u hb hn (k.2 b u hb hn e)⟩
theorem KeepR.ext (x : Ext pa H H') (mp : M pa) : KeepR pa B M H H' := ⟨fun b u hb e => x b u (fun z => hb (z ▸ mp)) e, fun b u _ hn e => x b u hn e⟩
theorem OutS.at {out : Out Fl} (k : Keep pa B M H M1 H1) (h : OutS pa ca exv W K B M H D1 out) : OutS pa ca exv W K B M1 H1 D1 out := by
  refine h.imp (fun f p' q => ?_) fun c xs p' q cls dx σ' H' r => q cls dx σ' H' (KeepR.of k r)
  cases f with
  | nx env' => exact fun M' σ' H' k' => q M' σ' H' (k.trans k')
  | bk env' => exact fun M' σ' H' k' => q M' σ' H' (k.trans k')
  | ct env' => exact fun M' σ' H' k' => q M' σ' H' (k.trans k')
  | rt d => exact fun v H' r => q v H' (KeepR.of k r)
theorem exS_of {c xs p'} (mp : M pa) (h : ∀ cls dx σ' H', KeepR pa B M H H' → PoolOk pa ca H' p' → exv c xs H' cls dx → W cls dx σ' H') : exQ exv pa ca W σ H c xs p' := fun cls dx H' x q e => h cls dx σ H' (KeepR.ext x mp) q e
theorem _root_.L2.PS.imp {st : Stmt} {t t0 : TS} (h : PS X st t0) (k : ∀ D σ H, t D σ H → t0 D σ H) : PS X st t := ⟨fun pins s σ H D I hw => h.run pins s σ H D I (k D σ H hw)⟩
theorem _root_.L2.PSs.imp {st : List Stmt} {t t0 : TS} (h : PSs X st t0) (k : ∀ D σ H, t D σ H → t0 D σ H) : PSs X st t := ⟨fun pins s σ H D I hw => h.run pins s σ H D I (k D σ H hw)⟩
/-- fewer are hidden -/
theorem Keep.less {M' : Ms} (h : ∀ a, M' a → M a) : Keep pa B M H M' H := ⟨fun b u hb e => ⟨fun z => hb (h b z), e⟩, fun _ _ _ _ e => e⟩
theorem view_eq {e : SEnv} {is : List Nat} : view (fzs e is) = view e := view_fzs is e
/-- ahead of an expression by value its slots are frozen -/
theorem frozen {E1 : E} (S : SOk K pa ca B M σ H env p) : ∃ M', (∀ a, M' a → M a) ∧ SOk K pa ca B M' σ H (fzs env (escE E1)) p ∧ escOk (escE E1) (fzs env (escE E1)) := by
  obtain ⟨M', h1, h2⟩ := S.fzs (escE E1)
  exact ⟨M', h1, h2, fun i hi d => fzs_not_own _ hi⟩
/-- a slot gets a value, its own object if it is a new list or dict -/
theorem SOk.give {i : Nat} {o : Bool} {d : D} {v : V} {H2 : Hp} {p2 : PSt} (S : SOk K pa ca B M σ H env p) (x : Ext pa H H2) (q : PoolOk pa ca H2 p2) (r : Rep K pa M H2 d v) (nv : o = true → NewV K pa M H d v H2) :
    ∃ M', Keep pa B M H M' H2 ∧ SOk K pa ca B M' (σ.set i (some v)) H2 (env.set i (slOf o d)) p2 := by
  have S2 := S.ext x q
  have own : ∀ (a : Addr) (u : HO) (ds : List D) (vs : List V), v = .ref a → H a = none → H2 a = some u → OwnIs d u ds vs → Reps K pa (fun b => M b ∨ b = a) H2 ds vs → slOf o d = .own d →
      ∃ M', Keep pa B M H M' H2 ∧ SOk K pa ca B M' (σ.set i (some v)) H2 (env.set i (slOf o d)) p2 := fun a u ds vs ev h1 h2 ho h3 es => by
    subst ev
    rw [es]
    have nM : ¬ M a := fun z => S.al a z h1
    have k1 : ∀ b u, ¬ M b → H b = some u → ¬ (M b ∨ b = a) ∧ H2 b = some u := fun b u hb e => ⟨fun z => z.elim hb (fun z => by rw [z, h1] at e; cases e), x b u (fun z => hb (z ▸ S.mpa)) e⟩
    refine ⟨fun b => M b ∨ b = a, ⟨k1, fun b u _ hn e => x b u hn e⟩, q, S.bp, S.bc, fun b hb => .inl (S.sub b hb), fun b hb => ?_, fun b ws hb z => ?_, fun j s e => ?_, fun j l d' d'' b e1 e2 g1 g2 => ?_, by simp [S.len]⟩
    · rcases hb with hb | hb
      · exact S2.al b hb
      · rw [hb, h2]; simp
    · rcases hb with hb | hb
      · exact S2.nt b ws hb z
      · rw [hb, h2] at z
        cases z
        rcases ho with ⟨_, ho⟩ | ⟨_, _, _, ho⟩
        · cases ho
        · exact ho
    · by_cases hj : j = i
      · subst hj
        by_cases hl : j < env.length
        · rw [List.getElem?_set_self hl] at e
          cases e
          refine ⟨a, vs, ds, u, ho, by rw [List.getElem?_set_self (by rw [← S.len]; exact hl)], .inr rfl, fun z => nM (S.sub a z), h2, h3⟩
        · rw [List.getElem?_eq_none (by simpa using hl)] at e; cases e
      · rw [List.getElem?_set_ne (Ne.symm hj)] at e
        have e3 : (σ.set i (some (V.ref a)))[j]? = σ[j]? := List.getElem?_set_ne (Ne.symm hj)
        have g := S.sl j s e
        cases s with
        | no => trivial
        | val d' =>
          obtain ⟨w, g1, g2⟩ := g
          exact ⟨w, e3.trans g1, g2.mono k1⟩
        | own d' =>
          obtain ⟨b, ws, es, u', g0, g1, g2, g3, g4, g5⟩ := g
          exact ⟨b, ws, es, u', g0, e3.trans g1, .inl g2, g3, x _ _ (fun z => g3 (z ▸ S.bp)) g4, g5.mono k1⟩
    · have oldA : ∀ {j : Nat} {d' : D} {b : Addr}, j ≠ i → env[j]? = some (.own d') → σ[j]? = some (some (.ref b)) → b ≠ a := fun {j d' b} hj e g z => by
        obtain ⟨b', ws, es, u', g0, g1, g2, g3, g4, g5⟩ := S.sl j _ e
        rw [g] at g1
        cases g1
        rw [z, h1] at g4
        cases g4
      by_cases hj : j = i
      · by_cases hl : l = i
        · rw [hj, hl]
        · exfalso
          rw [List.getElem?_set_ne (Ne.symm hl)] at e2 g2
          refine oldA hl e2 g2 ?_
          subst hj
          by_cases hlt : j < σ.length
          · rw [List.getElem?_set_self hlt] at g1
            cases g1
            rfl
          · rw [List.getElem?_eq_none (by simpa using hlt)] at g1; cases g1
      · by_cases hl : l = i
        · exfalso
          rw [List.getElem?_set_ne (Ne.symm hj)] at e1 g1
          refine oldA hj e1 g1 ?_
          subst hl
          by_cases hlt : l < σ.length
          · rw [List.getElem?_set_self hlt] at g2
            cases g2
            rfl
          · rw [List.getElem?_eq_none (by simpa using hlt)] at g2; cases g2
        · rw [List.getElem?_set_ne (Ne.symm hj)] at e1 g1
          rw [List.getElem?_set_ne (Ne.symm hl)] at e2 g2
          exact S.sep j l d' d'' b e1 e2 g1 g2
  have plain : slOf o d = .val d → ∃ M', Keep pa B M H M' H2 ∧ SOk K pa ca B M' (σ.set i (some v)) H2 (env.set i (slOf o d)) p2 := fun e => by
    rw [e]
    exact ⟨M, Keep.of_ext x S.mpa, S2.set i r⟩
  cases o with
  | false => exact plain (by cases d <;> rfl)
  | true =>
    cases d with
    | lst ds =>
      obtain ⟨a, vs, e, h1, h2, h3⟩ := nv rfl
      exact own a _ ds vs e h1 h2 (.inl ⟨rfl, rfl⟩) h3 rfl
    | dict t ks ds =>
      obtain ⟨a, u, vs, e, h1, h2, ho, h3⟩ := nv rfl
      exact own a u ds vs e h1 h2 (.inr ⟨t, ks, rfl, ho⟩) h3 rfl
    | _ => exact plain rfl
/-- an expression by value, its slots frozen if its value may hold what they hold -/
theorem val_read {E1 : E} {Q : VK} {okc : D → PSt → Prop} (S : SOk K pa ca B M σ H env p) (h : Holds (evalE cf gt E1 (view env) p) okc (exQ exv pa ca W σ H))
    (k : ∀ d p1, okc d p1 → ∀ M', (∀ a, M' a → M a) → SOk K pa ca B M' σ H (fzs env (escA d E1)) p → ∀ v H1, Ext pa H H1 → PoolOk pa ca H1 p1 → Rep K pa M' H1 d v → (freshE E1 = true → NewV K pa M' H d v H1) → Q v H1) : tV cf gt exv pa ca W K E1 σ H Q := by
  obtain ⟨M', l, S', es⟩ := frozen (E1 := E1) S
  cases e : evalE cf gt E1 (view env) p with
  | bad => rw [e] at h; exact h.elim
  | exc c xs p1 =>
    rw [e] at h
    refine ⟨B, M', _, p, S', es, ?_⟩
    rw [view_fzs, e]
    exact h
  | ok d p1 =>
    rw [e] at h
    by_cases c : D.clean d = true
    · refine tC_of ⟨B, M, env, p, S, ?_⟩
      rw [e]
      intro v H1 x q r
      have S1 := S.ext x q
      refine k d p1 h M (fun _ z => z) (by unfold escA; rw [if_pos c]; exact S) v H1 x q (r.nt S1.nt c) fun _ => ?_
      cases d <;> first | trivial | (cases c; done)
    · refine ⟨B, M', _, p, S', es, ?_⟩
      rw [view_fzs, e]
      intro v H1 x q r nv
      exact k d p1 h M' l (by unfold escA; rw [if_neg c]; exact S') v H1 x q r nv
end
end PD

namespace PD
open PySem PySem.Spec PyProof.Rows L2
section
variable {cf : Str → List D → PSt → Out D} {gt : Str → Option D} {exv : ExV} {pa ca : Addr} {W : WX} {n : Nat} {X : Cx} {fns : List Str}
variable {e1 c1 : E} {x y z v : Expr} {xs : List Expr} {pos ps : Pos} {i j : Nat} {u : Str}
structure SXOk (X : Cx) : Prop where
  fn : ∀ u, X.fn u = true
  kind : X.env.scope.kind = .function
  passes : PassesOwn (model X.prog X.w) X.A X.env X.xe
  stk : X.stack = X.env :: X.outer
  frm : X.env.frame = some X.env.locals
theorem swap_plain (hk : X.env.scope.kind = .function) (h : plainSet X.env.scope (.Name u ps) v = true) (l : Nat) : swapsWith v (some (.Name u ps)) l X.env = pure false := by
  have hb : X.env.blockKind = .function := by unfold Env.blockKind; rw [hk]; rfl
  have key : ∀ (scope : Scope) (pos : Pos), swapC X.env.scope u ps.line scope pos.line = false → (pure (X.env.blockKind == .function && X.env.kindOf u == some .local && ps.line == pos.line && !(scope.names.any fun (n, k) => n == u && (k == .local || k == .cell))) : Sem Bool) = pure false := fun scope pos h => by
    congr 1
    rw [hb]
    unfold swapC at h
    cases hq : X.env.scope.names.lookup u with
    | none =>
      have : X.env.kindOf u = none := hq
      rw [this]
      rfl
    | some k =>
      have e : X.env.kindOf u = some k := hq
      rw [e]
      rw [hq] at h
      cases k <;> first | rfl | skip
      simpa using h
  cases v <;> first | rfl | (cases h; done) | skip
  · rename_i el gs scope pos
    simp only [plainSet, Bool.not_eq_true'] at h
    exact key scope pos h
  · rename_i el gs el2 scope pos
    simp only [plainSet, Bool.not_eq_true'] at h
    exact key scope pos h
theorem set_read {o : Bool} {D1 : Ends} {σ : L2.St} {H : Hp} (hw : tS pa ca exv W X.K cf gt (.set i e1 o) D1 σ H) (ho : o = true → freshE e1 = true) : tV cf gt exv pa ca W X.K e1 σ H (fun x H1 => D1.nx (σ.set i (some x)) H1) := by
  obtain ⟨B, M, env, p, S, h⟩ := hw
  unfold OutS execS at h
  rw [Holds.bind] at h
  refine val_read S (h.imp (fun _ _ z => z) fun c xs p1 k => exS_of S.mpa k) fun d p1 k M' l S' v H1 x1 q1 r1 nv => ?_
  obtain ⟨M2, k2, S2⟩ := S'.give (i := i) (o := o) x1 q1 r1 fun z => nv (ho z)
  exact k M2 _ H1 ((Keep.less l).trans k2) S2
theorem ss_set {o : Bool} (sx : SXOk X) (nd : X.N.Nodup) (ht : chkName X.N X.env.scope i x = true) (ho : o = true → freshE e1 = true) (hp : plainSet X.env.scope x v = true) (h : PE X v (tV cf gt exv pa ca W X.K e1)) : PS X (.Assign [x] v pos) (tS pa ca exv W X.K cf gt (.set i e1 o)) := by
  obtain ⟨u, p0, rfl, h1, h2⟩ := loc_of ht
  exact (ps_set nd h1 h2 h (swap_plain sx.kind hp _) (.inl (sx.fn u))).imp fun D1 σ H hw => set_read hw ho
theorem ss_setLc {o : Bool} {el t it : Expr} {ifs : List Expr} {scope : Scope} {elt itE c : E} {tg : Tg} (sx : SXOk X) (hc : X.calm = true) (nd : X.N.Nodup) (hx : chkName X.N X.env.scope i x = true) (hp : plainSet X.env.scope x (.ListComp el [⟨t, it, ifs, 0⟩] scope pos) = false) (hi : PI X t it (tI cf gt exv pa ca W X.K itE)) (ok : BlkOk X.N X.env.scope scope (ownOf X.N tg)) (ho : tg.own.all (fun i => (X.N[i]?).isSome) = true)
    (hg : ∀ (s : Shared) (H : Hp) (C : Addr) (cl : List (Str × Addr)) (fp : List Addr), PG (X.blk s H scope (compEnvC scope cl C X.env) fp) t (tG pa ca X.K tg))
    (ht : ∀ (s : Shared) (H : Hp) (C : Addr) (cl : List (Str × Addr)) (fp : List Addr), PTs (X.blk s H scope (compEnvC scope cl C X.env) fp) ifs (tCnd cf gt exv pa ca (fun _ _ _ _ => False) X.K c))
    (he : ∀ (s : Shared) (H : Hp) (C : Addr) (cl : List (Str × Addr)) (fp : List Addr), PE (X.blk s H scope (compEnvC scope cl C X.env) fp) el (tV cf gt exv pa ca (fun _ _ _ _ => False) X.K elt))
    (hs : notSet it = true) {sp : Pos} : PS X (.Assign [x] (.ListComp el [⟨t, it, ifs, 0⟩] scope pos) sp) (tS pa ca exv W X.K cf gt (.set i (.comp elt tg itE c) o)) := by
  obtain ⟨u, p0, rfl, h1, h2⟩ := loc_of hx
  simp only [plainSet, swapC, Bool.not_eq_false', Bool.and_eq_true] at hp
  obtain ⟨⟨g1, g2⟩, g3⟩ := hp
  have hl : X.env.scope.names.lookup u = some .local := by
    split at g1
    · assumption
    · cases g1
  refine (ps_setLc hc nd h1 hl (sw_true sx.kind hl g2 ?_) hi ok hg ht he (notset_of hs)).imp fun D1 σ H hw => comp_red ho (set_read hw fun _ => rfl)
  simpa using g3
theorem ss_setLcD {o : Bool} {el t it : Expr} {ifs : List Expr} {scope : Scope} {elt c : E} {tg : Tg} (sx : SXOk X) (hc : X.calm = true) (nd : X.N.Nodup) (hx : chkName X.N X.env.scope i x = true) (hp : plainSet X.env.scope x (.ListComp el [⟨t, it, ifs, 0⟩] scope pos) = false) (hv : PE X it (tVar j)) (ok : BlkOk X.N X.env.scope scope (ownOf X.N tg)) (ho : tg.own.all (fun i => (X.N[i]?).isSome) = true)
    (hg : ∀ (s : Shared) (H : Hp) (C : Addr) (cl : List (Str × Addr)) (fp : List Addr), PG (X.blk s H scope (compEnvC scope cl C X.env) fp) t (tG pa ca X.K tg))
    (ht : ∀ (s : Shared) (H : Hp) (C : Addr) (cl : List (Str × Addr)) (fp : List Addr), PTs (X.blk s H scope (compEnvC scope cl C X.env) fp) ifs (tCnd cf gt exv pa ca (fun _ _ _ _ => False) X.K c))
    (he : ∀ (s : Shared) (H : Hp) (C : Addr) (cl : List (Str × Addr)) (fp : List Addr), PE (X.blk s H scope (compEnvC scope cl C X.env) fp) el (tV cf gt exv pa ca (fun _ _ _ _ => False) X.K elt))
    (hs : notSet it = true) {sp : Pos} : PS X (.Assign [x] (.ListComp el [⟨t, it, ifs, 0⟩] scope pos) sp) (tS pa ca exv W X.K cf gt (.set i (.compD elt tg j c) o)) := by
  obtain ⟨u, p0, rfl, h1, h2⟩ := loc_of hx
  simp only [plainSet, swapC, Bool.not_eq_false', Bool.and_eq_true] at hp
  obtain ⟨⟨g1, g2⟩, g3⟩ := hp
  have hl : X.env.scope.names.lookup u = some .local := by
    split at g1
    · assumption
    · cases g1
  have L0 := ps_setLc (spos := sp) hc nd h1 hl (sw_true sx.kind hl g2 (by simpa using g3)) (pi_keys hv) ok hg ht he (notset_of hs)
  refine ⟨fun pins s σ H D1 I hw => ?_⟩
  rcases compD_heart ho (set_read hw fun _ => rfl) with h | h
  · exact (ps_lock L0).run pins s σ H D1 I h
  · exact L0.run pins s σ H D1 I h
theorem sw_trueD {kx vx : Expr} {gs : List Comprehension} {scope : Scope} {pos py : Pos} {y : Str} {l : Nat} {env : PySem.Env} (hk : env.scope.kind = .function) (hy : env.scope.names.lookup y = some .local) (hl : (py.line == pos.line) = true)
    (ha : (scope.names.any fun (n, k) => n == y && (k == .local || k == .cell)) = false) : swapsWith (.DictComp kx vx gs scope pos) (some (.Name y py)) l env = pure true := by
  have ky : env.kindOf y = some .local := hy
  have hb : env.blockKind = .function := by unfold Env.blockKind; rw [hk]; rfl
  unfold swapsWith
  simp only [hb, ky, ha, Expr.pos, hl]
  rfl
/-- name = {k: v for ..} on one line, the name a local -/
theorem ps_setDc {i : Nat} {y : Str} {py : Pos} {kx vx tg iter : Expr} {ifs : List Expr} {scope : Scope} {own : List (Str × Nat)} {pos spos : Pos} {wi : TI} {g : TG} {tt : TT} {tk tv : TE} (hc : X.calm = true) (hN : X.N.Nodup) (hy : X.N[i]? = some y) (hyl : X.env.scope.names.lookup y = some .local)
    (hsw : swapsWith (.DictComp kx vx [⟨tg, iter, ifs, 0⟩] scope pos) (some (.Name y py)) spos.line X.env = pure true) (hi : PI X tg iter wi) (ok : BlkOk X.N X.env.scope scope own)
    (hg : ∀ (s : Shared) (H : Hp) (C : Addr) (cl : List (Str × Addr)) (fp : List Addr), PG (X.blk s H scope (compEnvC scope cl C X.env) fp) tg g) (ht : ∀ (s : Shared) (H : Hp) (C : Addr) (cl : List (Str × Addr)) (fp : List Addr), PTs (X.blk s H scope (compEnvC scope cl C X.env) fp) ifs tt)
    (hk : ∀ (s : Shared) (H : Hp) (C : Addr) (cl : List (Str × Addr)) (fp : List Addr), PE (X.blk s H scope (compEnvC scope cl C X.env) fp) kx tk)
    (he : ∀ (s : Shared) (H : Hp) (C : Addr) (cl : List (Str × Addr)) (fp : List Addr), PE (X.blk s H scope (compEnvC scope cl C X.env) fp) vx tv) (hs : ∀ x, foldedSetIterable iter X.env x = pure x) :
    PS X (.Assign [.Name y py] (.DictComp kx vx [⟨tg, iter, ifs, 0⟩] scope pos) spos) (tAsg (tDc wi g tt tk tv (own.map (·.2))) (gName i)) := by
  refine ⟨fun pins s σ H D I h => ?_⟩
  rw [exec_Assign_Name_used _ _ _ _ hsw]
  refine wpAny_bind (wpAny_standAt (wpAny_bind ?_))
  show wpAny _ X.A (do let _ ← comprehension (.DictComp kx vx [⟨tg, iter, ifs, 0⟩] scope pos) scope X.env (firstIterPos [⟨tg, iter, ifs, 0⟩] pos) newDict false (eval iter X.env) (some (assign (.Name y py) X.env))) _ _ s
  have h : tDc wi g tt tk tv (own.map (·.2)) σ H (fun x H1 => gName i x σ H1 D.nx) := h
  refine wpAny_bind (thn (dc_core (Qf := fun _ s' => SP X pins D .next s') hc hN I hi ok hg ht hk he hs h fun L C s' m H' I' q hn f => ?_) fun _ s' hq => wpAny_pure (wpAny_pure hq))
  show wpAny _ _ (assign (.Name y py) X.env (.ref L)) _ _ _
  obtain ⟨f0, f1, f2, f3, f4, f5⟩ := f
  refine wpAny_assign_Name (store_ok2 (v := V.ref L) I' hN hy (.inl hyl) rfl (fun s2 I2 ⟨a, sb, ha⟩ => ?_) (.inr hyl))
  have haC : C ≠ a := ha.elim (fun z => z ▸ f1) fun z e => f4 y a z e.symm
  exact ⟨m, hn.sameBut sb haC, fun h3 sb3 => ⟨_, H', I2.turned (t' := s2.toks) (fun b o hb e => (sb3.2 b hb).trans e) f0 f1 f3 f4 f5, q⟩⟩
theorem ss_setDc {o : Bool} {kx vx t it : Expr} {ifs : List Expr} {scope : Scope} {k1 v1 itE c : E} {tg : Tg} (sx : SXOk X) (hc : X.calm = true) (nd : X.N.Nodup) (hx : chkName X.N X.env.scope i x = true) (hp : plainSet X.env.scope x (.DictComp kx vx [⟨t, it, ifs, 0⟩] scope pos) = false) (hi : PI X t it (tI cf gt exv pa ca W X.K itE)) (ok : BlkOk X.N X.env.scope scope (ownOf X.N tg)) (ho : tg.own.all (fun i => (X.N[i]?).isSome) = true)
    (hg : ∀ (s : Shared) (H : Hp) (C : Addr) (cl : List (Str × Addr)) (fp : List Addr), PG (X.blk s H scope (compEnvC scope cl C X.env) fp) t (tG pa ca X.K tg))
    (ht : ∀ (s : Shared) (H : Hp) (C : Addr) (cl : List (Str × Addr)) (fp : List Addr), PTs (X.blk s H scope (compEnvC scope cl C X.env) fp) ifs (tCnd cf gt exv pa ca (fun _ _ _ _ => False) X.K c))
    (hk : ∀ (s : Shared) (H : Hp) (C : Addr) (cl : List (Str × Addr)) (fp : List Addr), PE (X.blk s H scope (compEnvC scope cl C X.env) fp) kx (tC cf gt exv pa ca (fun _ _ _ _ => False) X.K k1))
    (he : ∀ (s : Shared) (H : Hp) (C : Addr) (cl : List (Str × Addr)) (fp : List Addr), PE (X.blk s H scope (compEnvC scope cl C X.env) fp) vx (tV cf gt exv pa ca (fun _ _ _ _ => False) X.K v1))
    (hs : notSet it = true) {sp : Pos} : PS X (.Assign [x] (.DictComp kx vx [⟨t, it, ifs, 0⟩] scope pos) sp) (tS pa ca exv W X.K cf gt (.set i (.dcomp k1 v1 tg itE c) o)) := by
  obtain ⟨u, p0, rfl, h1, h2⟩ := loc_of hx
  simp only [plainSet, swapC, Bool.not_eq_false', Bool.and_eq_true] at hp
  obtain ⟨⟨g1, g2⟩, g3⟩ := hp
  have hl : X.env.scope.names.lookup u = some .local := by
    split at g1
    · assumption
    · cases g1
  exact (ps_setDc hc nd h1 hl (sw_trueD sx.kind hl g2 (by simpa using g3)) hi ok hg ht hk he (notset_of hs)).imp fun D1 σ H hw => dcomp_red ho (set_read hw fun _ => rfl)
theorem ss_asg {is : List Nat} {ts : List Expr} {k : Nat} (sx : SXOk X) (hc : X.calm = true) (nd : X.N.Nodup) (ht : chkNames X.N X.env.scope is ts = true) (hv : notTup v = true) (h : PE X v (tB cf gt exv pa ca W X.K e1)) : PS X (.Assign [.Tuple ts k ps] v pos) (tS pa ca exv W X.K cf gt (.asg is e1)) := by
  have ms : MayStore X X.env.scope := fun u hu => ⟨hu, .inl (sx.fn u)⟩
  have pg := g_tg (pa := pa) (ca := ca) (tg := .tup is) (e := .Tuple ts k ps) hc nd ms ht
  refine (ps_asg h pg (by cases v <;> rfl) (by cases v <;> first | rfl | (cases hv; done)) rfl).imp fun D1 σ H ⟨B, M, env, p, S, hw⟩ => ?_
  unfold OutS execS at hw
  rw [Holds.bind] at hw
  obtain ⟨M', l, S'⟩ := S.fzs (escB e1)
  refine ⟨B, M', _, p, S', fun i hi d => fzs_not_own _ hi, ?_⟩
  rw [view_fzs]
  refine hw.imp (fun d p1 k v H1 x1 q1 r1 => ?_) fun c xs p1 k => exS_of S.mpa k
  cases e5 : bindS (.tup is) d (fzs env (escB e1)) with
  | none => rw [e5] at k; exact k.elim
  | some env' =>
    rw [e5] at k
    have S1 := S'.ext x1 q1
    cases d <;> first | (cases e5; done) | skip
    exact ⟨B, M', _, p1, _, env', S1, r1, e5, fun σ' S2 _ => k M' σ' H1 ((Keep.less l).trans (Keep.of_ext x1 S'.mpa)) S2⟩
theorem ss_ret (h : PE X v (tC cf gt exv pa ca W X.K e1)) : PS X (.Return (some v) pos) (tS pa ca exv W X.K cf gt (.ret e1)) := (ps_ret h).imp fun D1 σ H ⟨B, M, env, p, S, hw⟩ => by
  unfold OutS execS at hw
  rw [Holds.bind] at hw
  refine ⟨B, M, env, p, S, hw.imp (fun d p1 k v H1 x1 q1 r1 => ?_) fun c xs p1 k => exS_of S.mpa k⟩
  exact k v H1 (KeepR.ext x1 S.mpa) q1 r1
theorem ss_ex {g : Expr} {cp : Pos} (h : PE X (.Call g xs [] cp) (tC cf gt exv pa ca W X.K e1)) : PS X (.Expr (.Call g xs [] cp) pos) (tS pa ca exv W X.K cf gt (.ex e1)) := (ps_expr h rfl).imp fun D1 σ H ⟨B, M, env, p, S, hw⟩ => by
  unfold OutS execS at hw
  rw [Holds.bind] at hw
  refine ⟨B, M, env, p, S, hw.imp (fun d p1 k v H1 x1 q1 r1 => ?_) fun c xs p1 k => exS_of S.mpa k⟩
  exact k M σ H1 (Keep.of_ext x1 S.mpa) (S.ext x1 q1)
theorem ss_retN : PS X (.Return none pos) (tS pa ca exv W X.K cf gt .retN) := ps_retN.imp fun D1 σ H ⟨B, M, env, p, S, hw⟩ => by
  unfold OutS execS at hw
  exact hw .non H (KeepR.ext .refl S.mpa) S.pool rep_non
theorem ss_brk : PS X (.Break pos) (tS pa ca exv W X.K cf gt .brk) := ps_break.imp fun D1 σ H ⟨B, M, env, p, S, hw⟩ => by
  unfold OutS execS at hw
  exact hw M σ H .refl S
theorem ss_cont : PS X (.Continue pos) (tS pa ca exv W X.K cf gt .cont) := ps_continue.imp fun D1 σ H ⟨B, M, env, p, S, hw⟩ => by
  unfold OutS execS at hw
  exact hw M σ H .refl S
theorem ss_pass : PS X (.Pass pos) (tS pa ca exv W X.K cf gt .skip) := ps_pass.imp fun D1 σ H ⟨B, M, env, p, S, hw⟩ => by
  unfold OutS execS at hw
  exact hw M σ H .refl S
theorem sb_nil : PSs X [] (tS pa ca exv W X.K cf gt .skip) := pss_nil.imp fun D1 σ H ⟨B, M, env, p, S, hw⟩ => by
  unfold OutS execS at hw
  exact hw M σ H .refl S
theorem sb_cons {st : Stmt} {rest : List Stmt} {a b : PD.S} (h1 : PS X st (tS pa ca exv W X.K cf gt a)) (h2 : PSs X rest (tS pa ca exv W X.K cf gt b)) : PSs X (st :: rest) (tS pa ca exv W X.K cf gt (.seq a b)) := (pss_cons h1 h2).imp fun D1 σ H ⟨B, M, env, p, S, hw⟩ => by
  refine ⟨B, M, env, p, S, ?_⟩
  unfold execS at hw
  cases e : execS cf gt a env p with
  | bad => rw [e] at hw; exact hw
  | exc c xs p' => rw [e] at hw; exact hw
  | ok f p' =>
    rw [e] at hw
    cases f with
    | nx env' => exact fun M' σ' H' k S' => ⟨B, M', env', p', S', hw.at k⟩
    | rt d => exact hw
    | bk env' => exact hw
    | ct env' => exact hw
theorem ss_if {a b : PD.S} {as bs : List Stmt} (hc : PT X x (tT cf gt exv pa ca W X.K c1)) (ha : PSs X as (tS pa ca exv W X.K cf gt a)) (hb : PSs X bs (tS pa ca exv W X.K cf gt b)) : PS X (.If x as bs pos) (tS pa ca exv W X.K cf gt (.ite c1 a b)) := (ps_if hc ha hb).imp fun D1 σ H ⟨B, M, env, p, S, hw⟩ => by
  unfold OutS execS at hw
  rw [Holds.bind] at hw
  refine ⟨B, M, env, p, S, hw.imp (fun t p1 k H1 x1 q1 => ?_) fun c xs p1 k => exS_of S.mpa k⟩
  have S1 := S.ext x1 q1
  have kp : Keep pa B M H M H1 := Keep.of_ext x1 S.mpa
  cases t with
  | true =>
    dsimp only
    rw [if_pos rfl]
    exact ⟨B, M, env, p1, S1, OutS.at kp k⟩
  | false =>
    dsimp only
    rw [if_neg Bool.false_ne_true]
    exact ⟨B, M, env, p1, S1, OutS.at kp k⟩

/-! ### stores into a list of one's own -/
theorem SOk.mut {K : PySem.W.Frag} {B M : Ms} {H : Hp} {σ : L2.St} {env : SEnv} {p : PSt} {i : Nat} {a : Addr} {vs' : List V} {d0' d1' : D} {ds' : List D} {u' : HO} (S : SOk K pa ca B M σ H env p) (e : env[i]? = some (.own d0')) (es : σ[i]? = some (some (.ref a))) (ho' : OwnIs d1' u' ds' vs') (r : Reps K pa M H ds' vs') :
    SOk K pa ca B M σ (upd H a u') (env.set i (.own d1')) p ∧ Keep pa B M H M (upd H a u') := by
  obtain ⟨a', ws, ds2, u, g0, g1, g2, g3, g4, g5⟩ := S.sl i _ e
  rw [es] at g1
  cases g1
  have k1 : ∀ b u, ¬ M b → H b = some u → ¬ M b ∧ (upd H a u') b = some u := fun b u hb eb => ⟨hb, by rw [upd_ne (fun z => hb (by rw [z]; exact g2))]; exact eb⟩
  have nB : ∀ b, B b → b ≠ a := fun b hb z => g3 (z ▸ hb)
  have hl : i < env.length := (List.getElem?_eq_some_iff.mp e).1
  refine ⟨⟨⟨S.pool.ne, S.pool.le, by rw [upd_ne (nB _ S.bp)]; exact S.pool.hp, by rw [upd_ne (nB _ S.bc)]; exact S.pool.hc⟩, S.bp, S.bc, S.sub, fun b hb => ?_, fun b ws hb z => ?_, fun j s ej => ?_, fun j l d d' b e1 e2 h1 h2 => ?_, by simp [S.len]⟩, k1, fun b u hb _ eb => by rw [upd_ne (nB b hb)]; exact eb⟩
  · by_cases hba : b = a
    · rw [hba, upd_same]; simp
    · rw [upd_ne hba]; exact S.al b hb
  · by_cases hba : b = a
    · rw [hba, upd_same] at z
      cases z
      rcases ho' with ⟨_, ho⟩ | ⟨_, _, _, ho⟩
      · cases ho
      · exact ho
    · rw [upd_ne hba] at z; exact S.nt b ws hb z
  · by_cases hj : j = i
    · subst hj
      rw [List.getElem?_set_self hl] at ej
      cases ej
      exact ⟨a, vs', ds', u', ho', es, g2, g3, upd_same, r.mono k1⟩
    · rw [List.getElem?_set_ne (Ne.symm hj)] at ej
      have g := S.sl j s ej
      cases s with
      | no => trivial
      | val d =>
        obtain ⟨w, q1, q2⟩ := g
        exact ⟨w, q1, q2.mono k1⟩
      | own d =>
        obtain ⟨b, us, fs, w, q0, q1, q2, q3, q4, q5⟩ := g
        exact ⟨b, us, fs, w, q0, q1, q2, q3, by rw [upd_ne (fun z => hj (S.sep j i _ _ b ej e q1 (by rw [z]; exact es)))]; exact q4, q5.mono k1⟩
  · have o : ∀ {j : Nat} {d : D}, (env.set i (.own d1'))[j]? = some (.own d) → ∃ d0, env[j]? = some (.own d0) := fun {j d} ej => by
      by_cases hj : j = i
      · subst hj; exact ⟨_, e⟩
      · rw [List.getElem?_set_ne (Ne.symm hj)] at ej; exact ⟨_, ej⟩
    obtain ⟨d0, f1⟩ := o e1
    obtain ⟨d1, f2⟩ := o e2
    exact S.sep j l d0 d1 b f1 f2 h1 h2
theorem own_at {K : PySem.W.Frag} {B M : Ms} {H : Hp} {σ : L2.St} {env : SEnv} {p : PSt} {i : Nat} {ds : List D} (S : SOk K pa ca B M σ H env p) (e : env[i]? = some (.own (.lst ds))) : ∃ a vs, σ[i]? = some (some (.ref a)) ∧ H a = some (.lst vs) ∧ Reps K pa M H ds vs ∧ a ≠ pa := by
  obtain ⟨a, vs, ds', u, g0, g1, g2, g3, g4, g5⟩ := S.sl i _ e
  rcases g0 with ⟨z, rfl⟩ | ⟨_, _, z, _⟩
  · cases z
    exact ⟨a, vs, g1, g4, g5, fun z => g3 (z ▸ S.bp)⟩
  · cases z
theorem own_dict {K : PySem.W.Frag} {B M : Ms} {H : Hp} {σ : L2.St} {env : SEnv} {p : PSt} {i : Nat} {t : Bool} {ks ds : List D} (S : SOk K pa ca B M σ H env p) (e : env[i]? = some (.own (.dict t ks ds))) : ∃ a u vs, σ[i]? = some (some (.ref a)) ∧ H a = some u ∧ DictO t ks vs u ∧ Reps K pa M H ds vs ∧ a ≠ pa := by
  obtain ⟨a, vs, ds', u, g0, g1, g2, g3, g4, g5⟩ := S.sl i _ e
  rcases g0 with ⟨z, _⟩ | ⟨_, _, z, ho⟩
  · cases z
  · cases z
    exact ⟨a, u, vs, g1, g4, ho, g5, fun z => g3 (z ▸ S.bp)⟩
theorem PSet.or {t t' : TSet} (h : PSet X t) (h' : PSet X t') : PSet X (fun o i v H Q => t o i v H Q ∨ t' o i v H Q) := by
  intro pins s σ H o i v ov iv u Q I ro ri rv q
  rcases q with q | q
  · exact h pins s σ H o i v ov iv u Q I ro ri rv q
  · exact h' pins s σ H o i v ov iv u Q I ro ri rv q
theorem set_dict (hu : X.A.units + 1 < cLine) : PSet X (fun o y v H Q => ∃ a H', o = .ref a ∧ DPut H a y v H' ∧ Q H') := by
  intro pins s σ H o i v ov iv u Q I ro ri rv h
  obtain ⟨a, H', rfl, g, q⟩ := h
  obtain rfl : ov = Value.ref a := ro
  exact d_setItem hu I g ri rv fun s' I' => ⟨H', I', q⟩
theorem ss_append {ap cp : Pos} {o : Expr} (ho : PE X o (tVar i)) (hl : (ap.endLine == cp.line) = true) (hs : notStar v = true) (hb : attributeBase o "append" X.env (eval o X.env) = eval o X.env) (h : PE X v (tV cf gt exv pa ca W X.K e1)) :
    PS X (.Expr (.Call (.Attribute o "append" ap) [v] [] cp) pos) (tS pa ca exv W X.K cf gt (.append i e1)) := by
  refine (ps_expr (pe_bm PySem.F.plainAttrs_list PySem.F.slot_list_append PySem.F.type_list_append mt_append ho (pa_cons h pa_nil (star_of hs)) hb (by rw [star_of hs]; rfl) hl (star_of hs) rfl) rfl).imp fun D1 σ H ⟨B, M, env, p, S, hw⟩ => ?_
  unfold OutS execS at hw
  split at hw <;> first | exact hw.elim | skip
  rename_i ds0 e0
  rw [Holds.bind] at hw
  obtain ⟨a0, vs0, g0, g02, _, _⟩ := own_at S e0
  refine ⟨.ref a0, g0, .inl ⟨rfl, vs0, .inl (.inl g02)⟩, val_read S (hw.imp (fun _ _ z => z) fun c xs p1 k => exS_of S.mpa k) fun d p1 k M' l S' w H1 x1 q1 r1 _ => ?_⟩
  split at k <;> first | exact k.elim | skip
  rename_i ds e5
  obtain ⟨a, vs, g1, g2, g3, g4⟩ := own_at S' e5
  rw [g0] at g1
  cases g1
  split at k
  · rename_i hz
    have S1 := S'.ext x1 q1
    have e6 := x1 _ _ g4 g2
    have r6 := x1.reps S'.mpa g3
    refine ⟨a0, vs, w, rfl, rfl, e6, by rw [g3.length]; exact hz, ?_⟩
    obtain ⟨S2, k2⟩ := S1.mut e5 g0 (.inl ⟨rfl, rfl⟩) (r6.append (.one r1))
    exact k M' σ _ ((Keep.less l).trans ((Keep.of_ext x1 S'.mpa).trans k2)) S2
  · exact k.elim
theorem ss_extend {ap cp : Pos} {o : Expr} (ho : PE X o (tVar i)) (hl : (ap.endLine == cp.line) = true) (hs : notStar v = true) (hb : attributeBase o "extend" X.env (eval o X.env) = eval o X.env) (h : PE X v (tV cf gt exv pa ca W X.K e1)) :
    PS X (.Expr (.Call (.Attribute o "extend" ap) [v] [] cp) pos) (tS pa ca exv W X.K cf gt (.extend i e1)) := by
  refine (ps_expr (pe_bm PySem.F.plainAttrs_list PySem.F.slot_list_extend PySem.F.type_list_extend mt_extend ho (pa_cons h pa_nil (star_of hs)) hb (by rw [star_of hs]; rfl) hl (star_of hs) rfl) rfl).imp fun D1 σ H ⟨B, M, env, p, S, hw⟩ => ?_
  obtain ⟨M', l, S', es⟩ := frozen (E1 := e1) S
  unfold OutS execS at hw
  split at hw <;> first | exact hw.elim | skip
  rename_i ds e5
  rw [Holds.bind] at hw
  obtain ⟨a, vs, g1, g2, g3, g4⟩ := own_at S' e5
  refine ⟨.ref a, g1, .inl ⟨rfl, vs, .inl (.inl g2)⟩, B, M', _, p, S', es, ?_⟩
  rw [view_fzs]
  refine hw.imp (fun d p1 k w H1 x1 q1 r1 _ => ?_) fun c xs p1 k => exS_of S.mpa k
  have S1 := S'.ext x1 q1
  have e6 := x1 _ _ g4 g2
  have r6 := x1.reps S'.mpa g3
  cases d <;> first | exact k.elim | skip
  dsimp only at k
  split at k
  · rename_i hz
    obtain ⟨b, ws, rfl, f1, f2⟩ := r1.lst
    refine ⟨a, b, vs, ws, rfl, rfl, e6, f1.2, by rw [g3.length, f2.length]; exact hz, ?_⟩
    obtain ⟨S2, k2⟩ := S1.mut e5 g1 (.inl ⟨rfl, rfl⟩) (r6.append f2)
    exact k M' σ _ ((Keep.less l).trans ((Keep.of_ext x1 S'.mpa).trans k2)) S2
  · exact k.elim
theorem ss_put {k1 : E} {o kx : Expr} {tp : Pos} (ok : XOk cf gt fns exv pa ca W n X) (ho : PE X o (tVar i)) (hk : PE X kx (tC cf gt exv pa ca W X.K k1)) (hs : notSlice kx = true) (h : PE X v (tV cf gt exv pa ca W X.K e1)) : PS X (.Assign [.Subscript o kx tp] v pos) (tS pa ca exv W X.K cf gt (.put i k1 e1)) := by
  refine (ps_asg h (pg_sub ho hk (PSet.or set_list (set_dict (by have := units_of ok; omega))) (fun w => by cases kx <;> first | rfl | (cases hs; done))) (by cases v <;> rfl) (by cases v <;> rfl) rfl).imp fun D1 σ H ⟨B, M, env, p, S, hw⟩ => ?_
  unfold OutS execS at hw
  rw [Holds.bind] at hw
  refine val_read S (hw.imp (fun _ _ z => z) fun c xs p1 k => exS_of S.mpa k) fun d p1 k M' l S' w H1 x1 q1 r1 _ => ?_
  have S1 := S'.ext x1 q1
  split at k <;> first | exact k.elim | skip
  · rename_i ds e5
    obtain ⟨a, vs, g1, g2, g3, g4⟩ := own_at S1 e5
    rw [Holds.bind] at k
    refine ⟨.ref a, g1, B, M', _, p1, S1, ?_⟩
    rw [view_fzs]
    refine k.imp (fun d2 p2 k v2 H2 x2 q2 r2 => ?_) fun c xs p1 k => exQ.mono x1 _ _ _ (exS_of S.mpa k)
    cases d2 <;> first | exact k.elim | skip
    dsimp only at k
    split at k <;> first | exact k.elim | skip
    rename_i jj e7
    cases r2.int
    have S2 := S1.ext x2 q2
    have e6 := x2 _ _ g4 g2
    have r6 := x2.reps S'.mpa g3
    refine .inl ⟨a, vs, _, jj, rfl, rfl, e6, by rw [g3.length]; exact e7, ?_⟩
    obtain ⟨S3, k3⟩ := S2.mut e5 g1 (.inl ⟨rfl, rfl⟩) (r6.set jj (x2.rep S'.mpa r1))
    exact k M' σ _ ((Keep.less l).trans ((Keep.of_ext (x1.trans x2) S'.mpa).trans k3)) S3
  · rename_i t ks ds e5
    obtain ⟨a, u, vs, g1, g2, gd, g3, g4⟩ := own_dict S1 e5
    rw [Holds.bind] at k
    refine ⟨.ref a, g1, B, M', _, p1, S1, ?_⟩
    rw [view_fzs]
    refine k.imp (fun d2 p2 k v2 H2 x2 q2 r2 => ?_) fun c xs p1 k => exQ.mono x1 _ _ _ (exS_of S.mpa k)
    split at k <;> first | exact k.elim | skip
    rename_i hz
    rw [Bool.and_eq_true, decide_eq_true_eq] at hz
    have S2 := S1.ext x2 q2
    have e6 := x2 _ _ g4 g2
    have r6 := x2.reps S'.mpa g3
    obtain ⟨u', vs', f1, f2, f3⟩ := dict_put gd e6 r6 hz.1 hz.2 r2 (x2.rep S'.mpa r1)
    refine .inr ⟨a, _, rfl, f1, ?_⟩
    obtain ⟨S3, k3⟩ := S2.mut e5 g1 (.inr ⟨_, _, rfl, f2⟩) f3
    exact k M' σ _ ((Keep.less l).trans ((Keep.of_ext (x1.trans x2) S'.mpa).trans k3)) S3
theorem ss_pput {k : Nat} {o : Expr} {tp p1 : Pos} {jj : Nat} (ho : PE X o (tVar i)) (h : PE X v (tC cf gt exv pa ca W X.K e1)) : PS X (.Assign [.Subscript o (.Constant (.int (k : Int)) jj p1) tp] v pos) (tS pa ca exv W X.K cf gt (.pput i k e1)) := by
  refine (ps_asg h (pg_sub ho pe_int set_list (fun w => rfl)) (by cases v <;> rfl) (by cases v <;> rfl) rfl).imp fun D1 σ H ⟨B, M, env, p, S, hw⟩ => ?_
  unfold OutS execS at hw
  rw [Holds.bind] at hw
  refine ⟨B, M, env, p, S, hw.imp (fun d p1 k2 w H1 x1 q1 r1 => ?_) fun c xs p1 k => exS_of S.mpa k⟩
  have S1 := S.ext x1 q1
  split at k2 <;> first | exact k2.elim | skip
  rename_i hp
  cases d <;> first | exact k2.elim | skip
  rename_i m
  dsimp only at k2
  cases r1.int
  cases e3 : setP p1 k m with
  | none => rw [e3] at k2; exact k2.elim
  | some p2 =>
    rw [e3] at k2
    have nca := S1.pool.ne
    have st : ∃ j, ixN 5 (k : Int) = some j ∧ PoolOk pa ca (upd H1 pa (.lst (([V.ref ca, .int p1.idx, .int p1.cur, .int p1.cnt, .int p1.salt] : List V).set j (.int m)))) p2 := by
      unfold setP at e3
      split at e3
      · split at e3 <;> first | (cases e3; done) | skip
        cases e3
        rename_i hc
        refine ⟨1, rfl, nca, by show m.toNat ≤ p1.cells.length; omega, ?_, by rw [upd_ne (Ne.symm nca)]; exact S1.pool.hc⟩
        rw [upd_same]
        have : ((m.toNat : Nat) : Int) = m := by omega
        show _ = some (HO.lst [V.ref ca, .int ((m.toNat : Nat) : Int), .int p1.cur, .int p1.cnt, .int p1.salt])
        rw [this]
        rfl
      · cases e3
        exact ⟨2, rfl, nca, S1.pool.le, by rw [upd_same]; rfl, by rw [upd_ne (Ne.symm nca)]; exact S1.pool.hc⟩
      · cases e3
        exact ⟨3, rfl, nca, S1.pool.le, by rw [upd_same]; rfl, by rw [upd_ne (Ne.symm nca)]; exact S1.pool.hc⟩
      · cases e3
        exact ⟨4, rfl, nca, S1.pool.le, by rw [upd_same]; rfl, by rw [upd_ne (Ne.symm nca)]; exact S1.pool.hc⟩
      · cases e3
    obtain ⟨j, e4, q2⟩ := st
    have x2 : Ext pa H1 (upd H1 pa (.lst (([V.ref ca, .int p1.idx, .int p1.cur, .int p1.cnt, .int p1.salt] : List V).set j (.int m)))) := fun b u hb e => by rw [upd_ne hb]; exact e
    exact ⟨.ref pa, pool_of S1 hp, pa, _, k, j, rfl, rfl, S1.pool.hp, e4, k2 M σ _ (Keep.of_ext (x1.trans x2) S.mpa) (S1.ext x2 q2)⟩
end
end PD

namespace PD
open PySem PySem.Spec PyProof.Rows L2
theorem noI_tup_add : typeLookup (.type "tuple") (dunderI "add") = pure none := by rw [typeLookup_type, builtinLookup_eq_fast]; kernel_rfl
section
variable {prog : Program} {w : World} {A : Around} {E : Value → Shared → Prop} {s : Shared}
theorem icat_tup {t b : Addr} {vs ws : List Value} {Q : Value → Shared → Prop} (ht : IsTup s.heap t vs.toArray) (hb : IsTup s.heap b ws.toArray) (h0 : vs = [] → Q (.ref b) s)
    (h1 : vs ≠ [] → ws = [] → Q (.ref t) s) (h2 : vs ≠ [] → ws ≠ [] → Q (.ref s.heap.objs.size) { s with heap := s.heap.push { cls := .type "tuple", data := .seq (vs ++ ws).toArray } })
    (hsz : vs.length + ws.length ≤ sizeLine) : wpAny (model prog w) A (inplaceOp .Add (.ref t) (.ref b)) Q E s := by
  obtain ⟨⟨cls, dd, data, sl⟩, ho, hc, n, hd⟩ := id ht
  obtain ⟨⟨cls2, dd2, data2, sl2⟩, ho2, hc2, n2, hd2⟩ := id hb
  simp only at hc hd hc2 hd2
  subst hc hd hc2 hd2
  have e : vs.toArray ++ ws.toArray = (vs ++ ws).toArray := by simp
  refine wpAny_inplaceOp_concat ⟨_, ho, rfl⟩ ⟨_, ho2, rfl⟩ noI_tup_add noFill_tuple_add seq_tuple_add ?_
  by_cases hv : vs = []
  · subst hv
    exact call_meets PySem.F.slot_tuple_add ⟨_, ho, rfl⟩ PySem.F.entry_tuple_add (PySem.F.args_tuple_add_2 _ _) (tuple_addW0 t b ([] : List Value).toArray ws.toArray n n2 dd dd2 sl sl2 (by simp)) ⟨ho, ho2, h0 rfl⟩
  · by_cases hw : ws = []
    · exact call_meets PySem.F.slot_tuple_add ⟨_, ho, rfl⟩ PySem.F.entry_tuple_add (PySem.F.args_tuple_add_2 _ _)
        (tuple_addW1 t b vs.toArray ws.toArray n n2 dd dd2 sl sl2 (by simpa using hv) (by simp [hw])) ⟨ho, ho2, h1 hv hw⟩
    · refine call_meets PySem.F.slot_tuple_add ⟨_, ho, rfl⟩ PySem.F.entry_tuple_add (PySem.F.args_tuple_add_2 _ _)
        (tuple_addW2 t b vs.toArray ws.toArray n n2 dd dd2 sl sl2 (by simpa using hv) (by simpa using hw) (by rw [List.size_toArray, List.size_toArray]; exact hsz)) ⟨ho, ho2, ?_⟩
      rw [e]
      exact h2 hv hw
end
theorem iop_catA {X : Cx} : PIp X .Add (rCatA X.K) := by
  intro pins s σ H x y v u Q I rx ry h
  obtain ⟨a, b, xs, ys, rfl, rfl, ha, hb, hz, q0, q1, q2⟩ := h
  cases rx
  cases ry
  obtain ⟨its, r1, p1, _⟩ := I.tuple ha
  obtain ⟨its2, r2, p2, _⟩ := I.tuple hb
  refine icat_tup p1 p2 (fun z => ⟨.ref b, H, I, rfl, q0 (r1.nil_iff.mp z)⟩) (fun z z2 => ⟨.ref a, H, I, rfl, q1 (fun w => z (r1.nil_iff.mpr w)) (r2.nil_iff.mp z2)⟩) (fun z z2 => ?_) (by rw [← r1.length, ← r2.length]; exact hz)
  refine ⟨.ref s.heap.objs.size, _, I.laid (t' := s.toks) (o := .tup (xs ++ ys)) (fun b ob q => Heap.get?_push_of_some _ q) (Nat.le_refl _) ?_, rfl, q2 (fun w => z (r1.nil_iff.mpr w)) (fun w => z2 (r2.nil_iff.mpr w)) _ (I.hok.fresh (Nat.le_refl _))⟩
  exact ⟨by rw [List.length_append]; exact hz, _, r1.append r2, IsTup.new _ _⟩
section
variable {cf : Str → List D → PSt → Out D} {gt : Str → Option D} {exv : ExV} {pa ca : Addr} {W : WX} {n : Nat} {X : Cx} {fns : List Str}
variable {e1 c1 : E} {x y z v : Expr} {xs : List Expr} {pos ps : Pos} {i j : Nat} {u : Str}
theorem PIp.or {op : Operator} {r r' : TIp} (h : PIp X op r) (h' : PIp X op r') : PIp X op (fun x y H Q => r x y H Q ∨ r' x y H Q) := by
  intro pins s σ H x y v u Q I rx ry q
  rcases q with q | q
  · exact h pins s σ H x y v u Q I rx ry q
  · exact h' pins s σ H x y v u Q I rx ry q
def augI : Bop → Int → Int → Option Int
  | .add, a, b => some (a + b)
  | .sub, a, b => some (a - b)
  | .mul, a, b => if small64 a || small64 b then some (a * b) else none
  | _, _, _ => none
theorem ip_of (o : Bop) : ∃ t : TIp, PIp X (opB o) t ∧ (∀ a b k H Q, augI o a b = some k → Q (.int k) H → t (.int a) (.int b) H Q) ∧ (o = .add → ∀ x y H Q, rCatA X.K x y H Q → t x y H Q) := by
  have none : ∀ {op : Operator}, PIp X op fun _ _ _ _ => False := fun {op} => by
    intro pins s σ H x y v u Q I rx ry q
    exact q.elim
  cases o
  · exact ⟨_, PIp.or ip_add iop_catA, (fun a b k H Q e q => by cases e; exact .inl ⟨_, _, rfl, rfl, q⟩), (fun _ x y H Q h => .inr h)⟩
  · exact ⟨_, ip_sub, (fun a b k H Q e q => by cases e; exact ⟨_, _, rfl, rfl, q⟩), (fun e => by cases e)⟩
  · refine ⟨rI CMul fun i j => .int (i * j), iop_mul, (fun a b k H Q e q => ?_), (fun e => by cases e)⟩
    simp only [augI] at e
    split at e <;> first | (cases e; done) | skip
    cases e
    rename_i hc
    rw [Bool.or_eq_true] at hc
    refine ⟨_, _, rfl, rfl, ?_, q⟩
    rcases hc with hc | hc
    · exact .inl (of_decide_eq_true hc)
    · exact .inr (of_decide_eq_true hc)
  all_goals exact ⟨_, none, (fun a b k H Q e q => by cases e), (fun e => by cases e)⟩
theorem ss_aug {o : Bop} (sx : SXOk X) (nd : X.N.Nodup) (ht : chkName X.N X.env.scope i x = true) (h : PE X v (tC cf gt exv pa ca W X.K e1)) : PS X (.AugAssign x (opB o) v pos) (tS pa ca exv W X.K cf gt (.aug i o e1)) := by
  obtain ⟨u, p0, rfl, h1, h2⟩ := loc_of ht
  obtain ⟨t, ht, k, kt⟩ := ip_of (X := X) o
  refine (ps_aug nd h1 h2 h ht (.inl (sx.fn u))).imp fun D1 σ H ⟨B, M, env, p, S, hw⟩ => ?_
  unfold OutS execS at hw
  split at hw <;> first | exact hw.elim | skip
  rename_i d e5
  obtain ⟨w, g1, g2⟩ := S.sl i _ e5
  rw [Holds.bind] at hw
  refine ⟨w, g1, B, M, env, p, S, hw.imp (fun d2 p1 k2 w2 H1 x1 q1 r1 => ?_) fun c xs p1 k => exS_of S.mpa k⟩
  have S1 := S.ext x1 q1
  have fin : ∀ (a b c : Int), d = .int a → d2 = .int b → augI o a b = some c → (∀ M' σ' H', Keep pa B M H M' H' → SOk X.K pa ca B M' σ' H' (env.set i (.val (.int c))) p1 → D1.nx σ' H') → t w w2 H1 fun z H2 => D1.nx (σ.set i (some z)) H2 := fun a b c ea eb ec q => by
    subst ea eb
    cases g2.int
    cases r1.int
    exact k a b c H1 _ ec (q M _ H1 (Keep.of_ext x1 S.mpa) (S1.set i rep_int))
  split at k2 <;> first | exact k2.elim | skip
  · exact fin _ _ _ rfl rfl rfl k2
  · exact fin _ _ _ rfl rfl rfl k2
  · split at k2
    · rename_i hc
      exact fin _ _ _ rfl rfl (by simp only [augI]; rw [if_pos hc]) k2
    · exact k2.elim
  · split at k2
    · rename_i xs ys _ hc
      rw [Bool.and_eq_true, decide_eq_true_eq] at hc
      have gM := x1.rep S.mpa g2
      have rM : Rep X.K pa M H1 (.tup ys) w2 := Rep.nt (M2 := M) S1.nt (by unfold D.clean; exact hc.1) r1
      unfold Rep at gM rM
      obtain ⟨a, vs, rfl, a1, a2⟩ := gM
      obtain ⟨b, ws, rfl, b1, b2⟩ := rM
      refine kt rfl _ _ _ _ ⟨a, b, vs, ws, rfl, rfl, a1.sq, b1.sq, by rw [a2.length, b2.length]; exact hc.2, fun e => ?_, fun e1 e2 => ?_, fun e1 e2 q hq => ?_⟩
      · subst e
        have := List.length_eq_zero_iff.mp a2.length.symm
        subst this
        exact k2 M _ H1 (Keep.of_ext x1 S.mpa) (S1.set i (by unfold Rep; exact ⟨b, ws, rfl, b1, b2⟩))
      · subst e2
        have := List.length_eq_zero_iff.mp b2.length.symm
        subst this
        rw [List.append_nil] at k2
        exact k2 M _ H1 (Keep.of_ext x1 S.mpa) (S1.set i (by unfold Rep; exact ⟨a, vs, rfl, a1, a2⟩))
      · have x2 : Ext pa H1 (upd H1 q (.tup (vs ++ ws))) := .of_same (same_new hq)
        have S2 := S1.ext x2 (pool_ext q1 (same_new hq))
        exact k2 M _ _ (Keep.of_ext (x1.trans x2) S.mpa) (S2.set i (new_tup S1.al hq (a2.append b2)))
    · exact k2.elim
theorem get_list : PGet X (fun x y H Q => ∃ p us k w, x = .ref p ∧ y = .int k ∧ SqL X.K H p us ∧ 0 ≤ k ∧ us[k.toNat]? = some w ∧ Q w H) := by
  intro pins s σ H o i ov iv Q I r1 r2 h
  obtain ⟨p, us, k, w, rfl, rfl, hq, h0, he, q⟩ := h
  cases r1
  obtain ⟨t, rfl⟩ := r2
  obtain ⟨its, r, pl, hz⟩ := I.list hq
  obtain ⟨w', ew, rw'⟩ := r.get he
  have hlt := (List.getElem?_eq_some_iff.mp he).1
  have := line63
  exact wpAny_getItem_list pl.isList h0 (by omega) (by simpa using ew) ⟨w, H, I, rw', q⟩
theorem ss_augput {o : Bop} {k1 : E} {ox kx : Expr} {tp : Pos} (ho : PE X ox (tVar i)) (hk : PE X kx (tC cf gt exv pa ca W X.K k1)) (hs : notSlice kx = true) (h : PE X v (tC cf gt exv pa ca W X.K e1)) : PS X (.AugAssign (.Subscript ox kx tp) (opB o) v pos) (tS pa ca exv W X.K cf gt (.augput i k1 o e1)) := by
  obtain ⟨t, ht, k, _⟩ := ip_of (X := X) o
  refine (ps_augS ho hk get_list h ht set_list (fun _ _ _ => by cases kx <;> first | rfl | (cases hs; done))).imp fun D1 σ H ⟨B, M, env, p, S, hw⟩ => ?_
  unfold OutS execS at hw
  split at hw <;> first | exact hw.elim | skip
  rename_i ds e5
  rw [Holds.bind] at hw
  obtain ⟨a, vs, g1, g2, g3, g4⟩ := own_at S e5
  refine ⟨.ref a, g1, B, M, env, p, S, hw.imp (fun d2 p2 k2 v2 H2 x2 q2 r2 => ?_) fun c xs p1 k => exS_of S.mpa k⟩
  cases d2 <;> first | exact k2.elim | skip
  rename_i m
  dsimp only at k2
  split at k2 <;> first | exact k2.elim | skip
  rename_i jj e7
  split at e7 <;> first | (cases e7; done) | skip
  cases e7
  rename_i h0
  split at k2 <;> first | exact k2.elim | skip
  rename_i a0 e8
  rw [Holds.bind] at k2
  cases r2.int
  have S2 := S.ext x2 q2
  have r6 := x2.reps S.mpa g3
  obtain ⟨w, e9, r9⟩ := r6.get e8
  cases r9.int
  refine ⟨a, vs, m, _, rfl, rfl, .inl (.inl (x2 _ _ g4 g2)), h0, e9, B, M, env, p2, S2, k2.imp (fun d3 p3 k3 v3 H3 x3 q3 r3 => ?_) fun c xs p1 k => exQ.mono x2 _ _ _ (exS_of S.mpa k)⟩
  have S3 := S2.ext x3 q3
  have e10 := x3 _ _ g4 (x2 _ _ g4 g2)
  have r10 := x3.reps S.mpa r6
  have hlt : m.toNat < vs.length := (List.getElem?_eq_some_iff.mp e9).1
  have fin : ∀ (b c : Int), d3 = .int b → augI o a0 b = some c → (∀ M' σ' H', Keep pa B M H M' H' → SOk X.K pa ca B M' σ' H' (env.set i (.own (.lst (ds.set m.toNat (.int c))))) p3 → D1.nx σ' H') →
      t (.int a0) v3 H3 fun z H5 => rSetL (.ref a) (.int m) z H5 fun H6 => D1.nx σ H6 := fun b c eb ec q => by
    subst eb
    cases r3.int
    refine k a0 b c H3 _ ec ⟨a, vs, m, m.toNat, rfl, rfl, e10, ?_, ?_⟩
    · unfold ixN
      rw [if_pos h0, if_pos (by omega)]
    · obtain ⟨S4, k4⟩ := S3.mut e5 g1 (.inl ⟨rfl, rfl⟩) (r10.set m.toNat (rep_int (i := c)))
      exact q M σ _ ((Keep.of_ext (x2.trans x3) S.mpa).trans k4) S4
  split at k3 <;> first | exact k3.elim | skip
  · exact fin _ _ rfl rfl k3
  · exact fin _ _ rfl rfl k3

/-! ### loops -/
/-- the turns of a for -/
theorem for_core {tg : Tg} {body : PD.S} {D1 : Ends} {B M' : Ms} {H1 : Hp} {σ : L2.St} {env0 : SEnv} {p1 : PSt} {J : It} {ds : List D} (S1 : SOk X.K pa ca B M' σ H1 env0 p1) (io : ItOk pa X.K J B M' H1 ds)
    (h1 : OutS pa ca exv W X.K B M' H1 D1 (forL (forF tg fun env p => execS cf gt body env p) ds env0 p1)) :
    ∃ W' : Nat → Nat → L2.St → Hp → Prop, (∃ m, W' 0 m σ H1) ∧ ∀ i m σ H, W' i m σ H →
      (J.stop i H ∧ D1.nx σ H) ∨ (J.go i H ∧ ∃ N : L2.St → Hp → Prop, (∀ σ' H', N σ' H' → ∃ m', m' < m ∧ W' (i + 1) m' σ' H') ∧ ∀ x H', J.yld i H x H' → tG pa ca X.K tg x σ H' fun σ2 H2 => tS pa ca exv W X.K cf gt body { D1 with nx := N, ct := N, bk := D1.nx } σ2 H2) := by
  obtain ⟨G, Y, wk, hG, hY⟩ := io.ok
  refine for_it wk (fun i σ2 H2 => ∃ (M2 : Ms) (env2 : SEnv) (p2 : PSt), Keep pa B M' H1 M2 H2 ∧ SOk X.K pa ca B M2 σ2 H2 env2 p2 ∧ OutS pa ca exv W X.K B M2 H2 D1 (forL (forF tg fun env p => execS cf gt body env p) (ds.drop i) env2 p2))
    ⟨M', _, p1, .refl, S1, h1⟩ (fun i σ2 H2 _ ⟨M2, env2, p2, k2, _⟩ => hG M2 H2 k2) (fun i x σ2 H2 H3 hi ⟨M2, env2, p2, k2, S2, h2⟩ y => ?_) fun σ2 H2 ⟨M2, env2, p2, k2, S2, h2⟩ => ?_
  · obtain ⟨sm, dd, e3, r3⟩ := hY i H2 M2 x H3 k2 S2.al S2.nt hi y
    rw [List.drop_eq_getElem_cons hi] at h2
    have e4 : ds[i] = dd := by
      rw [List.getElem?_eq_getElem hi] at e3
      exact Option.some.inj e3
    rw [e4] at h2
    have k3 : Keep pa B M2 H2 M2 H3 := Keep.of_ext (.of_same sm) S2.mpa
    have S3 := S2.ext (.of_same sm) (pool_ext S2.pool sm)
    have h3 := OutS.at k3 h2
    unfold forL forF at h3
    cases e5 : bindS tg dd env2 with
    | none => simp only [e5] at h3; exact h3.elim
    | some env3 =>
      simp only [e5] at h3
      refine ⟨B, M2, env2, p2, dd, env3, S3, r3, e5, fun σ4 S4 _ => ⟨B, M2, env3, p2, S4, ?_⟩⟩
      have again : ∀ env4 p4, OutS pa ca exv W X.K B M2 H3 D1 (forL (forF tg fun env p => execS cf gt body env p) (ds.drop (i + 1)) env4 p4) → ∀ M5 σ5 H5, Keep pa B M2 H3 M5 H5 → SOk X.K pa ca B M5 σ5 H5 env4 p4 →
          ∃ (M2 : Ms) (env2 : SEnv) (p2 : PSt), Keep pa B M' H1 M2 H5 ∧ SOk X.K pa ca B M2 σ5 H5 env2 p2 ∧ OutS pa ca exv W X.K B M2 H5 D1 (forL (forF tg fun env p => execS cf gt body env p) (ds.drop (i + 1)) env2 p2) := fun env4 p4 h4 M5 σ5 H5 k5 S5 =>
        ⟨M5, env4, p4, k2.trans (k3.trans k5), S5, h4.at k5⟩
      cases e6 : execS cf gt body env3 p2 with
      | bad => rw [e6] at h3; exact h3
      | exc c xs p' => rw [e6] at h3; exact h3
      | ok f p4 =>
        rw [e6] at h3
        cases f with
        | nx env4 => exact again env4 p4 h3
        | ct env4 => exact again env4 p4 h3
        | bk env4 => exact h3
        | rt d => exact h3
  · rw [List.drop_length] at h2
    exact h2 M2 σ2 H2 .refl S2
theorem ss_for {t it : Expr} {tg : Tg} {itE : E} {body : PD.S} {bs : List Stmt} (sx : SXOk X) (hc : X.calm = true) (nd : X.N.Nodup) (ht : chkTg X.N X.env.scope tg t = true) (hi : PI X t it (tI cf gt exv pa ca W X.K itE)) (hs : notSet it = true) (hb : PSs X bs (tS pa ca exv W X.K cf gt body)) :
    PS X (.For t it bs [] pos) (tS pa ca exv W X.K cf gt (.for tg itE body)) := by
  have ms : MayStore X X.env.scope := fun u hu => ⟨hu, .inl (sx.fn u)⟩
  refine (ps_for sx.passes hc hi (g_tg (pa := pa) (ca := ca) hc nd ms ht) hb (notset_of hs)).imp fun D1 σ H ⟨B, M, env, p, S, hw⟩ => ?_
  obtain ⟨M', l, S', es⟩ := frozen (E1 := itE) S
  unfold OutS execS at hw
  rw [Holds.bind] at hw
  refine ⟨B, M', _, p, S', es, ?_⟩
  rw [view_fzs]
  refine hw.imp (fun d p1 h1 => ?_) fun c xs p1 k => exS_of S.mpa k
  cases e1 : itemsD d with
  | none => simp only [e1] at h1; exact h1.elim
  | some ds =>
    simp only [e1] at h1
    refine ⟨ds, rfl, fun J H1 x1 q1 io => ?_⟩
    have S1 := S'.ext x1 q1
    exact for_core S1 io (OutS.at ((Keep.less l).trans (Keep.of_ext x1 S'.mpa)) h1)
/-- the ends of a loop over a dict that is locked -/
theorem ss_forD {t it : Expr} {tg : Tg} {i : Nat} {body : PD.S} {bs : List Stmt} (sx : SXOk X) (hc : X.calm = true) (nd : X.N.Nodup) (ht : chkTg X.N X.env.scope tg t = true) (hv : PE X it (tVar i)) (hs : notSet it = true) (hb : PSs X bs (tS pa ca exv W X.K cf gt body)) :
    PS X (.For t it bs [] pos) (tS pa ca exv W X.K cf gt (.forD tg i body)) := by
  have ms : MayStore X X.env.scope := fun u hu => ⟨hu, .inl (sx.fn u)⟩
  have L0 := ps_for (pos := pos) sx.passes hc (pi_keys hv) (g_tg (pa := pa) (ca := ca) hc nd ms ht) hb (notset_of hs)
  refine ⟨fun pins s σ H D1 I hw => ?_⟩
  obtain ⟨B, M, env, p, S, hw⟩ := hw
  unfold OutS execS at hw
  split at hw <;> first | exact hw.elim | skip
  rename_i t' ks ds e1
  obtain ⟨M', l, l2, S'⟩ := S.fzAtS i
  have ej : (fzAt env i)[i]? = some (.val (.dict t' ks ds)) := by
    rw [fzAt_get, if_pos rfl]
    rcases view_some e1 with e | e <;> rw [e] <;> rfl
  obtain ⟨v, g1, g2⟩ := S'.sl i _ ej
  obtain ⟨a, u, vs, rfl, na, hr, hu, rv⟩ := g2.dict
  have dh := hu.ho
  -- what the loop makes of the heap H1 where the dict is locked
  have run : ∀ (D2 : Ends) (H1 : Hp) (o : Obj), H1 a = some (.frz o u) → SOk X.K pa ca B M' σ H1 (fzAt env i) p → OutS pa ca exv W X.K B M' H1 D2 (forL (forF tg fun env p => execS cf gt body env p) ks (fzAt env i) p) →
      tFor (iKeys (tVar i)) (tG pa ca X.K tg) (tS pa ca exv W X.K cf gt body) D2 σ H1 := fun D2 H1 o hl S1 h1 => by
    obtain ⟨J, hJ, io⟩ := it_keys (pa := pa) (K := X.K) (B := B) na hl hu
    exact hJ X _ _ σ (fun Q' q => ⟨_, g1, q⟩) (for_core S1 io h1)
  cases e3 : forL (forF tg fun env p => execS cf gt body env p) ks (fzAt env i) p with
  | bad => rw [e3] at hw; exact hw.elim
  | exc c xs pp => rw [e3] at hw; exact hw.elim
  | ok f p2 =>
    rw [e3] at hw
    change Holds (Out.ok f p2) _ _ at hw
    rcases hr with hr | ⟨o, hr⟩
    · refine (ps_lock L0).run pins s σ H D1 I ⟨a, u, hr, by cases u <;> first | exact dh.elim | exact trivial, fun od => ?_⟩
      have sw := swap_lock (o := od) hr dh
      refine run _ _ od upd_same (S'.swap sw na) ?_
      rw [e3]
      have kp : ∀ {M2 : Ms} {H2 : Hp}, Keep pa B M' (upd H a (.frz od u)) M2 H2 → ¬ M2 a ∧ H2 a = some (.frz od u) ∧ Keep pa B M H M2 (upd H2 a u) := fun {M2 H2} k => by
        obtain ⟨k1, k2⟩ := k.1 a _ na upd_same
        refine ⟨k1, k2, fun b w hb e => ?_, fun b w hb hn e => ?_⟩
        · by_cases z : b = a
          · subst z
            rw [hr] at e
            cases e
            exact ⟨k1, upd_same⟩
          · rw [upd_ne z]
            exact k.1 b w (fun q => hb (l b q)) (by rw [upd_ne z]; exact e)
        · by_cases z : b = a
          · subst z
            rw [hr] at e
            cases e
            exact upd_same
          · rw [upd_ne z]
            exact k.2 b w hb hn (by rw [upd_ne z]; exact e)
      have kr : ∀ {H2 : Hp}, KeepR pa B M' (upd H a (.frz od u)) H2 → H2 a = some (.frz od u) ∧ KeepR pa B M H (upd H2 a u) := fun {H2} k => by
        have k2 := k.1 a _ na upd_same
        refine ⟨k2, fun b w hb e => ?_, fun b w hb hn e => ?_⟩
        · by_cases z : b = a
          · subst z
            rw [hr] at e
            cases e
            exact upd_same
          · rw [upd_ne z]
            exact k.1 b w (fun q => hb (l b q)) (by rw [upd_ne z]; exact e)
        · by_cases z : b = a
          · subst z
            rw [hr] at e
            cases e
            exact upd_same
          · rw [upd_ne z]
            exact k.2 b w hb hn (by rw [upd_ne z]; exact e)
      cases f with
      | nx env' =>
        intro M2 σ2 H2 k S2
        obtain ⟨f1, f2, f3⟩ := kp k
        exact ⟨f2, hw M2 σ2 _ f3 (S2.swap (swap_unlock f2 dh) f1)⟩
      | bk env' =>
        intro M2 σ2 H2 k S2
        obtain ⟨f1, f2, f3⟩ := kp k
        exact ⟨f2, hw M2 σ2 _ f3 (S2.swap (swap_unlock f2 dh) f1)⟩
      | ct env' =>
        intro M2 σ2 H2 k S2
        obtain ⟨f1, f2, f3⟩ := kp k
        exact ⟨f2, hw M2 σ2 _ f3 (S2.swap (swap_unlock f2 dh) f1)⟩
      | rt d =>
        intro v H2 k q r
        obtain ⟨f2, f3⟩ := kr k
        exact ⟨f2, hw v _ f3 (q.swap (swap_unlock f2 dh)) (r.swap (swap_unlock f2 dh))⟩
    · refine L0.run pins s σ H D1 I (run D1 H o hr S' ?_)
      rw [e3]
      cases f with
      | nx env' => exact fun M2 σ2 H2 k S2 => hw M2 σ2 H2 ((Keep.less l).trans k) S2
      | bk env' => exact fun M2 σ2 H2 k S2 => hw M2 σ2 H2 ((Keep.less l).trans k) S2
      | ct env' => exact fun M2 σ2 H2 k S2 => hw M2 σ2 H2 ((Keep.less l).trans k) S2
      | rt d => exact fun v H2 k q r => hw v H2 (KeepR.of (Keep.less l) k) q r
/-- del d[k] -/
theorem ddel_drop (x : L2.Key) {K : PySem.W.Frag} {M : Ms} {H : Hp} : ∀ {kvs : List (L2.Key × V)} {ds : List D}, (kvs.map (·.1)).Nodup → Reps K pa M H ds (kvs.map (·.2)) →
    ddelK (kvs.map fun q => kD q.1) (kD x) = (dropK kvs x).map (fun q => kD q.1) ∧ Reps K pa M H (ddelV (kvs.map fun q => kD q.1) ds (kD x)) ((dropK kvs x).map (·.2)) ∧ ((dropK kvs x).map (·.1)).Nodup
  | [], ds, _, r => by
    refine ⟨rfl, ?_, List.nodup_nil⟩
    have : ddelV [] ds (kD x) = [] := by cases ds <;> rfl
    rw [List.map_nil, this]
    exact .nil
  | q :: kvs, ds, nd, r => by
    have hl := r.length
    cases ds with
    | nil => simp at hl
    | cons d1 ds =>
      unfold Reps at r
      obtain ⟨w, ws, e, h1, h2⟩ := r
      rw [List.map_cons] at e
      injection e with e1 e2
      subst e1 e2
      rw [List.map_cons, List.nodup_cons] at nd
      obtain ⟨i1, i2, i3⟩ := ddel_drop x nd.2 h2
      rw [List.map_cons]
      unfold ddelK dropK ddelV
      rw [List.filter_cons, List.filter_cons, keq_kD]
      by_cases z : q.1 = x
      · have e3 : dropK kvs x = kvs := by
          unfold dropK
          rw [List.filter_eq_self]
          intro k hk
          simp only [ne_eq, decide_eq_true_eq]
          intro e
          exact nd.1 (by rw [z, ← e]; exact List.mem_map_of_mem hk)
        rw [decide_eq_true z, if_pos rfl]
        simp only [Bool.not_true, Bool.false_eq_true, if_false, ne_eq, z, not_true_eq_false, decide_false]
        have i1' : List.filter (fun k => !keq k (kD x)) (kvs.map fun q => kD q.1) = (dropK kvs x).map fun q => kD q.1 := i1
        rw [i1']
        refine ⟨rfl, ?_, i3⟩
        have e4 : List.filter (fun kv : L2.Key × V => decide (¬ kv.1 = x)) kvs = kvs := e3
        rw [e4]
        exact h2
      · rw [decide_eq_false z, if_neg Bool.false_ne_true]
        simp only [Bool.not_false, if_true, ne_eq, z, not_false_eq_true, decide_true, List.map_cons]
        have i1' : List.filter (fun k => !keq k (kD x)) (kvs.map fun q => kD q.1) = (dropK kvs x).map fun q => kD q.1 := i1
        rw [i1']
        refine ⟨rfl, .cons h1 i2, ?_⟩
        rw [List.nodup_cons]
        refine ⟨fun hm => nd.1 ?_, i3⟩
        obtain ⟨k, hk, e⟩ := List.mem_map.mp hm
        rw [← e]
        exact List.mem_map_of_mem (List.mem_filter.mp hk).1
theorem ss_ddel {k1 : E} {o kx : Expr} {tp : Pos} (ho : PE X o (tVar i)) (hk : PE X kx (tC cf gt exv pa ca W X.K k1)) : PS X (.Delete [.Subscript o kx tp] pos) (tS pa ca exv W X.K cf gt (.ddel i k1)) := by
  refine (ps_ddel ho hk).imp fun D1 σ H ⟨B, M, env, p, S, hw⟩ => ?_
  unfold OutS execS at hw
  split at hw <;> first | exact hw.elim | skip
  rename_i ks ds e5
  rw [Holds.bind] at hw
  obtain ⟨a, u, vs, g1, g2, gd, g3, g4⟩ := own_dict S e5
  cases u <;> first | exact gd.elim | skip
  · rename_i kvs
    refine ⟨.ref a, g1, B, M, env, p, S, hw.imp (fun d p1 k v H1 x1 q1 r1 => ?_) fun c xs p1 k => exS_of S.mpa k⟩
    split at k <;> first | exact k.elim | skip
    rename_i hh
    obtain ⟨_, rfl, rfl, nd⟩ := gd
    have S1 := S.ext x1 q1
    have e6 := x1 _ _ g4 g2
    have r6 := x1.reps S.mpa g3
    have hk : ∃ x : L2.Key, d = kD x := by
      unfold dhas at hh
      rw [List.any_map, List.any_eq_true] at hh
      obtain ⟨q, hq, e⟩ := hh
      have e : keq (kD q.1) d = true := e
      cases d <;> first | exact ⟨.inl _, rfl⟩ | exact ⟨.inr _, rfl⟩ | (exfalso; cases hq1 : q.1 <;> rw [hq1] at e <;> cases e)
    obtain ⟨x, rfl⟩ := hk
    cases rep_kD r1
    rw [dhas_val (f := kD) keq_kD] at hh
    obtain ⟨d1, d2, d3⟩ := ddel_drop x nd r6
    refine ⟨a, kvs, x, rfl, e6, rfl, hh, ?_⟩
    have ho2 : DictO false (ddelK (kvs.map fun q => kD q.1) (kD x)) ((dropK kvs x).map (·.2)) (.dK (dropK kvs x)) := ⟨rfl, d1, rfl, d3⟩
    obtain ⟨S2, k2⟩ := S1.mut e5 g1 (.inr ⟨false, _, rfl, ho2⟩) d2
    exact k M σ _ ((Keep.of_ext x1 S.mpa).trans k2) S2
  · exact absurd gd.1 Bool.false_ne_true
theorem ss_while {t : Expr} {m : Nat} {body : PD.S} {bs : List Stmt} (sx : SXOk X) (ht : PT X t (tT cf gt exv pa ca W X.K c1)) (hb : PSs X bs (tS pa ca exv W X.K cf gt body)) :
    PS X (.While t bs [] pos) (tS pa ca exv W X.K cf gt (.while m c1 body)) := by
  refine (ps_while sx.passes ht hb).imp fun D1 σ H ⟨B, M, env, p, S, hw⟩ => ?_
  unfold execS at hw
  refine ⟨fun m σ2 H2 => ∃ (M2 : Ms) (env2 : SEnv) (p2 : PSt), SOk X.K pa ca B M2 σ2 H2 env2 p2 ∧ OutS pa ca exv W X.K B M2 H2 D1 (whileL (fun env p => evalT cf gt c1 (view env) p) (fun env p => execS cf gt body env p) m env2 p2), ⟨m, M, env, p, S, hw⟩, fun m σ2 H2 ⟨M2, env2, p2, S2, h2⟩ => ?_⟩
  cases m with
  | zero => exact h2.elim
  | succ m =>
    unfold whileL at h2
    refine ⟨B, M2, env2, p2, S2, ?_⟩
    cases e : evalT cf gt c1 (view env2) p2 with
    | bad => simp only [e] at h2; exact h2
    | exc c xs p' => simp only [e] at h2; exact exS_of S2.mpa h2
    | ok b p3 =>
      simp only [e] at h2
      intro H3 x3 q3
      have S3 := S2.ext x3 q3
      have k3 : Keep pa B M2 H2 M2 H3 := Keep.of_ext x3 S2.mpa
      cases b with
      | false =>
        rw [if_neg Bool.false_ne_true]
        exact h2 M2 σ2 H3 k3 S3
      | true =>
        rw [if_pos rfl]
        refine ⟨fun σ5 H5 => ∃ (M2 : Ms) (env2 : SEnv) (p2 : PSt), SOk X.K pa ca B M2 σ5 H5 env2 p2 ∧ OutS pa ca exv W X.K B M2 H5 D1 (whileL (fun env p => evalT cf gt c1 (view env) p) (fun env p => execS cf gt body env p) m env2 p2), fun σ5 H5 h5 => ⟨m, Nat.lt_succ_self m, h5⟩, B, M2, env2, p3, S3, ?_⟩
        have h3 := OutS.at k3 h2
        cases e6 : execS cf gt body env2 p3 with
        | bad => simp only [e6] at h3; exact h3
        | exc c xs p' => simp only [e6] at h3; exact h3
        | ok f p4 =>
          simp only [e6] at h3
          cases f with
          | nx env4 => exact fun M5 σ5 H5 k5 S5 => ⟨M5, env4, p4, S5, h3.at k5⟩
          | ct env4 => exact fun M5 σ5 H5 k5 S5 => ⟨M5, env4, p4, S5, h3.at k5⟩
          | bk env4 => exact h3
          | rt d => exact h3
end
end PD

namespace PD
open PySem PySem.Spec PyProof.Rows L2
section
variable {cf : Str → List D → PSt → Out D} {gt : Str → Option D} {exv : ExV} {pa ca : Addr} {W : WX} {n : Nat} {X : Cx} {fns : List Str}
theorem xok_tr {W' : WX} {pn : List (Addr × Obj)} {xe : Value → Shared → Prop} (ok : XOk cf gt fns exv pa ca W n X) (tk : Takes (X.tr pn xe) W') : XOk cf gt fns exv pa ca W' n (X.tr pn xe) :=
  ⟨ok.nd, ok.calm, tk, ok.room, ok.gu, ok.fns, ok.glob, ok.exc, ok.exv, ok.len, ok.sum, ok.max, ok.min, ok.abs, ok.tuple, ok.list, ok.all, ok.any, ok.range, ok.isinstance, ok.int, ok.bool, ok.str, ok.dict, ok.repr, ok.sorted, ok.zip, ok.reversed, ok.set⟩
theorem sxok_tr {pn : List (Addr × Obj)} {xe : Value → Shared → Prop} (sx : SXOk X) (ps : PassesOwn (model X.prog X.w) X.A X.env xe) : SXOk (X.tr pn xe) := ⟨sx.fn, sx.kind, ps, sx.stk, sx.frm⟩
theorem not_star {N : List Str} {sc : Scope} {es : E} {x : Expr} {xs : List Expr} (h : chkEs N fns sc es (x :: xs) = true) : notStar x = true := by
  unfold chkEs at h
  split at h <;> first | (cases h; done) | skip
  all_goals first | (rename_i q; cases q; done) | skip
  all_goals (simp only [Bool.and_eq_true] at h; exact h.1.2)
theorem chk_tail {N : List Str} {sc : Scope} {es : E} {x : Expr} {xs : List Expr} (h : chkEs N fns sc es (x :: xs) = true) : ∃ r, chkEs N fns sc r xs = true := by
  unfold chkEs at h
  split at h <;> first | (cases h; done) | skip
  all_goals first | (rename_i q; cases q; done) | skip
  all_goals (simp only [Bool.and_eq_true] at h; exact ⟨_, h.2⟩)
theorem ss_raise {c : Str} {es : E} {g x : Expr} {xs : List Expr} {pos pos2 : Pos} (ok : XOk cf gt fns exv pa ca W n X) (hg : nmB X.env.scope c g = true) (hc : chkEs X.N fns X.env.scope es (x :: xs) = true) (ha : PA X (x :: xs) (tVs cf gt exv pa ca W X.K es)) :
    PS X (.Raise (some (.Call g (x :: xs) [] pos)) none pos2) (tS pa ca exv W X.K cf gt (.raise c es)) := by
  obtain ⟨p0, rfl, hg, hd, h0⟩ := gl_of (X := X) rfl hg
  refine ⟨fun pins s σ H D1 I ⟨B, M, env, p, S, hw⟩ => ?_⟩
  unfold OutS execS at hw
  split at hw
  · rename_i hk
    rw [Bool.and_eq_true] at hk
    rw [Holds.bind] at hw
    obtain ⟨C, gC, O⟩ := ok.exc.own c hk.1 hk.2
    obtain ⟨rr, hr⟩ := chk_tail hc
    refine (ps_raise ok.calm ok.tk (pmk_ownA PySem.F.excBase_ValueError O.ex gC O.kp (raises_own O.sub O.ty) hg ha hd (star_of (not_star hc)) (nostar hr))).run pins s σ H D1 I ?_
    refine ⟨B, B, fzAll env, p, S.all, .all, ?_⟩
    rw [view_fzAll]
    refine hw.imp (fun ds p1 k vs H1 x1 q1 r1 => ?_) fun c xs p1 k => exS_of S.mpa k
    split at k
    · rename_i hl
      have l1 := r1.length
      exact ⟨by rw [sizeLine_eq]; omega, k (.ref C) none σ H1 (KeepR.ext x1 S.mpa) q1 (by rw [ok.exv]; exact ⟨C, gC, rfl, rfl⟩)⟩
    · exact k.elim
  · exact hw.elim
/-! ### what an except clause gives back -/
section
variable {Y : Cx} {a : Addr} {oe : Obj} {pn : List (Addr × Obj)} {c : Str} {C : Addr} {i : Nat}
/-- the error lies in its slot -/
def AtE (nm : Option Str) (i : Nat) (a : Addr) (σ : L2.St) : Prop := ∀ x, nm = some x → σ[i]? = some (some (V.ref a))
theorem pt_ht {nm : Option Str} (exf : ExcF X.K X.mg gt) (hi0 : X.mg "isinstance" = none) (kc : clsB gt c = true) (ko : ownB c = true) (gC : X.mg c = some (.ref C)) (O : OwnOk X.K C) (hz : Zc (.ref C) none oe) (hf : ∃ vs, oe.data = .fields vs) (hN : ∀ x, nm = some x → X.N[i]? = some x ∧ Vis X.env.scope x) :
    ∀ (t : HT) (e : Expr), chkHT X.env.scope nm t e = true → t.ok gt = true → PT (X.suite a ((a, oe) :: pn)) e (fun σ H Q => AtE nm i a σ ∧ Q (evalHT c t) H) := by
  intro t
  induction t with
  | isi h =>
    intro e hc ho
    unfold chkHT at hc
    split at hc <;> first | (cases hc; done) | skip
    rename_i f x px y pos
    simp only [Bool.and_eq_true, beq_iff_eq] at hc
    obtain ⟨⟨⟨h1, h2⟩, h3⟩, h4⟩ := hc
    obtain ⟨q0, rfl, g0, d0, n0⟩ := gl_of (X := X.suite a ((a, oe) :: pn)) rfl h1
    obtain ⟨q1, rfl, g1, d1, n1⟩ := gl_of (X := X.suite a ((a, oe) :: pn)) rfl h4
    have ho : clsB gt h = true := ho
    obtain ⟨_, hv, hcls, shape⟩ := exf.any h ho
    obtain ⟨e1, e2⟩ := exf.rel c h C hv kc ko ho gC hcls
    have py : ∃ v : V, PE (X.suite a ((a, oe) :: pn)) (.Name h q1) (L2.tC v) ∧ ∀ u, RelV v u → u = hv := by
      rcases shape with ⟨C', rfl⟩ | ⟨T, rfl⟩
      · refine ⟨.ref C', ?_, fun u r => r⟩
        rcases hcls with m | ⟨m, b, nn⟩
        · exact pe_glob (X := X.suite a ((a, oe) :: pn)) g1 m rfl d1
        · exact pe_bltn (X := X.suite a ((a, oe) :: pn)) g1 m b rfl nn d1
      · refine ⟨.ty T, ?_, fun u r => r⟩
        rcases hcls with m | ⟨m, b, nn⟩
        · exact pe_glob (X := X.suite a ((a, oe) :: pn)) g1 m rfl d1
        · exact pe_bltn (X := X.suite a ((a, oe) :: pn)) g1 m b rfl nn d1
    obtain ⟨v, py, hv'⟩ := py
    obtain ⟨hN1, hvis⟩ := hN x h2
    unfold plainN at h3
    simp only [Bool.and_eq_true, Bool.not_eq_true'] at h3
    have px' : PE (X.suite a ((a, oe) :: pn)) (.Name x px) (tVar i) := pe_var (X := X.suite a ((a, oe) :: pn)) hN1 hvis h3.1.1 h3.1.2
    refine (pt_val (pe_callB (call_isE (X := X) O.ec hz hf) g0 hi0 boot_isinstance (pa_cons px' (pa_cons py pa_nil)) n0 d0 rfl rfl) (fun _ => rfl)).imp fun σ H Q ⟨ha, q⟩ => ?_
    exact ⟨.ref a, ha x h2, v, hv, _, rfl, hv', e2, _, rfl, q⟩
  | not t ih =>
    intro e hc ho
    unfold chkHT at hc
    split at hc <;> first | (cases hc; done) | skip
    exact (pt_not (ih _ hc ho)).imp fun σ H Q h => h
  | and s t ihs iht =>
    intro e hc ho
    unfold chkHT at hc
    split at hc <;> first | (cases hc; done) | skip
    rename_i x y rest pos
    have ho : (s.ok gt && t.ok gt) = true := ho
    rw [Bool.and_eq_true] at ho hc
    obtain ⟨hc1, hc2⟩ := hc
    cases rest with
    | nil =>
      refine ((pw_and (ihs _ hc1 ho.1) (pw_and1 (iht _ hc2 ho.2))).pt).imp fun σ H Q ⟨ha, q⟩ => ?_
      refine ⟨ha, ?_⟩
      unfold evalHT at q
      cases e : evalHT c s with
      | true => rw [e] at q; exact ⟨ha, q⟩
      | false => rw [e] at q; exact q
    | cons z rest =>
      refine ((pw_and (ihs _ hc1 ho.1) (pw_of (iht _ hc2 ho.2))).pt).imp fun σ H Q ⟨ha, q⟩ => ?_
      refine ⟨ha, ?_⟩
      unfold evalHT at q
      cases e : evalHT c s with
      | true => rw [e] at q; exact ⟨ha, q⟩
      | false => rw [e] at q; exact q
def dV : D → V
  | .str s => .str s
  | .bl b => .bl b
  | .int i => .int i
  | _ => .non
def atomE : D → Bool
  | .str _ => true
  | .bl _ => true
  | .int _ => true
  | .non => true
  | _ => false
theorem pe_he {nm : Option Str} (exf : ExcF X.K X.mg gt) (hi0 : X.mg "isinstance" = none) (kc : clsB gt c = true) (ko : ownB c = true) (gC : X.mg c = some (.ref C)) (O : OwnOk X.K C) (hz : Zc (.ref C) none oe) (hf : ∃ vs, oe.data = .fields vs) (hN : ∀ x, nm = some x → X.N[i]? = some x ∧ Vis X.env.scope x) :
    ∀ (t : HE) (e : Expr), chkHE X.env.scope nm t e = true → t.ok gt = true → atomE (evalHE c t) = true ∧ PE (X.suite a ((a, oe) :: pn)) e (fun σ H Q => AtE nm i a σ ∧ Q (dV (evalHE c t)) H) := by
  intro t
  induction t with
  | c d =>
    intro e hc _
    unfold chkHE at hc
    split at hc <;> first | (cases hc; done) | skip
    · rw [beq_iff_eq] at hc
      subst hc
      exact ⟨rfl, pe_str.imp fun σ H Q h => h.2⟩
    · rw [beq_iff_eq] at hc
      subst hc
      exact ⟨rfl, pe_bl.imp fun σ H Q h => h.2⟩
    · rw [beq_iff_eq] at hc
      subst hc
      exact ⟨rfl, pe_int.imp fun σ H Q h => h.2⟩
    · exact ⟨rfl, pe_non.imp fun σ H Q h => h.2⟩
  | ite t x y ihx ihy =>
    intro e hc ho
    unfold chkHE at hc
    split at hc <;> first | (cases hc; done) | skip
    have ho : (t.ok gt && x.ok gt && y.ok gt) = true := ho
    simp only [Bool.and_eq_true] at hc ho
    have ht := pt_ht (a := a) (pn := pn) exf hi0 kc ko gC O hz hf hN t _ hc.1.1 ho.1.1
    obtain ⟨a1, p1⟩ := ihx _ hc.1.2 ho.1.2
    obtain ⟨a2, p2⟩ := ihy _ hc.2 ho.2
    unfold evalHE
    cases e : evalHT c t with
    | true =>
      refine ⟨a1, (pe_ifExp ht p1 p2).imp fun σ H Q ⟨ha, q⟩ => ⟨ha, ?_⟩⟩
      rw [e]
      exact ⟨ha, q⟩
    | false =>
      refine ⟨a2, (pe_ifExp ht p1 p2).imp fun σ H Q ⟨ha, q⟩ => ⟨ha, ?_⟩⟩
      rw [e]
      exact ⟨ha, q⟩
end
theorem rep_dV {K : PySem.W.Frag} {M : Ms} {H : Hp} {d : D} (h : atomE d = true) : Rep K pa M H d (dV d) := by
  cases d <;> first | (cases h; done) | (unfold Rep dV; rfl)
/-- what the suite of a clause is told -/
def tsH (gt : Str → Option D) (mg : Str → Option Value) (K : PySem.W.Frag) (nm : Option Str) (i : Nat) (he : HE) (a : Addr) (cls : Value) (dx : Option Addr) : TS := fun D1 σ H => ∃ c C, clsB gt c = true ∧ ownB c = true ∧ mg c = some (.ref C) ∧ OwnOk K C ∧ cls = .ref C ∧ dx = none ∧ (i < σ.length → AtE nm i a σ) ∧ (atomE (evalHE c he) = true → D1.rt (dV (evalHE c he)) H)
theorem pss_suite {nm : Option Str} {i : Nat} (ok : XOk cf gt fns exv pa ca W n X) (hN : ∀ x, nm = some x → X.N[i]? = some x ∧ Vis X.env.scope x) {he : HE} {e : Expr} (hc : chkHE X.env.scope nm he e = true) (ho : he.ok gt = true) {pos : Pos}
    {a : Addr} {oe : Obj} {cls : Value} {d : Option Addr} {pn : List (Addr × Obj)} (hz : Zc cls d oe) (hf : ∃ vs, oe.data = .fields vs) : PSs (X.suite a ((a, oe) :: pn)) [.Return (some e) pos] (tsH gt X.mg X.K nm i he a cls d) := by
  refine ⟨fun pins s σ H D1 I h => ?_⟩
  obtain ⟨c, C, kc, ko, gC, O, rfl, rfl, ha, q⟩ := h
  obtain ⟨at', p⟩ := pe_he (a := a) (pn := pn) ok.exc ok.isinstance kc ko gC O hz hf hN he e hc ho
  refine (pss_one (ps_ret p)).run pins s σ H D1 I ⟨fun x hx => ?_, q at'⟩
  have hl := (List.getElem?_eq_some_iff.mp (hN x hx).1).1
  have il : σ.length = X.N.length := I.len
  exact ha (by omega) x hx
/-! ### try -/
inductive LR (gt : Str → Option D) (mg : Str → Option Value) (K : PySem.W.Frag) : List (Value × (Addr → Value → Option Addr → TS)) → List (Str × HE) → Prop
  | nil : LR gt mg K [] []
  | cons {hv q l r} (kc : clsB gt q.1 = true) (h : IsCls mg q.1 hv) (t : LR gt mg K l r) : LR gt mg K ((hv, tsH gt mg K none 0 q.2) :: l) (q :: r)
theorem nm_of {x : Expr} {h : Str} (ok : XOk cf gt fns exv pa ca W n X) (hn : nmB X.env.scope h x = true) (kc : clsB gt h = true) : ∃ p hv, x = .Name h p ∧ IsCls X.mg h hv ∧ Names X h hv := by
  obtain ⟨p0, rfl, hg, hd, h0⟩ := gl_of (X := X) rfl hn
  obtain ⟨_, hv, hc, _⟩ := ok.exc.any h kc
  exact ⟨p0, hv, rfl, hc, hg, hd, hc⟩
theorem hds_ok (ok : XOk cf gt fns exv pa ca W n X) : ∀ {hds : List (Str × HE)} {hs : List ExceptHandler}, chkHd X.env.scope none hds hs = true → hdsOk gt hds = true → ∃ l, HdsOk X hs l ∧ LR gt X.mg X.K l hds
  | [], [], _, _ => ⟨[], .nil, .nil⟩
  | [], _ :: _, h, _ => by unfold chkHd at h; cases h
  | q :: r, [], h, _ => by unfold chkHd at h; cases h
  | q :: r, h0 :: hs, h, ho => by
    unfold chkHd at h
    split at h <;> first | (cases h; done) | skip
    · rename_i e1 e2; cases e1
    · rename_i q' r' x nn e pos pos' hs' e1 e2
      cases e1
      cases e2
      simp only [Bool.and_eq_true, beq_iff_eq] at h
      obtain ⟨⟨⟨h1, h2⟩, h3⟩, h4⟩ := h
      subst h2
      have ho : (clsB gt q.1 && q.2.ok gt && hdsOk gt r) = true := ho
      simp only [Bool.and_eq_true] at ho
      obtain ⟨l, hl, lr⟩ := hds_ok ok h4 ho.2
      obtain ⟨p0, hv, rfl, hc, hnm⟩ := nm_of ok h1 ho.1.1
      exact ⟨_, .cons hnm (fun a oe cls d pn hz hf => pss_suite (nm := none) (i := 0) ok (fun _ z => by cases z) h3 ho.1.2 hz hf) hl, .cons ho.1.1 hc lr⟩
theorem many_run (ok : XOk cf gt fns exv pa ca W n X) {D1 : Ends} {c : Str} {C : Addr} {σ' : L2.St} {H' : Hp} (kc : clsB gt c = true) (ko : ownB c = true) (gC : X.mg c = some (.ref C)) (O : OwnOk X.K C) : ∀ {l : List (Value × (Addr → Value → Option Addr → TS))} {hds : List (Str × HE)}, LR gt X.mg X.K l hds →
    (match hdOf c hds with
      | some d => atomE d = true → D1.rt (dV d) H'
      | none => W (.ref C) none σ' H') → wMany X.K W D1 l (.ref C) none σ' H'
  | [], [], _, h => h
  | _ :: _, q :: r, .cons kq hc t, h => by
    obtain ⟨e1, _⟩ := ok.exc.rel c q.1 C _ kc ko kq gC hc
    unfold hdOf at h
    refine ⟨subB c q.1, e1, fun hb a _ => ?_, fun hb => ?_⟩
    · rw [if_pos hb] at h
      exact ⟨c, C, kc, ko, gC, O, rfl, rfl, (fun _ _ z => by cases z), h⟩
    · rw [if_neg (by rw [hb]; decide)] at h
      exact many_run ok kc ko gC O t h
theorem ss_try {b : PD.S} {nm : Option Str} {hds : List (Str × HE)} {body : List Stmt} {hs : List ExceptHandler} {pos : Pos} (ok : XOk cf gt fns exv pa ca W n X) (sx : SXOk X) (h2 : nmOk X.N X.env.scope nm hds = true) (h3 : chkHd X.env.scope nm hds hs = true)
    (hb : ∀ (W : WX) (pn : List (Addr × Obj)) (xe : Value → Shared → Prop), Takes (X.tr pn xe) W → PassesOwn (model X.prog X.w) X.A X.env xe → PSs (X.tr pn xe) body (tS pa ca exv W X.K cf gt b)) (h4 : hds.isEmpty = false) : PS X (.Try body hs [] [] pos) (tS pa ca exv W X.K cf gt (.try b nm hds)) := by
  refine ⟨fun pins s σ H D1 I ⟨B, M, env, p, S, hw⟩ => ?_⟩
  unfold OutS execS at hw
  split at hw <;> first | exact hw.elim | skip
  rename_i hk
  have key : ∀ W' : WX, (∀ c C σ' H', clsB gt c = true → ownB c = true → X.mg c = some (.ref C) → OwnOk X.K C → (match hdOf c hds with
      | some d => atomE d = true → D1.rt (dV d) H'
      | none => W (.ref C) none σ' H') → W' (.ref C) none σ' H') → tS pa ca exv W' X.K cf gt b D1 σ H := fun W' hW => by
    refine ⟨B, M, env, p, S, ?_⟩
    unfold OutS
    cases e : execS cf gt b env p with
    | bad => rw [e] at hw; exact hw
    | ok f p' => rw [e] at hw; exact hw
    | exc c xs p' =>
      rw [e] at hw
      dsimp only at hw
      intro cls dx σ' H' kr po ev
      rw [ok.exv] at ev
      obtain ⟨C, gC, rfl, rfl⟩ := ev
      split at hw <;> first | exact hw.elim | skip
      rename_i hk2
      rw [Bool.and_eq_true] at hk2
      obtain ⟨C', gC', O⟩ := ok.exc.own c hk2.1 hk2.2
      rw [gC] at gC'
      cases gC'
      refine hW c C σ' H' hk2.1 hk2.2 gC O ?_
      cases e2 : hdOf c hds with
      | none =>
        rw [e2] at hw
        exact hw (.ref C) none σ' H' kr po (by rw [ok.exv]; exact ⟨C, gC, rfl, rfl⟩)
      | some d =>
        rw [e2] at hw
        exact fun ha => hw (dV d) H' kr po (rep_dV ha)
  cases nm with
  | none =>
    obtain ⟨l, hl, lr⟩ := hds_ok ok h3 hk
    cases hs with
    | nil =>
      cases hds with
      | nil => cases h4
      | cons _ _ => unfold chkHd at h3; cases h3
    | cons h0 hs =>
      exact (ps_try_many (tb := fun W => tS pa ca exv W X.K cf gt b) sx.stk sx.frm ok.tk hb hl).run pins s σ H D1 I (key _ fun c C σ' H' kc ko gC O h => many_run ok kc ko gC O lr h)
  | some x =>
    unfold nmOk at h2
    simp only [Bool.and_eq_true, beq_iff_eq] at h2
    obtain ⟨⟨g1, g2⟩, g3⟩ := h2
    have hx : x ∈ X.N := List.contains_iff_mem.mp g1
    obtain ⟨i, hi⟩ : ∃ i, X.N[i]? = some x := by
      obtain ⟨i, hlt, e⟩ := List.getElem_of_mem hx
      exact ⟨i, by rw [List.getElem?_eq_getElem hlt, e]⟩
    have hloc : X.env.scope.names.lookup x = some .local := by
      split at g2 <;> first | (cases g2; done) | assumption
    match hds, g3 with
    | [q], _ =>
      have sh : ∃ y nn e p1 p2, hs = [.ExceptHandler (some y) nn [.Return (some e) p1] p2] ∧ nmB X.env.scope q.1 y = true ∧ nn = some x ∧ chkHE X.env.scope (some x) q.2 e = true := by
        unfold chkHd at h3
        split at h3 <;> first | (cases h3; done) | skip
        · rename_i e1; cases e1
        · rename_i q' r' y nn e p1 p2 hs' e1
          cases e1
          simp only [Bool.and_eq_true, beq_iff_eq] at h3
          obtain ⟨⟨⟨k1, k2⟩, k3⟩, k4⟩ := h3
          have hs0 : hs' = [] := by
            cases hs' with
            | nil => rfl
            | cons _ _ => unfold chkHd at k4; cases k4
          subst hs0
          exact ⟨_, _, _, _, _, rfl, k1, k2, k3⟩
      obtain ⟨y, nn, e, p1, p2, rfl, k1, k2, k3⟩ := sh
      subst k2
      have hk : (clsB gt q.1 && q.2.ok gt && true) = true := hk
      simp only [Bool.and_eq_true] at hk
      obtain ⟨p0, hv, rfl, hc, hnm⟩ := nm_of ok k1 hk.1.1
      have hN : ∀ z, some x = some z → X.N[i]? = some z ∧ Vis X.env.scope z := fun z e => by cases e; exact ⟨hi, .inl hloc⟩
      refine (ps_try_as (i := i) (tb := fun W => tS pa ca exv W X.K cf gt b) (ts := tsH gt X.mg X.K (some x) i q.2) sx.stk sx.frm ok.nd hi hloc hnm ok.tk hb (fun a oe cls d pn hz hf => pss_suite ok hN k3 hk.1.2 hz hf)).run pins s σ H D1 I (key _ fun c C σ' H' kc ko gC O h => ?_)
      obtain ⟨e1, _⟩ := ok.exc.rel c q.1 C _ kc ko hk.1.1 gC hc
      unfold hdOf at h
      refine ⟨subB c q.1, e1, fun hb a _ => ?_, fun hb => ?_⟩
      · rw [if_pos hb] at h
        exact ⟨c, C, kc, ko, gC, O, rfl, rfl, (fun hl z _ => by rw [List.length_set] at hl; rw [List.getElem?_set_self hl]), h⟩
      · rw [if_neg (by rw [hb]; decide)] at h
        exact h
end
end PD

namespace PD
open PySem PySem.Spec PyProof.Rows L2
section
variable {cf : Str → List D → PSt → Out D} {gt : Str → Option D} {exv : ExV} {pa ca : Addr} {W : WX} {n : Nat} {X : Cx} {fns : List Str}
variable {e1 c1 : E} {x y z v : Expr} {xs : List Expr} {pos ps : Pos} {i j : Nat} {u : Str}
theorem par_names {sc : Scope} {x y : Str} {px py : Pos} {v w : Expr} (h : parOk sc x y px py v w = true) : sc.names.lookup x = some .local ∧ sc.names.lookup y = some .local ∧ x ≠ y ∧ (px.line == py.line) = true ∧ notStar v = true ∧ notStar w = true ∧ ([v, w].all (foldedForSure 8)) = false ∧ ([v, w].all (constantsAlone 8)) = false := by
  simp only [parOk, Bool.and_eq_true, Bool.not_eq_true', beq_eq_false_iff_ne, ne_eq] at h
  obtain ⟨⟨⟨⟨⟨⟨⟨h1, h2⟩, h3⟩, h4⟩, h5⟩, h6⟩, h7⟩, h8⟩ := h
  refine ⟨?_, ?_, h3, h4, h5, h6, h7, h8⟩
  · split at h1
    · assumption
    · cases h1
  · split at h2
    · assumption
    · cases h2
theorem swapped_par {x y : Str} {px py : Pos} {v w : Expr} {k k2 : Nat} {pt pt2 : Pos} (hk : X.env.scope.kind = .function) (h : parOk X.env.scope x y px py v w = true) :
    swappedStores [.Tuple [.Name x px, .Name y py] k pt] (.Tuple [v, w] k2 pt2) X.env = pure (some [x, y]) := by
  obtain ⟨h1, h2, h3, h4, h5, h6, h7, h8⟩ := par_names h
  have hb : X.env.blockKind = .function := by unfold Env.blockKind; rw [hk]; rfl
  have k1 : X.env.kindOf x = some .local := h1
  have kk2 : X.env.kindOf y = some .local := h2
  have ns : ([v, w].any fun | .Starred .. => true | _ => false) = false := by
    cases v <;> first | (cases h5; done) | (cases w <;> first | (cases h6; done) | rfl)
  unfold swappedStores
  have hl : py.line = px.line := by
    rw [beq_iff_eq] at h4
    exact h4.symm
  have fm : ([Expr.Name x px, Expr.Name y py].filterMap fun
    | .Name id pos => if X.env.kindOf id == some .local && pos.line == px.line then some id else none
    | _ => none) = [x, y] := by
    simp [List.filterMap_cons, k1, kk2, hl]
  have ed : [x, y].eraseDups.length = 2 := by
    have : (y == x) = false := by simpa using fun z => h3 z.symm
    simp [List.eraseDups_cons, this]
  show (do
    let line := px.line
    if (!([Expr.Name x px, Expr.Name y py].length == 2 || [Expr.Name x px, Expr.Name y py].length == 3) || [v, w].length != [Expr.Name x px, Expr.Name y py].length || X.env.blockKind != .function) = true then pure none else
    if ([v, w].any fun | .Starred .. => true | _ => false) = true then pure none else
    let names := ([Expr.Name x px, Expr.Name y py].filterMap fun
      | .Name id pos => if X.env.kindOf id == some .local && pos.line == px.line then some id else none
      | _ => none)
    if (names.length != [Expr.Name x px, Expr.Name y py].length || names.eraseDups.length != names.length) = true then pure none else
    if [v, w].all (foldedForSure 8) = true then pure none else
    if [v, w].all (constantsAlone 8) = true then (do let _ ← (unsupported "assign.tuple-of-constant-expressions:order-of-the-stores" : Sem PUnit); pure (some names)) else pure (some names) : Sem (Option (List Str))) = _
  dsimp only
  rw [fm, ed, h7, h8, ns, hb]
  rfl
theorem ss_par {a b : E} {x y : Str} {px py pt pt2 : Pos} {v w : Expr} {k k2 : Nat} (sx : SXOk X) (hc : X.calm = true) (nd : X.N.Nodup) (hi : X.N[i]? = some x) (hj : X.N[j]? = some y) (h : parOk X.env.scope x y px py v w = true) (ha : PE X v (tV cf gt exv pa ca W X.K a)) (hb : PE X w (tV cf gt exv pa ca W X.K b)) :
    PS X (.Assign [.Tuple [.Name x px, .Name y py] k pt] (.Tuple [v, w] k2 pt2) pos) (tS pa ca exv W X.K cf gt (.par i j a b)) := by
  obtain ⟨h1, h2, h3, h4, h5, h6, h7, h8⟩ := par_names h
  have hij : i ≠ j := fun z => by
    rw [z, hj] at hi
    exact h3 (Option.some.inj hi).symm
  refine (ps_par hc nd hi hj hij h1 h2 (pa_cons ha (pa_cons hb pa_nil (star_of h6)) (star_of h5)) (swapped_par sx.kind h) rfl).imp fun D1 σ H ⟨B, M, env, p, S, hw⟩ => ?_
  unfold OutS execS at hw
  rw [Holds.bind] at hw
  obtain ⟨M1, l1, S1⟩ := S.fzs (escE a)
  obtain ⟨M', l2, S'⟩ := S1.fzs (escE b)
  refine ⟨B, M', _, p, S', fun q hq d e => fzs_not_own (escE a) hq (fzs_own_sub (escE b) e), ?_⟩
  rw [view_fzs, view_fzs]
  refine hw.imp (fun d p1 k v1 H1 x1 q1 r1 _ => ?_) fun c xs p1 k => exS_of S.mpa k
  rw [Holds.bind] at k
  have S2 := S'.ext x1 q1
  refine ⟨B, M', _, p1, S2, fun q hq d => fzs_not_own (escE b) hq, ?_⟩
  rw [view_fzs, view_fzs]
  refine k.imp (fun d2 p2 k v2 H2 x2 q2 r2 _ => ?_) fun c xs p1 k => exQ.mono x1 _ _ _ (exS_of S.mpa k)
  have S3 := S2.ext x2 q2
  exact ⟨v1, v2, rfl, k M' _ H2 ((Keep.less fun a ha => l1 a (l2 a ha)).trans (Keep.of_ext (x1.trans x2) S'.mpa)) ((S3.set i (x2.rep S'.mpa r1)).set j r2)⟩

/-! ### every statement -/
structure SndS (cf : Str → List D → PSt → Out D) (gt : Str → Option D) (exv : ExV) (pa ca : Addr) (n : Nat) (fns : List Str) (s1 : PD.S) : Prop where
  s : ∀ {X : Cx} {W : WX}, XOk cf gt fns exv pa ca W n X → SXOk X → ∀ st, chkS X.N fns X.env.scope s1 st = true → PS X st (tS pa ca exv W X.K cf gt s1)
  b : ∀ {X : Cx} {W : WX}, XOk cf gt fns exv pa ca W n X → SXOk X → ∀ st, chkB X.N fns X.env.scope s1 st = true → PSs X st (tS pa ca exv W X.K cf gt s1)
theorem plain_or {sc : Scope} {x v : Expr} (h : plainSet sc x v = false) : (∃ el gs scope pos, v = .ListComp el gs scope pos) ∨ (∃ el gs scope pos, v = .SetComp el gs scope pos) ∨ ∃ a b gs scope pos, v = .DictComp a b gs scope pos := by
  cases v <;> first | exact .inl ⟨_, _, _, _, rfl⟩ | exact .inr (.inl ⟨_, _, _, _, rfl⟩) | exact .inr (.inr ⟨_, _, _, _, _, rfl⟩) | (simp [plainSet] at h)
theorem attr_base {o : Expr} {m : Str} {i : Nat} {N fns : List Str} {sc : Scope} {env : PySem.Env} (h : chkE N fns sc (.var i) o = true) : attributeBase o m env (eval o env) = eval o env := by
  unfold chkE at h
  cases o <;> first | (cases h; done) | rfl
theorem soundS : ∀ s1 : PD.S, SndS cf gt exv pa ca n fns s1 := by
  intro s1
  induction s1 with
  | skip =>
    refine ⟨fun ok sx st h => ?_, fun ok sx st h => ?_⟩
    · unfold chkS at h
      split at h <;> first | (cases h; done) | exact ss_pass
    · unfold chkB at h
      split at h <;> first | (cases h; done) | exact sb_nil
  | seq a b iha ihb =>
    refine ⟨fun ok sx st h => ?_, fun ok sx st h => ?_⟩
    · unfold chkS at h; cases h
    · unfold chkB at h
      split at h <;> first | (cases h; done) | skip
      simp only [Bool.and_eq_true] at h
      exact sb_cons (iha.s ok sx _ h.1) (ihb.b ok sx _ h.2)
  | set i e o =>
    refine ⟨fun {X W} ok sx st h => ?_, fun ok sx st h => (by unfold chkB at h; cases h)⟩
    unfold chkS at h
    split at h <;> first | (cases h; done) | skip
    rename_i t v pos
    simp only [Bool.and_eq_true, Bool.or_eq_true, Bool.not_eq_true'] at h
    obtain ⟨⟨h1, h2⟩, h3⟩ := h
    have h3 : o = true → freshE e = true := fun z => by
      rcases h3 with h3 | h3
      · rw [z] at h3; cases h3
      · exact h3
    cases hp : plainSet X.env.scope t v with
    | true => exact ss_set sx ok.nd h1 h3 hp ((sound e).v ok v h2)
    | false =>
      cases e with
      | comp elt tg it c =>
        unfold chkE at h2
        split at h2 <;> first | (cases h2; done) | skip
        simp only [Bool.and_eq_true] at h2
        obtain ⟨⟨⟨⟨⟨⟨⟨⟨g1, g2⟩, g3⟩, g4⟩, g5⟩, g6⟩, g7⟩, g8⟩, g9⟩ := h2
        exact ss_setLc sx ok.calm ok.nd h1 hp ((sound it).it ok _ _ g1 (zip_tup g4 g9)) (blkOk_by g3) g6 (fun s H C cl fp => g_tg ok.calm ok.nd blk_store g4) (fun s H C cl fp => (sound c).c (blk_ok ok) _ g7) (fun s H C cl fp => (sound elt).v (blk_ok ok) _ g8) g2
      | compD elt tg j c =>
        unfold chkE at h2
        split at h2 <;> first | (cases h2; done) | skip
        simp only [Bool.and_eq_true] at h2
        obtain ⟨⟨⟨⟨⟨⟨g1, g3⟩, g4⟩, g5⟩, g6⟩, g7⟩, g8⟩ := h2
        refine ss_setLcD sx ok.calm ok.nd h1 hp (pe_name rfl g1) (blkOk_by g3) g6 (fun s H C cl fp => g_tg ok.calm ok.nd blk_store g4) (fun s H C cl fp => (sound c).c (blk_ok ok) _ g7) (fun s H C cl fp => (sound elt).v (blk_ok ok) _ g8) ?_
        split at g1 <;> first | (cases g1; done) | rfl
      | dcomp k1 v1 tg it c =>
        unfold chkE at h2
        split at h2 <;> first | (cases h2; done) | skip
        simp only [Bool.and_eq_true] at h2
        obtain ⟨⟨⟨⟨⟨⟨⟨⟨⟨g1, g2⟩, g3⟩, g4⟩, g5⟩, g6⟩, g7⟩, g8⟩, g9⟩, g10⟩ := h2
        exact ss_setDc sx ok.calm ok.nd h1 hp ((sound it).it ok _ _ g1 (zip_tup g4 g10)) (blkOk_by g3) g6 (fun s H C cl fp => g_tg ok.calm ok.nd blk_store g4) (fun s H C cl fp => (sound c).c (blk_ok ok) _ g7) (fun s H C cl fp => ((sound k1).v (blk_ok ok) _ g8).used) (fun s H C cl fp => (sound v1).v (blk_ok ok) _ g9) g2
      | _ =>
        exfalso
        rcases plain_or hp with ⟨_, _, _, _, rfl⟩ | ⟨_, _, _, _, rfl⟩ | ⟨_, _, _, _, _, rfl⟩ <;> simp [chkE, nmB] at h2
  | asg is e =>
    refine ⟨fun ok sx st h => ?_, fun ok sx st h => (by unfold chkB at h; cases h)⟩
    unfold chkS at h
    split at h <;> first | (cases h; done) | skip
    simp only [Bool.and_eq_true] at h
    exact ss_asg sx ok.calm ok.nd h.1.1 h.2 (((sound e).v ok _ h.1.2).lent rfl rfl h.1.2)
  | par i j a b =>
    refine ⟨fun ok sx st h => ?_, fun ok sx st h => (by unfold chkB at h; cases h)⟩
    unfold chkS at h
    split at h <;> first | (cases h; done) | skip
    simp only [Bool.and_eq_true, beq_iff_eq] at h
    obtain ⟨⟨⟨⟨h1, h2⟩, h3⟩, h4⟩, h5⟩ := h
    exact ss_par sx ok.calm ok.nd h1 h2 h3 ((sound a).v ok _ h4) ((sound b).v ok _ h5)
  | aug i o e =>
    refine ⟨fun ok sx st h => ?_, fun ok sx st h => (by unfold chkB at h; cases h)⟩
    unfold chkS at h
    split at h <;> first | (cases h; done) | skip
    simp only [Bool.and_eq_true] at h
    rw [opEq_of h.1.2]
    exact ss_aug sx ok.nd h.1.1 ((sound e).v ok _ h.2).used
  | put i k e =>
    refine ⟨fun ok sx st h => ?_, fun ok sx st h => (by unfold chkB at h; cases h)⟩
    unfold chkS at h
    split at h <;> first | (cases h; done) | skip
    simp only [Bool.and_eq_true] at h
    obtain ⟨⟨⟨h1, h2⟩, h3⟩, h4⟩ := h
    unfold chkE at h1
    exact ss_put ok (pe_name rfl h1) ((sound k).v ok _ h2).used h3 ((sound e).v ok _ h4)
  | augput i k o e =>
    refine ⟨fun ok sx st h => ?_, fun ok sx st h => (by unfold chkB at h; cases h)⟩
    unfold chkS at h
    split at h <;> first | (cases h; done) | skip
    simp only [Bool.and_eq_true] at h
    obtain ⟨⟨⟨⟨h1, h2⟩, h3⟩, h4⟩, h5⟩ := h
    unfold chkE at h1
    rw [opEq_of h4]
    exact ss_augput (pe_name rfl h1) ((sound k).v ok _ h2).used h3 ((sound e).v ok _ h5).used
  | append i e =>
    refine ⟨fun {X W} ok sx st h => ?_, fun ok sx st h => (by unfold chkB at h; cases h)⟩
    unfold chkS at h
    split at h <;> first | (cases h; done) | skip
    simp only [Bool.and_eq_true, beq_iff_eq] at h
    obtain ⟨⟨⟨⟨h1, h2⟩, h3⟩, h4⟩, h5⟩ := h
    subst h1
    have hb := attr_base (m := "append") (env := X.env) h3
    unfold chkE at h3
    exact ss_append (pe_name rfl h3) (by rw [h2]; exact beq_self_eq_true _) h5 hb ((sound e).v ok _ h4)
  | extend i e =>
    refine ⟨fun {X W} ok sx st h => ?_, fun ok sx st h => (by unfold chkB at h; cases h)⟩
    unfold chkS at h
    split at h <;> first | (cases h; done) | skip
    simp only [Bool.and_eq_true, beq_iff_eq] at h
    obtain ⟨⟨⟨⟨h1, h2⟩, h3⟩, h4⟩, h5⟩ := h
    subst h1
    have hb := attr_base (m := "extend") (env := X.env) h3
    unfold chkE at h3
    exact ss_extend (pe_name rfl h3) (by rw [h2]; exact beq_self_eq_true _) h5 hb ((sound e).v ok _ h4)
  | ret e =>
    refine ⟨fun ok sx st h => ?_, fun ok sx st h => (by unfold chkB at h; cases h)⟩
    unfold chkS at h
    split at h <;> first | (cases h; done) | exact ss_ret ((sound e).v ok _ h).used
  | retN =>
    refine ⟨fun ok sx st h => ?_, fun ok sx st h => (by unfold chkB at h; cases h)⟩
    unfold chkS at h
    split at h <;> first | (cases h; done) | exact ss_retN
  | ite c a b iha ihb =>
    refine ⟨fun ok sx st h => ?_, fun ok sx st h => (by unfold chkB at h; cases h)⟩
    unfold chkS at h
    split at h <;> first | (cases h; done) | skip
    simp only [Bool.and_eq_true] at h
    exact ss_if ((sound c).t ok _ h.1.1) (iha.b ok sx _ h.1.2) (ihb.b ok sx _ h.2)
  | «for» tg it body ih =>
    refine ⟨fun ok sx st h => ?_, fun ok sx st h => (by unfold chkB at h; cases h)⟩
    unfold chkS at h
    split at h <;> first | (cases h; done) | skip
    simp only [Bool.and_eq_true] at h
    exact ss_for sx ok.calm ok.nd h.1.1.1.1 ((sound it).it ok _ _ h.1.1.1.2 (zip_tup h.1.1.1.1 h.2)) h.1.1.2 (ih.b ok sx _ h.1.2)
  | «while» m c body ih =>
    refine ⟨fun ok sx st h => ?_, fun ok sx st h => (by unfold chkB at h; cases h)⟩
    unfold chkS at h
    split at h <;> first | (cases h; done) | skip
    simp only [Bool.and_eq_true] at h
    exact ss_while sx ((sound c).t ok _ h.1) (ih.b ok sx _ h.2)
  | pput i k e =>
    refine ⟨fun ok sx st h => ?_, fun ok sx st h => (by unfold chkB at h; cases h)⟩
    unfold chkS at h
    split at h <;> first | (cases h; done) | skip
    simp only [Bool.and_eq_true, beq_iff_eq] at h
    obtain ⟨⟨h1, h2⟩, h3⟩ := h
    subst h2
    unfold chkE at h1
    exact ss_pput (pe_name rfl h1) ((sound e).v ok _ h3).used
  | forD tg i body ih =>
    refine ⟨fun ok sx st h => ?_, fun ok sx st h => (by unfold chkB at h; cases h)⟩
    unfold chkS at h
    split at h <;> first | (cases h; done) | skip
    simp only [Bool.and_eq_true] at h
    obtain ⟨⟨h1, h2⟩, h3⟩ := h
    unfold chkE at h2
    refine ss_forD sx ok.calm ok.nd h1 (pe_name rfl h2) ?_ (ih.b ok sx _ h3)
    split at h2 <;> first | (cases h2; done) | rfl
  | ddel i k =>
    refine ⟨fun ok sx st h => ?_, fun ok sx st h => (by unfold chkB at h; cases h)⟩
    unfold chkS at h
    split at h <;> first | (cases h; done) | skip
    simp only [Bool.and_eq_true] at h
    obtain ⟨h1, h2⟩ := h
    unfold chkE at h1
    exact ss_ddel (pe_name rfl h1) ((sound k).v ok _ h2).used
  | raise c es =>
    refine ⟨fun ok sx st h => ?_, fun ok sx st h => (by unfold chkB at h; cases h)⟩
    unfold chkS at h
    split at h <;> first | (cases h; done) | skip
    rename_i g x xs pos pos2
    simp only [Bool.and_eq_true] at h
    exact ss_raise ok h.1 h.2 ((sound es).vs ok _ h.2).1
  | «try» b nm hds ih =>
    refine ⟨fun ok sx st h => ?_, fun ok sx st h => (by unfold chkB at h; cases h)⟩
    unfold chkS at h
    split at h <;> first | (cases h; done) | skip
    simp only [Bool.and_eq_true, Bool.not_eq_true'] at h
    obtain ⟨⟨⟨h1, h2⟩, h3⟩, h4⟩ := h
    exact ss_try ok sx h2 h3 (fun W pn xe tk ps => ih.b (xok_tr ok tk) (sxok_tr sx ps) _ h1) h4
  | ex e =>
    refine ⟨fun ok sx st h => ?_, fun ok sx st h => (by unfold chkB at h; cases h)⟩
    cases e <;> first | (unfold chkS at h; cases h; done) | skip
    unfold chkS at h
    split at h <;> first | (cases h; done) | skip
    exact ss_ex ((sound _).v ok _ h).used
  | dupd i e =>
    exact ⟨fun ok sx st h => (by unfold chkS at h; cases h), fun ok sx st h => (by unfold chkB at h; cases h)⟩
  | brk =>
    refine ⟨fun ok sx st h => ?_, fun ok sx st h => (by unfold chkB at h; cases h)⟩
    unfold chkS at h
    split at h <;> first | (cases h; done) | exact ss_brk
  | cont =>
    refine ⟨fun ok sx st h => ?_, fun ok sx st h => (by unfold chkB at h; cases h)⟩
    unfold chkS at h
    split at h <;> first | (cases h; done) | exact ss_cont
end
end PD

namespace PD
open PySem PySem.Spec PyProof.Rows L2
structure MgOk (mg : Str → Option Value) : Prop where
  len : mg "len" = none
  sum : mg "sum" = none
  max : mg "max" = none
  min : mg "min" = none
  abs : mg "abs" = none
  tuple : mg "tuple" = none
  list : mg "list" = none
  all : mg "all" = none
  any : mg "any" = none
  range : mg "range" = none
  isinstance : mg "isinstance" = none
  int : mg "int" = none
  bool : mg "bool" = none
  str : mg "str" = none
  dict : mg "dict" = none
  repr : mg "repr" = none
  sorted : mg "sorted" = none
  zip : mg "zip" = none
  reversed : mg "reversed" = none
  set : mg "set" = none
/-- f of the text is fd -/
structure FnText (K : PySem.W.Frag) (mg : Str → Option Value) (fns : List Str) (f : Str) (fd : FDef) : Prop where
  ex : ∃ (N ps : List Str) (st : Stmt) (fa : Addr) (fdata : FuncData), mg f = some (.ref fa) ∧ L2.Fun K f f st fa fdata ∧ FnScope N ps (defScope st) ∧ ps.length = fd.params ∧ N.length = fd.slots ∧ chkB N fns (defScope st) fd.body (defBody st) = true ∧ Binds K fdata ps []
section
variable {P : Program} {w : World} {K : PySem.W.Frag} {mg : Str → Option Value} {base : Heap} {ft : FTab} {gt : Str → Option D} {pa ca : Addr} {fns : List Str}
theorem start_ok {B : Ms} {H : Hp} {ds : List D} {vs : List V} {p : PSt} {N : List Str} (r : Reps K pa B H ds vs) (q : PoolOk pa ca H p) (bp : B pa) (bc : B ca) (al : ∀ a, B a → H a ≠ none) (nt : ∀ a vs, B a → H a ≠ some (.tup vs)) (hl : ds.length ≤ N.length) :
    SOk K pa ca B B (L2.start N vs) H (ds.map .val ++ List.replicate (N.length - ds.length) .no) p := by
  have hv := r.length
  have no : ∀ {i : Nat} {d : D}, (ds.map Sl.val ++ List.replicate (N.length - ds.length) Sl.no)[i]? ≠ some (.own d) := fun {i d} e => by
    rw [List.getElem?_append] at e
    split at e
    · rw [List.getElem?_map] at e
      cases e2 : ds[i]? with
      | none => rw [e2] at e; cases e
      | some x => rw [e2] at e; cases e
    · rw [List.getElem?_replicate] at e
      split at e <;> cases e
  refine ⟨q, bp, bc, fun _ h => h, al, nt, fun i s e => ?_, fun i j d d' a e => absurd e no, ?_⟩
  · rw [List.getElem?_append] at e
    split at e
    · rename_i hi
      rw [List.getElem?_map] at e
      cases e2 : ds[i]? with
      | none => rw [e2] at e; cases e
      | some x =>
        rw [e2] at e
        cases e
        obtain ⟨v, h1, h2⟩ := r.get e2
        refine ⟨v, ?_, h2⟩
        unfold L2.start
        rw [List.getElem?_append_left (by rw [List.length_map, hv]; simpa using hi), List.getElem?_map, h1]
        rfl
    · rw [List.getElem?_replicate] at e
      split at e
      · cases e; trivial
      · cases e
  · unfold L2.start
    rw [List.length_append, List.length_append, List.length_map, List.length_map, List.length_replicate, List.length_replicate, hv]
theorem callF_arity {f : Str} {fd : FDef} (hf : ft.lookup f = some fd) (n : Nat) : ∀ ds p, ds.length ≠ fd.params → callF ft gt n f ds p = .bad := fun ds p h => by
  cases n with
  | zero => rfl
  | succ n =>
    unfold callF
    rw [hf]
    dsimp only
    unfold runBody
    rw [if_neg h]
/-- each def of the text keeps its promise at each level -/
theorem levels (mok : MgOk mg) (excf : ExcF K mg gt) (glob : ∀ x d, gtv gt x = some d → ∃ u v, mg x = some u ∧ RelV v u ∧ ∀ M H, Rep K pa M H d v)
    (hft : ∀ f, fns.contains f = true → ∃ fd, ft.lookup f = some fd ∧ FnText K mg fns f fd) : ∀ (n : Nat) (f : Str), fns.contains f = true →
    ∃ fa fd ps, mg f = some (.ref fa) ∧ PySem.W.keepIn K (.ref fa) = true ∧ Binds K fd ps [] ∧ FnG P w K mg base (L2.CX P w) n fa fd ps (spF K pa ca (exvOf mg) (callF ft gt n) f ps.length) ∧ ∀ ds p, ds.length ≠ ps.length → callF ft gt n f ds p = .bad := by
  intro n
  induction n with
  | zero =>
    intro f hf
    obtain ⟨fd, h1, N, ps, st, fa, fdata, h2, F, S, h3, h4, h5, h6⟩ := hft f hf
    refine ⟨fa, fdata, ps, h2, F.kp, h6, ⟨fun vs H Q E h => h.1, fun A _ _ outer s H args us vs Q E _ _ _ h => ?_⟩, by rw [h3]; exact callF_arity h1 0⟩
    obtain ⟨_, B, p, ds, _, _, _, _, _, _, z⟩ := h
    exact z.elim
  | succ n ih =>
    intro f hf
    obtain ⟨fd, h1, N, ps, st, fa, fdata, h2, F, S, h3, h4, h5, h6⟩ := hft f hf
    refine ⟨fa, fdata, ps, h2, F.kp, h6, ?_, by rw [h3]; exact callF_arity h1 (n + 1)⟩
    refine fun_okG F S (fun vs H Q E h => h.1) fun cdv A outer s H vs Q E gu hr h => ?_
    obtain ⟨hl, B, p, ds, r, q, bp, bc, al, nt, h⟩ := h
    have hpl : ps.length ≤ N.length := by have := congrArg List.length S.pre; rw [List.length_take] at this; omega
    have hdl : ds.length = ps.length := by rw [← r.length, hl]
    have ok : XOk (callF ft gt n) gt fns (exvOf mg) pa ca (fun cls d _ H => E cls d H) n (cxOf (L2.CX P w) P w K mg base N f (defScope st) fa cdv A outer s H E) :=
      ⟨S.nd, rfl, takes_of rfl rfl rfl rfl, hr, gu, fun g hg => ih g hg, glob, excf, rfl, mok.len, mok.sum, mok.max, mok.min, mok.abs, mok.tuple, mok.list, mok.all, mok.any, mok.range, mok.isinstance, mok.int, mok.bool, mok.str, mok.dict, mok.repr, mok.sorted, mok.zip, mok.reversed, mok.set⟩
    have sx : SXOk (cxOf (L2.CX P w) P w K mg base N f (defScope st) fa cdv A outer s H E) := ⟨fun _ => rfl, S.kind, passes_of rfl, rfl, rfl⟩
    refine ⟨_, (soundS fd.body).b ok sx (defBody st) h5, B, B, _, p, start_ok r q bp bc al nt (by omega), ?_⟩
    unfold callF at h
    rw [h1] at h
    dsimp only at h
    unfold runBody at h
    rw [if_pos (by rw [hdl, h3])] at h
    rw [hdl, h4, h3]
    have ext : ∀ {H' : Hp}, KeepR pa B B H H' → Ext pa H H' := fun {H'} k b u hb e => by
      by_cases hB : B b
      · exact k.2 b u hB hb e
      · exact k.1 b u hB e
    cases e : execS (callF ft gt n) gt fd.body (ds.map .val ++ List.replicate (fd.slots - fd.params) .no) p with
    | bad => rw [e] at h; exact h.elim
    | exc c xs p' =>
      rw [e] at h
      exact fun cls dx σ' H' k q' ev => h cls dx H' (ext k) q' ev
    | ok f p' =>
      rw [e] at h
      cases f with
      | rt d => exact fun v H' k q' rp => h v H' (ext k) q' rp
      | nx env' => exact fun M' σ' H' k S' => h .non H' (fun b u hb e => by
          by_cases hB : B b
          · exact k.2 b u hB hb e
          · exact (k.1 b u hB e).2) S'.pool rep_non
      | bk env' => exact h.elim
      | ct env' => exact h.elim
end
end PD

namespace PD
open PySem PySem.Spec PyProof.Rows L2
def spPool (K : PySem.W.Frag) : Sp := fun vs H Q _ => ∃ (a : Addr) (ns : List Int), vs = [.ref a] ∧ SqL K H a (ns.map V.int) ∧ ns.length ≤ 63 ∧
  ∀ (pa ca : Addr) (salt : Int) (H' : Hp), Same H H' → H pa = none → H ca = none → pa ≠ ca → H' pa = some (.lst [.ref ca, .int 0, .int 0, .int 0, .int salt]) → H' ca = some (.lst (ns.map V.int)) → Q (.ref pa) H'
def spLaw (K : PySem.W.Frag) : Sp := fun vs H Q _ => ∃ (a : Addr) (ns : List Int), vs = [.ref a] ∧ SqL K H a (ns.map V.int) ∧ ns.length ≤ 63 ∧ ∀ H', Q (.bl true) H'
section
variable {P : Program} {w : World} {K : PySem.W.Frag} {mg : Str → Option Value} {base : Heap} {ft : FTab} {gt : Str → Option D} {fns : List Str}
theorem _root_.L2.PSs.some {X : Cx} {st : List Stmt} {t : Addr → Addr → TS} (h : ∀ a b, PSs X st (t a b)) : PSs X st (fun D σ H => ∃ a b, t a b D σ H) := ⟨fun pins s σ H D I ⟨a, b, hw⟩ => (h a b).run pins s σ H D I hw⟩
def lawHead : Stmt → Bool
  | .Assign [.Name pn _] (.Call (.Name f _) [.Name s _] [] _) _ => pn == "pool" && f == "_law_pool" && s == "script"
  | _ => false
theorem law_ok {n : Nat} {st s0 : Stmt} {rest : List Stmt} {fL fP : Addr} {fdL fdP : FuncData} {N : List Str} {body : PD.S} (mok : MgOk mg) (excf : ExcF K mg gt) (glob : ∀ pa x d, gtv gt x = some d → ∃ u v, mg x = some u ∧ RelV v u ∧ ∀ M H, Rep K pa M H d v)
    (hft : ∀ f, fns.contains f = true → ∃ fd, ft.lookup f = some fd ∧ FnText K mg fns f fd)
    (F : L2.Fun K "law" "law" st fL fdL) (S : FnScope N ["script"] (defScope st)) (hb : defBody st = s0 :: rest) (h0 : lawHead s0 = true)
    (FP : FnOk P w K mg base (L2.CX P w) 1 fP fdP ["script"] (spPool K)) (bP : Binds K fdP ["script"] []) (gP : mg "_law_pool" = some (.ref fP)) (kP : PySem.W.keepIn K (.ref fP) = true) (hn : 1 ≤ n)
    (hN : N[1]? = some ("pool" : Str)) (vs : visB (defScope st) "script" = true) (vp : locB (defScope st) "pool" = true) (vf : glB (defScope st) "_law_pool" = true) (chk : chkB N fns (defScope st) body rest = true)
    (ev : ∀ (ns : List Int) (salt : Int), ns.length ≤ 63 → ∃ p', execS (callF ft gt n) gt body (.no :: .val .pool :: List.replicate (N.length - 2) .no) ⟨ns, 0, 0, 0, salt⟩ = .ok (.rt (.bl true)) p') :
    FnG P w K mg base (L2.CX P w) (n + 1) fL fdL ["script"] (spLaw K) := by
  refine fun_okG F S (fun vs H Q E h => ?_) fun cdv A outer s H vs Q E gu hr h => ?_
  · obtain ⟨a, ns, rfl, _⟩ := h
    rfl
  · obtain ⟨a, ns, rfl, hS, hl, q⟩ := h
    have ok : ∀ pa ca, XOk (callF ft gt n) gt fns (exvOf mg) pa ca (fun cls d _ H => E cls d H) n (cxOf (L2.CX P w) P w K mg base N "law" (defScope st) fL cdv A outer s H E) := fun pa ca =>
      ⟨S.nd, rfl, takes_of rfl rfl rfl rfl, hr, gu, fun g hg => levels mok excf (glob pa) hft n g hg, glob pa, excf, rfl, mok.len, mok.sum, mok.max, mok.min, mok.abs, mok.tuple, mok.list, mok.all, mok.any, mok.range, mok.isinstance, mok.int, mok.bool, mok.str, mok.dict, mok.repr, mok.sorted, mok.zip, mok.reversed, mok.set⟩
    have sx : SXOk (cxOf (L2.CX P w) P w K mg base N "law" (defScope st) fL cdv A outer s H E) := ⟨fun _ => rfl, S.kind, passes_of rfl, rfl, rfl⟩
    rw [hb]
    unfold lawHead at h0
    split at h0 <;> first | (cases h0; done) | skip
    simp only [Bool.and_eq_true, beq_iff_eq] at h0
    obtain ⟨⟨rfl, rfl⟩, rfl⟩ := h0
    have hN0 : N[0]? = some ("script" : Str) := by
      have := S.pre
      rw [← List.getElem?_take_of_lt (show 0 < 1 by decide)]
      show (N.take (["script"] : List Str).length)[0]? = _
      rw [this]
      rfl
    have hv : Vis (defScope st) "script" := by
      unfold visB at vs
      split at vs
      · rename_i q; exact .inl q
      · rename_i q; exact .inr (.inl q)
      · rename_i q; exact .inr (.inr q)
      · cases vs
    have hp : L2.Loc (defScope st) "pool" := by
      unfold locB at vp
      split at vp
      · rename_i q; exact .inl q
      · rename_i q; exact .inr q
      · cases vp
    have hg : (defScope st).names.lookup ("_law_pool" : Str) = some .globalImplicit := by
      unfold glB at vf
      split at vf
      · assumption
      · cases vf
    refine ⟨_, pss_cons (ps_set (i := 1) S.nd hN hp (pe_call FP (hr.mono hn) hg gP kP bP .nil passL (pa_cons (pe_var (i := 0) hN0 hv) pa_nil)) rfl (.inl rfl)) (PSs.some fun pa ca => (soundS body).b (ok pa ca) sx rest chk), ?_⟩
    refine ⟨.ref a, ?_, a, ns, rfl, hS, hl, fun pa ca salt H' sm h1 h2 h3 h4 h5 => ?_⟩
    · cases N with
      | nil => cases hN0
      | cons => rfl
    · have nlen : 2 ≤ N.length := by
        have := (List.getElem?_eq_some_iff.mp hN).1
        omega
      obtain ⟨p', e⟩ := ev ns salt hl
      refine ⟨pa, ca, fun b => b = pa ∨ b = ca, fun b => b = pa ∨ b = ca, _, ⟨ns, 0, 0, 0, salt⟩, ?_, by rw [e]; exact fun v H2 _ _ r => by cases r.bl; exact q H2⟩
      refine ⟨⟨h3, Nat.zero_le _, h4, h5⟩, .inl rfl, .inr rfl, fun _ h => h, fun b hb => ?_, fun b ws hb z => ?_, fun i sl es => ?_, fun i j d d' b es => ?_, ?_⟩
      · rcases hb with rfl | rfl
        · rw [h4]; simp
        · rw [h5]; simp
      · rcases hb with rfl | rfl
        · rw [h4] at z; cases z
        · rw [h5] at z; cases z
      · rcases i with _ | _ | i
        · cases es; trivial
        · cases es
          refine ⟨.ref pa, ?_, by unfold Rep; rfl⟩
          rw [List.getElem?_set_self]
          unfold L2.start
          simp
          omega
        · have e2 : (List.replicate (N.length - 2) Sl.no)[i]? = some sl := by simpa using es
          rw [List.getElem?_replicate] at e2
          split at e2
          · cases e2; trivial
          · cases e2
      · exfalso
        rcases i with _ | _ | i
        · cases es
        · cases es
        · have e2 : (List.replicate (N.length - 2) Sl.no)[i]? = some (.own d) := by simpa using es
          rw [List.getElem?_replicate] at e2
          split at e2 <;> cases e2
      · unfold L2.start
        simp
        omega
end
end PD

namespace PD
open PySem PySem.Spec PyProof.Rows L2
def nmIs (x : Str) : Expr → Bool
  | .Name y _ => y == x
  | _ => false
def intIs (i : Int) : Expr → Bool
  | .Constant (.int j) _ _ => j == i
  | _ => false
def poolShape : List Stmt → Bool
  | [.Assign [.Name s0 _] c7 _, .For (.Name ce _) (.Subscript sc (.Slice none (some c63) none _) _) [.Assign [.Name s1 _] (.BinOp (.Call (.Name i0 _) [.BinOp (.BinOp s2 .Mult c31 _) .Add ce2 _] [] _) .Mod cm _) _] [] _,
      .Return (some (.List [.Call (.Name l0 _) [sc2] [] _, z1, z2, z3, s3] _)) _] =>
    s0 == "salt" && intIs 7 c7 && ce == "cell" && nmIs "script" sc && intIs 63 c63 && s1 == "salt" && i0 == "int" && nmIs "salt" s2 && intIs 31 c31 && nmIs "cell" ce2 && intIs 1000003 cm && l0 == "list" && nmIs "script" sc2 && intIs 0 z1 && intIs 0 z2 && intIs 0 z3 && nmIs "salt" s3
  | _ => false
theorem nmIs_of {x : Str} {e : Expr} (h : nmIs x e = true) : ∃ p, e = .Name x p := by
  cases e <;> first | (cases h; done) | skip
  simp only [nmIs, beq_iff_eq] at h
  subst h
  exact ⟨_, rfl⟩
theorem intIs_of {i : Int} {e : Expr} (h : intIs i e = true) : ∃ k p, e = .Constant (.int i) k p := by
  unfold intIs at h
  split at h <;> first | (cases h; done) | skip
  simp only [beq_iff_eq] at h
  subst h
  exact ⟨_, _, rfl⟩
section
variable {P : Program} {w : World} {K : PySem.W.Frag} {mg : Str → Option Value} {base : Heap}
theorem pool_ok {st : Stmt} {f : Addr} {fd : FuncData} (F : L2.Fun K "_law_pool" "_law_pool" st f fd) (S : FnScope ["script", "salt", "cell"] ["script"] (defScope st)) (mok : MgOk mg) (hs : poolShape (defBody st) = true)
    (v0 : visB (defScope st) "script" = true) (v1 : locB (defScope st) "salt" = true) (v2 : locB (defScope st) "cell" = true) (g1 : glB (defScope st) "int" = true) (g2 : glB (defScope st) "list" = true) : FnOk P w K mg base (L2.CX P w) 1 f fd ["script"] (spPool K) := by
  refine F.okX S (fun vs H Q E h => ?_) fun cdv A outer s H vs Q E hr h => ?_
  · obtain ⟨a, ns, rfl, _⟩ := h
    rfl
  · obtain ⟨a, ns, rfl, hS, hl, q⟩ := h
    have hv : Vis (defScope st) "script" := by
      unfold visB at v0
      split at v0
      · rename_i q; exact .inl q
      · rename_i q; exact .inr (.inl q)
      · rename_i q; exact .inr (.inr q)
      · cases v0
    have lo : ∀ {x : Str}, locB (defScope st) x = true → L2.Loc (defScope st) x := fun {x} h => by
      unfold locB at h
      split at h
      · rename_i q; exact .inl q
      · rename_i q; exact .inr q
      · cases h
    have gl : ∀ {x : Str}, glB (defScope st) x = true → (defScope st).names.lookup x = some .globalImplicit := fun {x} h => by
      unfold glB at h
      split at h
      · assumption
      · cases h
    have vi : ∀ {x : Str}, L2.Loc (defScope st) x → Vis (defScope st) x := fun {x} h => by
      rcases h with h | h
      · exact .inl h
      · exact .inr (.inl h)
    generalize defBody st = body at hs ⊢
    unfold poolShape at hs
    split at hs <;> first | (cases hs; done) | skip
    simp only [Bool.and_eq_true, beq_iff_eq] at hs
    obtain ⟨⟨⟨⟨⟨⟨⟨⟨⟨⟨⟨⟨⟨⟨⟨⟨rfl, a1⟩, rfl⟩, a2⟩, a3⟩, rfl⟩, rfl⟩, a4⟩, a5⟩, a6⟩, a7⟩, rfl⟩, a8⟩, a9⟩, b1⟩, b2⟩, b3⟩ := hs
    obtain ⟨_, _, rfl⟩ := intIs_of a1
    obtain ⟨_, rfl⟩ := nmIs_of a2
    obtain ⟨_, _, rfl⟩ := intIs_of a3
    obtain ⟨_, rfl⟩ := nmIs_of a4
    obtain ⟨_, _, rfl⟩ := intIs_of a5
    obtain ⟨_, rfl⟩ := nmIs_of a6
    obtain ⟨_, _, rfl⟩ := intIs_of a7
    obtain ⟨_, rfl⟩ := nmIs_of a8
    obtain ⟨_, _, rfl⟩ := intIs_of a9
    obtain ⟨_, _, rfl⟩ := intIs_of b1
    obtain ⟨_, _, rfl⟩ := intIs_of b2
    obtain ⟨_, rfl⟩ := nmIs_of b3
    have sx : SXOk (cxOf (L2.CX P w) P w K mg base ["script", "salt", "cell"] "_law_pool" (defScope st) f cdv A outer s H E) := ⟨fun _ => rfl, S.kind, passes_of rfl, rfl, rfl⟩
    have pS : ∀ {p}, PE (cxOf (L2.CX P w) P w K mg base ["script", "salt", "cell"] "_law_pool" (defScope st) f cdv A outer s H E) (.Name "script" p) (tVar 0) := pe_var rfl hv
    have p1 : ∀ {p}, PE (cxOf (L2.CX P w) P w K mg base ["script", "salt", "cell"] "_law_pool" (defScope st) f cdv A outer s H E) (.Name "salt" p) (tVar 1) := pe_var rfl (vi (lo v1))
    have p2 : ∀ {p}, PE (cxOf (L2.CX P w) P w K mg base ["script", "salt", "cell"] "_law_pool" (defScope st) f cdv A outer s H E) (.Name "cell" p) (tVar 2) := pe_var rfl (vi (lo v2))
    refine ⟨_, pss_cons (ps_set (i := 1) S.nd rfl (lo v1) pe_int) (pss_cons (ps_for sx.passes rfl (pi_list (pe_slice sl_list pS po_none (po_some pe_int))) (pg_name (i := 2) S.nd rfl (lo v2))
      (pss_one (ps_set (i := 1) S.nd rfl (lo v1) (pe_op op_mod (pe_callTy call_int1 (gl g1) mok.int boot_int' (pa_cons (pe_op op_add (pe_op op_mul p1 pe_int) p2) pa_nil)) pe_int))))
      (pss_one (ps_ret (pe_lst (pa_cons (pe_callTy call_list_of (gl g2) mok.list PyProof.Rows.boot_list (pa_cons pS pa_nil)) (pa_cons pe_int (pa_cons pe_int (pa_cons pe_int (pa_cons p1 pa_nil))))))))), ?_⟩
    refine ⟨.ref a, rfl, 63, rfl, a, _, rfl, hS, fun c hc => ?_⟩
    have s1 : Same H (upd H c (.lst (cutV (ns.map V.int) none (some 63)))) := same_new hc
    have ecut : cutV (ns.map V.int) none (some 63) = ns.map V.int := by
      unfold cutV
      rw [HT.sIx_none, show HT.sIx (ns.map V.int).length (ns.map V.int).length (some 63) = (ns.map V.int).length from by rw [show (some (63 : Int)) = some ((63 : Nat) : Int) from rfl, HT.sIx_nat]; simp; omega]
      rw [List.drop_zero, Nat.sub_zero, List.take_length]
    rw [ecut] at s1 ⊢
    have hC : SqL K (upd H c (.lst (ns.map V.int))) c (ns.map V.int) := .inl (.inl upd_same)
    refine ⟨c, rfl, ⟨_, hC⟩, fun i m σ H3 => i + m = ns.length ∧ H3 = upd H c (.lst (ns.map V.int)) ∧ ∃ (k : Int) (y : Option V), (σ = [some (.ref a), some (.int k), y]), ⟨ns.length, by omega, rfl, 7, none, rfl⟩, fun i m σ H3 ⟨em, e3, k, y, es⟩ => ?_⟩
    subst e3 es
    by_cases hi : i < ns.length
    · have g : (ns.map V.int)[i]? = some (.int ns[i]) := by
        rw [List.getElem?_map, List.getElem?_eq_getElem hi]
        rfl
      refine .inr ⟨⟨_, _, hC, g⟩, fun σ' H' => H' = upd H c (.lst (ns.map V.int)) ∧ ∃ (k : Int) (y : Option V), (σ' = [some (.ref a), some (.int k), y]), fun σ' H' hN => ⟨m - 1, by omega, by omega, hN⟩, fun v H' hy => ?_⟩
      obtain ⟨rfl, fv⟩ := hy
      have ev : v = .int ns[i] := Option.some.inj ((fv _ hC).symm.trans g)
      subst ev
      refine ⟨.int k, rfl, k, 31, rfl, rfl, .inr (by decide), .int ns[i], rfl, _, _, rfl, rfl, .inl ⟨_, rfl, _, _, rfl, rfl, (show (0 : Int) < 1000003 from by decide), ?_⟩⟩
      exact ⟨rfl, _, _, rfl⟩
    · refine .inl ⟨⟨_, hC, by rw [List.length_map]; omega⟩, ?_⟩
      refine ⟨.ref a, rfl, a, ns.map V.int, rfl, .inl (s1.seq hS), fun ca hca => ?_⟩
      refine ⟨.int k, rfl, (show 5 ≤ sizeLine from by rw [sizeLine_eq]; decide), fun pa hpa => ?_⟩
      have hne : pa ≠ ca := fun z => by rw [z, upd_same] at hpa; cases hpa
      have s2 := s1.trans (same_new (o := .lst (ns.map V.int)) hca)
      exact q pa ca k _ (s2.trans (same_new hpa)) (s2.free hpa) (s1.free hca) hne upd_same (by rw [upd_ne hne.symm]; exact upd_same)
end
end PD

namespace PD
open PySem PySem.Spec PyProof.Rows L2
/-- what the top has written of a def -/
structure DefIs (K : PySem.W.Frag) (x : Str) (st : Stmt) : Prop where
  ex : ∃ (f : Addr) (oc : Value) (od an : Option Addr) (sl : Array (Option Value)) (kV dc pm cd ct : Value), PySem.W.nsIn K mainGlobals x = some (some (.ref f)) ∧
    K.lookup f = some ⟨oc, od, .func (PySem.W.fnOf x x (defArgs st) (defBody st) (defScope st) .none kV dc pm an cd ct), sl⟩ ∧ PySem.W.codeIn K cd x = true ∧ PySem.W.keepIn K (.ref f) = true
theorem defIs {K : PySem.W.Frag} {x : Str} {st : Stmt} {f : Addr} {oc : Value} {od an : Option Addr} {sl : Array (Option Value)} {kV dc pm cd ct : Value} (a : PySem.W.nsIn K mainGlobals x = some (some (.ref f)))
    (l : K.lookup f = some ⟨oc, od, .func (PySem.W.fnOf x x (defArgs st) (defBody st) (defScope st) .none kV dc pm an cd ct), sl⟩) (c : PySem.W.codeIn K cd x = true) (k : PySem.W.keepIn K (.ref f) = true) : DefIs K x st :=
  ⟨⟨f, oc, od, an, sl, kV, dc, pm, cd, ct, a, l, c, k⟩⟩
theorem cx_none {P : Program} {w : World} {H : Hp} {s : Shared} {e : Value} {s' : Shared} (h : L2.CX P w [] H s (fun _ _ _ => False) e s') : False := by
  obtain ⟨_, _, _, _, _, _, _, _, _, _, _, _, z⟩ := h
  exact z
def OneArg (st : Stmt) (n : Nat) (ps : List Str) : Prop := ∀ (x : Str) (kV doc pm : Value) (an : Option Addr) (cdv ct : Value) (us : List Value), us.length = n → bindArgs (PySem.W.fnOf x x (defArgs st) (defBody st) (defScope st) .none kV doc pm an cdv ct) ⟨us, []⟩ = pure (ps.zip us)
section
variable {K : PySem.W.Frag} {h : Heap} {mg : Str → Option Value} {fns : List Str}
theorem DefIs.out {x : Str} {st : Stmt} (X : K.In h) (G : h.Ns mainGlobals mg) (d : DefIs K x st) : ∃ fa fd, mg x = some (.ref fa) ∧ L2.Fun K x x st fa fd := by
  obtain ⟨f, oc, od, an, sl, kV, dc, pm, cd, ct, a, l, c, k⟩ := d.ex
  exact ⟨f, _, PySem.W.mg_of X G a, fun_mk l c k⟩
/-- the text of one def, but for its object -/
structure TextIs (fns : List Str) (st : Stmt) (fd : FDef) : Prop where
  ex : ∃ (N ps : List Str), FnScope N ps (defScope st) ∧ ps.length = fd.params ∧ N.length = fd.slots ∧ chkB N fns (defScope st) fd.body (defBody st) = true ∧ OneArg st ps.length ps
theorem TextIs.fn {f : Str} {st : Stmt} {fd : FDef} (t : TextIs fns st fd) (X : K.In h) (G : h.Ns mainGlobals mg) (d : DefIs K f st) : FnText K mg fns f fd := by
  obtain ⟨N, ps, h1, h2, h3, h4, h5⟩ := t.ex
  obtain ⟨fa, fdata, g, F⟩ := d.out X G
  exact ⟨⟨N, ps, st, fa, fdata, g, F, h1, h2, h3, h4, F.binds fun kV doc pm an cdv ct us hl => h5 f kV doc pm an cdv ct us hl⟩⟩
def AllText (K : PySem.W.Frag) (mg : Str → Option Value) (fns : List Str) : FTab → Prop
  | [] => True
  | q :: r => FnText K mg fns q.1 q.2 ∧ AllText K mg fns r
theorem hft_of {ft0 : FTab} : ∀ {ft : FTab}, AllText K mg fns ft → ∀ f, (ft.map (·.1)).contains f = true → ∃ fd, ft.lookup f = some fd ∧ FnText K mg fns f fd := by
  intro ft
  induction ft with
  | nil => intro _ f hf; simp at hf
  | cons q r ih =>
    intro ⟨h1, h2⟩ f hf
    obtain ⟨x, fd⟩ := q
    rw [List.lookup_cons]
    by_cases e : f = x
    · subst e
      rw [beq_self_eq_true]
      exact ⟨fd, rfl, h1⟩
    · have hb : (f == x) = false := by simpa using e
      rw [hb]
      refine ih h2 f ?_
      rw [List.map_cons, List.contains_cons] at hf
      have hb' : (f == x) = false := hb
      simpa [hb'] using hf
theorem mgOk_of (X : K.In h) (G : h.Ns mainGlobals mg) (z : ∀ x ∈ (["len", "sum", "max", "min", "abs", "tuple", "list", "all", "any", "range", "isinstance", "int", "bool", "str", "dict", "repr", "sorted", "zip", "reversed", "set"] : List Str), PySem.W.nsIn K mainGlobals x = some none) : MgOk mg := by
  have k : ∀ x ∈ (["len", "sum", "max", "min", "abs", "tuple", "list", "all", "any", "range", "isinstance", "int", "bool", "str", "dict", "repr", "sorted", "zip", "reversed", "set"] : List Str), mg x = none := fun x hx => PySem.W.mg_none_of X G (z x hx)
  exact ⟨k _ (by decide), k _ (by decide), k _ (by decide), k _ (by decide), k _ (by decide), k _ (by decide), k _ (by decide), k _ (by decide), k _ (by decide), k _ (by decide), k _ (by decide), k _ (by decide), k _ (by decide), k _ (by decide), k _ (by decide), k _ (by decide), k _ (by decide), k _ (by decide), k _ (by decide), k _ (by decide)⟩
/-- the law's text, as far as it is looked at -/
structure LawText (fns : List Str) (sL sP : Stmt) (N : List Str) (body : PD.S) : Prop where
  ex : ∃ (s0 : Stmt) (rest : List Stmt), FnScope N ["script"] (defScope sL) ∧ defBody sL = s0 :: rest ∧ lawHead s0 = true ∧ N[1]? = some ("pool" : Str) ∧ visB (defScope sL) "script" = true ∧ locB (defScope sL) "pool" = true ∧ glB (defScope sL) "_law_pool" = true ∧
    chkB N fns (defScope sL) body rest = true
  pool : FnScope ["script", "salt", "cell"] ["script"] (defScope sP) ∧ poolShape (defBody sP) = true ∧ visB (defScope sP) "script" = true ∧ locB (defScope sP) "salt" = true ∧ locB (defScope sP) "cell" = true ∧ glB (defScope sP) "int" = true ∧ glB (defScope sP) "list" = true
  one : OneArg sP 1 ["script"]
  oneL : OneArg sL 1 ["script"]
theorem all_of {P : Program} {w : World} {fa : Addr} {ft : FTab} {gt : Str → Option D} {n : Nat} {sL sP : Stmt} {N : List Str} {body : PD.S} (X : K.In h) (G : h.Ns mainGlobals mg) (hfa : mg "law" = some (.ref fa)) (z : ∀ x ∈ (["len", "sum", "max", "min", "abs", "tuple", "list", "all", "any", "range", "isinstance", "int", "bool", "str", "dict", "repr", "sorted", "zip", "reversed", "set"] : List Str), PySem.W.nsIn K mainGlobals x = some none)
    (dL : DefIs K "law" sL) (dP : DefIs K "_law_pool" sP) (L : LawText (ft.map (·.1)) sL sP N body) (excf : ExcF K mg gt) (glob : ∀ pa x d, gtv gt x = some d → ∃ u v, mg x = some u ∧ RelV v u ∧ ∀ M H, Rep K pa M H d v) (A : AllText K mg (ft.map (·.1)) ft) (hn : 1 ≤ n)
    (ev : ∀ (ns : List Int) (salt : Int), ns.length ≤ 63 → ∃ p', execS (callF ft gt n) gt body (.no :: .val .pool :: List.replicate (N.length - 2) .no) ⟨ns, 0, 0, 0, salt⟩ = .ok (.rt (.bl true)) p') :
    ∃ fd : FuncData, (∀ (s : Shared) (v : Value), BindsTo s fd ⟨[v], []⟩ [("script", v)]) ∧ ∀ base : Heap, K.In base → base.Ns mainGlobals mg → FnG P w K mg base (L2.CX P w) (n + 1) fa fd ["script"] (spLaw K) := by
  obtain ⟨f, oc, od, an, sl, kV, dc, pm, cd, ct, a, l, c, k⟩ := dL.ex
  have e := hfa.symm.trans (PySem.W.mg_of X G a)
  cases e
  have FL := fun_mk (st := sL) l c k
  obtain ⟨fP, fdP, gP, FP⟩ := dP.out X G
  obtain ⟨s0, rest, h1, h2, h3, h4, h5, h6, h7, h8⟩ := L.ex
  obtain ⟨p1, p2, p3, p4, p5, p6, p7⟩ := L.pool
  have mok := mgOk_of X G z
  refine ⟨_, fun s v => .of_eq (L.oneL _ _ _ _ _ _ _ [v] rfl), fun base _ _ => law_ok mok excf glob (hft_of (ft0 := ft) A) FL h1 h2 h3 (pool_ok FP p1 mok p2 p3 p4 p5 p6 p7) (FP.binds fun kV doc pm an cdv ct us hl => L.one _ kV doc pm an cdv ct us hl) gP FP.kp hn h4 h5 h6 h7 h8 ev⟩
/-! ### the module's constants -/
def ConstIs (K : PySem.W.Frag) (mg : Str → Option Value) (x : Str) (d : D) : Prop := ∀ pa, ∃ u v, mg x = some u ∧ RelV v u ∧ ∀ M H, Rep K pa M H d v
def AllConst (K : PySem.W.Frag) (mg : Str → Option Value) : List (Str × D) → Prop
  | [] => True
  | q :: r => ConstIs K mg q.1 q.2 ∧ AllConst K mg r
theorem glob_of : ∀ {cs : List (Str × D)}, AllConst K mg cs → ∀ pa x d, cs.lookup x = some d → ∃ u v, mg x = some u ∧ RelV v u ∧ ∀ M H, Rep K pa M H d v := by
  intro cs
  induction cs with
  | nil => intro _ pa x d e; cases e
  | cons q r ih =>
    intro ⟨h1, h2⟩ pa x d e
    obtain ⟨y, d1⟩ := q
    rw [List.lookup_cons] at e
    by_cases z : x = y
    · subst z
      rw [beq_self_eq_true] at e
      cases e
      exact h1 pa
    · have hb : (x == y) = false := by simpa using z
      rw [hb] at e
      exact ih h2 pa x d e
theorem const_int {x : Str} {i : Int} {t : Tok} (X : K.In h) (G : h.Ns mainGlobals mg) (a : PySem.W.nsIn K mainGlobals x = some (some (.int i t))) : ConstIs K mg x (.int i) := fun _ => ⟨_, .int i, PySem.W.mg_of X G a, ⟨t, rfl⟩, fun _ _ => rep_int⟩
theorem const_str {x : Str} {i : Str} {t : Tok} (X : K.In h) (G : h.Ns mainGlobals mg) (a : PySem.W.nsIn K mainGlobals x = some (some (.str i t))) : ConstIs K mg x (.str i) := fun _ => ⟨_, .str i, PySem.W.mg_of X G a, ⟨t, rfl⟩, fun _ _ => rep_str⟩
theorem const_tup {x : Str} {b : Addr} {od : Option Addr} {its : Array Value} {n : Nat} {sl : Array (Option Value)} {ss : List Str} (X : K.In h) (G : h.Ns mainGlobals mg) (a : PySem.W.nsIn K mainGlobals x = some (some (.ref b))) (l : K.lookup b = some ⟨.type "tuple", od, .seq its n, sl⟩) (z : its.size ≤ sizeLine)
    (hv : Vals (ss.map V.str) its.toList) : ConstIs K mg x (.ctup ss) := fun pa => ⟨_, .ref b, PySem.W.mg_of X G a, rfl, fun M H => by
  unfold Rep
  exact ⟨b, rfl, _, its, n, l, rfl, rfl, z, hv⟩⟩
/-! ### the module's classes of exceptions -/
def gtOf (cs : List (Str × D)) (cls : List Str) : Str → Option D := fun x => match cs.lookup x with
  | some d => some d
  | none => if cls.contains x = true then some .pool else none
theorem glob_gtOf {cs : List (Str × D)} {cls : List Str} (A : AllConst K mg cs) : ∀ pa x d, gtv (gtOf cs cls) x = some d → ∃ u v, mg x = some u ∧ RelV v u ∧ ∀ M H, Rep K pa M H d v := fun pa x d e => by
  refine glob_of A pa x d ?_
  unfold gtv gtOf at e
  cases h : cs.lookup x with
  | none =>
    rw [h] at e
    dsimp only at e
    by_cases z : cls.contains x = true
    · rw [if_pos z] at e; cases e
    · rw [if_neg z] at e; cases e
  | some d' =>
    rw [h] at e
    cases d' <;> first | exact e | cases e
theorem cls_gtOf {cs : List (Str × D)} {cls : List Str} (hp : ∀ q ∈ cs, (match q.2 with | .pool => true | _ => false) = false) {c : Str} (h : clsB (gtOf cs cls) c = true) : c ∈ cls := by
  unfold clsB gtOf at h
  cases e : cs.lookup c with
  | none =>
    rw [e] at h
    dsimp only at h
    by_cases z : cls.contains c = true
    · exact List.contains_iff_mem.mp z
    · rw [if_neg z] at h; cases h
  | some d =>
    rw [e] at h
    have hm : (c, d) ∈ cs := by
      clear h hp
      induction cs with
      | nil => cases e
      | cons q r ih =>
        obtain ⟨y, d1⟩ := q
        rw [List.lookup_cons] at e
        by_cases z : c = y
        · subst z
          rw [beq_self_eq_true] at e
          cases e
          exact List.mem_cons_self
        · have hb : (c == y) = false := by simpa using z
          rw [hb] at e
          exact List.mem_cons_of_mem _ (ih e)
    have := hp _ hm
    cases d <;> first | (cases h; done) | cases this
theorem excF_none : ExcF K mg fun _ => none := ⟨fun c h => (by cases h), fun c h => (by cases h), fun c h C hv k => (by cases k)⟩
/-- where the classes stand -/
inductive ClsAt (K : PySem.W.Frag) (mg : Str → Option Value) : Str → Value → Prop
  | own {c : Str} {C : Addr} (h : ownB c = true) (g : mg c = some (.ref C)) (o : OwnOk K C) (d : PySem.W.hasDictIn K C = true) : ClsAt K mg c (.ref C)
  | boot (g : mg "ValueError" = none) (s : PySem.W.subIn K (.type "ValueError") (.type "BaseException") = some true) : ClsAt K mg "ValueError" (.type "ValueError")
def AllCls (K : PySem.W.Frag) (mg : Str → Option Value) : List (Str × Value) → Prop
  | [] => True
  | q :: r => (ClsAt K mg q.1 q.2 ∧ (q.1 == ("__debug__" : Str)) = false) ∧ AllCls K mg r
theorem AllCls.mem : ∀ {l : List (Str × Value)}, AllCls K mg l → ∀ q ∈ l, ClsAt K mg q.1 q.2 ∧ (q.1 == ("__debug__" : Str)) = false
  | [], _, _, h => by cases h
  | x :: l, ⟨h1, h2⟩, q, h => by
    rcases List.mem_cons.mp h with rfl | h
    · exact h1
    · exact AllCls.mem h2 q h
theorem boot_VE : bootBuiltins "ValueError" = some (.type "ValueError") := by decide +kernel
theorem kit_VE : PySem.W.kitMeta "ValueError" = true := by decide +kernel
theorem ClsAt.is {c : Str} {v : Value} (h : ClsAt K mg c v) : IsCls mg c v ∧ ∀ w, IsCls mg c w → w = v := by
  cases h with
  | own h g o d =>
    refine ⟨.inl g, fun w hw => ?_⟩
    rcases hw with hw | ⟨hw, _⟩
    · rw [g] at hw; cases hw; rfl
    · rw [g] at hw; cases hw
  | boot g s =>
    refine ⟨.inr ⟨g, boot_VE, by decide⟩, fun w hw => ?_⟩
    rcases hw with hw | ⟨_, hw, _⟩
    · rw [g] at hw; cases hw
    · rw [boot_VE] at hw; cases hw; rfl
theorem excF_of {gt : Str → Option D} (l : List (Str × Value)) (A : AllCls K mg l) (R : ∀ q ∈ l, ∀ r ∈ l, ownB q.1 = true → PySem.W.subIn K q.2 r.2 = some (subB q.1 r.1)) (hc : ∀ c, clsB gt c = true → c ∈ l.map (·.1)) : ExcF K mg gt := by
  have at' : ∀ c, clsB gt c = true → ∃ v, (c, v) ∈ l ∧ ClsAt K mg c v ∧ (c == ("__debug__" : Str)) = false := fun c h => by
    obtain ⟨q, hq, rfl⟩ := List.mem_map.mp (hc c h)
    exact ⟨q.2, hq, A.mem q hq⟩
  refine ⟨fun c h ho => ?_, fun h hh => ?_, fun c h C hv kc ko kh gC hcls => ?_⟩
  · obtain ⟨v, _, k, _⟩ := at' c h
    cases k with
    | own _ g o _ => exact ⟨_, g, o⟩
    | boot _ _ => cases ho
  · obtain ⟨v, _, k, d⟩ := at' h hh
    refine ⟨d, v, k.is.1, ?_⟩
    cases k with
    | own _ g o _ => exact .inl ⟨_, rfl⟩
    | boot _ _ => exact .inr ⟨_, rfl⟩
  · obtain ⟨v, m, k, _⟩ := at' c kc
    obtain ⟨v', m', k', _⟩ := at' h kh
    have := k'.is.2 hv hcls
    subst this
    have ev := k.is.2 (.ref C) (.inl gC)
    subst ev
    have sb := R _ m _ m' ko
    have hC : ∃ hd, PySem.W.hasDictIn K C = hd := ⟨_, rfl⟩
    cases k' with
    | own h0' g' o' d' =>
      rename_i C'
      have e1 := PySem.W.exm_ref o'.sub d' o'.ty sb
      refine ⟨e1, ?_⟩
      unfold PySem.W.exmOne at e1
      have hb : (PySem.W.subIn K (.ref C') (.type "BaseException") == some true) = true := by rw [o'.sub]; rfl
      rw [if_pos hb] at e1
      unfold PySem.W.kitOne
      split
      · rename_i z
        have z : Value.ref C = Value.ref C' := by simpa using z
        injection z with z
        subst z
        have s3 := R _ m _ m ko
        rw [show (subB c c) = true by simp [subB]] at s3
        rw [← s3]
        exact sb
      · exact e1
    | boot g s =>
      have hb : (PySem.W.subIn K (.type "ValueError") (.type "BaseException") == some true) = true := by rw [s]; rfl
      have e2 : PySem.W.kitCls K (.ref C) (.type "ValueError") = some (subB c "ValueError") := by
        unfold PySem.W.kitCls
        dsimp only
        rw [if_pos kit_VE]
        exact sb
      refine ⟨?_, ?_⟩
      · unfold PySem.W.exmOne
        rw [if_pos hb]
        exact e2
      · unfold PySem.W.kitOne
        rw [if_neg (by simp)]
        exact e2
end
end PD

/-! running the evaluator by rewriting: every continuation is a word of its own -/
namespace PD
open PySem PySem.Spec PyProof.Rows L2
def getV : Option (Option D) → PSt → Out D
  | some (some d), p => .ok d p
  | _, _ => .bad
@[simp] theorem getV_some (d : D) (p : PSt) : getV (some (some d)) p = .ok d p := nr rfl
def brB (b : Bool) (f g : PSt → Out D) (p : PSt) : Out D := if b = true then f p else g p
@[simp] theorem brB_true (f g : PSt → Out D) (p : PSt) : brB true f g p = f p := nr rfl
@[simp] theorem brB_false (f g : PSt → Out D) (p : PSt) : brB false f g p = g p := nr rfl
section
variable (cf : Str → List D → PSt → Out D) (gt : Str → Option D)
def kB2 (o : Bop) (x y : D) (p : PSt) : Out D := lift (binD o x y) p
def kB1 (o : Bop) (b : E) (env : Env) (x : D) (p : PSt) : Out D := (evalE cf gt b env p).bind (kB2 o x)
def kNeg (x : D) (p : PSt) : Out D := lift (negD x) p
def okB : Option Bool → PSt → Out D
  | some b, p => .ok (.bl b) p
  | none, _ => .bad
def kC2 (o : Cop) (x y : D) (p : PSt) : Out D := okB (cmpD o x y) p
def kC1 (o : Cop) (b : E) (env : Env) (x : D) (p : PSt) : Out D := (evalE cf gt b env p).bind (kC2 o x)
def chO (o' : Cop) (c : E) (env : Env) (y : D) : Option Bool → PSt → Out D
  | some b, p => if b = true then (evalE cf gt c env p).bind (kC2 o' y) else .ok (.bl false) p
  | none, _ => .bad
def kCh2 (o o' : Cop) (c : E) (env : Env) (x y : D) (p : PSt) : Out D := chO cf gt o' c env y (cmpD o x y) p
def kCh1 (o o' : Cop) (b c : E) (env : Env) (x : D) (p : PSt) : Out D := (evalE cf gt b env p).bind (kCh2 cf gt o o' c env x)
def kIsn (x : D) (p : PSt) : Out D := .ok (.bl (isNonD x)) p
def kNotn (x : D) (p : PSt) : Out D := .ok (.bl (!isNonD x)) p
def kNot : D → PSt → Out D
  | .bl b, p => .ok (.bl (!b)) p
  | _, _ => .bad
def kAnd (b : E) (env : Env) : D → PSt → Out D
  | .bl t, p => if t = true then evalE cf gt b env p else .ok (.bl false) p
  | _, _ => .bad
def kOr (b : E) (env : Env) : D → PSt → Out D
  | .bl t, p => if t = true then .ok (.bl true) p else evalE cf gt b env p
  | _, _ => .bad
def kIte (a b : E) (env : Env) : D → PSt → Out D
  | .bl t, p => if t = true then evalE cf gt a env p else evalE cf gt b env p
  | _, _ => .bad
def kTup (xs : List D) (p : PSt) : Out D := if xs.length ≤ sizeLine then .ok (.tup xs) p else .bad
def kLst (xs : List D) (p : PSt) : Out D := if xs.length ≤ sizeLine then .ok (.lst xs) p else .bad
def kIx2 (x y : D) (p : PSt) : Out D := lift (idxD x y) p
def kIx1 (i : E) (env : Env) (x : D) (p : PSt) : Out D := (evalE cf gt i env p).bind (kIx2 x)
def kSl3 (x : D) (l h : Option Int) (p : PSt) : Out D := lift (sliceD x l h) p
def kSl2 (hi : E) (env : Env) (x : D) (l : Option Int) (p : PSt) : Out D := (evalO cf gt hi env p).bind (kSl3 x l)
def kSl1 (lo hi : E) (env : Env) (x : D) (p : PSt) : Out D := (evalO cf gt lo env p).bind (kSl2 cf gt hi env x)
def kRev (x : D) (p : PSt) : Out D := lift (revD x) p
def kBi (b : Bi) (xs : List D) (p : PSt) : Out D := lift (biD b xs) p
def kIsi (t : Ty) (x : D) (p : PSt) : Out D := okB (isD t x) p
def kRng1 (x : D) (p : PSt) : Out D := lift (rngD [x]) p
def kRng2b (x y : D) (p : PSt) : Out D := lift (rngD [x, y]) p
def kRng2 (b : E) (env : Env) (x : D) (p : PSt) : Out D := (evalE cf gt b env p).bind (kRng2b x)
def kPick2 (ks : List Str) (xs : List D) (y : D) (p : PSt) : Out D := lift (pickD ks xs y) p
def kPick (ks : List Str) (k : E) (env : Env) (xs : List D) (p : PSt) : Out D := (evalE cf gt k env p).bind (kPick2 ks xs)
def kSome (y : D) (p : PSt) : Out (Option D) := .ok (some y) p
def kCo (elt : E) (env : Env) (b : Bool) (p : PSt) : Out (Option D) := if b = true then (evalE cf gt elt env p).bind kSome else .ok none p
def fC (elt : E) (tg : Tg) (c : E) (env : Env) (x : D) (p : PSt) : Out (Option D) := match bindTg tg x env with
  | none => .bad
  | some env' => (evalC cf gt c env' p).bind (kCo cf gt elt env')
def onItems (f : D → PSt → Out (Option D)) : Option (List D) → PSt → Out D
  | some xs, p => compL f xs [] p
  | none, _ => .bad
def kComp (elt : E) (tg : Tg) (c : E) (env : Env) (x : D) (p : PSt) : Out D := onItems (fC cf gt elt tg c env) (itemsD x) p
def kCons (x : D) (xs : List D) (p : PSt) : Out (List D) := .ok (x :: xs) p
def kArgs (r : E) (env : Env) (x : D) (p : PSt) : Out (List D) := (evalEs cf gt r env p).bind (kCons x)
def kOI (x : D) (p : PSt) : Out (Option Int) := lift (optInt x) p
def kTr (x : D) (p : PSt) : Out Bool := lift (truthD x) p
def kRng3c (x y z : D) (p : PSt) : Out D := lift (rng3D [x, y, z]) p
def kRng3b (c : E) (env : Env) (x y : D) (p : PSt) : Out D := (evalE cf gt c env p).bind (kRng3c x y)
def kRng3 (b c : E) (env : Env) (x : D) (p : PSt) : Out D := (evalE cf gt b env p).bind (kRng3b cf gt c env x)
def kRevr : D → PSt → Out D
  | .int n, p => if in62 n then .ok (.lst (rangeL 0 n.toNat).reverse) p else .bad
  | _, _ => .bad
def kRevd : D → PSt → Out D
  | .lst xs, p => .ok (.lst xs.reverse) p
  | .tup xs, p => .ok (.lst xs.reverse) p
  | _, _ => .bad
def kTrev : D → PSt → Out D
  | .lst xs, p => .ok (.tup xs.reverse) p
  | _, _ => .bad
def kZip2 (x y : D) (p : PSt) : Out D := lift (zipD x y) p
def kZip (b : E) (env : Env) (x : D) (p : PSt) : Out D := (evalE cf gt b env p).bind (kZip2 x)
def kLzip2 (x y : D) (p : PSt) : Out D := lift (lzipD x y) p
def kLzip (b : E) (env : Env) (x : D) (p : PSt) : Out D := (evalE cf gt b env p).bind (kLzip2 x)
def kLrng : D → PSt → Out D
  | .int n, p => if in62 n && decide (n ≤ 16777216) then .ok (.lst (rangeL 0 n.toNat)) p else .bad
  | _, _ => .bad
def kTrng : D → PSt → Out D
  | .int n, p => if in62 n && decide (n ≤ 16777216) then .ok (.tup (rangeL 0 n.toNat)) p else .bad
  | _, _ => .bad
def sortI (ns : List Int) : List Int := (onceL ns).mergeSort fun a b => decide (a ≤ b)
def kSortset : D → PSt → Out D
  | .lst xs, p => match intsD xs with
    | some ns => if ns.length ≤ 4000 ∧ (onceL ns).length < 64 then .ok (.lst ((sortI ns).map .int)) p else .bad
    | none => .bad
  | _, _ => .bad
def kDget2 (t : Bool) (ks vs : List D) (y : D) (p : PSt) : Out D := if isKey t y = true then .ok ((dget ks vs y).getD .non) p else .bad
def kDget (k : E) (env : Env) : D → PSt → Out D
  | .dict t ks vs, p => (evalE cf gt k env p).bind (kDget2 t ks vs)
  | _, _ => .bad
def kDget2c (t : Bool) (ks vs : List D) (y z : D) (p : PSt) : Out D := if isKey t y = true then .ok ((dget ks vs y).getD z) p else .bad
def kDget2b (t : Bool) (ks vs : List D) (d : E) (env : Env) (y : D) (p : PSt) : Out D := (evalE cf gt d env p).bind (kDget2c t ks vs y)
def kDget2a (k d : E) (env : Env) : D → PSt → Out D
  | .dict t ks vs, p => (evalE cf gt k env p).bind (kDget2b cf gt t ks vs d env)
  | _, _ => .bad
def kDd2 (x y : D) (p : PSt) : Out D := if isKey false x = true then .ok (.dict false [x] [y]) p else .bad
def kDe4 (x y x2 y2 : D) (p : PSt) : Out D := if isKey false x && isKey false x2 then .ok (.dict false (dputK [x] x2) (dputV [x] [y] x2 y2)) p else .bad
def kDt4 (x y x2 y2 : D) (p : PSt) : Out D := if isKey true x && isKey true x2 then .ok (.dict true (dputK [x] x2) (dputV [x] [y] x2 y2)) p else .bad
def kDt3 (v2 : E) (env : Env) (x y x2 : D) (p : PSt) : Out D := (evalE cf gt v2 env p).bind (kDt4 x y x2)
def kDt2 (k2 v2 : E) (env : Env) (x y : D) (p : PSt) : Out D := (evalE cf gt k2 env p).bind (kDt3 cf gt v2 env x y)
def kDt1 (v k2 v2 : E) (env : Env) (x : D) (p : PSt) : Out D := (evalE cf gt v env p).bind (kDt2 cf gt k2 v2 env x)
def kDe3 (v2 : E) (env : Env) (x y x2 : D) (p : PSt) : Out D := (evalE cf gt v2 env p).bind (kDe4 x y x2)
def kDe2 (k2 v2 : E) (env : Env) (x y : D) (p : PSt) : Out D := (evalE cf gt k2 env p).bind (kDe3 cf gt v2 env x y)
def kDe1 (v k2 v2 : E) (env : Env) (x : D) (p : PSt) : Out D := (evalE cf gt v env p).bind (kDe2 cf gt k2 v2 env x)
def kDd1 (v : E) (env : Env) (x : D) (p : PSt) : Out D := (evalE cf gt v env p).bind (kDd2 x)
def kDpairs (t : Bool) (x : D) (p : PSt) : Out D := lift (pairsD t x) p
def kDcopy : D → PSt → Out D
  | .dict false ks vs, p => .ok (.dict false ks vs) p
  | _, _ => .bad
def kDc2 (x y : D) (p : PSt) : Out (Option (D × D)) := .ok (some (x, y)) p
def kDc1 (v : E) (env : Env) (x : D) (p : PSt) : Out (Option (D × D)) := (evalE cf gt v env p).bind (kDc2 x)
def kDc (k v : E) (env : Env) (b : Bool) (p : PSt) : Out (Option (D × D)) := if b = true then (evalE cf gt k env p).bind (kDc1 cf gt v env) else .ok none p
def fDC (k v : E) (tg : Tg) (c : E) (env : Env) (x : D) (p : PSt) : Out (Option (D × D)) := match bindTg tg x env with
  | none => .bad
  | some env' => (evalC cf gt c env' p).bind (kDc cf gt k v env')
def onDItems (f : D → PSt → Out (Option (D × D))) : Option (List D) → PSt → Out D
  | some xs, p => compDL false f xs [] [] p
  | none, _ => .bad
def kDcomp (k v : E) (tg : Tg) (c : E) (env : Env) (x : D) (p : PSt) : Out D := onDItems (fDC cf gt k v tg c env) (itemsD x) p
def kND (y : D) (p : PSt) : Out (Option D) := if D.noDict y = true then .ok (some y) p else .bad
def kCoN (elt : E) (env : Env) (b : Bool) (p : PSt) : Out (Option D) := if b = true then (evalE cf gt elt env p).bind kND else .ok none p
def fCN (elt : E) (tg : Tg) (c : E) (env : Env) (x : D) (p : PSt) : Out (Option D) := match bindTg tg x env with
  | none => .bad
  | some env' => (evalC cf gt c env' p).bind (kCoN cf gt elt env')
def kCompD (elt : E) (tg : Tg) (c : E) (env : Env) (p : PSt) : Option (Option D) → Out D
  | some (some (.dict _ ks _)) => compL (fCN cf gt elt tg c env) ks [] p
  | _ => .bad
theorem bind_congr' {α β : Type} {a : Out α} {f g : α → PSt → Out β} (h : ∀ x p, f x p = g x p) : a.bind f = a.bind g := by
  cases a with
  | ok x p => exact h x p
  | exc _ _ _ => rfl
  | bad => rfl
theorem lift_map {o : Option Bool} {p : PSt} : lift (o.map D.bl) p = okB o p := by cases o <;> rfl
variable {cf gt} {env : Env} {p : PSt}
@[simp] theorem e_var (i : Nat) : evalE cf gt (.var i) env p = getV env[i]? p := by
  unfold evalE
  cases env[i]? with
  | none => rfl
  | some x => cases x <;> rfl
@[simp] theorem e_glob (x : Str) : evalE cf gt (.glob x) env p = lift (gtv gt x) p := by unfold evalE; rfl
@[simp] theorem e_int (i : Int) : evalE cf gt (.int i) env p = .ok (.int i) p := by unfold evalE; rfl
@[simp] theorem e_str (i : Str) : evalE cf gt (.str i) env p = .ok (.str i) p := by unfold evalE; rfl
@[simp] theorem e_bl (i : Bool) : evalE cf gt (.bl i) env p = .ok (.bl i) p := by unfold evalE; rfl
@[simp] theorem e_non : evalE cf gt .non env p = .ok .non p := by unfold evalE; rfl
@[simp] theorem e_bin (o a b) : evalE cf gt (.bin o a b) env p = (evalE cf gt a env p).bind (kB1 cf gt o b env) := by rw [evalE]; rfl
@[simp] theorem e_neg (a) : evalE cf gt (.neg a) env p = (evalE cf gt a env p).bind kNeg := by rw [evalE]; rfl
@[simp] theorem e_cmp (o a b) : evalE cf gt (.cmp o a b) env p = (evalE cf gt a env p).bind (kC1 cf gt o b env) := by
  rw [evalE]
  exact bind_congr' fun x p => bind_congr' fun y p => lift_map
@[simp] theorem e_chain (o o' a b c) : evalE cf gt (.chain o o' a b c) env p = (evalE cf gt a env p).bind (kCh1 cf gt o o' b c env) := by
  rw [evalE]
  refine bind_congr' fun x p => bind_congr' fun y p => ?_
  unfold kCh2 chO
  cases cmpD o x y with
  | none => rfl
  | some b =>
    cases b with
    | false => rfl
    | true => exact bind_congr' fun z p => lift_map
@[simp] theorem e_isn (a) : evalE cf gt (.isn a) env p = (evalE cf gt a env p).bind kIsn := by rw [evalE]; rfl
@[simp] theorem e_notn (a) : evalE cf gt (.notn a) env p = (evalE cf gt a env p).bind kNotn := by rw [evalE]; rfl
@[simp] theorem e_not (a) : evalE cf gt (.not a) env p = (evalE cf gt a env p).bind kNot := by
  rw [evalE]
  exact bind_congr' fun x p => by cases x <;> rfl
@[simp] theorem e_and (a b) : evalE cf gt (.and a b) env p = (evalE cf gt a env p).bind (kAnd cf gt b env) := by
  rw [evalE]
  refine bind_congr' fun x p => ?_
  cases x <;> first | rfl | skip
  rename_i t; cases t <;> rfl
@[simp] theorem e_or (a b) : evalE cf gt (.or a b) env p = (evalE cf gt a env p).bind (kOr cf gt b env) := by
  rw [evalE]
  refine bind_congr' fun x p => ?_
  cases x <;> first | rfl | skip
  rename_i t; cases t <;> rfl
@[simp] theorem e_ite (c a b) : evalE cf gt (.ite c a b) env p = (evalE cf gt c env p).bind (kIte cf gt a b env) := by
  rw [evalE]
  refine bind_congr' fun x p => ?_
  cases x <;> first | rfl | skip
  rename_i t; cases t <;> rfl
@[simp] theorem e_tup (es) : evalE cf gt (.tup es) env p = (evalEs cf gt es env p).bind kTup := by rw [evalE]; rfl
@[simp] theorem e_lst (es) : evalE cf gt (.lst es) env p = (evalEs cf gt es env p).bind kLst := by rw [evalE]; rfl
@[simp] theorem e_idx (a i) : evalE cf gt (.idx a i) env p = (evalE cf gt a env p).bind (kIx1 cf gt i env) := by rw [evalE]; rfl
@[simp] theorem e_sl (a l h) : evalE cf gt (.sl a l h) env p = (evalE cf gt a env p).bind (kSl1 cf gt l h env) := by rw [evalE]; rfl
@[simp] theorem e_rev (a) : evalE cf gt (.rev a) env p = (evalE cf gt a env p).bind kRev := by rw [evalE]; rfl
@[simp] theorem e_call (f es) : evalE cf gt (.call f es) env p = (evalEs cf gt es env p).bind (cf f) := by rw [evalE]
@[simp] theorem e_bi (b es) : evalE cf gt (.bi b es) env p = (evalEs cf gt es env p).bind (kBi b) := by rw [evalE]; rfl
@[simp] theorem e_isi (a t) : evalE cf gt (.isi a t) env p = (evalE cf gt a env p).bind (kIsi t) := by
  rw [evalE]
  exact bind_congr' fun x p => lift_map
@[simp] theorem e_pfld (i k) : evalE cf gt (.pfld i k) env p = if isPool env i = true then lift ((fldP p k).map .int) p else .bad := by rw [evalE]
@[simp] theorem e_plen (i) : evalE cf gt (.plen i) env p = if isPool env i = true then .ok (.int p.cells.length) p else .bad := by rw [evalE]
@[simp] theorem e_pcell (i) : evalE cf gt (.pcell i) env p = if isPool env i = true then lift ((p.cells[p.idx]?).map .int) p else .bad := by rw [evalE]
@[simp] theorem e_rng1 (a) : evalE cf gt (.rng1 a) env p = (evalE cf gt a env p).bind kRng1 := by rw [evalE]; rfl
@[simp] theorem e_rng2 (a b) : evalE cf gt (.rng2 a b) env p = (evalE cf gt a env p).bind (kRng2 cf gt b env) := by rw [evalE]; rfl
@[simp] theorem e_pick (ks es k) : evalE cf gt (.pick ks es k) env p = (evalEs cf gt es env p).bind (kPick cf gt ks k env) := by rw [evalE]; rfl
theorem compL_congr {f g : D → PSt → Out (Option D)} (h : ∀ x p, f x p = g x p) : ∀ (xs acc : List D) (p : PSt), compL f xs acc p = compL g xs acc p := by
  intro xs acc p
  rw [funext fun x => funext fun p => h x p]
@[simp] theorem e_comp (elt tg it c) : evalE cf gt (.comp elt tg it c) env p = (evalE cf gt it env p).bind (kComp cf gt elt tg c env) := by
  rw [evalE]
  refine bind_congr' fun x p => ?_
  unfold kComp
  cases itemsD x with
  | none => rfl
  | some xs => exact compL_congr (fun x p => rfl) _ _ _
@[simp] theorem e_rng3 (a b c) : evalE cf gt (.rng3 a b c) env p = (evalE cf gt a env p).bind (kRng3 cf gt b c env) := by rw [evalE]; rfl
@[simp] theorem e_revr (a) : evalE cf gt (.revr a) env p = (evalE cf gt a env p).bind kRevr := by
  rw [evalE]
  exact bind_congr' fun x p => by cases x <;> rfl
@[simp] theorem e_revd (a) : evalE cf gt (.revd a) env p = (evalE cf gt a env p).bind kRevd := by
  rw [evalE]
  exact bind_congr' fun x p => by cases x <;> rfl
@[simp] theorem e_trev (a) : evalE cf gt (.trev a) env p = (evalE cf gt a env p).bind kTrev := by
  rw [evalE]
  exact bind_congr' fun x p => by cases x <;> rfl
@[simp] theorem e_zip (a b) : evalE cf gt (.zip a b) env p = (evalE cf gt a env p).bind (kZip cf gt b env) := by rw [evalE]; rfl
@[simp] theorem e_lzip (a b) : evalE cf gt (.lzip a b) env p = (evalE cf gt a env p).bind (kLzip cf gt b env) := by rw [evalE]; rfl
@[simp] theorem e_lrng (a) : evalE cf gt (.lrng a) env p = (evalE cf gt a env p).bind kLrng := by
  rw [evalE]
  exact bind_congr' fun x p => by cases x <;> rfl
@[simp] theorem e_trng (a) : evalE cf gt (.trng a) env p = (evalE cf gt a env p).bind kTrng := by
  rw [evalE]
  exact bind_congr' fun x p => by cases x <;> rfl
def kSortr (x : D) (p : PSt) : Out D := lift (sortrD x) p
@[simp] theorem e_sortr (a) : evalE cf gt (.sortr a) env p = (evalE cf gt a env p).bind kSortr := by rw [evalE]; rfl
def kMind (i : Int) (x : D) (p : PSt) : Out D := match x with
  | .lst xs => match intsD xs with
    | some ns => .ok (.int ((minI ns).getD i)) p
    | none => .bad
  | _ => .bad
@[simp] theorem e_mind (a i) : evalE cf gt (.mind a i) env p = (evalE cf gt a env p).bind (kMind i) := by
  rw [evalE]
  exact bind_congr' fun x p => by cases x <;> rfl
@[simp] theorem e_sortset (a) : evalE cf gt (.sortset a) env p = (evalE cf gt a env p).bind kSortset := by
  rw [evalE]
  exact bind_congr' fun x p => by cases x <;> rfl
@[simp] theorem e_dnew (t) : evalE cf gt (.dnew t) env p = .ok (.dict t [] []) p := by unfold evalE; rfl
@[simp] theorem e_dget (a k) : evalE cf gt (.dget a k) env p = (evalE cf gt a env p).bind (kDget cf gt k env) := by
  rw [evalE]
  exact bind_congr' fun x p => by cases x <;> rfl
@[simp] theorem e_dget2 (a k d) : evalE cf gt (.dget2 a k d) env p = (evalE cf gt a env p).bind (kDget2a cf gt k d env) := by
  rw [evalE]
  exact bind_congr' fun x p => by cases x <;> rfl
@[simp] theorem e_ddisp2 (k v k2 v2) : evalE cf gt (.ddisp2 k v k2 v2) env p = (evalE cf gt k env p).bind (kDe1 cf gt v k2 v2 env) := by rw [evalE]; rfl
@[simp] theorem e_ddispT (k v k2 v2) : evalE cf gt (.ddispT k v k2 v2) env p = (evalE cf gt k env p).bind (kDt1 cf gt v k2 v2 env) := by rw [evalE]; rfl
@[simp] theorem e_ddisp1 (k v) : evalE cf gt (.ddisp1 k v) env p = (evalE cf gt k env p).bind (kDd1 cf gt v env) := by rw [evalE]; rfl
@[simp] theorem e_dpairs (t a) : evalE cf gt (.dpairs t a) env p = (evalE cf gt a env p).bind (kDpairs t) := by rw [evalE]; rfl
@[simp] theorem e_dcopy (a) : evalE cf gt (.dcopy a) env p = (evalE cf gt a env p).bind kDcopy := by
  rw [evalE]
  exact bind_congr' fun x p => by
    cases x <;> first | rfl | skip
    rename_i t _ _
    cases t <;> rfl
theorem compDL_congr {t : Bool} {f g : D → PSt → Out (Option (D × D))} (h : ∀ x p, f x p = g x p) : ∀ (xs ks vs : List D) (p : PSt), compDL t f xs ks vs p = compDL t g xs ks vs p := by
  intro xs ks vs p
  rw [funext fun x => funext fun p => h x p]
@[simp] theorem e_dcomp (k v tg it c) : evalE cf gt (.dcomp k v tg it c) env p = (evalE cf gt it env p).bind (kDcomp cf gt k v tg c env) := by
  rw [evalE]
  refine bind_congr' fun x p => ?_
  unfold kDcomp
  cases itemsD x with
  | none => rfl
  | some xs => exact compDL_congr (fun x p => rfl) _ _ _ _
@[simp] theorem e_compD (elt tg i c) : evalE cf gt (.compD elt tg i c) env p = kCompD cf gt elt tg c env p env[i]? := by
  rw [evalE]
  cases env[i]? with
  | none => rfl
  | some x =>
    cases x with
    | none => rfl
    | some d => cases d <;> first | rfl | exact compL_congr (fun x p => rfl) _ _ _
@[simp] theorem es_nil : evalEs cf gt .nil env p = .ok [] p := by unfold evalEs; rfl
@[simp] theorem es_cons (a r) : evalEs cf gt (.cons a r) env p = (evalE cf gt a env p).bind (kArgs cf gt r env) := by rw [evalEs]; rfl
@[simp] theorem eo_nil : evalO cf gt .nil env p = .ok none p := by unfold evalO; rfl
@[simp] theorem eo_one (a) : evalO cf gt (.cons a .nil) env p = (evalE cf gt a env p).bind kOI := by unfold evalO; rfl
@[simp] theorem ec_nil : evalC cf gt .nil env p = .ok true p := by unfold evalC; rfl
@[simp] theorem ec_one (a) : evalC cf gt (.cons a .nil) env p = (evalE cf gt a env p).bind kTr := by unfold evalC; rfl
@[simp] theorem evalT_eq (a) : evalT cf gt a env p = (evalE cf gt a env p).bind kTr := nr rfl
/-! the words -/
@[simp] theorem kB1_eq (o b x) : kB1 cf gt o b env x p = (evalE cf gt b env p).bind (kB2 o x) := nr rfl
@[simp] theorem kB2_add (i j) : kB2 .add (.int i) (.int j) p = .ok (.int (i + j)) p := nr rfl
@[simp] theorem kB2_sub (i j) : kB2 .sub (.int i) (.int j) p = .ok (.int (i - j)) p := nr rfl
theorem kB2_mul {i j} (h : small64 i || small64 j) : kB2 .mul (.int i) (.int j) p = .ok (.int (i * j)) p := by show lift (if _ then _ else _) _ = _; rw [if_pos h]; rfl
theorem kB2_mod {i j} (h : 0 < j) : kB2 .mod (.int i) (.int j) p = .ok (.int (i % j)) p := by show lift (if _ then _ else _) _ = _; rw [if_pos h]; rfl
theorem kB2_fdivW {i j} (h : 0 < j) (h' : j < 9223372036854775808) : kB2 .fdiv (.int i) (.int j) p = .ok (.int (i / j)) p := by show lift (if _ then _ else _) _ = _; rw [if_pos ⟨h, h'⟩]; rfl
theorem kB2_fdiv {i j} (h : 0 < j) (h' : j < 1073741824) : kB2 .fdiv (.int i) (.int j) p = .ok (.int (i / j)) p := kB2_fdivW h (by omega)
@[simp] theorem kB2_xor (i j) : kB2 .xor (.int i) (.int j) p = .ok (.int (Builtin.bitXor i j)) p := nr rfl
theorem kB2_tup {a b} (h : a.length + b.length ≤ sizeLine) : kB2 .add (.tup a) (.tup b) p = .ok (.tup (a ++ b)) p := by show lift (if _ then _ else _) _ = _; rw [if_pos h]; rfl
theorem kB2_lst {a b} (h : a.length + b.length ≤ sizeLine) : kB2 .add (.lst a) (.lst b) p = .ok (.lst (a ++ b)) p := by show lift (if _ then _ else _) _ = _; rw [if_pos h]; rfl
@[simp] theorem kNeg_int (i) : kNeg (.int i) p = .ok (.int (-i)) p := nr rfl
@[simp] theorem kC1_eq (o b x) : kC1 cf gt o b env x p = (evalE cf gt b env p).bind (kC2 o x) := nr rfl
@[simp] theorem kC2_lt (i j) : kC2 .lt (.int i) (.int j) p = .ok (.bl (decide (i < j))) p := nr rfl
@[simp] theorem kC2_le (i j) : kC2 .le (.int i) (.int j) p = .ok (.bl (decide (i ≤ j))) p := nr rfl
@[simp] theorem kC2_gt (i j) : kC2 .gt (.int i) (.int j) p = .ok (.bl (decide (j < i))) p := nr rfl
@[simp] theorem kC2_ge (i j) : kC2 .ge (.int i) (.int j) p = .ok (.bl (decide (j ≤ i))) p := nr rfl
@[simp] theorem kC2_eqI (i j) : kC2 .eq (.int i) (.int j) p = .ok (.bl (decide (i = j))) p := by
  show okB (eqD (.int i) (.int j)) p = _
  unfold eqD D.fits D.eqv
  simp [okB]
  rfl
@[simp] theorem kC2_neI (i j) : kC2 .ne (.int i) (.int j) p = .ok (.bl (!decide (i = j))) p := by
  show okB ((eqD (.int i) (.int j)).map (!·)) p = _
  unfold eqD D.fits D.eqv
  simp [okB]
  rfl
@[simp] theorem kC2_eqS (x y) : kC2 .eq (.str x) (.str y) p = .ok (.bl (x == y)) p := nr rfl
@[simp] theorem kC2_neS (x y) : kC2 .ne (.str x) (.str y) p = .ok (.bl (!(x == y))) p := nr rfl
theorem kC2_eqD {a b : D} {r : Bool} (h : eqD a b = some r) : kC2 .eq a b p = .ok (.bl r) p := by
  show okB (eqD a b) p = _
  rw [h]; rfl
theorem kC2_neD {a b : D} {r : Bool} (h : eqD a b = some r) : kC2 .ne a b p = .ok (.bl (!r)) p := by
  show okB ((eqD a b).map (!·)) p = _
  rw [h]; rfl
theorem kC2_inT {x : D} {xs : List D} {r : Bool} (h : inD x xs = some r) : kC2 .isin x (.tup xs) p = .ok (.bl r) p := by
  show okB (inD x xs) p = _
  rw [h]; rfl
theorem kC2_inL {x : D} {xs : List D} {r : Bool} (h : inD x xs = some r) : kC2 .isin x (.lst xs) p = .ok (.bl r) p := by
  show okB (inD x xs) p = _
  rw [h]; rfl
theorem kBi_repr {d : D} (h : reprOk d = true) : kBi .repr [d] p = .ok (.str (reprD d)) p := by
  show lift (if _ then _ else _) p = _
  rw [if_pos h]; rfl
@[simp] theorem kC2_eqB (i j) : kC2 .eq (.bl i) (.bl j) p = .ok (.bl (decide (i = j))) p := by cases i <;> cases j <;> rfl
@[simp] theorem kC2_neB (i j) : kC2 .ne (.bl i) (.bl j) p = .ok (.bl (!decide (i = j))) p := by cases i <;> cases j <;> rfl
@[simp] theorem kCh1_eq (o o' b c x) : kCh1 cf gt o o' b c env x p = (evalE cf gt b env p).bind (kCh2 cf gt o o' c env x) := nr rfl
@[simp] theorem kCh2_lt (o' c i j) : kCh2 cf gt .lt o' c env (.int i) (.int j) p = if i < j then (evalE cf gt c env p).bind (kC2 o' (.int j)) else .ok (.bl false) p := by
  show (if decide (i < j) = true then _ else _) = _
  simp only [decide_eq_true_eq]
@[simp] theorem kCh2_le (o' c i j) : kCh2 cf gt .le o' c env (.int i) (.int j) p = if i ≤ j then (evalE cf gt c env p).bind (kC2 o' (.int j)) else .ok (.bl false) p := by
  show (if decide (i ≤ j) = true then _ else _) = _
  simp only [decide_eq_true_eq]
@[simp] theorem kIsn_eq (x) : kIsn x p = .ok (.bl (isNonD x)) p := nr rfl
@[simp] theorem kNotn_eq (x) : kNotn x p = .ok (.bl (!isNonD x)) p := nr rfl
@[simp] theorem kNot_eq (b) : kNot (.bl b) p = .ok (.bl (!b)) p := nr rfl
@[simp] theorem kAnd_eq (b t) : kAnd cf gt b env (.bl t) p = if t = true then evalE cf gt b env p else .ok (.bl false) p := nr rfl
@[simp] theorem kOr_eq (b t) : kOr cf gt b env (.bl t) p = if t = true then .ok (.bl true) p else evalE cf gt b env p := nr rfl
@[simp] theorem kIte_eq (a b t) : kIte cf gt a b env (.bl t) p = if t = true then evalE cf gt a env p else evalE cf gt b env p := nr rfl
theorem kTup_eq (xs) (h : xs.length ≤ sizeLine) : kTup xs p = .ok (.tup xs) p := by unfold kTup; rw [if_pos h]
theorem kLst_eq (xs) (h : xs.length ≤ sizeLine) : kLst xs p = .ok (.lst xs) p := by unfold kLst; rw [if_pos h]
@[simp] theorem kTup_0 : kTup [] p = .ok (.tup []) p := kTup_eq _ (by rw [sizeLine_eq]; simp)
@[simp] theorem kLst_0 : kLst [] p = .ok (.lst []) p := kLst_eq _ (by rw [sizeLine_eq]; simp)
@[simp] theorem kTup_1 (a0 : D) : kTup [a0] p = .ok (.tup [a0]) p := kTup_eq _ (by rw [sizeLine_eq]; simp)
@[simp] theorem kLst_1 (a0 : D) : kLst [a0] p = .ok (.lst [a0]) p := kLst_eq _ (by rw [sizeLine_eq]; simp)
@[simp] theorem kTup_2 (a0 a1 : D) : kTup [a0, a1] p = .ok (.tup [a0, a1]) p := kTup_eq _ (by rw [sizeLine_eq]; simp)
@[simp] theorem kLst_2 (a0 a1 : D) : kLst [a0, a1] p = .ok (.lst [a0, a1]) p := kLst_eq _ (by rw [sizeLine_eq]; simp)
@[simp] theorem kTup_3 (a0 a1 a2 : D) : kTup [a0, a1, a2] p = .ok (.tup [a0, a1, a2]) p := kTup_eq _ (by rw [sizeLine_eq]; simp)
@[simp] theorem kLst_3 (a0 a1 a2 : D) : kLst [a0, a1, a2] p = .ok (.lst [a0, a1, a2]) p := kLst_eq _ (by rw [sizeLine_eq]; simp)
@[simp] theorem kTup_4 (a0 a1 a2 a3 : D) : kTup [a0, a1, a2, a3] p = .ok (.tup [a0, a1, a2, a3]) p := kTup_eq _ (by rw [sizeLine_eq]; simp)
@[simp] theorem kLst_4 (a0 a1 a2 a3 : D) : kLst [a0, a1, a2, a3] p = .ok (.lst [a0, a1, a2, a3]) p := kLst_eq _ (by rw [sizeLine_eq]; simp)
@[simp] theorem kTup_5 (a0 a1 a2 a3 a4 : D) : kTup [a0, a1, a2, a3, a4] p = .ok (.tup [a0, a1, a2, a3, a4]) p := kTup_eq _ (by rw [sizeLine_eq]; simp)
@[simp] theorem kLst_5 (a0 a1 a2 a3 a4 : D) : kLst [a0, a1, a2, a3, a4] p = .ok (.lst [a0, a1, a2, a3, a4]) p := kLst_eq _ (by rw [sizeLine_eq]; simp)
@[simp] theorem kTup_6 (a0 a1 a2 a3 a4 a5 : D) : kTup [a0, a1, a2, a3, a4, a5] p = .ok (.tup [a0, a1, a2, a3, a4, a5]) p := kTup_eq _ (by rw [sizeLine_eq]; simp)
@[simp] theorem kLst_6 (a0 a1 a2 a3 a4 a5 : D) : kLst [a0, a1, a2, a3, a4, a5] p = .ok (.lst [a0, a1, a2, a3, a4, a5]) p := kLst_eq _ (by rw [sizeLine_eq]; simp)
@[simp] theorem kTup_7 (a0 a1 a2 a3 a4 a5 a6 : D) : kTup [a0, a1, a2, a3, a4, a5, a6] p = .ok (.tup [a0, a1, a2, a3, a4, a5, a6]) p := kTup_eq _ (by rw [sizeLine_eq]; simp)
@[simp] theorem kLst_7 (a0 a1 a2 a3 a4 a5 a6 : D) : kLst [a0, a1, a2, a3, a4, a5, a6] p = .ok (.lst [a0, a1, a2, a3, a4, a5, a6]) p := kLst_eq _ (by rw [sizeLine_eq]; simp)
@[simp] theorem kTup_8 (a0 a1 a2 a3 a4 a5 a6 a7 : D) : kTup [a0, a1, a2, a3, a4, a5, a6, a7] p = .ok (.tup [a0, a1, a2, a3, a4, a5, a6, a7]) p := kTup_eq _ (by rw [sizeLine_eq]; simp)
@[simp] theorem kLst_8 (a0 a1 a2 a3 a4 a5 a6 a7 : D) : kLst [a0, a1, a2, a3, a4, a5, a6, a7] p = .ok (.lst [a0, a1, a2, a3, a4, a5, a6, a7]) p := kLst_eq _ (by rw [sizeLine_eq]; simp)
@[simp] theorem kTup_9 (a0 a1 a2 a3 a4 a5 a6 a7 a8 : D) : kTup [a0, a1, a2, a3, a4, a5, a6, a7, a8] p = .ok (.tup [a0, a1, a2, a3, a4, a5, a6, a7, a8]) p := kTup_eq _ (by rw [sizeLine_eq]; simp)
@[simp] theorem kLst_9 (a0 a1 a2 a3 a4 a5 a6 a7 a8 : D) : kLst [a0, a1, a2, a3, a4, a5, a6, a7, a8] p = .ok (.lst [a0, a1, a2, a3, a4, a5, a6, a7, a8]) p := kLst_eq _ (by rw [sizeLine_eq]; simp)
@[simp] theorem kTup_10 (a0 a1 a2 a3 a4 a5 a6 a7 a8 a9 : D) : kTup [a0, a1, a2, a3, a4, a5, a6, a7, a8, a9] p = .ok (.tup [a0, a1, a2, a3, a4, a5, a6, a7, a8, a9]) p := kTup_eq _ (by rw [sizeLine_eq]; simp)
@[simp] theorem kLst_10 (a0 a1 a2 a3 a4 a5 a6 a7 a8 a9 : D) : kLst [a0, a1, a2, a3, a4, a5, a6, a7, a8, a9] p = .ok (.lst [a0, a1, a2, a3, a4, a5, a6, a7, a8, a9]) p := kLst_eq _ (by rw [sizeLine_eq]; simp)
@[simp] theorem kTup_11 (a0 a1 a2 a3 a4 a5 a6 a7 a8 a9 a10 : D) : kTup [a0, a1, a2, a3, a4, a5, a6, a7, a8, a9, a10] p = .ok (.tup [a0, a1, a2, a3, a4, a5, a6, a7, a8, a9, a10]) p := kTup_eq _ (by rw [sizeLine_eq]; simp)
@[simp] theorem kLst_11 (a0 a1 a2 a3 a4 a5 a6 a7 a8 a9 a10 : D) : kLst [a0, a1, a2, a3, a4, a5, a6, a7, a8, a9, a10] p = .ok (.lst [a0, a1, a2, a3, a4, a5, a6, a7, a8, a9, a10]) p := kLst_eq _ (by rw [sizeLine_eq]; simp)
@[simp] theorem kTup_12 (a0 a1 a2 a3 a4 a5 a6 a7 a8 a9 a10 a11 : D) : kTup [a0, a1, a2, a3, a4, a5, a6, a7, a8, a9, a10, a11] p = .ok (.tup [a0, a1, a2, a3, a4, a5, a6, a7, a8, a9, a10, a11]) p := kTup_eq _ (by rw [sizeLine_eq]; simp)
@[simp] theorem kLst_12 (a0 a1 a2 a3 a4 a5 a6 a7 a8 a9 a10 a11 : D) : kLst [a0, a1, a2, a3, a4, a5, a6, a7, a8, a9, a10, a11] p = .ok (.lst [a0, a1, a2, a3, a4, a5, a6, a7, a8, a9, a10, a11]) p := kLst_eq _ (by rw [sizeLine_eq]; simp)
@[simp] theorem kIx1_eq (i x) : kIx1 cf gt i env x p = (evalE cf gt i env p).bind (kIx2 x) := nr rfl
@[simp] theorem kIx2_eq (x y) : kIx2 x y p = lift (idxD x y) p := nr rfl
@[simp] theorem kSl1_eq (l h x) : kSl1 cf gt l h env x p = (evalO cf gt l env p).bind (kSl2 cf gt h env x) := nr rfl
@[simp] theorem kSl2_eq (h x l) : kSl2 cf gt h env x l p = (evalO cf gt h env p).bind (kSl3 x l) := nr rfl
@[simp] theorem kSl3_lst (xs l h) : kSl3 (.lst xs) l h p = .ok (.lst (cutD xs l h)) p := nr rfl
@[simp] theorem kSl3_tup (xs l h) : kSl3 (.tup xs) l h p = .ok (.tup (cutD xs l h)) p := nr rfl
theorem kSl3_str {z : Str} (h : z.length ≤ sizeLine) (l h') : kSl3 (.str z) l h' p = .ok (.str (cutS z l h')) p := by
  show lift (if _ then _ else _) p = _
  rw [if_pos h]; rfl
@[simp] theorem kRev_tup (xs) : kRev (.tup xs) p = .ok (.tup xs.reverse) p := nr rfl
@[simp] theorem kDe1_eq (v k2 v2 x) : kDe1 cf gt v k2 v2 env x p = (evalE cf gt v env p).bind (kDe2 cf gt k2 v2 env x) := nr rfl
@[simp] theorem kDe2_eq (k2 v2 x y) : kDe2 cf gt k2 v2 env x y p = (evalE cf gt k2 env p).bind (kDe3 cf gt v2 env x y) := nr rfl
@[simp] theorem kDe3_eq (v2 x y x2) : kDe3 cf gt v2 env x y x2 p = (evalE cf gt v2 env p).bind (kDe4 x y x2) := nr rfl
@[simp] theorem kDt1_eq (v k2 v2 x) : kDt1 cf gt v k2 v2 env x p = (evalE cf gt v env p).bind (kDt2 cf gt k2 v2 env x) := nr rfl
@[simp] theorem kDt2_eq (k2 v2 x y) : kDt2 cf gt k2 v2 env x y p = (evalE cf gt k2 env p).bind (kDt3 cf gt v2 env x y) := nr rfl
@[simp] theorem kDt3_eq (v2 x y x2) : kDt3 cf gt v2 env x y x2 p = (evalE cf gt v2 env p).bind (kDt4 x y x2) := nr rfl
theorem kDt4_eq (x y x2 y2) (h : isKey true x = true) (h2 : isKey true x2 = true) : kDt4 x y x2 y2 p = .ok (.dict true (dputK [x] x2) (dputV [x] [y] x2 y2)) p := by unfold kDt4; rw [h, h2]; rfl
theorem kDe4_eq (x y x2 y2) (h : isKey false x = true) (h2 : isKey false x2 = true) : kDe4 x y x2 y2 p = .ok (.dict false (dputK [x] x2) (dputV [x] [y] x2 y2)) p := by unfold kDe4; rw [h, h2]; rfl
@[simp] theorem kDd1_eq (v x) : kDd1 cf gt v env x p = (evalE cf gt v env p).bind (kDd2 x) := nr rfl
theorem kDd2_eq (x y) (h : isKey false x = true) : kDd2 x y p = .ok (.dict false [x] [y]) p := by unfold kDd2; rw [if_pos h]
@[simp] theorem kRev_lst (xs) : kRev (.lst xs) p = .ok (.lst xs.reverse) p := nr rfl
@[simp] theorem kOI_int (i) : kOI (.int i) p = .ok (some i) p := nr rfl
@[simp] theorem kTr_bl (b) : kTr (.bl b) p = .ok b p := nr rfl
@[simp] theorem kBi_lenL (xs) : kBi .len [.lst xs] p = .ok (.int xs.length) p := nr rfl
@[simp] theorem kBi_lenT (xs) : kBi .len [.tup xs] p = .ok (.int xs.length) p := nr rfl
theorem kBi_lenS {z : Str} (h : z.length ≤ sizeLine) : kBi .len [.str z] p = .ok (.int z.length) p := by
  show lift (if _ then _ else _) p = _
  rw [if_pos h]; rfl
theorem kB2_str {a b : Str} (h : a.length + b.length ≤ sizeLine) : kB2 .add (.str a) (.str b) p = .ok (.str (a ++ b)) p := by
  show lift (if _ then _ else _) p = _
  rw [if_pos h]; rfl
@[simp] theorem kBi_int (i) : kBi .int [.int i] p = .ok (.int i) p := nr rfl
@[simp] theorem kBi_tupL (xs) : kBi .tuple [.lst xs] p = .ok (.tup xs) p := nr rfl
@[simp] theorem kBi_tupT (xs) : kBi .tuple [.tup xs] p = .ok (.tup xs) p := nr rfl
@[simp] theorem kBi_lstL (xs) : kBi .list [.lst xs] p = .ok (.lst xs) p := nr rfl
@[simp] theorem kBi_lstT (xs) : kBi .list [.tup xs] p = .ok (.lst xs) p := nr rfl
@[simp] theorem kBi_max2 (i j) : kBi .max2 [.int i, .int j] p = .ok (.int (if j > i then j else i)) p := nr rfl
@[simp] theorem kBi_min2 (i j) : kBi .min2 [.int i, .int j] p = .ok (.int (if j < i then j else i)) p := nr rfl
@[simp] theorem kBi_abs (i) : kBi .abs [.int i] p = .ok (.int (if i < 0 then -i else i)) p := nr rfl
theorem ints_of : ∀ ns : List Int, intsD (ns.map D.int) = some ns
  | [] => rfl
  | i :: r => by show (intsD (r.map D.int)).map _ = _; rw [ints_of r]; rfl
theorem bls_of : ∀ ns : List Bool, blsD (ns.map D.bl) = some ns
  | [] => rfl
  | i :: r => by show (blsD (r.map D.bl)).map _ = _; rw [bls_of r]; rfl
@[simp] theorem kBi_sum (ns : List Int) : kBi .sum [.lst (ns.map .int)] p = .ok (.int ns.sum) p := by
  show lift ((intsD _).map _) p = _
  rw [ints_of ns]; rfl
@[simp] theorem kBi_all (ns : List Bool) : kBi .all [.lst (ns.map .bl)] p = .ok (.bl (ns.all id)) p := by
  show lift ((blsD _).map _) p = _
  rw [bls_of ns]; rfl
@[simp] theorem kBi_any (ns : List Bool) : kBi .any [.lst (ns.map .bl)] p = .ok (.bl (ns.any id)) p := by
  show lift ((blsD _).map _) p = _
  rw [bls_of ns]; rfl
@[simp] theorem kIsi_non (t) : kIsi t .non p = .ok (.bl false) p := by cases t <;> rfl
@[simp] theorem kIsi_int (t i) : kIsi t (.int i) p = .ok (.bl (decide (t = .int))) p := by cases t <;> rfl
@[simp] theorem kIsi_bl (t b) : kIsi t (.bl b) p = .ok (.bl (decide (t = .int) || decide (t = .bool))) p := by cases t <;> rfl
@[simp] theorem kIsi_str (t b) : kIsi t (.str b) p = .ok (.bl (decide (t = .str))) p := by cases t <;> rfl
@[simp] theorem kIsi_tup (t b) : kIsi t (.tup b) p = .ok (.bl (decide (t = .tuple))) p := by cases t <;> rfl
@[simp] theorem kIsi_lst (t b) : kIsi t (.lst b) p = .ok (.bl (decide (t = .list))) p := by cases t <;> rfl
theorem kRng1_eq {n : Int} (h : in62 n = true) : kRng1 (.int n) p = .ok (.lst (rangeL 0 n.toNat)) p := by
  show lift (if _ then _ else _) _ = _; rw [if_pos h]; rfl
@[simp] theorem kRng2_eq (b x) : kRng2 cf gt b env x p = (evalE cf gt b env p).bind (kRng2b x) := nr rfl
theorem kRng2b_eq {a b : Int} (h : (in62 a && in62 b) = true) : kRng2b (.int a) (.int b) p = .ok (.lst (rangeL a (b - a).toNat)) p := by
  show lift (if _ then _ else _) _ = _; rw [if_pos h]; rfl
@[simp] theorem kPick_eq (ks k xs) : kPick cf gt ks k env xs p = (evalE cf gt k env p).bind (kPick2 ks xs) := nr rfl
@[simp] theorem kPick2_eq (ks xs y) : kPick2 ks xs y p = lift (pickD ks xs y) p := nr rfl
@[simp] theorem kSome_eq (y) : kSome y p = .ok (some y) p := nr rfl
@[simp] theorem kCo_true (elt) : kCo cf gt elt env true p = (evalE cf gt elt env p).bind kSome := nr rfl
@[simp] theorem kCo_false (elt) : kCo cf gt elt env false p = .ok none p := nr rfl
@[simp] theorem fC_name (elt i c x) : fC cf gt elt (.name i) c env x p = (evalC cf gt c (setEnv env i x) p).bind (kCo cf gt elt (setEnv env i x)) := nr rfl
theorem fC_tup (elt is c xs) (h : xs.length = is.length) : fC cf gt elt (.tup is) c env (.tup xs) p = (evalC cf gt c (setEnvs env is xs) p).bind (kCo cf gt elt (setEnvs env is xs)) := by
  unfold fC bindTg
  dsimp only
  rw [if_pos h]
@[simp] theorem kRng3_eq (b c x) : kRng3 cf gt b c env x p = (evalE cf gt b env p).bind (kRng3b cf gt c env x) := nr rfl
@[simp] theorem kRng3b_eq (c x y) : kRng3b cf gt c env x y p = (evalE cf gt c env p).bind (kRng3c x y) := nr rfl
theorem kSortset_eq {ns : List Int} (h : ns.length ≤ 4000) (h' : (onceL ns).length < 64) : kSortset (.lst (ns.map .int)) p = .ok (.lst ((sortI ns).map .int)) p := by
  unfold kSortset
  dsimp only
  rw [ints_of]
  dsimp only
  rw [if_pos ⟨h, h'⟩]
theorem kRevr_eq {n : Int} (h : in62 n = true) : kRevr (.int n) p = .ok (.lst (rangeL 0 n.toNat).reverse) p := by show (if _ then _ else _) = _; rw [if_pos h]
@[simp] theorem kRevd_lst (xs) : kRevd (.lst xs) p = .ok (.lst xs.reverse) p := nr rfl
@[simp] theorem kRevd_tup (xs) : kRevd (.tup xs) p = .ok (.lst xs.reverse) p := nr rfl
@[simp] theorem kTrev_lst (xs) : kTrev (.lst xs) p = .ok (.tup xs.reverse) p := nr rfl
@[simp] theorem kZip_eq (b x) : kZip cf gt b env x p = (evalE cf gt b env p).bind (kZip2 x) := nr rfl
@[simp] theorem kZip2_ll (x y) : kZip2 (.lst x) (.lst y) p = .ok (.lst (zipL x y)) p := nr rfl
@[simp] theorem kLzip_eq (b x) : kLzip cf gt b env x p = (evalE cf gt b env p).bind (kLzip2 x) := nr rfl
@[simp] theorem kLzip2_tt (x y) : kLzip2 (.tup x) (.tup y) p = .ok (.lst (zipL x y)) p := nr rfl
@[simp] theorem kZip2_lt (x y) : kZip2 (.lst x) (.tup y) p = .ok (.lst (zipL x y)) p := nr rfl
@[simp] theorem kZip2_tl (x y) : kZip2 (.tup x) (.lst y) p = .ok (.lst (zipL x y)) p := nr rfl
@[simp] theorem kZip2_tt (x y) : kZip2 (.tup x) (.tup y) p = .ok (.lst (zipL x y)) p := nr rfl
theorem kLrng_eq {n : Int} (h : (in62 n && decide (n ≤ 16777216)) = true) : kLrng (.int n) p = .ok (.lst (rangeL 0 n.toNat)) p := by show (if _ then _ else _) = _; rw [if_pos h]
theorem kTrng_eq {n : Int} (h : (in62 n && decide (n ≤ 16777216)) = true) : kTrng (.int n) p = .ok (.tup (rangeL 0 n.toNat)) p := by show (if _ then _ else _) = _; rw [if_pos h]
@[simp] theorem kDget_eq (k t ks vs) : kDget cf gt k env (.dict t ks vs) p = (evalE cf gt k env p).bind (kDget2 t ks vs) := nr rfl
theorem kDget2_eq (t ks vs y) (h : isKey t y = true) : kDget2 t ks vs y p = .ok ((dget ks vs y).getD .non) p := by unfold kDget2; rw [if_pos h]
@[simp] theorem kDget2a_eq (k d t ks vs) : kDget2a cf gt k d env (.dict t ks vs) p = (evalE cf gt k env p).bind (kDget2b cf gt t ks vs d env) := nr rfl
@[simp] theorem kDget2b_eq (t ks vs d y) : kDget2b cf gt t ks vs d env y p = (evalE cf gt d env p).bind (kDget2c t ks vs y) := nr rfl
theorem kDget2c_eq (t ks vs y z) (h : isKey t y = true) : kDget2c t ks vs y z p = .ok ((dget ks vs y).getD z) p := by unfold kDget2c; rw [if_pos h]
@[simp] theorem kDcopy_eq (ks vs) : kDcopy (.dict false ks vs) p = .ok (.dict false ks vs) p := nr rfl
@[simp] theorem kDpairs_eq (t x) : kDpairs t x p = lift (pairsD t x) p := nr rfl
@[simp] theorem kCompD_eq (elt tg c t ks vs) : kCompD cf gt elt tg c env p (some (some (.dict t ks vs))) = compL (fCN cf gt elt tg c env) ks [] p := nr rfl
@[simp] theorem kCoN_true (elt) : kCoN cf gt elt env true p = (evalE cf gt elt env p).bind kND := nr rfl
@[simp] theorem kCoN_false (elt) : kCoN cf gt elt env false p = .ok none p := nr rfl
@[simp] theorem kND_int (i) : kND (.int i) p = .ok (some (.int i)) p := nr rfl
@[simp] theorem kND_str (i) : kND (.str i) p = .ok (some (.str i)) p := nr rfl
theorem kND_eq {y} (h : D.noDict y = true) : kND y p = .ok (some y) p := by unfold kND; rw [if_pos h]
@[simp] theorem fCN_name (elt i c x) : fCN cf gt elt (.name i) c env x p = (evalC cf gt c (setEnv env i x) p).bind (kCoN cf gt elt (setEnv env i x)) := nr rfl
theorem fCN_tup (elt is c xs) (h : xs.length = is.length) : fCN cf gt elt (.tup is) c env (.tup xs) p = (evalC cf gt c (setEnvs env is xs) p).bind (kCoN cf gt elt (setEnvs env is xs)) := by
  unfold fCN bindTg
  dsimp only
  rw [if_pos h]
@[simp] theorem kDc_true (k v) : kDc cf gt k v env true p = (evalE cf gt k env p).bind (kDc1 cf gt v env) := nr rfl
@[simp] theorem kDc_false (k v) : kDc cf gt k v env false p = .ok none p := nr rfl
@[simp] theorem kDc1_eq (v x) : kDc1 cf gt v env x p = (evalE cf gt v env p).bind (kDc2 x) := nr rfl
@[simp] theorem kDc2_eq (x y) : kDc2 x y p = .ok (some (x, y)) p := nr rfl
@[simp] theorem fDC_name (k v i c x) : fDC cf gt k v (.name i) c env x p = (evalC cf gt c (setEnv env i x) p).bind (kDc cf gt k v (setEnv env i x)) := nr rfl
@[simp] theorem kDcomp_lst (k v tg c xs) : kDcomp cf gt k v tg c env (.lst xs) p = compDL false (fDC cf gt k v tg c env) xs [] [] p := nr rfl
@[simp] theorem kDcomp_tup (k v tg c xs) : kDcomp cf gt k v tg c env (.tup xs) p = compDL false (fDC cf gt k v tg c env) xs [] [] p := nr rfl
@[simp] theorem kBi_lenD (t ks vs) : kBi .len [.dict t ks vs] p = .ok (.int ks.length) p := nr rfl
@[simp] theorem kBi_lstD (t ks vs) : kBi .list [.dict t ks vs] p = .ok (.lst ks) p := nr rfl
@[simp] theorem kBi_sorted (d) : kBi .sorted [d] p = lift (sortD d) p := nr rfl
theorem kC2_inD {t : Bool} {ks vs : List D} {x : D} (h : isKey t x = true) : kC2 .isin x (.dict t ks vs) p = .ok (.bl (dhas ks x)) p := by
  show okB (if isKey t x = true then _ else _) p = _
  rw [if_pos h]; rfl
theorem kC2_notinD {t : Bool} {ks vs : List D} {x : D} (h : isKey t x = true) : kC2 .notin x (.dict t ks vs) p = .ok (.bl (!dhas ks x)) p := by
  show okB (if isKey t x = true then _ else _) p = _
  rw [if_pos h]; rfl
@[simp] theorem kComp_lst (elt tg c xs) : kComp cf gt elt tg c env (.lst xs) p = compL (fC cf gt elt tg c env) xs [] p := nr rfl
@[simp] theorem kComp_tup (elt tg c xs) : kComp cf gt elt tg c env (.tup xs) p = compL (fC cf gt elt tg c env) xs [] p := nr rfl
@[simp] theorem kArgs_eq (r x) : kArgs cf gt r env x p = (evalEs cf gt r env p).bind (kCons x) := nr rfl
@[simp] theorem kCons_eq (x xs) : kCons x xs p = .ok (x :: xs) p := nr rfl
@[simp] theorem isNonD_non : isNonD .non = true := nr rfl
@[simp] theorem isNonD_int (i) : isNonD (.int i) = false := nr rfl
@[simp] theorem isNonD_bl (i) : isNonD (.bl i) = false := nr rfl
@[simp] theorem isNonD_str (i) : isNonD (.str i) = false := nr rfl
@[simp] theorem isNonD_tup (i) : isNonD (.tup i) = false := nr rfl
@[simp] theorem isNonD_lst (i) : isNonD (.lst i) = false := nr rfl
end

/-! ### statements -/
def thn (r : Out Fl) (f : SEnv → PSt → Out Fl) : Out Fl := match r with
  | .ok (.nx env) p => f env p
  | r => r
@[simp] theorem thn_nx (env p f) : thn (.ok (.nx env) p) f = f env p := nr rfl
@[simp] theorem thn_rt (d p f) : thn (.ok (.rt d) p) f = .ok (.rt d) p := nr rfl
@[simp] theorem thn_bk (d p f) : thn (.ok (.bk d) p) f = .ok (.bk d) p := nr rfl
@[simp] theorem thn_ct (d p f) : thn (.ok (.ct d) p) f = .ok (.ct d) p := nr rfl
@[simp] theorem thn_exc (c d p f) : thn (.exc c d p) f = .exc c d p := nr rfl
section
variable (cf : Str → List D → PSt → Out D) (gt : Str → Option D)
def kSeq (b : PD.S) (env : SEnv) (p : PSt) : Out Fl := execS cf gt b env p
def kSet (i : Nat) (o : Bool) (e : E) (env : SEnv) (d : D) (p : PSt) : Out Fl := .ok (.nx ((fzs env (escA d e)).set i (slOf o d))) p
def kAsg (is : List Nat) (env : SEnv) (d : D) (p : PSt) : Out Fl := match bindS (.tup is) d env with
  | some env => .ok (.nx env) p
  | none => .bad
def kPar2 (i j : Nat) (env : SEnv) (x y : D) (p : PSt) : Out Fl := .ok (.nx ((env.set i (.val x)).set j (.val y))) p
def kPar (i j : Nat) (b : E) (env env2 : SEnv) (x : D) (p : PSt) : Out Fl := (evalE cf gt b (view env) p).bind (kPar2 i j env2 x)
def kRet (d : D) (p : PSt) : Out Fl := .ok (.rt d) p
def kIf (a b : PD.S) (env : SEnv) (t : Bool) (p : PSt) : Out Fl := if t = true then execS cf gt a env p else execS cf gt b env p
def fF (tg : Tg) (body : PD.S) (x : D) (env : SEnv) (p : PSt) : Out Fl := match bindS tg x env with
  | some env => execS cf gt body env p
  | none => .bad
def onFor (f : D → SEnv → PSt → Out Fl) (env : SEnv) : Option (List D) → PSt → Out Fl
  | some xs, p => forL f xs env p
  | none, _ => .bad
def kFor (tg : Tg) (body : PD.S) (env : SEnv) (d : D) (p : PSt) : Out Fl := onFor (fF cf gt tg body) env (itemsD d) p
def kForD (tg : Tg) (body : PD.S) (env : SEnv) (p : PSt) : Option (Option D) → Out Fl
  | some (some (.dict _ ks _)) => noExc (forL (fF cf gt tg body) ks env p)
  | _ => .bad
def kPput (i k : Nat) (env : SEnv) : D → PSt → Out Fl
  | .int j, p => if isPool (view env) i = true then (match setP p k j with
        | some p => .ok (.nx env) p
        | none => .bad) else .bad
  | _, _ => .bad
def augK (env : SEnv) (i : Nat) (o : Bop) (x y : D) (p : PSt) : Out Fl := match o, x, y with
  | .add, .int a, .int b => .ok (.nx (env.set i (.val (.int (a + b))))) p
  | .sub, .int a, .int b => .ok (.nx (env.set i (.val (.int (a - b))))) p
  | .mul, .int a, .int b => if small64 a || small64 b then .ok (.nx (env.set i (.val (.int (a * b))))) p else .bad
  | .add, .tup a, .tup b => if D.cleanL b && decide (a.length + b.length ≤ sizeLine) then .ok (.nx (env.set i (.val (.tup (a ++ b))))) p else .bad
  | _, _, _ => .bad
def augS (i : Nat) (o : Bop) (e : E) (env : SEnv) (p : PSt) : Option Sl → Out Fl
  | some (.val x) => (evalE cf gt e (view env) p).bind (augK env i o x)
  | _ => .bad
def appK2 (i : Nat) (d : D) (env : SEnv) (p : PSt) : Option Sl → Out Fl
  | some (.own (.lst ds)) => if ds.length < sizeLine then .ok (.nx (env.set i (.own (.lst (ds ++ [d]))))) p else .bad
  | _ => .bad
def appK1 (i : Nat) (d : D) (env2 : SEnv) (p : PSt) : Out Fl := appK2 i d env2 p env2[i]?
def appK (i : Nat) (e : E) (env : SEnv) (d : D) (p : PSt) : Out Fl := appK1 i d (fzs env (escA d e)) p
def appS (i : Nat) (e : E) (env : SEnv) (p : PSt) : Option Sl → Out Fl
  | some (.own (.lst _)) => (evalE cf gt e (view env) p).bind (appK i e env)
  | _ => .bad
def extK (i : Nat) (ds : List D) (env : SEnv) : D → PSt → Out Fl
  | .lst es, p => if ds.length + es.length ≤ sizeLine then .ok (.nx (env.set i (.own (.lst (ds ++ es))))) p else .bad
  | _, _ => .bad
def extS (i : Nat) (e : E) (env env2 : SEnv) (p : PSt) : Option Sl → Out Fl
  | some (.own (.lst ds)) => (evalE cf gt e (view env) p).bind (extK i ds env2)
  | _ => .bad
def putD2 (i : Nat) (t : Bool) (ks vs : List D) (d : D) (env : SEnv) (y : D) (p : PSt) : Out Fl := if ks.length < sizeLine && isKey t y then .ok (.nx (env.set i (.own (.dict t (dputK ks y) (dputV ks vs y d))))) p else .bad
def putK2 (i : Nat) (ds : List D) (d : D) (env : SEnv) : D → PSt → Out Fl
  | .int n, p => match L2.ixN ds.length n with
    | some j => .ok (.nx (env.set i (.own (.lst (ds.set j d))))) p
    | none => .bad
  | _, _ => .bad
def putS (i : Nat) (k : E) (env env2 : SEnv) (d : D) (p : PSt) : Option Sl → Out Fl
  | some (.own (.lst ds)) => (evalE cf gt k (view env) p).bind (putK2 i ds d env2)
  | some (.own (.dict t ks vs)) => (evalE cf gt k (view env) p).bind (putD2 i t ks vs d env2)
  | _ => .bad
def kPut1 (i : Nat) (k : E) (env env2 : SEnv) (d : D) (p : PSt) : Out Fl := putS cf gt i k env env2 d p env2[i]?
def kPut (i : Nat) (k e : E) (env : SEnv) (d : D) (p : PSt) : Out Fl := kPut1 cf gt i k env (fzs env (escA d e)) d p
def kRaise (c : Str) (xs : List D) (p : PSt) : Out Fl := if xs.length ≤ 10 then .exc c xs p else .bad
def tryK (hds : List (Str × HE)) : Out Fl → Out Fl
  | .exc c xs p' => if clsB gt c && ownB c then (match hdOf c hds with
      | some d => .ok (.rt d) p'
      | none => .exc c xs p') else .bad
  | r => r
def wC (c : E) (env : SEnv) (p : PSt) : Out Bool := evalT cf gt c (view env) p
def wB (b : PD.S) (env : SEnv) (p : PSt) : Out Fl := execS cf gt b env p
variable {cf gt} {env : SEnv} {p : PSt}
@[simp] theorem x_skip : execS cf gt .skip env p = .ok (.nx env) p := nr rfl
@[simp] theorem x_seq (a b) : execS cf gt (.seq a b) env p = thn (execS cf gt a env p) (kSeq cf gt b) := by
  rw [execS]
  cases execS cf gt a env p with
  | ok f p => cases f <;> rfl
  | exc _ _ _ => rfl
  | bad => rfl
@[simp] theorem kSeq_eq (b) : kSeq cf gt b env p = execS cf gt b env p := nr rfl
@[simp] theorem x_set (i e o) : execS cf gt (.set i e o) env p = (evalE cf gt e (view env) p).bind (kSet i o e env) := by rw [execS]; rfl
@[simp] theorem fzs_escA (d e) : fzs env (escA d e) = if D.clean d = true then env else fzs env (escE e) := by
  unfold escA
  split <;> rfl
@[simp] theorem kSet_eq (i o e d) : kSet i o e env d p = .ok (.nx ((if D.clean d = true then env else fzs env (escE e)).set i (slOf o d))) p := by rw [← fzs_escA]; rfl
@[simp] theorem x_asg (is e) : execS cf gt (.asg is e) env p = (evalE cf gt e (view env) p).bind (kAsg is (fzs env (escB e))) := by
  rw [execS]
  exact bind_congr' fun d p => by unfold kAsg; cases bindS (.tup is) d (fzs env (escB e)) <;> rfl
theorem kAsg_tup (is xs) (h : xs.length = is.length) : kAsg is env (.tup xs) p = .ok (.nx (setSs env is xs)) p := by
  unfold kAsg bindS
  dsimp only
  rw [if_pos h]
@[simp] theorem x_par (i j a b) : execS cf gt (.par i j a b) env p = (evalE cf gt a (view env) p).bind (kPar cf gt i j b env (fzs (fzs env (escE a)) (escE b))) := by rw [execS]; rfl
@[simp] theorem kPar_eq (i j b env2 x) : kPar cf gt i j b env env2 x p = (evalE cf gt b (view env) p).bind (kPar2 i j env2 x) := nr rfl
@[simp] theorem kPar2_eq (i j x y) : kPar2 i j env x y p = .ok (.nx ((env.set i (.val x)).set j (.val y))) p := nr rfl
@[simp] theorem x_ret (e) : execS cf gt (.ret e) env p = (evalE cf gt e (view env) p).bind kRet := by rw [execS]; rfl
@[simp] theorem kRet_eq (d) : kRet d p = .ok (.rt d) p := nr rfl
def kEx (env : SEnv) (_ : D) (p : PSt) : Out Fl := .ok (.nx env) p
@[simp] theorem x_ex (e) : execS cf gt (.ex e) env p = (evalE cf gt e (view env) p).bind (kEx env) := by rw [execS]; rfl
@[simp] theorem kEx_eq (d) : kEx env d p = .ok (.nx env) p := nr rfl
@[simp] theorem x_retN : execS cf gt .retN env p = .ok (.rt .non) p := nr rfl
@[simp] theorem x_brk : execS cf gt .brk env p = .ok (.bk env) p := nr rfl
@[simp] theorem x_cont : execS cf gt .cont env p = .ok (.ct env) p := nr rfl
@[simp] theorem x_ite (c a b) : execS cf gt (.ite c a b) env p = ((evalE cf gt c (view env) p).bind kTr).bind (kIf cf gt a b env) := by
  rw [execS]
  exact bind_congr' fun t p => by cases t <;> rfl
@[simp] theorem kIf_eq (a b t) : kIf cf gt a b env t p = if t = true then execS cf gt a env p else execS cf gt b env p := nr rfl
theorem forL_congr {f g : D → SEnv → PSt → Out Fl} (h : ∀ x e p, f x e p = g x e p) (xs env p) : forL f xs env p = forL g xs env p := by
  rw [funext fun x => funext fun e => funext fun p => h x e p]
@[simp] theorem x_for (tg it body) : execS cf gt (.for tg it body) env p = (evalE cf gt it (view env) p).bind (kFor cf gt tg body (fzs env (escE it))) := by
  rw [execS]
  refine bind_congr' fun d p => ?_
  unfold kFor
  cases itemsD d with
  | none => rfl
  | some xs => exact forL_congr (fun x e p => by unfold forF fF; cases bindS tg x e <;> rfl) _ _ _
@[simp] theorem kFor_lst (tg body xs) : kFor cf gt tg body env (.lst xs) p = forL (fF cf gt tg body) xs env p := nr rfl
@[simp] theorem kFor_tup (tg body xs) : kFor cf gt tg body env (.tup xs) p = forL (fF cf gt tg body) xs env p := nr rfl
@[simp] theorem x_forD (tg i body) : execS cf gt (.forD tg i body) env p = kForD cf gt tg body (fzAt env i) p (view env)[i]? := by
  rw [execS]
  cases (view env)[i]? with
  | none => rfl
  | some x =>
    cases x with
    | none => rfl
    | some d =>
      cases d <;> rfl
@[simp] theorem kForD_eq (tg body t ks vs) : kForD cf gt tg body env p (some (some (.dict t ks vs))) = noExc (forL (fF cf gt tg body) ks env p) := nr rfl
@[simp] theorem noExc_ok {α : Type} (a : α) (p : PSt) : noExc (.ok a p) = .ok a p := nr rfl
@[simp] theorem fF_name (i body x) : fF cf gt (.name i) body x env p = execS cf gt body (env.set i (.val x)) p := nr rfl
theorem fF_tup (is body xs) (h : xs.length = is.length) : fF cf gt (.tup is) body (.tup xs) env p = execS cf gt body (setSs env is xs) p := by
  unfold fF bindS
  dsimp only
  rw [if_pos h]
@[simp] theorem x_while (n c body) : execS cf gt (.while n c body) env p = whileL (wC cf gt c) (wB cf gt body) n env p := by rw [execS]; rfl
@[simp] theorem wC_eq (c) : wC cf gt c env p = (evalE cf gt c (view env) p).bind kTr := nr rfl
@[simp] theorem wB_eq (b) : wB cf gt b env p = execS cf gt b env p := nr rfl
@[simp] theorem x_pput (i k e) : execS cf gt (.pput i k e) env p = (evalE cf gt e (view env) p).bind (kPput i k env) := by
  rw [execS]
  exact bind_congr' fun d p => by
    cases d <;> first | rfl | skip
    all_goals first | (unfold kPput; dsimp only; split <;> rfl) | skip
@[simp] theorem kPput_eq (i k j) : kPput i k env (.int j) p = if isPool (view env) i = true then (match setP p k j with
        | some p => .ok (.nx env) p
        | none => .bad) else .bad := nr rfl
@[simp] theorem x_raise (c es) : execS cf gt (.raise c es) env p = if (clsB gt c && ownB c) = true then (evalEs cf gt es (view env) p).bind (kRaise c) else .bad := by
  rw [execS]
  rfl
@[simp] theorem kRaise_1 (c x) : kRaise c [x] p = .exc c [x] p := by unfold kRaise; rw [if_pos (by simp)]
@[simp] theorem kRaise_2 (c x y) : kRaise c [x, y] p = .exc c [x, y] p := by unfold kRaise; rw [if_pos (by simp)]
@[simp] theorem x_try (b nm hds) : execS cf gt (.try b nm hds) env p = if hdsOk gt hds = true then tryK gt hds (execS cf gt b env p) else .bad := by
  rw [execS]
  split
  · unfold tryK
    cases execS cf gt b env p <;> rfl
  · rfl
@[simp] theorem tryK_ok (hds f) : tryK gt hds (.ok f p) = .ok f p := nr rfl
theorem tryK_exc {c hds d} (xs) (h1 : (clsB gt c && ownB c) = true) (h2 : hdOf c hds = some d) : tryK gt hds (.exc c xs p) = .ok (.rt d) p := by
  unfold tryK
  dsimp only
  rw [if_pos h1, h2]
theorem tryK_pass {c hds} (xs) (h1 : (clsB gt c && ownB c) = true) (h2 : hdOf c hds = none) : tryK gt hds (.exc c xs p) = .exc c xs p := by
  unfold tryK
  dsimp only
  rw [if_pos h1, h2]
@[simp] theorem x_aug (i o e) : execS cf gt (.aug i o e) env p = augS cf gt i o e env p env[i]? := by
  rw [execS]
  cases q : env[i]? with
  | none => rfl
  | some s => cases s <;> first | rfl | exact bind_congr' fun y p => by unfold augK; rfl
@[simp] theorem augS_val (i o e x) : augS cf gt i o e env p (some (.val x)) = (evalE cf gt e (view env) p).bind (augK env i o x) := nr rfl
@[simp] theorem augK_add (i a b) : augK env i .add (.int a) (.int b) p = .ok (.nx (env.set i (.val (.int (a + b))))) p := nr rfl
@[simp] theorem augK_sub (i a b) : augK env i .sub (.int a) (.int b) p = .ok (.nx (env.set i (.val (.int (a - b))))) p := nr rfl
@[simp] theorem x_append (i e) : execS cf gt (.append i e) env p = appS cf gt i e env p env[i]? := by
  rw [execS]
  cases q : env[i]? with
  | none => rfl
  | some s =>
    cases s with
    | no => rfl
    | val d => rfl
    | own d =>
      cases d <;> rfl
@[simp] theorem appS_own (i e ds) : appS cf gt i e env p (some (.own (.lst ds))) = (evalE cf gt e (view env) p).bind (appK i e env) := nr rfl
@[simp] theorem appK_if (i e d) : appK i e env d p = appK1 i d (if D.clean d = true then env else fzs env (escE e)) p := by rw [← fzs_escA]; rfl
@[simp] theorem appK1_eq (i d) : appK1 i d env p = appK2 i d env p env[i]? := nr rfl
@[simp] theorem x_extend (i e) : execS cf gt (.extend i e) env p = extS cf gt i e env (fzs env (escE e)) p (fzs env (escE e))[i]? := by
  rw [execS]
  cases q : (fzs env (escE e))[i]? with
  | none => rfl
  | some s =>
    cases s with
    | no => rfl
    | val d => rfl
    | own d =>
      cases d <;> first | rfl | skip
      exact bind_congr' fun y p => by cases y <;> rfl
@[simp] theorem extS_own (i e env2 ds) : extS cf gt i e env env2 p (some (.own (.lst ds))) = (evalE cf gt e (view env) p).bind (extK i ds env2) := nr rfl
theorem extK_eq (i ds es) (h : ds.length + es.length ≤ sizeLine) : extK i ds env (.lst es) p = .ok (.nx (env.set i (.own (.lst (ds ++ es))))) p := by
  show (if _ then _ else _) = _
  rw [if_pos h]
@[simp] theorem x_put (i k e) : execS cf gt (.put i k e) env p = (evalE cf gt e (view env) p).bind (kPut cf gt i k e env) := by
  rw [execS]
  refine bind_congr' fun d p => ?_
  unfold kPut kPut1
  cases q : (fzs env (escA d e))[i]? with
  | none => rfl
  | some s =>
    cases s with
    | no => rfl
    | val d => rfl
    | own d =>
      cases d <;> first | rfl | skip
      · exact bind_congr' fun y p => by
          cases y <;> first | rfl | skip
@[simp] theorem kPut_if (i k e d) : kPut cf gt i k e env d p = kPut1 cf gt i k env (if D.clean d = true then env else fzs env (escE e)) d p := by rw [← fzs_escA]; rfl
@[simp] theorem kPut1_eq (i k env2 d) : kPut1 cf gt i k env env2 d p = putS cf gt i k env env2 d p env2[i]? := nr rfl
@[simp] theorem putS_dict (i k env2 d t ks vs) : putS cf gt i k env env2 d p (some (.own (.dict t ks vs))) = (evalE cf gt k (view env) p).bind (putD2 i t ks vs d env2) := nr rfl
theorem putD2_eq (i t ks vs d y) (h : ks.length < sizeLine) (h' : isKey t y = true) : putD2 i t ks vs d env y p = .ok (.nx (env.set i (.own (.dict t (dputK ks y) (dputV ks vs y d))))) p := by
  unfold putD2
  rw [if_pos (by rw [h', decide_eq_true h]; rfl)]
@[simp] theorem putS_own (i k env2 d ds) : putS cf gt i k env env2 d p (some (.own (.lst ds))) = (evalE cf gt k (view env) p).bind (putK2 i ds d env2) := nr rfl
theorem putK2_eq (i ds d) {n : Int} {j : Nat} (h : L2.ixN ds.length n = some j) : putK2 i ds d env (.int n) p = .ok (.nx (env.set i (.own (.lst (ds.set j d))))) p := by
  unfold putK2
  dsimp only
  rw [h]
theorem appK_eq (i ds d) (h : ds.length < sizeLine) : appK2 i d env p (some (.own (.lst ds))) = .ok (.nx (env.set i (.own (.lst (ds ++ [d]))))) p := by show (if _ then _ else _) = _; rw [if_pos h]
end
@[simp] theorem view_nil : view [] = [] := nr rfl
@[simp] theorem view_cons (s r) : view (s :: r) = s.see :: view r := nr rfl
@[simp] theorem see_no : Sl.see .no = none := nr rfl
@[simp] theorem see_val (d) : Sl.see (.val d) = some d := nr rfl
@[simp] theorem see_own (d) : Sl.see (.own d) = some d := nr rfl
@[simp] theorem fz_no : Sl.fz .no = .no := nr rfl
@[simp] theorem fz_val (d) : Sl.fz (.val d) = .val d := nr rfl
@[simp] theorem fz_own (d) : Sl.fz (.own d) = .val d := nr rfl
@[simp] theorem fzs_nil (env) : fzs env [] = env := nr rfl
@[simp] theorem fzs_cons (env i is) : fzs env (i :: is) = fzs (fzAt env i) is := nr rfl
@[simp] theorem fzAt_nil (i) : fzAt [] i = [] := by cases i <;> rfl
@[simp] theorem fzAt_zero (s r) : fzAt (s :: r) 0 = s.fz :: r := nr rfl
@[simp] theorem fzAt_succ (s r i) : fzAt (s :: r) (i + 1) = s :: fzAt r i := nr rfl
@[simp] theorem slOf_false (d) : slOf false d = .val d := nr rfl
@[simp] theorem slOf_true (xs) : slOf true (.lst xs) = .own (.lst xs) := nr rfl
@[simp] theorem isPool_zero (r : Env) : isPool (some .pool :: r) 0 = true := nr rfl
@[simp] theorem isPool_succ (s : Option D) (r : Env) (i : Nat) : isPool (s :: r) (i + 1) = isPool r i := nr rfl
@[simp] theorem fldP_1 (p) : fldP p 1 = some (p.idx : Int) := nr rfl
@[simp] theorem fldP_2 (p) : fldP p 2 = some p.cur := nr rfl
@[simp] theorem fldP_3 (p) : fldP p 3 = some p.cnt := nr rfl
@[simp] theorem fldP_4 (p) : fldP p 4 = some p.salt := nr rfl
@[simp] theorem setP_2 (p j) : setP p 2 j = some { p with cur := j } := nr rfl
@[simp] theorem setP_3 (p j) : setP p 3 j = some { p with cnt := j } := nr rfl
theorem setP_1 (p : PSt) (h : p.idx < p.cells.length) : setP p 1 ((p.idx : Int) + 1) = some { p with idx := p.idx + 1 } := by
  show (if _ then _ else _) = _
  rw [if_pos (by omega)]
  rfl
@[simp] theorem slOf_dict (t ks vs) : slOf true (.dict t ks vs) = .own (.dict t ks vs) := nr rfl
@[simp] theorem clean_non : D.clean .non = true := nr rfl
@[simp] theorem clean_bl (b) : D.clean (.bl b) = true := nr rfl
@[simp] theorem clean_int (b) : D.clean (.int b) = true := nr rfl
@[simp] theorem clean_str (b) : D.clean (.str b) = true := nr rfl
@[simp] theorem clean_ctup (b) : D.clean (.ctup b) = true := nr rfl
@[simp] theorem clean_lst (b) : D.clean (.lst b) = false := nr rfl
@[simp] theorem clean_dict (t b c) : D.clean (.dict t b c) = false := nr rfl
@[simp] theorem clean_tup (b) : D.clean (.tup b) = D.cleanL b := by unfold D.clean; rfl
@[simp] theorem cleanL_nil : D.cleanL [] = true := nr rfl
@[simp] theorem cleanL_cons (a b) : D.cleanL (a :: b) = (D.clean a && D.cleanL b) := by rw [D.cleanL]
@[simp] theorem setEnv_eq (env i d) : setEnv env i d = env.set i (some d) := nr rfl
end PD

namespace PD
open PySem PySem.Spec PyProof.Rows L2
def txf_law_same : FDef := ⟨2, 3, (.seq (.ite (.or (.isi (.var 1) .tuple) (.isi (.var 1) .list))
(.seq (.ite (.or (.cmp .ne (.isi (.var 1) .tuple) (.isi (.var 0) .tuple)) (.or (.cmp .ne (.isi (.var 1) .list) (.isi (.var 0) .list)) (.cmp .ne (.bi .len (.cons (.var 0) .nil)) (.bi .len (.cons (.var 1) .nil)))))
(.seq (.ret (.bl false))
 .skip)
.skip)
 (.seq (.ret (.cmp .eq (.bi .len (.cons (.comp (.var 2) (.name 2) (.rng1 (.bi .len (.cons (.var 1) .nil))) (.cons (.not (.call "_law_same" (.cons (.idx (.var 0) (.var 2)) (.cons (.idx (.var 1) (.var 2)) .nil)))) .nil)) .nil)) (.int 0)))
 .skip))
.skip)
 (.seq (.ite (.isn (.var 1))
(.seq (.ret (.isn (.var 0)))
 .skip)
.skip)
 (.seq (.ite (.or (.isi (.var 1) .bool) (.isi (.var 0) .bool))
(.seq (.ret (.and (.isi (.var 1) .bool) (.and (.isi (.var 0) .bool) (.cmp .eq (.var 0) (.var 1)))))
 .skip)
.skip)
 (.seq (.ite (.isi (.var 1) .int)
(.seq (.ret (.and (.isi (.var 0) .int) (.cmp .eq (.var 0) (.var 1))))
 .skip)
.skip)
 (.seq (.ret (.and (.isi (.var 0) .str) (.cmp .eq (.var 0) (.var 1))))
 .skip)))))⟩
def txf_law_spread : FDef := ⟨1, 4, (.seq (.set 1 (.bin .mod (.bi .int (.cons (.var 0) .nil)) (.int 2147483647)) false)
 (.seq (.set 2 (.int 1) false)
 (.seq (.for (.name 3) (.rng1 (.int 4))
(.seq (.set 1 (.bin .mod (.bi .int (.cons (.bin .add (.bin .add (.bin .mul (.var 1) (.int 48271)) (.int 12345)) (.var 3)) .nil)) (.int 2147483647)) false)
 (.seq (.set 2 (.bin .add (.bin .mul (.var 2) (.int 2147483647)) (.var 1)) false)
 .skip)))
 (.seq (.ret (.var 2))
 .skip))))⟩
def txf_law_draw : FDef := ⟨2, 5, (.seq (.ite (.and (.cmp .le (.pfld 0 2) (.int 0)) (.cmp .lt (.pfld 0 1) (.plen 0)))
(.seq (.set 2 (.pcell 0) false)
 (.seq (.pput 0 1 (.bin .add (.pfld 0 1) (.int 1)))
 (.seq (.pput 0 2 (.var 2))
 (.seq (.ite (.cmp .lt (.var 2) (.int 1000000000000000000))
(.seq (.pput 0 2 (.call "_law_spread" (.cons (.var 2) .nil)))
 .skip)
.skip)
 .skip))))
.skip)
 (.seq (.pput 0 3 (.bin .add (.pfld 0 3) (.int 1)))
 (.seq (.ite (.cmp .le (.pfld 0 2) (.int 0))
(.seq (.set 3 (.bin .mod (.bi .int (.cons (.bin .add (.bin .add (.bin .mul (.pfld 0 4) (.int 48271)) (.bin .mul (.pfld 0 3) (.int 69621))) (.int 1)) .nil)) (.int 2147483647)) false)
 (.seq (.set 3 (.bin .mod (.bi .int (.cons (.bin .add (.bin .mul (.var 3) (.int 16807)) (.pfld 0 3)) .nil)) (.int 2147483629)) false)
 (.seq (.ret (.bin .mod (.bin .fdiv (.var 3) (.int 5)) (.var 1)))
 .skip)))
.skip)
 (.seq (.set 4 (.bin .mod (.bi .int (.cons (.pfld 0 2) .nil)) (.var 1)) false)
 (.seq (.pput 0 2 (.bin .fdiv (.pfld 0 2) (.var 1)))
 (.seq (.ret (.var 4))
 .skip))))))⟩
def txf_law_pick : FDef := ⟨2, 2, (.seq (.ret (.idx (.var 1) (.call "_law_draw" (.cons (.var 0) (.cons (.bi .len (.cons (.var 1) .nil)) .nil)))))
 .skip)⟩
abbrev Has (ft : FTab) (f : Str) (fd : FDef) : Prop := List.lookup f ft = some fd
section
variable {ft : FTab} {gt : Str → Option D}
def retOf : Out Fl → Out D
  | .ok (.rt d) p => .ok d p
  | .ok (.nx _) p => .ok .non p
  | .ok _ _ => .bad
  | .exc c xs p => .exc c xs p
  | .bad => .bad
@[simp] theorem retOf_rt (d p) : retOf (.ok (.rt d) p) = .ok d p := nr rfl
@[simp] theorem retOf_nx (d p) : retOf (.ok (.nx d) p) = .ok .non p := nr rfl
@[simp] theorem retOf_exc (c d p) : retOf (.exc c d p) = .exc c d p := nr rfl
theorem callF_succ {f : Str} {fd : FDef} (h : Has ft f fd) (n : Nat) (ds : List D) (p : PSt) : callF ft gt (n + 1) f ds p = runBody (callF ft gt n) gt fd ds p := by
  show (match List.lookup f ft with | some fd => runBody (callF ft gt n) gt fd ds p | none => .bad) = _
  rw [h]
theorem run_eq {cf : Str → List D → PSt → Out D} {fd : FDef} {ds : List D} {p : PSt} (h : ds.length = fd.params) : runBody cf gt fd ds p = retOf (execS cf gt fd.body (ds.map .val ++ List.replicate (fd.slots - fd.params) .no) p) := by
  unfold runBody
  rw [if_pos h]
  rfl
theorem call_spread (hf : Has ft "_law_spread" txf_law_spread) (n : Nat) (c : Int) (p : PSt) : callF ft gt (n + 1) "_law_spread" [.int c] p = .ok (.int (spreadI c)) p := by
  rw [callF_succ hf, run_eq rfl]
  simp [txf_law_spread, escE, escB, escBs, kB2_mod, kB2_mul, kRng1_eq, in62, rangeL, List.range_succ, forL, small64, spreadI]
theorem call_draw (hs : Has ft "_law_spread" txf_law_spread) (hf : Has ft "_law_draw" txf_law_draw) (n : Nat) (m : Int) (h0 : 0 < m) (h1 : m < 9223372036854775808) (p : PSt) (hp : p.idx ≤ p.cells.length) :
    callF ft gt (n + 2) "_law_draw" [.pool, .int m] p = .ok (.int (drawI m p).1) (drawI m p).2 := by
  rw [callF_succ hf, run_eq rfl]
  by_cases c1 : p.cur ≤ 0
  · by_cases c2 : p.idx < p.cells.length
    · by_cases c3 : p.cells[p.idx] < 1000000000000000000
      · by_cases c4 : spreadI p.cells[p.idx] ≤ 0
        · simp [txf_law_draw, escE, escB, escBs, kB2_mod, kB2_mul, kB2_fdivW, small64, c1, c2, c3, c4, h0, h1, setP_1, call_spread hs, drawI, refill]
        · simp [txf_law_draw, escE, escB, escBs, kB2_mod, kB2_mul, kB2_fdivW, small64, c1, c2, c3, c4, h0, h1, setP_1, call_spread hs, drawI, refill]
      · have c4 : ¬ p.cells[p.idx] ≤ 0 := by omega
        simp [txf_law_draw, escE, escB, escBs, kB2_mod, kB2_mul, kB2_fdivW, small64, c1, c2, c3, c4, h0, h1, setP_1, drawI, refill]
    · simp [txf_law_draw, escE, escB, escBs, kB2_mod, kB2_mul, kB2_fdivW, small64, c1, c2, h0, h1, setP_1, drawI, refill]
  · simp [txf_law_draw, escE, escB, escBs, kB2_mod, kB2_mul, kB2_fdivW, small64, c1, h0, h1, setP_1, drawI, refill]
end
end PD

namespace PD
open PySem PySem.Spec PyProof.Rows L2
mutual
def D.fine : Nat → D → Bool
  | _, .non => true
  | _, .bl _ => true
  | _, .int _ => true
  | _, .str x => strOkD x
  | n, .lst xs => match n with
    | 0 => false
    | n + 1 => decide (xs.length ≤ sizeLine) && D.fineL n xs
  | n, .tup xs => match n with
    | 0 => false
    | n + 1 => decide (xs.length ≤ sizeLine) && D.fineL n xs
  | _, .dict _ _ _ => false
  | _, .ctup _ => false
  | _, .pool => false
def D.fineL : Nat → List D → Bool
  | _, [] => true
  | n, x :: xs => D.fine n x && D.fineL n xs
end
theorem fineL_get : ∀ {n : Nat} {xs : List D} {i : Nat} {x : D}, D.fineL n xs = true → xs[i]? = some x → D.fine n x = true
  | _, [], _, _, _, e => by simp at e
  | n, x :: xs, 0, _, h, e => by
    unfold D.fineL at h
    simp at e h
    subst e
    exact h.1
  | n, x :: xs, i + 1, _, h, e => by
    unfold D.fineL at h
    simp at e h
    exact fineL_get h.2 e
theorem fineL_of {n : Nat} : ∀ {xs : List D}, (∀ x ∈ xs, D.fine n x = true) → D.fineL n xs = true
  | [], _ => by unfold D.fineL; rfl
  | x :: xs, h => by
    unfold D.fineL
    simp only [Bool.and_eq_true]
    exact ⟨h x (by simp), fineL_of fun y hy => h y (by simp [hy])⟩
mutual
theorem fine_mono : ∀ {n m : Nat} (d : D), n ≤ m → D.fine n d = true → D.fine m d = true
  | _, _, .non, _, _ => by unfold D.fine; rfl
  | _, _, .bl _, _, _ => by unfold D.fine; rfl
  | _, _, .int _, _, _ => by unfold D.fine; rfl
  | _, _, .str _, _, h => by unfold D.fine at *; exact h
  | 0, _, .lst xs, _, h => by unfold D.fine at h; cases h
  | n + 1, 0, .lst xs, h, _ => by omega
  | n + 1, m + 1, .lst xs, hl, h => by
    unfold D.fine at *
    simp only [Bool.and_eq_true] at *
    exact ⟨h.1, fineL_mono xs (by omega) h.2⟩
  | 0, _, .tup xs, _, h => by unfold D.fine at h; cases h
  | n + 1, 0, .tup xs, h, _ => by omega
  | n + 1, m + 1, .tup xs, hl, h => by
    unfold D.fine at *
    simp only [Bool.and_eq_true] at *
    exact ⟨h.1, fineL_mono xs (by omega) h.2⟩
  | _, _, .dict _ _ _, _, h => by unfold D.fine at h; cases h
  | _, _, .ctup _, _, h => by unfold D.fine at h; cases h
  | _, _, .pool, _, h => by unfold D.fine at h; cases h
theorem fineL_mono : ∀ {n m : Nat} (xs : List D), n ≤ m → D.fineL n xs = true → D.fineL m xs = true
  | _, _, [], _, _ => by unfold D.fineL; rfl
  | n, m, x :: xs, hl, h => by
    unfold D.fineL at *
    simp only [Bool.and_eq_true] at *
    exact ⟨fine_mono x hl h.1, fineL_mono xs hl h.2⟩
end

/-! ### comprehensions and loops -/
theorem compL_fm {f : D → PSt → Out (Option D)} {g : D → Option D} {p : PSt} : ∀ {xs acc : List D}, (∀ x ∈ xs, f x p = .ok (g x) p) → acc.length + xs.length ≤ sizeLine → compL f xs acc p = .ok (.lst (acc ++ xs.filterMap g)) p
  | [], acc, _, _ => by simp [compL]
  | x :: xs, acc, h, hl => by
    have h1 := h x (by simp)
    simp only [List.length_cons] at hl
    cases e : g x with
    | none =>
      rw [e] at h1
      show (match f x p with | .ok none p => _ | .ok (some y) p => _ | _ => _) = _
      rw [h1]
      dsimp only
      rw [compL_fm (fun y hy => h y (by simp [hy])) (by omega), List.filterMap_cons_none e]
    | some y =>
      rw [e] at h1
      show (match f x p with | .ok none p => _ | .ok (some y) p => _ | _ => _) = _
      rw [h1]
      dsimp only
      rw [if_pos (by omega), compL_fm (fun y hy => h y (by simp [hy])) (by simp; omega), List.filterMap_cons_some e]
      simp
/-- over a typed list, no state -/
theorem compL_map {α : Type} {f : D → PSt → Out (Option D)} {enc : α → D} {g : α → D} {p : PSt} {L : List α} (h : ∀ a ∈ L, f (enc a) p = .ok (some (g a)) p) (hl : L.length ≤ sizeLine) : compL f (L.map enc) [] p = .ok (.lst (L.map g)) p := by
  have key : ∀ (L : List α) (acc : List D), (∀ a ∈ L, f (enc a) p = .ok (some (g a)) p) → acc.length + L.length ≤ sizeLine → compL f (L.map enc) acc p = .ok (.lst (acc ++ L.map g)) p := by
    intro L
    induction L with
    | nil => intro acc _ _; simp [compL]
    | cons a L ih =>
      intro acc h hl
      simp only [List.length_cons] at hl
      show (match f (enc a) p with | .ok none p => _ | .ok (some y) p => _ | _ => _) = _
      rw [h a (by simp)]
      dsimp only
      rw [if_pos (by omega), ih _ (fun b hb => h b (by simp [hb])) (by simp; omega)]
      simp
  exact key L [] h (by simpa using hl)
theorem compL_filt {α : Type} {f : D → PSt → Out (Option D)} {enc : α → D} {g : α → D} {q : α → Bool} {p : PSt} {L : List α} (h : ∀ a ∈ L, f (enc a) p = .ok (if q a = true then some (g a) else none) p) (hl : L.length ≤ sizeLine) : compL f (L.map enc) [] p = .ok (.lst ((L.filter q).map g)) p := by
  have key : ∀ (L : List α) (acc : List D), (∀ a ∈ L, f (enc a) p = .ok (if q a = true then some (g a) else none) p) → acc.length + L.length ≤ sizeLine → compL f (L.map enc) acc p = .ok (.lst (acc ++ (L.filter q).map g)) p := by
    intro L
    induction L with
    | nil => intro acc _ _; simp [compL]
    | cons a L ih =>
      intro acc h hl
      simp only [List.length_cons] at hl
      show (match f (enc a) p with | .ok none p => _ | .ok (some y) p => _ | _ => _) = _
      rw [h a (by simp)]
      by_cases c : q a = true
      · rw [if_pos c]
        dsimp only
        rw [if_pos (by omega), ih _ (fun b hb => h b (by simp [hb])) (by simp; omega)]
        simp [c]
      · rw [if_neg c]
        dsimp only
        rw [ih _ (fun b hb => h b (by simp [hb])) (by omega)]
        simp [c]
  exact key L [] h (by simpa using hl)
/-- with a state -/
theorem compL_st {f : D → PSt → Out (Option D)} {I : PSt → Prop} {R : Nat → D → D → Prop} {xs : List D} (h : ∀ i x p, xs[i]? = some x → I p → ∃ y p', f x p = .ok (some y) p' ∧ I p' ∧ R i x y) (hl : xs.length ≤ sizeLine) {p : PSt} (hp : I p) :
    ∃ ys p', compL f xs [] p = .ok (.lst ys) p' ∧ I p' ∧ ys.length = xs.length ∧ ∀ (i : Nat) (x y : D), xs[i]? = some x → ys[i]? = some y → R i x y := by
  have key : ∀ (xs : List D) (acc : List D) (k : Nat) (p : PSt), (∀ i x p, xs[i]? = some x → I p → ∃ y p', f x p = .ok (some y) p' ∧ I p' ∧ R (k + i) x y) → acc.length + xs.length ≤ sizeLine → I p →
      ∃ ys p', compL f xs acc p = .ok (.lst (acc ++ ys)) p' ∧ I p' ∧ ys.length = xs.length ∧ ∀ (i : Nat) (x y : D), xs[i]? = some x → ys[i]? = some y → R (k + i) x y := by
    intro xs
    induction xs with
    | nil => intro acc k p _ _ hp; exact ⟨[], p, by simp [compL], hp, rfl, fun i x y e => by simp at e⟩
    | cons x xs ih =>
      intro acc k p h hl hp
      simp only [List.length_cons] at hl
      obtain ⟨y, p1, e1, i1, r1⟩ := h 0 x p (by simp) hp
      obtain ⟨ys, p2, e2, i2, l2, r2⟩ := ih (acc ++ [y]) (k + 1) p1 (fun i z p hz hp => by
        obtain ⟨y', p', a1, a2, a3⟩ := h (i + 1) z p (by simpa using hz) hp
        exact ⟨y', p', a1, a2, by rw [show k + 1 + i = k + (i + 1) by omega]; exact a3⟩) (by simp; omega) i1
      refine ⟨y :: ys, p2, ?_, i2, by simp [l2], fun i a b ha hb => ?_⟩
      · show (match f x p with | .ok none p => _ | .ok (some y) p => _ | _ => _) = _
        rw [e1]
        dsimp only
        rw [if_pos (by omega), e2]
        simp
      · rcases i with _ | i
        · simp at ha hb
          subst ha hb
          exact r1
        · have := r2 i a b (by simpa using ha) (by simpa using hb)
          rw [show k + (i + 1) = k + 1 + i by omega]; exact this
  obtain ⟨ys, p', a, b, c, d⟩ := key xs [] 0 p (fun i x p e hp => by simpa using h i x p e hp) (by simpa using hl) hp
  exact ⟨ys, p', by simpa using a, b, c, fun i x y e1 e2 => by simpa using d i x y e1 e2⟩
/-- a loop whose state is a typed value -/
theorem forL_fold {α β : Type} {f : D → SEnv → PSt → Out Fl} {enc : α → D} {en : β → SEnv} {g : β → α → β} {p : PSt} : ∀ {L : List α} {b : β}, (∀ a ∈ L, ∀ b, f (enc a) (en b) p = .ok (.nx (en (g b a))) p) → forL f (L.map enc) (en b) p = .ok (.nx (en (L.foldl g b))) p
  | [], b, _ => rfl
  | a :: L, b, h => by
    show (match f (enc a) (en b) p with | .ok (.nx env) p => _ | .ok (.ct env) p => _ | .ok (.bk env) p => _ | .ok (.rt d) p => _ | .exc c ds p => _ | .bad => _) = _
    rw [h a (by simp) b]
    exact forL_fold fun x hx b => h x (by simp [hx]) b
/-- a loop with an invariant -/
theorem forL_inv {f : D → SEnv → PSt → Out Fl} {xs : List D} (P : Nat → SEnv → PSt → Prop) (h : ∀ i x env p, xs[i]? = some x → P i env p → ∃ env' p', f x env p = .ok (.nx env') p' ∧ P (i + 1) env' p') {env : SEnv} {p : PSt} (h0 : P 0 env p) :
    ∃ env' p', forL f xs env p = .ok (.nx env') p' ∧ P xs.length env' p' := by
  have key : ∀ (xs : List D) (k : Nat) (env : SEnv) (p : PSt), (∀ i x env p, xs[i]? = some x → P (k + i) env p → ∃ env' p', f x env p = .ok (.nx env') p' ∧ P (k + i + 1) env' p') → P k env p → ∃ env' p', forL f xs env p = .ok (.nx env') p' ∧ P (k + xs.length) env' p' := by
    intro xs
    induction xs with
    | nil => intro k env p _ h0; exact ⟨env, p, rfl, by simpa using h0⟩
    | cons x xs ih =>
      intro k env p h h0
      obtain ⟨env1, p1, e1, q1⟩ := h 0 x env p (by simp) (by simpa using h0)
      obtain ⟨env2, p2, e2, q2⟩ := ih (k + 1) env1 p1 (fun i y env p e q => by
        have := h (i + 1) y env p (by simpa using e) (by rw [show k + (i + 1) = k + 1 + i by omega]; exact q)
        rw [show k + (i + 1) = k + 1 + i by omega] at this
        exact this) (by simpa using q1)
      refine ⟨env2, p2, ?_, ?_⟩
      · show (match f x env p with | .ok (.nx env) p => _ | .ok (.ct env) p => _ | .ok (.bk env) p => _ | .ok (.rt d) p => _ | .exc c ds p => _ | .bad => _) = _
        rw [e1]
        exact e2
      · rw [List.length_cons, show k + (xs.length + 1) = k + 1 + xs.length by omega]
        exact q2
  obtain ⟨a, b, c, d⟩ := key xs 0 env p (fun i x env p e q => by simpa using h i x env p e (by simpa using q)) h0
  exact ⟨a, b, c, by simpa using d⟩
/-- steps of a loop over a list that is written out -/
@[simp] theorem forL_nil {f : D → SEnv → PSt → Out Fl} {env : SEnv} {p : PSt} : forL f [] env p = .ok (.nx env) p := nr rfl
def forK (f : D → SEnv → PSt → Out Fl) (xs : List D) : Out Fl → Out Fl
  | .ok (.nx env) p => forL f xs env p
  | .ok (.ct env) p => forL f xs env p
  | .ok (.bk env) p => .ok (.nx env) p
  | .ok (.rt d) p => .ok (.rt d) p
  | .exc c ds p => .exc c ds p
  | .bad => .bad
theorem forL_cons {f : D → SEnv → PSt → Out Fl} {x : D} {xs : List D} {env : SEnv} {p : PSt} : forL f (x :: xs) env p = forK f xs (f x env p) := rfl
@[simp] theorem forK_nx (f xs env p) : forK f xs (.ok (.nx env) p) = forL f xs env p := nr rfl
@[simp] theorem forK_ct (f xs env p) : forK f xs (.ok (.ct env) p) = forL f xs env p := nr rfl
@[simp] theorem forK_bk (f xs env p) : forK f xs (.ok (.bk env) p) = .ok (.nx env) p := nr rfl
@[simp] theorem forK_rt (f xs d p) : forK f xs (.ok (.rt d) p) = .ok (.rt d) p := nr rfl
theorem rangeL_zero (n : Nat) : rangeL 0 n = (List.range n).map fun k => D.int ((k : Nat) : Int) := by
  unfold rangeL
  apply List.map_congr_left
  intro k _
  rw [Int.zero_add]
theorem in62_len {n : Nat} (h : n ≤ sizeLine) : in62 (n : Int) = true := by
  unfold in62
  rw [sizeLine_eq] at h
  simp
  omega
theorem atI_nat' {xs : List D} {i : Nat} {x : D} (h : xs[i]? = some x) : atI xs (i : Int) = some x := atI_nat h
@[simp] theorem idxD_lst (xs i) : idxD (.lst xs) (.int i) = atI xs i := nr rfl
@[simp] theorem idxD_tup (xs i) : idxD (.tup xs) (.int i) = atI xs i := nr rfl
@[simp] theorem atI_zero (x : D) (xs : List D) : atI (x :: xs) 0 = some x := atI_nat (j := 0) rfl
@[simp] theorem atI_one (x y : D) (xs : List D) : atI (x :: y :: xs) 1 = some y := atI_nat (j := 1) rfl
@[simp] theorem atI_two (x y z : D) (xs : List D) : atI (x :: y :: z :: xs) 2 = some z := atI_nat (j := 2) rfl
@[simp] theorem atI_three (x y z u : D) (xs : List D) : atI (x :: y :: z :: u :: xs) 3 = some u := atI_nat (j := 3) rfl

/-! ### the laws' own defs -/
section
variable {ft : FTab} {gt : Str → Option D}
abbrev PG (p : PSt) : Prop := p.idx ≤ p.cells.length
theorem refill_ok {p : PSt} (h : PG p) : PG (refill p) := by
  unfold refill
  split
  · split
    · rename_i c e
      have := (List.getElem?_eq_some_iff.mp e).1
      show p.idx + 1 ≤ p.cells.length
      omega
    · exact h
  · exact h
theorem drawI_ok {m : Int} (h0 : 0 < m) {p : PSt} (h : PG p) : 0 ≤ (drawI m p).1 ∧ (drawI m p).1 < m ∧ PG (drawI m p).2 := by
  unfold drawI
  have r := refill_ok h
  dsimp only
  split
  · exact ⟨Int.emod_nonneg _ (by omega), Int.emod_lt_of_pos _ h0, r⟩
  · exact ⟨Int.emod_nonneg _ (by omega), Int.emod_lt_of_pos _ h0, r⟩
/-- a draw: some number below m -/
theorem draw_ex (hs : Has ft "_law_spread" txf_law_spread) (hf : Has ft "_law_draw" txf_law_draw) (n : Nat) {m : Int} (h0 : 0 < m) (h1 : m < 9223372036854775808) {p : PSt} (hp : PG p) :
    ∃ (v : Nat) (p' : PSt), callF ft gt (n + 2) "_law_draw" [.pool, .int m] p = .ok (.int v) p' ∧ (v : Int) < m ∧ PG p' := by
  obtain ⟨a, b, c⟩ := drawI_ok (p := p) h0 hp
  refine ⟨(drawI m p).1.toNat, (drawI m p).2, ?_, by omega, c⟩
  rw [call_draw hs hf n m h0 h1 p hp, Int.toNat_of_nonneg a]
theorem pick_ex (hs : Has ft "_law_spread" txf_law_spread) (hf : Has ft "_law_draw" txf_law_draw) (hk : Has ft "_law_pick" txf_law_pick) (n : Nat) {d : D} {xs : List D} (hd : d = .tup xs ∨ d = .lst xs) (h0 : xs ≠ []) (h1 : xs.length ≤ sizeLine) {p : PSt} (hp : PG p) :
    ∃ (x : D) (p' : PSt), callF ft gt (n + 3) "_law_pick" [.pool, d] p = .ok x p' ∧ x ∈ xs ∧ PG p' := by
  have hl : 0 < xs.length := List.length_pos_iff.mpr h0
  obtain ⟨v, p', e, h2, h3⟩ := draw_ex (gt := gt) hs hf n (m := (xs.length : Int)) (by omega) (by rw [sizeLine_eq] at h1; omega) hp
  have hv : v < xs.length := by omega
  refine ⟨xs[v], p', ?_, List.getElem_mem hv, h3⟩
  rw [callF_succ hk, run_eq rfl]
  rcases hd with rfl | rfl
  · simp [txf_law_pick, escE, escB, escBs, e, atI_nat' (List.getElem?_eq_getElem hv)]
  · simp [txf_law_pick, escE, escB, escBs, e, atI_nat' (List.getElem?_eq_getElem hv)]
/-- a pick from a typed list -/
theorem pick_of (hs : Has ft "_law_spread" txf_law_spread) (hf : Has ft "_law_draw" txf_law_draw) (hk : Has ft "_law_pick" txf_law_pick) (n : Nat) {α : Type} {L : List α} {enc : α → D} {d : D} (hd : d = .tup (L.map enc) ∨ d = .lst (L.map enc)) (h0 : L ≠ []) (h1 : L.length ≤ sizeLine) {p : PSt} (hp : PG p) :
    ∃ (a : α) (p' : PSt), callF ft gt (n + 3) "_law_pick" [.pool, d] p = .ok (enc a) p' ∧ a ∈ L ∧ PG p' := by
  obtain ⟨x, p', e, hx, hp'⟩ := pick_ex (gt := gt) hs hf hk n (xs := L.map enc) hd (by simpa using h0) (by simpa using h1) hp
  obtain ⟨a, ha, rfl⟩ := List.mem_map.mp hx
  exact ⟨a, p', e, ha, hp'⟩
theorem typed_of {α : Type} {enc : α → D} {Q : α → Prop} : ∀ ys : List D, (∀ y ∈ ys, ∃ a, y = enc a ∧ Q a) → ∃ L : List α, ys = L.map enc ∧ ∀ a ∈ L, Q a
  | [], _ => ⟨[], rfl, by simp⟩
  | y :: ys, h => by
    obtain ⟨m, e, q⟩ := h y (by simp)
    obtain ⟨L, e2, q2⟩ := typed_of ys fun z hz => h z (by simp [hz])
    exact ⟨m :: L, by rw [e, e2]; rfl, by simpa using ⟨q, q2⟩⟩
/-- a row of draws: a comprehension whose items are drawn, typed -/
theorem compL_ty {α : Type} {enc : α → D} {Q : α → Prop} {f : D → PSt → Out (Option D)} {I : PSt → Prop} {xs : List D} (h : ∀ x ∈ xs, ∀ p, I p → ∃ a p', f x p = .ok (some (enc a)) p' ∧ I p' ∧ Q a) (hl : xs.length ≤ sizeLine) {p : PSt} (hp : I p) :
    ∃ (L : List α) (p' : PSt), compL f xs [] p = .ok (.lst (L.map enc)) p' ∧ I p' ∧ L.length = xs.length ∧ ∀ a ∈ L, Q a := by
  obtain ⟨ys, p', e, i', hlen, hR⟩ := compL_st (R := fun _ _ y => ∃ a, y = enc a ∧ Q a) (fun i x p hx hp => by
    obtain ⟨a, p', e, i', q⟩ := h x (List.mem_of_getElem? hx) p hp
    exact ⟨enc a, p', e, i', a, rfl, q⟩) hl hp
  obtain ⟨L, rfl, q⟩ := typed_of (enc := enc) (Q := Q) ys fun y hy => by
    obtain ⟨i, hi, e⟩ := List.getElem_of_mem hy
    exact hR i _ y (List.getElem?_eq_getElem (by omega)) (by rw [List.getElem?_eq_getElem hi, e])
  exact ⟨L, p', e, i', by simpa using hlen, q⟩
@[simp] theorem rangeL_len (a : Int) (n : Nat) : (rangeL a n).length = n := by simp [rangeL]
theorem same_refl (hf : Has ft "_law_same" txf_law_same) : ∀ (k : Nat) (d : D), D.fine k d = true → ∀ (n : Nat) (p : PSt), callF ft gt (n + k + 1) "_law_same" [d, d] p = .ok (.bl true) p := by
  intro k
  induction k with
  | zero =>
    intro d hd n p
    rw [callF_succ hf, run_eq rfl]
    cases d <;> first | (simp [D.fine] at hd; done) | skip
    · simp [txf_law_same, escE, escB, escBs]
    · simp [txf_law_same, escE, escB, escBs]
    · simp [txf_law_same, escE, escB, escBs]
    · unfold D.fine at hd
      simp [txf_law_same, escE, escB, escBs]
  | succ k ih =>
    intro d hd n p
    have body : ∀ xs : List D, xs.length ≤ sizeLine → D.fineL k xs = true → ∀ (x0 : D) (ix : ∀ i : Int, idxD x0 (.int i) = atI xs i) (s2 : Option D), compL (fC (callF ft gt (n + (k + 1))) gt (.var 2) (.name 2) (.cons (.not (.call "_law_same" (.cons (.idx (.var 0) (.var 2)) (.cons (.idx (.var 1) (.var 2)) .nil)))) .nil) [some x0, some x0, s2]) (rangeL 0 xs.length) [] p = .ok (.lst []) p := fun xs hl hx x0 ix s2 => by
      have := compL_fm (f := fC (callF ft gt (n + (k + 1))) gt (.var 2) (.name 2) (.cons (.not (.call "_law_same" (.cons (.idx (.var 0) (.var 2)) (.cons (.idx (.var 1) (.var 2)) .nil)))) .nil) [some x0, some x0, s2]) (g := fun _ => none) (p := p) (xs := rangeL 0 xs.length) (acc := []) (fun x hx' => ?_) (by simp [rangeL]; omega)
      · rw [this]; simp
      · rw [rangeL_zero, List.mem_map] at hx'
        obtain ⟨i, hi, rfl⟩ := hx'
        have hi : i < xs.length := List.mem_range.mp hi
        have e := ih xs[i] (fineL_get hx (List.getElem?_eq_getElem hi)) n p
        rw [show n + k + 1 = n + (k + 1) by omega] at e
        simp [ix, atI_nat' (List.getElem?_eq_getElem hi), e]
    rw [callF_succ hf, run_eq rfl]
    cases d <;> first | (simp [D.fine] at hd; done) | skip
    · simp [txf_law_same, escE, escB, escBs]
    · simp [txf_law_same, escE, escB, escBs]
    · simp [txf_law_same, escE, escB, escBs]
    · unfold D.fine at hd
      simp [txf_law_same, escE, escB, escBs]
    · unfold D.fine at hd
      simp only [Bool.and_eq_true, decide_eq_true_eq] at hd
      have b := body _ hd.1 hd.2 (.tup _) (fun i => rfl) none
      simp only [show n + (k + 1) = n + k + 1 by omega] at b ⊢
      simp [txf_law_same, escE, escB, escBs, kRng1_eq, in62_len hd.1, b]
    · unfold D.fine at hd
      simp only [Bool.and_eq_true, decide_eq_true_eq] at hd
      have b := body _ hd.1 hd.2 (.lst _) (fun i => rfl) none
      simp only [show n + (k + 1) = n + k + 1 by omega] at b ⊢
      simp [txf_law_same, escE, escB, escBs, kRng1_eq, in62_len hd.1, b]
end
end PD

namespace PD
open PySem PySem.Spec PyProof.Rows L2
mutual
/-- data that can be shown: no pool, depth at most n, ints that are no giants -/
def D.nice (b : Nat) : Nat → D → Bool
  | _, .non => true
  | _, .bl _ => true
  | _, .int i => decide (i.natAbs < 2 ^ b)
  | _, .str x => strOkD x
  | n, .lst xs => match n with
    | 0 => false
    | n + 1 => D.niceL b n xs
  | n, .tup xs => match n with
    | 0 => false
    | n + 1 => D.niceL b n xs
  | _, .dict _ _ _ => false
  | _, .ctup _ => false
  | _, .pool => false
def D.niceL (b : Nat) : Nat → List D → Bool
  | _, [] => true
  | n, x :: xs => D.nice b n x && D.niceL b n xs
end
mutual
/-- a bound on the signs that show it -/
def D.cost : D → Nat
  | .non => 5
  | .bl _ => 5
  | .int _ => 2000
  | .str x => 10 * x.length + 2
  | .lst xs => D.costL xs + 3
  | .tup xs => D.costL xs + 3
  | .dict _ _ _ => 0
  | .ctup _ => 0
  | .pool => 0
def D.costL : List D → Nat
  | [] => 0
  | x :: xs => D.cost x + 2 + D.costL xs
end
theorem niceL_iff {b n : Nat} : ∀ {xs : List D}, D.niceL b n xs = true ↔ ∀ x ∈ xs, D.nice b n x = true
  | [] => by simp [D.niceL]
  | x :: xs => by simp [D.niceL, niceL_iff (xs := xs)]
theorem nice_tup {b n : Nat} {xs : List D} : D.nice b (n + 1) (.tup xs) = D.niceL b n xs := by unfold D.nice; rfl
theorem nice_lst {b n : Nat} {xs : List D} : D.nice b (n + 1) (.lst xs) = D.niceL b n xs := by unfold D.nice; rfl
theorem costL_append : ∀ (xs ys : List D), D.costL (xs ++ ys) = D.costL xs + D.costL ys
  | [], ys => by simp [D.costL]
  | x :: xs, ys => by simp [D.costL, costL_append xs ys]; omega
theorem costL_len : ∀ (xs : List D), 2 * xs.length ≤ D.costL xs
  | [] => by simp [D.costL]
  | x :: xs => by
    have := costL_len xs
    simp [D.costL]
    omega
theorem costL_mem : ∀ {xs : List D} {x : D}, x ∈ xs → D.cost x + 2 ≤ D.costL xs
  | y :: ys, x, h => by
    rcases List.mem_cons.mp h with rfl | h
    · simp [D.costL]
    · have := costL_mem h
      simp [D.costL]
      omega
theorem costL_split {xs : List D} {i : Nat} (h : i < xs.length) : D.costL xs = D.costL (xs.take i) + (D.cost xs[i] + 2) + D.costL (xs.drop (i + 1)) := by
  conv => lhs; rw [← List.take_append_drop i xs, List.drop_eq_getElem_cons h, costL_append]
  simp [D.costL]
  omega
theorem costL_drop (xs : List D) (i : Nat) : D.costL (xs.take i) + D.costL (xs.drop i) = D.costL xs := by
  rw [← costL_append, List.take_append_drop]
mutual
theorem nice_mono {b e : Nat} (hb : b ≤ e) : ∀ {n m : Nat} (d : D), n ≤ m → D.nice b n d = true → D.nice e m d = true
  | _, _, .non, _, _ => by unfold D.nice; rfl
  | _, _, .bl _, _, _ => by unfold D.nice; rfl
  | _, _, .int _, _, h => by
    unfold D.nice at *
    simp only [decide_eq_true_eq] at *
    exact Nat.lt_of_lt_of_le h (Nat.pow_le_pow_right (by decide) hb)
  | _, _, .str _, _, h => by unfold D.nice at *; exact h
  | 0, _, .lst xs, _, h => by unfold D.nice at h; cases h
  | n + 1, 0, .lst xs, h, _ => by omega
  | n + 1, m + 1, .lst xs, hl, h => by
    unfold D.nice at *
    exact niceL_mono hb xs (by omega) h
  | 0, _, .tup xs, _, h => by unfold D.nice at h; cases h
  | n + 1, 0, .tup xs, h, _ => by omega
  | n + 1, m + 1, .tup xs, hl, h => by
    unfold D.nice at *
    exact niceL_mono hb xs (by omega) h
  | _, _, .dict _ _ _, _, h => by unfold D.nice at h; cases h
  | _, _, .ctup _, _, h => by unfold D.nice at h; cases h
  | _, _, .pool, _, h => by unfold D.nice at h; cases h
theorem niceL_mono {b e : Nat} (hb : b ≤ e) : ∀ {n m : Nat} (xs : List D), n ≤ m → D.niceL b n xs = true → D.niceL e m xs = true
  | _, _, [], _, _ => by unfold D.niceL; rfl
  | n, m, x :: xs, hl, h => by
    unfold D.niceL at *
    simp only [Bool.and_eq_true] at *
    exact ⟨nice_mono hb x hl h.1, niceL_mono hb xs hl h.2⟩
end
mutual
theorem nice_fits {b : Nat} (hb : b ≤ 1900) : ∀ {n : Nat} (d : D), D.nice b n d = true → D.fits n d = true ∧ (toPy d).showable = true ∧ (toPy d).shown.length ≤ D.cost d
  | _, .non, _ => by simp [D.fits, toPy, PyData.showable, PyData.shown, D.cost]; decide +kernel
  | _, .bl b, _ => by
    simp [D.fits, toPy, PyData.showable, PyData.shown, D.cost]
    cases b <;> decide +kernel
  | _, .int i, h => by
    unfold D.nice at h
    simp only [decide_eq_true_eq] at h
    have h : i.natAbs.log2 < 1920 := by
      by_cases h0 : i.natAbs = 0
      · rw [h0]; decide
      · exact (Nat.log2_lt h0).mpr (Nat.lt_of_lt_of_le h (Nat.pow_le_pow_right (by decide) (by omega)))
    refine ⟨by simp [D.fits], by simp [toPy, PyData.showable, h], ?_⟩
    simp only [toPy, PyData.shown, D.cost]
    have e := int_text_length_le (k := 1920) (by decide) h
    show (Str.ofString (toString i)).length ≤ 2000
    rw [PySem.ofString_length]
    omega
  | _, .str x, h => by
    unfold D.nice at h
    refine ⟨by simp [D.fits, h], by simp [toPy, PyData.showable], ?_⟩
    simp only [toPy, PyData.shown, D.cost]
    refine StrLaws.reprText_len x fun c hc => ?_
    unfold strOkD PyData.strOk at h
    rw [← Array.all_toList, List.all_eq_true] at h
    have := h c hc
    simp only [decide_eq_true_eq] at this
    exact Nat.lt_of_lt_of_le this (by decide)
  | 0, .lst xs, h => by unfold D.nice at h; cases h
  | n + 1, .lst xs, h => by
    unfold D.nice at h
    obtain ⟨h1, h2, h3⟩ := niceL_fits hb xs h
    refine ⟨by unfold D.fits; exact h1, by simp only [toPy, PyData.showable]; exact h2, ?_⟩
    simp only [toPy, PyData.shown, D.cost]
    exact Nat.le_trans (listText_len_le _) (by omega)
  | 0, .tup xs, h => by unfold D.nice at h; cases h
  | n + 1, .tup xs, h => by
    unfold D.nice at h
    obtain ⟨h1, h2, h3⟩ := niceL_fits hb xs h
    refine ⟨by unfold D.fits; exact h1, by simp only [toPy, PyData.showable]; exact h2, ?_⟩
    simp only [toPy, PyData.shown, D.cost]
    exact Nat.le_trans (tupleText_len_le _) (by omega)
  | _, .dict _ _ _, h => by unfold D.nice at h; cases h
  | _, .ctup _, h => by unfold D.nice at h; cases h
  | _, .pool, h => by unfold D.nice at h; cases h
theorem niceL_fits {b : Nat} (hb : b ≤ 1900) : ∀ {n : Nat} (xs : List D), D.niceL b n xs = true → D.fitsL n xs = true ∧ PyData.showableAll (toPys xs) = true ∧ ((PyData.shownAll (toPys xs)).map (·.length)).sum + 2 * (PyData.shownAll (toPys xs)).length ≤ D.costL xs
  | _, [], _ => by simp [D.fitsL, toPys, PyData.showableAll, PyData.shownAll, D.costL]
  | n, x :: xs, h => by
    unfold D.niceL at h
    simp only [Bool.and_eq_true] at h
    obtain ⟨a1, a2, a3⟩ := nice_fits hb x h.1
    obtain ⟨b1, b2, b3⟩ := niceL_fits hb xs h.2
    simp only [D.fitsL, toPys, PyData.showableAll, PyData.shownAll, D.costL, a1, a2, b1, b2, Bool.and_self, List.map_cons, List.sum_cons, List.length_cons, true_and]
    omega
end
mutual
theorem nice_fine {b : Nat} : ∀ {n : Nat} (d : D), D.nice b n d = true → D.cost d ≤ sizeLine → D.fine n d = true
  | _, .non, _, _ => by unfold D.fine; rfl
  | _, .bl _, _, _ => by unfold D.fine; rfl
  | _, .int _, _, _ => by unfold D.fine; rfl
  | _, .str _, h, _ => by unfold D.nice at h; unfold D.fine; exact h
  | 0, .lst xs, h, _ => by unfold D.nice at h; cases h
  | n + 1, .lst xs, h, c => by
    unfold D.nice at h
    unfold D.cost at c
    unfold D.fine
    have := costL_len xs
    simp only [Bool.and_eq_true, decide_eq_true_eq]
    exact ⟨by omega, niceL_fine xs h (by omega)⟩
  | 0, .tup xs, h, _ => by unfold D.nice at h; cases h
  | n + 1, .tup xs, h, c => by
    unfold D.nice at h
    unfold D.cost at c
    unfold D.fine
    have := costL_len xs
    simp only [Bool.and_eq_true, decide_eq_true_eq]
    exact ⟨by omega, niceL_fine xs h (by omega)⟩
  | _, .dict _ _ _, h, _ => by unfold D.nice at h; cases h
  | _, .ctup _, h, _ => by unfold D.nice at h; cases h
  | _, .pool, h, _ => by unfold D.nice at h; cases h
theorem niceL_fine {b : Nat} : ∀ {n : Nat} (xs : List D), D.niceL b n xs = true → D.costL xs ≤ sizeLine → D.fineL n xs = true
  | _, [], _, _ => by unfold D.fineL; rfl
  | n, x :: xs, h, c => by
    unfold D.niceL at h
    unfold D.costL at c
    unfold D.fineL
    simp only [Bool.and_eq_true] at *
    exact ⟨nice_fine x h.1 (by omega), niceL_fine xs h.2 (by omega)⟩
end
/-- data that the laws' draws may make: ints below 2^b, depth at most n, shown in at most c signs -/
structure Good (b n c : Nat) (d : D) : Prop where
  nice : D.nice b n d = true
  cost : D.cost d ≤ c
theorem Good.mono {b b' n m c e : Nat} {d : D} (g : Good b n c d) (hb : b ≤ b') (h : n ≤ m) (h' : c ≤ e) : Good b' m e d := ⟨nice_mono hb d h g.nice, Nat.le_trans g.cost h'⟩
theorem Good.repr {b n c : Nat} {d : D} (g : Good b n c d) (hb : b ≤ 1900) (h : n ≤ 60) (h' : c ≤ 16000000) : reprOk d = true := by
  obtain ⟨h1, h2, h3⟩ := nice_fits hb d (nice_mono (Nat.le_refl b) d h g.nice)
  unfold reprOk
  rw [sizeLine_eq]
  simp only [Bool.and_eq_true, decide_eq_true_eq]
  exact ⟨⟨h1, h2⟩, by have := g.cost; omega⟩
theorem Good.fine {b n c : Nat} {d : D} (g : Good b n c d) (h' : c ≤ 16000000) : D.fine n d = true := nice_fine d g.nice (by rw [sizeLine_eq]; have := g.cost; omega)
end PD

namespace PD
open PySem PySem.Spec PyProof.Rows L2
def txf_is_whole : FDef := ⟨1, 1, (.seq (.ret (.and (.isi (.var 0) .int) (.not (.isi (.var 0) .bool))))
 .skip)⟩
def txf_is_from : FDef := ⟨3, 3, (.seq (.ret (.and (.call "is_whole" (.cons (.var 0) .nil)) (.chain .le .le (.var 1) (.var 0) (.var 2))))
 .skip)⟩
def txf_law_is_integer : FDef := ⟨1, 1, (.seq (.ret (.and (.isi (.var 0) .int) (.not (.isi (.var 0) .bool))))
 .skip)⟩
def txf_law_is_number : FDef := ⟨2, 2, (.seq (.ret (.and (.call "_law_is_integer" (.cons (.var 0) .nil)) (.and (.cmp .le (.int 0) (.var 0)) (.cmp .le (.var 0) (.var 1)))))
 .skip)⟩
def txf_law_bent : FDef := ⟨2, 6, (.seq (.ite (.and (.isi (.var 1) .tuple) (.and (.cmp .gt (.bi .len (.cons (.var 1) .nil)) (.int 0)) (.cmp .gt (.call "_law_draw" (.cons (.var 0) (.cons (.int 3) .nil))) (.int 0))))
(.seq (.set 2 (.call "_law_draw" (.cons (.var 0) (.cons (.bi .len (.cons (.var 1) .nil)) .nil))) false)
 (.seq (.ret (.bin .add (.bin .add (.sl (.var 1) .nil (.cons (.var 2) .nil)) (.tup (.cons (.call "_law_bent" (.cons (.var 0) (.cons (.idx (.var 1) (.var 2)) .nil))) .nil))) (.sl (.var 1) (.cons (.bin .add (.var 2) (.int 1)) .nil) .nil)))
 .skip))
.skip)
 (.seq (.set 3 (.call "_law_draw" (.cons (.var 0) (.cons (.int 9) .nil))) false)
 (.seq (.ite (.cmp .eq (.var 3) (.int 0))
(.seq (.ret (.idx (.tup (.cons (.str "x") (.cons (.bl true) (.cons (.tup .nil) (.cons (.int 0) (.cons (.neg (.int 1)) (.cons .non (.cons (.bl false) (.cons (.lst .nil) .nil))))))))) (.call "_law_draw" (.cons (.var 0) (.cons (.int 8) .nil)))))
 .skip)
.skip)
 (.seq (.ite (.call "_law_is_integer" (.cons (.var 1) .nil))
(.seq (.ret (.bin .add (.var 1) (.idx (.tup (.cons (.int 1) (.cons (.neg (.int 1)) (.cons (.int 2) (.cons (.int 0) .nil))))) (.call "_law_draw" (.cons (.var 0) (.cons (.int 4) .nil))))))
 .skip)
.skip)
 (.seq (.ite (.isi (.var 1) .str)
(.seq (.ret (.idx (.tup (.cons (.bin .add (.var 1) (.str "a")) (.cons (.sl (.var 1) (.cons (.int 1) .nil) .nil) (.cons (.bin .add (.var 1) (.str "A")) (.cons (.bin .add (.var 1) (.str " ")) (.cons (.sl (.var 1) .nil (.cons (.int 1) .nil)) .nil)))))) (.call "_law_draw" (.cons (.var 0) (.cons (.int 5) .nil)))))
 .skip)
.skip)
 (.seq (.ite (.or (.not (.isi (.var 1) .tuple)) (.cmp .eq (.bi .len (.cons (.var 1) .nil)) (.int 0)))
(.seq (.ret (.ite (.cmp .lt (.var 3) (.int 5)) (.tup (.cons (.var 1) (.cons (.int 0) .nil))) (.tup .nil)))
 .skip)
.skip)
 (.seq (.set 2 (.call "_law_draw" (.cons (.var 0) (.cons (.bi .len (.cons (.var 1) .nil)) .nil))) false)
 (.seq (.ite (.cmp .lt (.var 3) (.int 3))
(.seq (.ret (.bin .add (.sl (.var 1) .nil (.cons (.var 2) .nil)) (.sl (.var 1) (.cons (.bin .add (.var 2) (.int 1)) .nil) .nil)))
 .skip)
.skip)
 (.seq (.ite (.cmp .lt (.var 3) (.int 5))
(.seq (.ret (.bin .add (.bin .add (.sl (.var 1) .nil (.cons (.var 2) .nil)) (.tup (.cons (.idx (.var 1) (.var 2)) .nil))) (.sl (.var 1) (.cons (.var 2) .nil) .nil)))
 .skip)
.skip)
 (.seq (.ite (.cmp .eq (.var 3) (.int 5))
(.seq (.ret (.bi .list (.cons (.var 1) .nil)))
 .skip)
.skip)
 (.seq (.set 4 (.call "_law_draw" (.cons (.var 0) (.cons (.bi .len (.cons (.var 1) .nil)) .nil))) false)
 (.seq (.set 5 (.bi .list (.cons (.var 1) .nil)) true)
 (.seq (.put 5 (.var 2) (.idx (.var 1) (.var 4)))
 (.seq (.put 5 (.var 4) (.idx (.var 1) (.var 2)))
 (.seq (.ret (.bi .tuple (.cons (.var 5) .nil)))
 .skip)))))))))))))))⟩
def txf_law_booled : FDef := ⟨1, 2, (.seq (.ite (.isi (.var 0) .tuple)
(.seq (.ret (.bi .tuple (.cons (.comp (.call "_law_booled" (.cons (.var 1) .nil)) (.name 1) (.var 0) .nil) .nil)))
 .skip)
.skip)
 (.seq (.ret (.ite (.and (.call "_law_is_integer" (.cons (.var 0) .nil)) (.and (.cmp .le (.int 0) (.var 0)) (.cmp .lt (.var 0) (.int 2)))) (.idx (.tup (.cons (.bl false) (.cons (.bl true) .nil))) (.var 0)) (.var 0)))
 .skip))⟩
section
variable {ft : FTab} {gt : Str → Option D}
def noPool : D → Bool
  | .dict _ _ _ => false
  | .ctup _ => false
  | .pool => false
  | _ => true
theorem nice_noPool {b n : Nat} {d : D} (h : D.nice b n d = true) : noPool d = true := by
  cases d <;> first | rfl | (unfold D.nice at h; cases h)
def isInt : D → Bool
  | .int _ => true
  | _ => false
def inRange (lo hi : Int) : D → Bool
  | .int i => decide (lo ≤ i ∧ i ≤ hi)
  | _ => false
theorem c_whole (h1 : Has ft "is_whole" txf_is_whole) (n : Nat) {d : D} (hd : noPool d = true) (p : PSt) : callF ft gt (n + 1) "is_whole" [d] p = .ok (.bl (isInt d)) p := by
  rw [callF_succ h1, run_eq rfl]
  cases d <;> first | (cases hd; done) | skip
  all_goals simp [txf_is_whole, escE, escB, escBs, isInt]
theorem c_integer (h1 : Has ft "_law_is_integer" txf_law_is_integer) (n : Nat) {d : D} (hd : noPool d = true) (p : PSt) : callF ft gt (n + 1) "_law_is_integer" [d] p = .ok (.bl (isInt d)) p := by
  rw [callF_succ h1, run_eq rfl]
  cases d <;> first | (cases hd; done) | skip
  all_goals simp [txf_law_is_integer, escE, escB, escBs, isInt]
theorem c_from (h1 : Has ft "is_whole" txf_is_whole) (h2 : Has ft "is_from" txf_is_from) (n : Nat) {d : D} (hd : noPool d = true) (lo hi : Int) (p : PSt) : callF ft gt (n + 2) "is_from" [d, .int lo, .int hi] p = .ok (.bl (inRange lo hi d)) p := by
  rw [callF_succ h2, run_eq rfl]
  simp [txf_is_from, escE, escB, escBs, c_whole h1 n hd]
  cases d <;> first | (cases hd; done) | skip
  all_goals simp [isInt, inRange]
  rename_i i
  by_cases a : lo ≤ i
  · simp [a]
  · simp [a]
theorem c_number (h1 : Has ft "_law_is_integer" txf_law_is_integer) (h2 : Has ft "_law_is_number" txf_law_is_number) (n : Nat) {d : D} (hd : noPool d = true) (hi : Int) (p : PSt) : callF ft gt (n + 2) "_law_is_number" [d, .int hi] p = .ok (.bl (inRange 0 hi d)) p := by
  rw [callF_succ h2, run_eq rfl]
  simp [txf_law_is_number, escE, escB, escBs, c_integer h1 n hd]
  cases d <;> first | (cases hd; done) | skip
  all_goals simp [isInt, inRange]
  rename_i i
  by_cases a : 0 ≤ i
  · simp [a]
  · simp [a]
theorem idx_ex {xs : List D} {w : Nat} (h : w < xs.length) : ∃ x, atI xs (w : Int) = some x ∧ x ∈ xs := ⟨xs[w], atI_nat' (List.getElem?_eq_getElem h), List.getElem_mem h⟩
theorem strOk_app {x y : Str} (h : strOkD x = true) (h' : strOkD y = true) : strOkD (x ++ y) = true := by
  unfold strOkD PyData.strOk at *
  rw [Str.cps_append, Array.all_append, h, h']
  rfl
theorem cutS_ok {z : Str} (h : strOkD z = true) (lo hi : Option Int) : strOkD (cutS z lo hi) = true ∧ (cutS z lo hi).length ≤ z.length := by
  unfold strOkD PyData.strOk at *
  constructor
  · unfold cutS
    rw [← Array.all_toList, List.all_eq_true] at h ⊢
    intro c hc
    refine h c ?_
    have hc : c ∈ (z.cps.toList.drop (HT.sIx z.length 0 lo)).take (HT.sIx z.length z.length hi - HT.sIx z.length 0 lo) := by simpa using hc
    exact List.mem_of_mem_drop (List.mem_of_mem_take hc)
  · show ((z.cps.toList.drop _).take _).toArray.size ≤ z.cps.size
    rw [List.size_toArray, List.length_take, List.length_drop, Array.length_toList]
    omega
theorem costL_set : ∀ {xs : List D} {i : Nat} (h : i < xs.length) (y : D), D.costL (xs.set i y) + D.cost xs[i] = D.costL xs + D.cost y
  | [], _, h, _ => by simp at h
  | x :: xs, 0, _, y => by simp [D.costL]; omega
  | x :: xs, i + 1, h, y => by
    have := costL_set (xs := xs) (i := i) (by simpa using h) y
    simp [D.costL]
    omega
theorem ixN_of {n j : Nat} (h : j < n) : ixN n (j : Int) = some j := by
  unfold ixN
  rw [if_pos (by omega), if_pos (by omega)]
  simp
def bentRest : PD.S := match txf_law_bent.body with
  | .seq _ r => r
  | _ => .skip
def bentHead : PD.S := match txf_law_bent.body with
  | .seq a _ => a
  | _ => .skip
theorem bent_eq : txf_law_bent.body = .seq bentHead bentRest := rfl
theorem cut_to {α : Type} (xs : List α) {i : Nat} (h : i ≤ xs.length) : cutD xs none (some (i : Int)) = xs.take i := by
  unfold cutD
  rw [HT.sIx_none, HT.sIx_nat, List.drop_zero, Nat.sub_zero, Nat.min_eq_left h]
theorem cut_from {α : Type} (xs : List α) {i : Nat} (h : i ≤ xs.length) : cutD xs (some (i : Int)) none = xs.drop i := by
  unfold cutD
  rw [HT.sIx_none, HT.sIx_nat, Nat.min_eq_left h]
  exact List.take_of_length_le (by rw [List.length_drop]; exact Nat.le_refl _)
theorem cut_from1 {α : Type} (xs : List α) {i : Nat} (h : i < xs.length) : cutD xs (some ((i : Int) + 1)) none = xs.drop (i + 1) := by
  rw [show (i : Int) + 1 = ((i + 1 : Nat) : Int) by omega]
  exact cut_from xs h
theorem good_of {b n c : Nat} {d : D} (h1 : D.nice b n d = true) (h2 : D.cost d ≤ c) : Good b n c d := ⟨h1, h2⟩
theorem bent_rest (hs : Has ft "_law_spread" txf_law_spread) (hf : Has ft "_law_draw" txf_law_draw) (hi : Has ft "_law_is_integer" txf_law_is_integer) {b k c : Nat} (hc : c ≤ 7000000) {d : D} (g : Good b k c d) (n : Nat) {p : PSt} (hp : PG p) (s2 s3 s4 s5 : Sl) :
    ∃ d' p', execS (callF ft gt (n + 2)) gt bentRest [.val .pool, .val d, s2, s3, s4, s5] p = .ok (.rt d') p' ∧ Good (b + 3) (k + 1) (2 * c + 10000) d' ∧ PG p' := by
  have np := nice_noPool g.nice
  have c0 := g.cost
  obtain ⟨v, p1, e1, hv, hp1⟩ := draw_ex (gt := gt) hs hf n (m := 9) (by decide) (by decide) hp
  have hit := c_integer (gt := gt) hi (n + 1) np
  unfold bentRest txf_law_bent
  by_cases t0 : v = 0
  · subst t0
    obtain ⟨w, p2, e2, hw, hp2⟩ := draw_ex (gt := gt) hs hf n (m := 8) (by decide) (by decide) hp1
    obtain ⟨x, hx, hm⟩ := idx_ex (xs := [D.str "x", .bl true, .tup [], .int 0, .int (-1), .non, .bl false, .lst []]) (w := w) (by simp; omega)
    refine ⟨x, p2, by simp [escE, escB, escBs, e1, e2, hx], ?_, hp2⟩
    have all : ∀ x ∈ [D.str "x", .bl true, .tup [], .int 0, .int (-1), .non, .bl false, .lst []], Good 1 1 2000 x := by
      intro x hx
      simp only [List.mem_cons, List.not_mem_nil, or_false] at hx
      rcases hx with rfl | rfl | rfl | rfl | rfl | rfl | rfl | rfl <;> exact ⟨by decide +kernel, by decide +kernel⟩
    exact (all x hm).mono (by omega) (by omega) (by omega)
  · have t0' : ¬ (v : Int) = 0 := by omega
    by_cases int : isInt d = true
    · cases d <;> first | (cases int; done) | skip
      rename_i i
      obtain ⟨w, p2, e2, hw, hp2⟩ := draw_ex (gt := gt) hs hf n (m := 4) (by decide) (by decide) hp1
      obtain ⟨x, hx, hm⟩ := idx_ex (xs := [D.int 1, .int (-1), .int 2, .int 0]) (w := w) (by simp; omega)
      have gi := g.nice
      unfold D.nice at gi
      simp only [decide_eq_true_eq] at gi
      have big : ∀ z : Int, z.natAbs ≤ 2 → Good (b + 3) (k + 1) (2 * c + 10000) (.int (i + z)) := fun z hz => by
        refine ⟨?_, by unfold D.cost; omega⟩
        unfold D.nice
        simp only [decide_eq_true_eq]
        have h2 : (1 : Nat) ≤ 2 ^ b := Nat.one_le_two_pow
        rw [Nat.pow_add]
        omega
      simp only [List.mem_cons, List.not_mem_nil, or_false] at hm
      rcases hm with rfl | rfl | rfl | rfl
      · exact ⟨_, p2, by simp [escE, escB, escBs, e1, e2, hx, t0, hit, isInt], big 1 (by decide), hp2⟩
      · exact ⟨_, p2, by simp [escE, escB, escBs, e1, e2, hx, t0, hit, isInt], big (-1) (by decide), hp2⟩
      · exact ⟨_, p2, by simp [escE, escB, escBs, e1, e2, hx, t0, hit, isInt], big 2 (by decide), hp2⟩
      · exact ⟨_, p2, by simp [escE, escB, escBs, e1, e2, hx, t0, hit, isInt]; rfl, by simpa using big 0 (by decide), hp2⟩
    · have ni : isInt d = false := by simpa using int
      by_cases isS : ∃ z, d = .str z
      · obtain ⟨z, rfl⟩ := isS
        obtain ⟨w, p2, e2, hw, hp2⟩ := draw_ex (gt := gt) hs hf n (m := 5) (by decide) (by decide) hp1
        have gz := g.nice
        unfold D.nice at gz
        unfold D.cost at c0
        have zl : z.length ≤ sizeLine := by rw [sizeLine_eq]; omega
        have la : ∀ y : Str, y.length = 1 → z.length + y.length ≤ sizeLine := fun y hy => by rw [sizeLine_eq]; omega
        obtain ⟨x, hx, hm⟩ := idx_ex (xs := [D.str (z ++ "a"), .str (cutS z (some 1) none), .str (z ++ "A"), .str (z ++ " "), .str (cutS z none (some 1))]) (w := w) (by simp; omega)
        have app : ∀ y : Str, y.length = 1 → strOkD y = true → Good (b + 3) (k + 1) (2 * c + 10000) (.str (z ++ y)) := fun y hy hk => by
          refine ⟨?_, ?_⟩
          · unfold D.nice
            exact strOk_app gz hk
          · unfold D.cost
            rw [Str.length_append, hy]
            omega
        have cut : ∀ lo hi, Good (b + 3) (k + 1) (2 * c + 10000) (.str (cutS z lo hi)) := fun lo hi => by
          have q := cutS_ok gz lo hi
          refine ⟨?_, ?_⟩
          · unfold D.nice
            exact q.1
          · unfold D.cost
            have := q.2
            omega
        simp only [List.mem_cons, List.not_mem_nil, or_false] at hm
        refine ⟨x, p2, by simp [escE, escB, escBs, e1, e2, hx, t0, hit, isInt, kB2_str (la "a" rfl), kB2_str (la "A" rfl), kB2_str (la " " rfl), kSl3_str zl], ?_, hp2⟩
        rcases hm with rfl | rfl | rfl | rfl | rfl
        · exact app "a" rfl (by decide +kernel)
        · exact cut _ _
        · exact app "A" rfl (by decide +kernel)
        · exact app " " rfl (by decide +kernel)
        · exact cut _ _
      · by_cases isT : ∃ xs, d = .tup xs ∧ xs ≠ []
        · obtain ⟨xs, rfl, ne⟩ := isT
          have hl : 0 < xs.length := List.length_pos_iff.mpr ne
          unfold D.cost at c0
          have cl := costL_len xs
          obtain ⟨k', rfl⟩ : ∃ k', k = k' + 1 := by
            cases k with
            | zero => have := g.nice; unfold D.nice at this; cases this
            | succ k' => exact ⟨k', rfl⟩
          have gx := g.nice
          rw [nice_tup] at gx
          have item := niceL_iff.mp gx
          obtain ⟨a, p2, e2, ha, hp2⟩ := draw_ex (gt := gt) hs hf n (m := (xs.length : Int)) (by omega) (by omega) hp1
          have ha : a < xs.length := by omega
          have ga := atI_nat' (List.getElem?_eq_getElem ha)
          have sp := costL_split ha
          have dr := costL_drop xs a
          have le1 : ∀ m, m ≤ 9000000 → m ≤ sizeLine := fun m hm => by rw [sizeLine_eq]; omega
          have t1 : (xs.take a).length = a := by rw [List.length_take]; omega
          have ne' : ¬ xs.length = 0 := by omega
          have nil : ¬ xs = [] := ne
          have mk : ∀ ys : List D, (∀ y ∈ ys, y ∈ xs) → D.costL ys + 3 ≤ 2 * c + 10000 → Good (b + 3) (k' + 1 + 1) (2 * c + 10000) (.tup ys) ∧ Good (b + 3) (k' + 1 + 1) (2 * c + 10000) (.lst ys) := fun ys hy hc => by
            have q : D.niceL (b + 3) (k' + 1) ys = true := niceL_iff.mpr fun y h => nice_mono (by omega) y (by omega) (item y (hy y h))
            exact ⟨⟨by rw [nice_tup]; exact q, by unfold D.cost; exact hc⟩, ⟨by rw [nice_lst]; exact q, by unfold D.cost; exact hc⟩⟩
          have sub1 : ∀ y ∈ xs.take a, y ∈ xs := fun y h => List.mem_of_mem_take h
          have sub2 : ∀ i, ∀ y ∈ xs.drop i, y ∈ xs := fun i y h => List.mem_of_mem_drop h
          by_cases v3 : (v : Int) < 3
          · have ll : (xs.take a).length + (xs.drop (a + 1)).length ≤ sizeLine := le1 _ (by rw [List.length_take, List.length_drop]; omega)
            refine ⟨.tup (xs.take a ++ xs.drop (a + 1)), p2, ?_, (mk _ (fun y h => ?_) ?_).1, hp2⟩
            · simp [escE, escB, escBs, e1, e2, t0, hit, isInt, nil, v3, cut_to xs (Nat.le_of_lt ha), cut_from1 xs ha, kB2_tup ll]
            · rcases List.mem_append.mp h with h | h
              · exact sub1 y h
              · exact sub2 _ y h
            · rw [costL_append]; omega
          · by_cases v5 : (v : Int) < 5
            · have l1 : (xs.take a).length + [xs[a]].length ≤ sizeLine := le1 _ (by rw [List.length_take]; simp; omega)
              have l2 : (xs.take (a + 1)).length + (xs.drop a).length ≤ sizeLine := le1 _ (by rw [List.length_take, List.length_drop]; omega)
              refine ⟨.tup (xs.take (a + 1) ++ xs.drop a), p2, ?_, (mk _ (fun y h => ?_) ?_).1, hp2⟩
              · have b1 := kB2_tup (p := p2) l1
                have b2 := kB2_tup (p := p2) l2
                simp [escE, escB, escBs, e1, e2, t0, hit, isInt, nil, v3, v5, cut_to xs (Nat.le_of_lt ha), cut_from xs (Nat.le_of_lt ha), ga, b1, b2]
              · rcases List.mem_append.mp h with h | h
                · exact List.mem_of_mem_take h
                · exact sub2 _ y h
              · have := costL_drop xs (a + 1)
                rw [costL_append]
                omega
            · by_cases v6 : (v : Int) = 5
              · refine ⟨.lst xs, p2, ?_, (mk xs (fun _ h => h) (by omega)).2, hp2⟩
                simp [escE, escB, escBs, e1, e2, t0, hit, isInt, nil, v3, v5, v6]
              · obtain ⟨o, p3, e3, ho, hp3⟩ := draw_ex (gt := gt) hs hf n (m := (xs.length : Int)) (by omega) (by omega) hp2
                have ho : o < xs.length := by omega
                have go := atI_nat' (List.getElem?_eq_getElem ho)
                have i1 : ixN xs.length (a : Int) = some a := ixN_of ha
                have i2 : ixN (xs.set a xs[o]).length (o : Int) = some o := ixN_of (by rw [List.length_set]; exact ho)
                refine ⟨.tup ((xs.set a xs[o]).set o xs[a]), p3, ?_, (mk _ (fun y h => ?_) ?_).1, hp3⟩
                · simp [escE, escB, escBs, e1, e2, e3, t0, hit, isInt, nil, v3, v5, v6, ga, go, putK2_eq _ _ _ i1, putK2_eq _ _ _ i2]
                · rcases List.mem_or_eq_of_mem_set h with h | rfl
                  · rcases List.mem_or_eq_of_mem_set h with h | rfl
                    · exact h
                    · exact List.getElem_mem ho
                  · exact List.getElem_mem ha
                · have c1 := costL_set ha xs[o]
                  have c2 := costL_set (xs := xs.set a xs[o]) (i := o) (by rw [List.length_set]; exact ho) xs[a]
                  have c3 : (xs.set a xs[o])[o]'(by rw [List.length_set]; exact ho) = xs[o] := by
                    rw [List.getElem_set]
                    split <;> rfl
                  rw [c3] at c2
                  omega
        · have both : Good (b + 3) (k + 1) (2 * c + 10000) (.tup [d, .int 0]) ∧ Good (b + 3) (k + 1) (2 * c + 10000) (.tup []) := by
            refine ⟨⟨?_, ?_⟩, ⟨?_, ?_⟩⟩
            · rw [nice_tup]
              simp only [D.niceL, Bool.and_true, Bool.and_eq_true]
              refine ⟨nice_mono (by omega) d (Nat.le_refl _) g.nice, ?_⟩
              unfold D.nice
              simp [Nat.two_pow_pos]
            · simp only [D.cost, D.costL]; omega
            · rw [nice_tup]; rfl
            · simp only [D.cost, D.costL]; omega
          have v5 : ∃ d', (if (v : Int) < 5 then D.tup [d, .int 0] else .tup []) = d' ∧ Good (b + 3) (k + 1) (2 * c + 10000) d' := by
            by_cases v5 : (v : Int) < 5
            · exact ⟨_, by rw [if_pos v5], both.1⟩
            · exact ⟨_, by rw [if_neg v5], both.2⟩
          obtain ⟨d', e5, g5⟩ := v5
          refine ⟨d', p1, ?_, g5, hp1⟩
          subst e5
          cases d <;> first | (cases np; done) | (exact absurd rfl int) | skip
          · simp [escE, escB, escBs, e1, t0, hit, isInt]
            split <;> simp
          · simp [escE, escB, escBs, e1, t0, hit, isInt]
            split <;> simp
          · exact absurd ⟨_, rfl⟩ isS
          · rename_i xs
            have e : xs = [] := by
              by_cases z : xs = []
              · exact z
              · exact absurd ⟨xs, rfl, z⟩ isT
            subst e
            simp [escE, escB, escBs, e1, t0, hit, isInt]
            split <;> simp
          · simp [escE, escB, escBs, e1, t0, hit, isInt]
            split <;> simp
theorem c_bent (hs : Has ft "_law_spread" txf_law_spread) (hf : Has ft "_law_draw" txf_law_draw) (hi : Has ft "_law_is_integer" txf_law_is_integer) (hb : Has ft "_law_bent" txf_law_bent) {b : Nat} : ∀ (k c : Nat) (d : D), c ≤ 7000000 → Good b k c d → ∀ (n : Nat) (p : PSt), PG p →
    ∃ d' p', callF ft gt (n + k + 3) "_law_bent" [.pool, d] p = .ok d' p' ∧ Good (b + 3) (k + 1) (2 * c + 10000) d' ∧ PG p' := by
  intro k
  induction k with
  | zero =>
    intro c d hc g n p hp
    rw [callF_succ hb, run_eq rfl, bent_eq]
    obtain ⟨d', p', e, g', hp'⟩ := bent_rest (gt := gt) hs hf hi hc g n hp .no .no .no .no
    refine ⟨d', p', ?_, g', hp'⟩
    have np := nice_noPool g.nice
    have gn := g.nice
    rw [x_seq, show execS (callF ft gt (n + 0 + 2)) gt bentHead _ p = .ok (.nx [.val .pool, .val d, .no, .no, .no, .no]) p from ?_]
    · rw [thn_nx, kSeq_eq, e]; rfl
    · unfold bentHead txf_law_bent
      cases d <;> first | (cases np; done) | (unfold D.nice at gn; cases gn; done) | skip
      all_goals simp [escE, escB, escBs]
  | succ k ih =>
    intro c d hc g n p hp
    rw [callF_succ hb, run_eq rfl, bent_eq]
    have np := nice_noPool g.nice
    have go : ∀ p1, PG p1 → execS (callF ft gt (n + (k + 1) + 2)) gt bentHead [.val .pool, .val d, .no, .no, .no, .no] p = .ok (.nx [.val .pool, .val d, .no, .no, .no, .no]) p1 →
        ∃ d' p', retOf (execS (callF ft gt (n + (k + 1) + 2)) gt (.seq bentHead bentRest) [.val .pool, .val d, .no, .no, .no, .no] p) = .ok d' p' ∧ Good (b + 3) (k + 1 + 1) (2 * c + 10000) d' ∧ PG p' := fun p1 hp1 e0 => by
      obtain ⟨d', p', e, g', hp'⟩ := bent_rest (gt := gt) hs hf hi hc g (n + (k + 1)) hp1 .no .no .no .no
      refine ⟨d', p', ?_, g', hp'⟩
      rw [x_seq, e0, thn_nx, kSeq_eq, e]; rfl
    by_cases isT : ∃ xs, d = .tup xs ∧ xs ≠ []
    · obtain ⟨xs, rfl, ne⟩ := isT
      have hl : 0 < xs.length := List.length_pos_iff.mpr ne
      have c0 := g.cost
      unfold D.cost at c0
      have cl := costL_len xs
      have nil : ¬ xs = [] := ne
      obtain ⟨v, p1, e1, hv, hp1⟩ := draw_ex (gt := gt) hs hf (n + (k + 1)) (m := 3) (by decide) (by decide) hp
      by_cases v0 : (0 : Int) < (v : Int)
      · obtain ⟨a, p2, e2, ha, hp2⟩ := draw_ex (gt := gt) hs hf (n + (k + 1)) (m := (xs.length : Int)) (by omega) (by omega) hp1
        have ha : a < xs.length := by omega
        have ga := atI_nat' (List.getElem?_eq_getElem ha)
        have gx := g.nice
        rw [nice_tup] at gx
        have item := niceL_iff.mp gx
        have sp := costL_split ha
        obtain ⟨x, p3, e3, g3, hp3⟩ := ih (D.cost xs[a]) xs[a] (by omega) ⟨item _ (List.getElem_mem ha), Nat.le_refl _⟩ n p2 hp2
        rw [show n + k + 3 = n + (k + 1) + 2 by omega] at e3
        have le1 : ∀ m, m ≤ 9000000 → m ≤ sizeLine := fun m hm => by rw [sizeLine_eq]; omega
        have b1 := kB2_tup (p := p3) (a := xs.take a) (b := [x]) (le1 _ (by rw [List.length_take]; simp; omega))
        have b2 := kB2_tup (p := p3) (a := xs.take a ++ [x]) (b := xs.drop (a + 1)) (le1 _ (by rw [List.length_append, List.length_take, List.length_drop]; simp; omega))
        have v0' : ¬ v = 0 := by omega
        refine ⟨.tup (xs.take a ++ x :: xs.drop (a + 1)), p3, ?_, ⟨?_, ?_⟩, hp3⟩
        · unfold bentHead txf_law_bent
          simp [escE, escB, escBs, e1, e2, e3, nil, hl, v0, v0', Nat.pos_of_ne_zero v0', ga, cut_to xs (Nat.le_of_lt ha), cut_from1 xs ha, b1, b2]
        · rw [nice_tup]
          refine niceL_iff.mpr fun y h => ?_
          rcases List.mem_append.mp h with h | h
          · exact nice_mono (by omega) y (by omega) (item y (List.mem_of_mem_take h))
          · rcases List.mem_cons.mp h with rfl | h
            · exact g3.nice
            · exact nice_mono (by omega) y (by omega) (item y (List.mem_of_mem_drop h))
        · have := g3.cost
          unfold D.cost
          rw [costL_append]
          simp only [D.costL]
          omega
      · have v0' : v = 0 := by omega
        subst v0'
        refine go p1 hp1 ?_
        unfold bentHead txf_law_bent
        simp [escE, escB, escBs, e1, nil, hl]
    · refine go p hp ?_
      unfold bentHead txf_law_bent
      cases d <;> first | (cases np; done) | skip
      · simp [escE, escB, escBs]
      · simp [escE, escB, escBs]
      · simp [escE, escB, escBs]
      · simp [escE, escB, escBs]
      · rename_i xs
        have e : xs = [] := by
          by_cases z : xs = []
          · exact z
          · exact absurd ⟨xs, rfl, z⟩ isT
        subst e
        simp [escE, escB, escBs]
      · simp [escE, escB, escBs]
end
end PD

namespace PD
open PySem PySem.Spec PyProof.Rows L2
def txf_law_size : FDef := ⟨2, 4, (.seq (.set 2 (.bin .add (.int 1) (.call "_law_draw" (.cons (.var 0) (.cons (.int 4) .nil)))) false)
 (.seq (.set 3 (.bin .add (.int 1) (.call "_law_draw" (.cons (.var 0) (.cons (.int 4) .nil)))) false)
 (.seq (.while 100000 (.cmp .gt (.bin .mul (.var 2) (.var 3)) (.var 1))
(.seq (.ite (.cmp .gt (.var 2) (.var 3))
(.seq (.set 2 (.bin .sub (.var 2) (.int 1)) false)
 .skip)
(.seq (.set 3 (.bin .sub (.var 3) (.int 1)) false)
 .skip))
 .skip))
 (.seq (.ret (.idx (.tup (.cons (.tup (.cons (.var 2) (.cons (.var 3) .nil))) (.cons (.tup (.cons (.var 3) (.cons (.var 2) .nil))) .nil))) (.call "_law_draw" (.cons (.var 0) (.cons (.int 2) .nil)))))
 .skip))))⟩
def txf_is_size : FDef := ⟨1, 2, (.seq (.ite (.or (.not (.isi (.var 0) .tuple)) (.or (.cmp .ne (.bi .len (.cons (.var 0) .nil)) (.int 2)) (.not (.bi .all (.cons (.comp (.call "is_from" (.cons (.var 1) (.cons (.int 1) (.cons (.int 16) .nil)))) (.name 1) (.var 0) .nil) .nil)))))
(.seq (.ret (.bl false))
 .skip)
.skip)
 (.seq (.ret (.cmp .le (.bin .mul (.idx (.var 0) (.int 0)) (.idx (.var 0) (.int 1))) (.int 64)))
 .skip))⟩
def txf_law_is_size : FDef := ⟨1, 2, (.seq (.ite (.or (.not (.isi (.var 0) .tuple)) (.cmp .ne (.bi .len (.cons (.var 0) .nil)) (.int 2)))
(.seq (.ret (.bl false))
 .skip)
.skip)
 (.seq (.ite (.cmp .gt (.bi .len (.cons (.comp (.var 1) (.name 1) (.var 0) (.cons (.or (.not (.call "_law_is_number" (.cons (.var 1) (.cons (.int 16) .nil)))) (.cmp .eq (.var 1) (.int 0))) .nil)) .nil)) (.int 0))
(.seq (.ret (.bl false))
 .skip)
.skip)
 (.seq (.ret (.cmp .le (.bin .mul (.idx (.var 0) (.int 0)) (.idx (.var 0) (.int 1))) (.int 64)))
 .skip)))⟩
def txf_panels : FDef := ⟨1, 4, (.seq (.set 1 (.lst .nil) true)
 (.seq (.for (.name 2) (.rng1 (.idx (.var 0) (.int 0)))
(.seq (.extend 1 (.comp (.tup (.cons (.var 2) (.cons (.var 3) .nil))) (.name 3) (.rng1 (.idx (.var 0) (.int 1))) .nil))
 .skip))
 (.seq (.ret (.var 1))
 .skip)))⟩
theorem compL_on {f : D → PSt → Out (Option D)} {g : D → D} {p : PSt} {xs : List D} (h : ∀ x ∈ xs, f x p = .ok (some (g x)) p) (hl : xs.length ≤ sizeLine) : compL f xs [] p = .ok (.lst (xs.map g)) p := by
  have := compL_map (enc := id) (g := g) (f := f) (L := xs) (p := p) h hl
  simpa using this
def compK (f : D → PSt → Out (Option D)) (xs acc : List D) : Out (Option D) → Out D
  | .ok none p => compL f xs acc p
  | .ok (some y) p => if acc.length < sizeLine then compL f xs (acc ++ [y]) p else .bad
  | _ => .bad
@[simp] theorem compL_nil' {f : D → PSt → Out (Option D)} {acc : List D} {p : PSt} : compL f [] acc p = .ok (.lst acc) p := nr rfl
theorem compL_cons' {f : D → PSt → Out (Option D)} {x : D} {xs acc : List D} {p : PSt} : compL f (x :: xs) acc p = compK f xs acc (f x p) := rfl
@[simp] theorem compK_none {f : D → PSt → Out (Option D)} {xs acc : List D} {p : PSt} : compK f xs acc (.ok none p) = compL f xs acc p := nr rfl
theorem compK_some {f : D → PSt → Out (Option D)} {xs acc : List D} {y : D} {p : PSt} (h : acc.length < sizeLine) : compK f xs acc (.ok (some y) p) = compL f xs (acc ++ [y]) p := by
  show (if _ then _ else _) = _
  rw [if_pos h]
@[simp] theorem compK_some0 {f : D → PSt → Out (Option D)} {xs : List D} {y : D} {p : PSt} : compK f xs [] (.ok (some y) p) = compL f xs [y] p := compK_some (by rw [sizeLine_eq]; simp)
@[simp] theorem compK_some1 {f : D → PSt → Out (Option D)} {xs : List D} {a y : D} {p : PSt} : compK f xs [a] (.ok (some y) p) = compL f xs [a, y] p := compK_some (by rw [sizeLine_eq]; simp)
theorem kBi_allL {xs : List D} {p : PSt} : kBi .all [.lst xs] p = lift ((blsD xs).map fun bs => .bl (bs.all id)) p := nr rfl
theorem kBi_anyL {xs : List D} {p : PSt} : kBi .any [.lst xs] p = lift ((blsD xs).map fun bs => .bl (bs.any id)) p := nr rfl
@[simp] theorem blsD_nil : blsD [] = some [] := nr rfl
@[simp] theorem blsD_cons {b : Bool} {r : List D} : blsD (.bl b :: r) = (blsD r).map (b :: ·) := nr rfl
theorem kBi_all_map {α : Type} {q : α → Bool} {xs : List α} {p : PSt} : kBi .all [.lst (xs.map fun x => D.bl (q x))] p = .ok (.bl (xs.all q)) p := by
  have := kBi_all (p := p) (xs.map q)
  rw [List.map_map] at this
  rw [show (xs.map fun x => D.bl (q x)) = xs.map (D.bl ∘ q) from rfl, this, List.all_map]
  rfl
/-- a while by a measure -/
theorem whileL_meas {c : SEnv → PSt → Out Bool} {f : SEnv → PSt → Out Fl} (P : SEnv → PSt → Prop) (m : SEnv → PSt → Nat)
    (h : ∀ env p, P env p → (c env p = .ok false p) ∨ (c env p = .ok true p ∧ ∃ env' p', f env p = .ok (.nx env') p' ∧ P env' p' ∧ m env' p' < m env p)) :
    ∀ (n : Nat) (env : SEnv) (p : PSt), P env p → m env p < n → ∃ env' p', whileL c f n env p = .ok (.nx env') p' ∧ P env' p' ∧ c env' p' = .ok false p' := by
  intro n
  induction n with
  | zero => intro env p _ hm; omega
  | succ n ih =>
    intro env p hP hm
    rcases h env p hP with e | ⟨e, env1, p1, e1, P1, m1⟩
    · refine ⟨env, p, ?_, hP, e⟩
      show (match c env p with | .ok false p => _ | .ok true p => _ | .exc c ds p => _ | .bad => _) = _
      rw [e]
    · obtain ⟨env2, p2, e2, P2, c2⟩ := ih env1 p1 P1 (by omega)
      refine ⟨env2, p2, ?_, P2, c2⟩
      show (match c env p with | .ok false p => _ | .ok true p => _ | .exc c ds p => _ | .bad => _) = _
      rw [e]
      dsimp only
      rw [e1]
      exact e2
mutual
def boo : D → D
  | .tup xs => .tup (boos xs)
  | .int i => if i = 0 then .bl false else if i = 1 then .bl true else .int i
  | d => d
def boos : List D → List D
  | [] => []
  | x :: xs => boo x :: boos xs
end
theorem boos_map : ∀ xs : List D, boos xs = xs.map boo
  | [] => rfl
  | x :: xs => by simp [boos, boos_map xs]
mutual
theorem boo_good {b : Nat} : ∀ {n : Nat} (d : D), D.nice b n d = true → D.nice b n (boo d) = true ∧ D.cost (boo d) ≤ D.cost d
  | _, .non, h => ⟨h, Nat.le_refl _⟩
  | _, .bl _, h => ⟨h, Nat.le_refl _⟩
  | _, .int i, h => by
    unfold boo
    split
    · exact ⟨by unfold D.nice; rfl, by unfold D.cost; omega⟩
    · split
      · exact ⟨by unfold D.nice; rfl, by unfold D.cost; omega⟩
      · exact ⟨h, Nat.le_refl _⟩
  | _, .str _, h => ⟨h, Nat.le_refl _⟩
  | _, .lst _, h => ⟨h, Nat.le_refl _⟩
  | 0, .tup _, h => by unfold D.nice at h; cases h
  | n + 1, .tup xs, h => by
    unfold boo
    rw [nice_tup] at h ⊢
    obtain ⟨h1, h2⟩ := boos_good xs h
    exact ⟨h1, by unfold D.cost; omega⟩
  | _, .dict _ _ _, h => by unfold D.nice at h; cases h
  | _, .ctup _, h => by unfold D.nice at h; cases h
  | _, .pool, h => by unfold D.nice at h; cases h
theorem boos_good {b : Nat} : ∀ {n : Nat} (xs : List D), D.niceL b n xs = true → D.niceL b n (boos xs) = true ∧ D.costL (boos xs) ≤ D.costL xs
  | _, [], h => ⟨h, Nat.le_refl _⟩
  | n, x :: xs, h => by
    unfold boos
    unfold D.niceL at *
    simp only [Bool.and_eq_true] at h
    obtain ⟨a1, a2⟩ := boo_good x h.1
    obtain ⟨b1, b2⟩ := boos_good xs h.2
    simp only [a1, b1, Bool.and_self, D.costL, true_and]
    omega
end
theorem Good.boo {b n c : Nat} {d : D} (g : Good b n c d) : Good b n c (boo d) := ⟨(boo_good d g.nice).1, Nat.le_trans (boo_good d g.nice).2 g.cost⟩
section
variable {ft : FTab} {gt : Str → Option D}
theorem booled_leaf (hi : Has ft "_law_is_integer" txf_law_is_integer) (hb : Has ft "_law_booled" txf_law_booled) {d : D} (np : noPool d = true) (nt : ∀ xs, d ≠ .tup xs) (n : Nat) (p : PSt) : callF ft gt (n + 2) "_law_booled" [d] p = .ok (boo d) p := by
  rw [callF_succ hb, run_eq rfl]
  have hit := c_integer (gt := gt) hi n np
  cases d <;> first | (cases np; done) | skip
  · simp [txf_law_booled, escE, escB, escBs, hit, isInt, boo]
  · simp [txf_law_booled, escE, escB, escBs, hit, isInt, boo]
  · rename_i i
    by_cases i0 : i = 0
    · subst i0; simp [txf_law_booled, escE, escB, escBs, hit, isInt, boo]
    · by_cases i1 : i = 1
      · subst i1; simp [txf_law_booled, escE, escB, escBs, hit, isInt, boo]
      · by_cases a : 0 ≤ i
        · have a2 : ¬ i < 2 := by omega
          simp [txf_law_booled, escE, escB, escBs, hit, isInt, boo, i0, i1, a, a2]
        · simp [txf_law_booled, escE, escB, escBs, hit, isInt, boo, i0, i1, a]
  · simp [txf_law_booled, escE, escB, escBs, hit, isInt, boo]
  · exact absurd rfl (nt _)
  · simp [txf_law_booled, escE, escB, escBs, hit, isInt, boo]
theorem c_booled (hi : Has ft "_law_is_integer" txf_law_is_integer) (hb : Has ft "_law_booled" txf_law_booled) {b : Nat} : ∀ (k : Nat) (d : D), D.nice b k d = true → D.cost d ≤ 16000000 → ∀ (n : Nat) (p : PSt), callF ft gt (n + k + 2) "_law_booled" [d] p = .ok (boo d) p := by
  intro k
  induction k with
  | zero =>
    intro d g hc n p
    exact booled_leaf hi hb (nice_noPool g) (fun xs e => by subst e; unfold D.nice at g; cases g) n p
  | succ k ih =>
    intro d g hc n p
    by_cases t : ∃ xs, d = .tup xs
    · obtain ⟨xs, rfl⟩ := t
      rw [callF_succ hb, run_eq rfl]
      rw [nice_tup] at g
      unfold D.cost at hc
      have cl := costL_len xs
      have body := compL_on (f := fC (callF ft gt (n + k + 2)) gt (.call "_law_booled" (.cons (.var 1) .nil)) (.name 1) .nil [some (.tup xs), none]) (g := boo) (p := p) (xs := xs) (fun x hx => by
        have e := ih x (niceL_iff.mp g x hx) (by have := costL_mem hx; omega) n p
        simp [e]) (by rw [sizeLine_eq]; omega)
      rw [show n + (k + 1) + 1 = n + k + 2 by omega]
      simp [txf_law_booled, escE, escB, escBs, body, boo, boos_map]
    · have := booled_leaf (gt := gt) hi hb (nice_noPool g) (fun xs e => t ⟨xs, e⟩) (n + (k + 1)) p
      exact this
theorem c_size (hs : Has ft "_law_spread" txf_law_spread) (hf : Has ft "_law_draw" txf_law_draw) (hz : Has ft "_law_size" txf_law_size) {most : Int} (h1 : 1 ≤ most) (h2 : most ≤ 1000) (n : Nat) {p : PSt} (hp : PG p) :
    ∃ (r c : Nat) (p' : PSt), callF ft gt (n + 3) "_law_size" [.pool, .int most] p = .ok (.tup [.int r, .int c]) p' ∧ 1 ≤ r ∧ r ≤ 4 ∧ 1 ≤ c ∧ c ≤ 4 ∧ (r * c : Int) ≤ most ∧ PG p' := by
  obtain ⟨v, p1, e1, hv, hp1⟩ := draw_ex (gt := gt) hs hf n (m := 4) (by decide) (by decide) hp
  obtain ⟨w, p2, e2, hw, hp2⟩ := draw_ex (gt := gt) hs hf n (m := 4) (by decide) (by decide) hp1
  rw [callF_succ hz, run_eq rfl]
  have small : ∀ i j : Int, 1 ≤ i → i ≤ 4 → (small64 i || small64 j) = true := fun i j h1 h2 => by
    unfold small64
    simp only [Bool.or_eq_true, decide_eq_true_eq]
    left
    constructor <;> omega
  have wl := whileL_meas (c := wC (callF ft gt (n + 2)) gt (.cmp .gt (.bin .mul (.var 2) (.var 3)) (.var 1)))
    (f := wB (callF ft gt (n + 2)) gt (.seq (.ite (.cmp .gt (.var 2) (.var 3)) (.seq (.set 2 (.bin .sub (.var 2) (.int 1)) false) .skip) (.seq (.set 3 (.bin .sub (.var 3) (.int 1)) false) .skip)) .skip))
    (fun env q => q = p2 ∧ ∃ i j : Int, env = [.val .pool, .val (.int most), .val (.int i), .val (.int j)] ∧ 1 ≤ i ∧ i ≤ 4 ∧ 1 ≤ j ∧ j ≤ 4)
    (fun env _ => match env with
      | [_, _, .val (.int i), .val (.int j)] => (i + j).toNat
      | _ => 0) (fun env q ⟨hq, i, j, he, a1, a2, a3, a4⟩ => by
      subst hq he
      by_cases big : most < i * j
      · right
        refine ⟨by simp [kB2_mul (small i j a1 a2), big], ?_⟩
        by_cases lt : j < i
        · refine ⟨[.val .pool, .val (.int most), .val (.int (i - 1)), .val (.int j)], q, by simp [escE, escB, lt], ⟨rfl, i - 1, j, rfl, by omega, by omega, a3, a4⟩, by dsimp only; omega⟩
        · refine ⟨[.val .pool, .val (.int most), .val (.int i), .val (.int (j - 1))], q, by simp [escE, escB, lt], ⟨rfl, i, j - 1, rfl, a1, a2, ?_, by omega⟩, by dsimp only; omega⟩
          by_cases j1 : j = 1
          · have i1 : i = 1 := by omega
            rw [i1, j1] at big
            omega
          · omega
      · left
        simp [kB2_mul (small i j a1 a2), big]) 100000 [.val .pool, .val (.int most), .val (.int (1 + v)), .val (.int (1 + w))] p2 ⟨rfl, _, _, rfl, by omega, by omega, by omega, by omega⟩ (by dsimp only; omega)
  obtain ⟨env3, p3, e3, ⟨rfl, i, j, rfl, a1, a2, a3, a4⟩, c3⟩ := wl
  have le : i * j ≤ most := by
    by_cases z : most < i * j
    · simp [kB2_mul (small i j a1 a2), z] at c3
    · omega
  obtain ⟨u, p4, e4, hu, hp4⟩ := draw_ex (gt := gt) hs hf n (m := 2) (by decide) (by decide) hp2
  obtain ⟨x, hx, hm⟩ := idx_ex (xs := [D.tup [.int i, .int j], .tup [.int j, .int i]]) (w := u) (by simp; omega)
  have run : retOf (execS (callF ft gt (n + 2)) gt txf_law_size.body ([D.pool, .int most].map .val ++ List.replicate (txf_law_size.slots - txf_law_size.params) .no) p) = .ok x p4 := by
    simp [txf_law_size, escE, escB, escBs, e1, e2, e3, e4, hx]
  have ci : i = ((i.toNat : Nat) : Int) := by omega
  have cj : j = ((j.toNat : Nat) : Int) := by omega
  simp only [List.mem_cons, List.not_mem_nil, or_false] at hm
  rcases hm with rfl | rfl
  · refine ⟨i.toNat, j.toNat, p4, ?_, by omega, by omega, by omega, by omega, ?_, hp4⟩
    · rw [run, ← ci, ← cj]
    · rw [← ci, ← cj]; exact le
  · refine ⟨j.toNat, i.toNat, p4, ?_, by omega, by omega, by omega, by omega, ?_, hp4⟩
    · rw [run, ← ci, ← cj]
    · rw [← ci, ← cj, Int.mul_comm]; exact le
end
end PD

namespace PD
open PySem PySem.Spec PyProof.Rows L2
theorem compL_all {Q : D → Prop} {f : D → PSt → Out (Option D)} {I : PSt → Prop} {xs : List D} (h : ∀ x ∈ xs, ∀ p, I p → ∃ y p', f x p = .ok (some y) p' ∧ I p' ∧ Q y) (hl : xs.length ≤ sizeLine) {p : PSt} (hp : I p) :
    ∃ (ys : List D) (p' : PSt), compL f xs [] p = .ok (.lst ys) p' ∧ I p' ∧ ys.length = xs.length ∧ ∀ y ∈ ys, Q y := by
  obtain ⟨ys, p', e, i', hlen, hR⟩ := compL_st (R := fun _ _ y => Q y) (fun i x p hx hp => h x (List.mem_of_getElem? hx) p hp) hl hp
  refine ⟨ys, p', e, i', hlen, fun y hy => ?_⟩
  obtain ⟨i, hi, e⟩ := List.getElem_of_mem hy
  exact hR i _ y (List.getElem?_eq_getElem (by omega)) (by rw [List.getElem?_eq_getElem hi, e])
def isSizeD : D → Bool
  | .tup [.int i, .int j] => decide (1 ≤ i ∧ i ≤ 16) && decide (1 ≤ j ∧ j ≤ 16) && decide (i * j ≤ 64)
  | _ => false
section
variable {ft : FTab} {gt : Str → Option D}
theorem small64_of {i j : Int} (h : (1 ≤ i ∧ i ≤ 100000)) : (small64 i || small64 j) = true := by
  unfold small64
  simp only [Bool.or_eq_true, decide_eq_true_eq]
  left
  constructor <;> omega
theorem len_two {xs : List D} : ((xs.length : Int) = 2) ↔ ∃ x y, xs = [x, y] := by
  constructor
  · intro h
    rcases xs with _ | ⟨x, _ | ⟨y, _ | ⟨_, _⟩⟩⟩
    · simp at h
    · simp at h
    · exact ⟨x, y, rfl⟩
    · simp at h; omega
  · rintro ⟨x, y, rfl⟩; rfl
theorem c_is_size (h1 : Has ft "is_whole" txf_is_whole) (h2 : Has ft "is_from" txf_is_from) (h3 : Has ft "is_size" txf_is_size) {b k : Nat} {d : D} (g : D.nice b k d = true) (n : Nat) (p : PSt) : callF ft gt (n + 3) "is_size" [d] p = .ok (.bl (isSizeD d)) p := by
  rw [callF_succ h3, run_eq rfl]
  have np := nice_noPool g
  by_cases t : ∃ xs, d = .tup xs
  · obtain ⟨xs, rfl⟩ := t
    obtain ⟨k', rfl⟩ : ∃ k', k = k' + 1 := by
      cases k with
      | zero => unfold D.nice at g; cases g
      | succ k' => exact ⟨k', rfl⟩
    rw [nice_tup] at g
    by_cases l : (xs.length : Int) = 2
    · obtain ⟨x, y, rfl⟩ := len_two.mp l
      have gx := niceL_iff.mp g x (by simp)
      have gy := niceL_iff.mp g y (by simp)
      have cx := c_from (gt := gt) h1 h2 n (nice_noPool gx) 1 16
      have cy := c_from (gt := gt) h1 h2 n (nice_noPool gy) 1 16
      have body : compL (fC (callF ft gt (n + 2)) gt (.call "is_from" (.cons (.var 1) (.cons (.int 1) (.cons (.int 16) .nil)))) (.name 1) .nil [some (.tup [x, y]), none]) [x, y] [] p = .ok (.lst [.bl (inRange 1 16 x), .bl (inRange 1 16 y)]) p := by
        simp [compL_cons', cx, cy]
      by_cases rx : inRange 1 16 x = true
      · by_cases ry : inRange 1 16 y = true
        · cases x <;> first | (simp [inRange] at rx; done) | skip
          cases y <;> first | (simp [inRange] at ry; done) | skip
          rename_i i j
          simp only [inRange, decide_eq_true_eq] at rx ry
          simp [txf_is_size, kBi_allL, escE, escB, escBs, body, inRange, rx, ry, kB2_mul (small64_of (i := i) (j := j) ⟨rx.1, by omega⟩), isSizeD]
        · have e : isSizeD (.tup [x, y]) = false := by
            cases x <;> cases y <;> first | rfl | skip
            rename_i i j
            simp only [inRange, decide_eq_true_eq] at ry
            simp only [isSizeD, Bool.and_eq_false_iff, decide_eq_false_iff_not]
            exact .inl (.inr ry)
          simp [txf_is_size, kBi_allL, escE, escB, escBs, body, ry, e]
      · have e : isSizeD (.tup [x, y]) = false := by
          cases x <;> cases y <;> first | rfl | skip
          rename_i i j
          simp only [inRange, decide_eq_true_eq] at rx
          simp only [isSizeD, Bool.and_eq_false_iff, decide_eq_false_iff_not]
          exact .inl (.inl rx)
        simp [txf_is_size, kBi_allL, escE, escB, escBs, body, rx, e]
    · have e : isSizeD (.tup xs) = false := by
        rcases xs with _ | ⟨x, _ | ⟨y, _ | ⟨_, _⟩⟩⟩
        · rfl
        · cases x <;> rfl
        · exact absurd rfl l
        · cases x <;> cases y <;> rfl
      simp [txf_is_size, kBi_allL, escE, escB, escBs, l, e]
  · have e : isSizeD d = false := by
      cases d <;> first | rfl | exact absurd ⟨_, rfl⟩ t
    rw [e]
    cases d <;> first | (cases np; done) | (exact absurd ⟨_, rfl⟩ t) | simp [txf_is_size, kBi_allL, escE, escB, escBs]
theorem c_law_is_size (h1 : Has ft "_law_is_integer" txf_law_is_integer) (h2 : Has ft "_law_is_number" txf_law_is_number) (h3 : Has ft "_law_is_size" txf_law_is_size) {b k : Nat} {d : D} (g : D.nice b k d = true) (n : Nat) (p : PSt) : callF ft gt (n + 3) "_law_is_size" [d] p = .ok (.bl (isSizeD d)) p := by
  rw [callF_succ h3, run_eq rfl]
  have np := nice_noPool g
  by_cases t : ∃ xs, d = .tup xs
  · obtain ⟨xs, rfl⟩ := t
    obtain ⟨k', rfl⟩ : ∃ k', k = k' + 1 := by
      cases k with
      | zero => unfold D.nice at g; cases g
      | succ k' => exact ⟨k', rfl⟩
    rw [nice_tup] at g
    by_cases l : (xs.length : Int) = 2
    · obtain ⟨x, y, rfl⟩ := len_two.mp l
      have gx := niceL_iff.mp g x (by simp)
      have gy := niceL_iff.mp g y (by simp)
      have one : ∀ z, D.nice b k' z = true → ∀ s, fC (callF ft gt (n + 2)) gt (.var 1) (.name 1) (.cons (.or (.not (.call "_law_is_number" (.cons (.var 1) (.cons (.int 16) .nil)))) (.cmp .eq (.var 1) (.int 0))) .nil) [s, none] z p = .ok (if inRange 1 16 z = true then none else some z) p := fun z hz s => by
        have cz := c_number (gt := gt) h1 h2 n (nice_noPool hz) 16
        by_cases r : inRange 0 16 z = true
        · cases z <;> first | (simp [inRange] at r; done) | skip
          rename_i i
          simp only [inRange, decide_eq_true_eq] at r
          by_cases i0 : i = 0
          · subst i0; simp [cz, inRange]
          · have : 1 ≤ i := by omega
            simp [cz, inRange, i0, r, this]
        · have r2 : inRange 1 16 z = false := by
            cases z <;> first | rfl | skip
            simp only [inRange, decide_eq_true_eq] at r
            simp only [inRange, decide_eq_false_iff_not]
            omega
          have r' : inRange 0 16 z = false := by simpa using r
          simp [cz, r', r2]
      have ox := one x gx (some (.tup [x, y]))
      have oy := one y gy (some (.tup [x, y]))
      by_cases rx : inRange 1 16 x = true
      · by_cases ry : inRange 1 16 y = true
        · cases x <;> first | (simp [inRange] at rx; done) | skip
          cases y <;> first | (simp [inRange] at ry; done) | skip
          rename_i i j
          rw [if_pos rx] at ox
          rw [if_pos ry] at oy
          simp only [inRange, decide_eq_true_eq] at rx ry
          have body : compL (fC (callF ft gt (n + 2)) gt (.var 1) (.name 1) (.cons (.or (.not (.call "_law_is_number" (.cons (.var 1) (.cons (.int 16) .nil)))) (.cmp .eq (.var 1) (.int 0))) .nil) [some (.tup [.int i, .int j]), none]) [.int i, .int j] [] p = .ok (.lst []) p := by
            rw [compL_cons', ox, compK_none, compL_cons', oy, compK_none, compL_nil']
          simp [txf_law_is_size, escE, escB, escBs, body, rx, ry, kB2_mul (small64_of (i := i) (j := j) ⟨rx.1, by omega⟩), isSizeD]
        · rw [if_pos rx] at ox
          rw [if_neg ry] at oy
          have body : compL (fC (callF ft gt (n + 2)) gt (.var 1) (.name 1) (.cons (.or (.not (.call "_law_is_number" (.cons (.var 1) (.cons (.int 16) .nil)))) (.cmp .eq (.var 1) (.int 0))) .nil) [some (.tup [x, y]), none]) [x, y] [] p = .ok (.lst [y]) p := by
            rw [compL_cons', ox, compK_none, compL_cons', oy, compK_some0, compL_nil']
          have e : isSizeD (.tup [x, y]) = false := by
            cases x <;> cases y <;> first | rfl | skip
            rename_i i j
            simp only [inRange, decide_eq_true_eq] at ry
            simp only [isSizeD, Bool.and_eq_false_iff, decide_eq_false_iff_not]
            exact .inl (.inr ry)
          simp [txf_law_is_size, escE, escB, escBs, body, e]
      · rw [if_neg rx] at ox
        have e : isSizeD (.tup [x, y]) = false := by
          cases x <;> cases y <;> first | rfl | skip
          rename_i i j
          simp only [inRange, decide_eq_true_eq] at rx
          simp only [isSizeD, Bool.and_eq_false_iff, decide_eq_false_iff_not]
          exact .inl (.inl rx)
        have body : ∃ zs, compL (fC (callF ft gt (n + 2)) gt (.var 1) (.name 1) (.cons (.or (.not (.call "_law_is_number" (.cons (.var 1) (.cons (.int 16) .nil)))) (.cmp .eq (.var 1) (.int 0))) .nil) [some (.tup [x, y]), none]) [x, y] [] p = .ok (.lst (x :: zs)) p := by
          rw [compL_cons', ox, compK_some0, compL_cons', oy]
          split
          · exact ⟨[], by rw [compK_none, compL_nil']⟩
          · exact ⟨[y], by rw [compK_some1, compL_nil']⟩
        obtain ⟨zs, body⟩ := body
        have pos : (0 : Int) < ((zs.length : Int) + 1) := by omega
        simp [txf_law_is_size, escE, escB, escBs, body, e, pos]
    · have e : isSizeD (.tup xs) = false := by
        rcases xs with _ | ⟨x, _ | ⟨y, _ | ⟨_, _⟩⟩⟩
        · rfl
        · cases x <;> rfl
        · exact absurd rfl l
        · cases x <;> cases y <;> rfl
      simp [txf_law_is_size, escE, escB, escBs, l, e]
  · have e : isSizeD d = false := by
      cases d <;> first | rfl | exact absurd ⟨_, rfl⟩ t
    rw [e]
    cases d <;> first | (cases np; done) | (exact absurd ⟨_, rfl⟩ t) | simp [txf_law_is_size, escE, escB, escBs]
def gridD (r c : Nat) : List D := (List.range r).flatMap fun (i : Nat) => (List.range c).map fun (j : Nat) => D.tup [.int (i : Int), .int (j : Int)]
theorem gridD_succ (r c : Nat) : gridD (r + 1) c = gridD r c ++ (List.range c).map fun (j : Nat) => D.tup [.int (r : Int), .int (j : Int)] := by
  unfold gridD
  rw [List.range_succ, List.flatMap_append]
  simp
theorem gridD_len (r c : Nat) : (gridD r c).length = r * c := by
  induction r with
  | zero => simp [gridD]
  | succ r ih => rw [gridD_succ, List.length_append, ih, List.length_map, List.length_range, Nat.succ_mul]
theorem rangeL_get {n i : Nat} {x : D} (h : (rangeL 0 n)[i]? = some x) : i < n ∧ x = .int (i : Int) := by
  rw [rangeL_zero, List.getElem?_map] at h
  obtain ⟨k, hk, rfl⟩ := Option.map_eq_some_iff.mp h
  obtain ⟨h1, h2⟩ := List.getElem?_eq_some_iff.mp hk
  simp at h1 h2
  exact ⟨h1, by rw [h2]⟩
theorem row_body {cf : Str → List D → PSt → Out D} (c : Nat) (hc : c ≤ 1000) (s0 s1 : Option D) (i : Int) (s3 : Option D) (p : PSt) : compL (fC cf gt (.tup (.cons (.var 2) (.cons (.var 3) .nil))) (.name 3) .nil [s0, s1, some (.int i), s3]) (rangeL 0 c) [] p = .ok (.lst ((List.range c).map fun (j : Nat) => D.tup [.int i, .int (j : Int)])) p := by
  rw [rangeL_zero]
  refine compL_map (fun j _ => ?_) (by rw [List.length_range, sizeLine_eq]; omega)
  simp
theorem c_panels (h : Has ft "panels" txf_panels) (r c : Nat) (hr : r ≤ 1000) (hc : c ≤ 1000) (n : Nat) (p : PSt) : callF ft gt (n + 1) "panels" [.tup [.int r, .int c]] p = .ok (.lst (gridD r c)) p := by
  rw [callF_succ h, run_eq rfl]
  obtain ⟨env, p', e, rfl, s2, s3, rfl⟩ := forL_inv (f := fF (callF ft gt n) gt (.name 2) (.seq (.extend 1 (.comp (.tup (.cons (.var 2) (.cons (.var 3) .nil))) (.name 3) (.rng1 (.idx (.var 0) (.int 1))) .nil)) .skip)) (xs := rangeL 0 r)
    (fun i env q => q = p ∧ ∃ s2 s3, env = [.val (.tup [.int r, .int c]), .own (.lst (gridD i c)), s2, s3]) (fun i x env q hx ⟨hq, s2, s3, he⟩ => by
      subst hq he
      obtain ⟨hi, rfl⟩ := rangeL_get hx
      have b := row_body (gt := gt) (cf := callF ft gt n) c hc (some (.tup [.int r, .int c])) (some (.lst (gridD i c))) i s3.see q
      have l : (gridD i c).length + ((List.range c).map fun (j : Nat) => D.tup [.int (i : Int), .int (j : Int)]).length ≤ sizeLine := by
        rw [gridD_len, List.length_map, List.length_range, sizeLine_eq]
        have : i * c ≤ 1000 * 1000 := Nat.mul_le_mul (by omega) hc
        omega
      refine ⟨[.val (.tup [.int r, .int c]), .own (.lst (gridD (i + 1) c)), .val (.int i), s3], q, ?_, rfl, _, _, rfl⟩
      rw [gridD_succ]
      simp [escE, escB, escBs, Tg.own, kRng1_eq, in62_len (n := c) (by rw [sizeLine_eq]; omega), b, extK_eq _ _ _ l]) (env := [.val (.tup [.int r, .int c]), .own (.lst []), .no, .no]) (p := p) ⟨rfl, .no, .no, rfl⟩
  rw [rangeL_len] at e
  simp [txf_panels, escE, escB, escBs, kRng1_eq, in62_len (n := r) (by rw [sizeLine_eq]; omega), e]
end
end PD

namespace PD
open PySem PySem.Spec PyProof.Rows L2
def txf_is_face : FDef := ⟨1, 1, (.seq (.ite (.or (.not (.isi (.var 0) .tuple)) (.or (.cmp .ne (.bi .len (.cons (.var 0) .nil)) (.int 2)) (.or (.not (.call "is_from" (.cons (.idx (.var 0) (.int 0)) (.cons (.int 0) (.cons (.int 9999) .nil))))) (.not (.call "is_from" (.cons (.idx (.var 0) (.int 1)) (.cons (.int 0) (.cons (.int 1) .nil))))))))
(.seq (.ret (.bl false))
 .skip)
.skip)
 (.seq (.ret (.or (.cmp .gt (.idx (.var 0) (.int 0)) (.int 0)) (.cmp .eq (.idx (.var 0) (.int 1)) (.int 0))))
 .skip))⟩
def b_is_plate_1 : E := (.call "is_face" (.cons (.var 3) .nil))
@[simp] theorem b_is_plate_1_esc : escE b_is_plate_1 = [3] := by kernel_rfl
@[simp] theorem b_is_plate_1_escB : escB b_is_plate_1 = [3] := by kernel_rfl
def b_is_plate_2 : PD.S := (.seq (.ite (.or (.not (.isi (.var 2) .tuple)) (.or (.cmp .ne (.bi .len (.cons (.var 2) .nil)) (.idx (.var 0) (.int 1))) (.not (.bi .all (.cons (.comp b_is_plate_1 (.name 3) (.var 2) .nil) .nil)))))
(.seq (.ret (.bl false))
 .skip)
.skip)
 .skip)
def txf_is_plate : FDef := ⟨2, 4, (.seq (.ite (.or (.not (.isi (.var 1) .tuple)) (.cmp .ne (.bi .len (.cons (.var 1) .nil)) (.idx (.var 0) (.int 0))))
(.seq (.ret (.bl false))
 .skip)
.skip)
 (.seq (.for (.name 2) (.var 1)
b_is_plate_2)
 (.seq (.ret (.bl true))
 .skip)))⟩
def txf_is_lay : FDef := ⟨2, 2, (.seq (.ret (.and (.isi (.var 1) .tuple) (.and (.cmp .eq (.bi .len (.cons (.var 1) .nil)) (.int 2)) (.and (.call "is_plate" (.cons (.var 0) (.cons (.idx (.var 1) (.int 0)) .nil))) (.call "is_plate" (.cons (.var 0) (.cons (.idx (.var 1) (.int 1)) .nil)))))))
 .skip)⟩
def txf_law_is_face : FDef := ⟨1, 1, (.seq (.ite (.or (.not (.isi (.var 0) .tuple)) (.or (.cmp .ne (.bi .len (.cons (.var 0) .nil)) (.int 2)) (.or (.not (.call "_law_is_number" (.cons (.idx (.var 0) (.int 0)) (.cons (.int 9999) .nil)))) (.not (.call "_law_is_number" (.cons (.idx (.var 0) (.int 1)) (.cons (.int 1) .nil)))))))
(.seq (.ret (.bl false))
 .skip)
.skip)
 (.seq (.ret (.cmp .ne (.var 0) (.tup (.cons (.int 0) (.cons (.int 1) .nil)))))
 .skip))⟩
def b_law_is_plate_1 : E := (.not (.call "_law_is_face" (.cons (.var 3) .nil)))
@[simp] theorem b_law_is_plate_1_esc : escE b_law_is_plate_1 = [] := by kernel_rfl
@[simp] theorem b_law_is_plate_1_escB : escB b_law_is_plate_1 = [] := by kernel_rfl
def b_law_is_plate_2 : PD.S := (.seq (.ite (.or (.not (.isi (.var 2) .tuple)) (.or (.cmp .ne (.bi .len (.cons (.var 2) .nil)) (.idx (.var 0) (.int 1))) (.cmp .gt (.bi .len (.cons (.comp (.var 3) (.name 3) (.var 2) (.cons b_law_is_plate_1 .nil)) .nil)) (.int 0))))
(.seq (.ret (.bl false))
 .skip)
.skip)
 .skip)
def txf_law_is_plate : FDef := ⟨2, 4, (.seq (.ite (.or (.not (.isi (.var 1) .tuple)) (.cmp .ne (.bi .len (.cons (.var 1) .nil)) (.idx (.var 0) (.int 0))))
(.seq (.ret (.bl false))
 .skip)
.skip)
 (.seq (.for (.name 2) (.var 1)
b_law_is_plate_2)
 (.seq (.ret (.bl true))
 .skip)))⟩
def txf_law_is_lay : FDef := ⟨2, 2, (.seq (.ret (.and (.isi (.var 1) .tuple) (.and (.cmp .eq (.bi .len (.cons (.var 1) .nil)) (.int 2)) (.and (.call "_law_is_plate" (.cons (.var 0) (.cons (.idx (.var 1) (.int 0)) .nil))) (.call "_law_is_plate" (.cons (.var 0) (.cons (.idx (.var 1) (.int 1)) .nil)))))))
 .skip)⟩
def txf_law_face : FDef := ⟨1, 2, (.seq (.set 1 (.idx (.tup (.cons (.call "_law_draw" (.cons (.var 0) (.cons (.int 10000) .nil))) (.cons (.int 0) (.cons (.bin .add (.int 1) (.call "_law_draw" (.cons (.var 0) (.cons (.int 9) .nil)))) (.cons (.int 9999) .nil))))) (.call "_law_draw" (.cons (.var 0) (.cons (.int 4) .nil)))) false)
 (.seq (.ret (.tup (.cons (.var 1) (.cons (.ite (.cmp .gt (.var 1) (.int 0)) (.call "_law_draw" (.cons (.var 0) (.cons (.int 2) .nil))) (.int 0)) .nil))))
 .skip))⟩
def b_law_plate_1 : E := (.call "_law_face" (.cons (.var 0) .nil))
@[simp] theorem b_law_plate_1_esc : escE b_law_plate_1 = [0] := by kernel_rfl
@[simp] theorem b_law_plate_1_escB : escB b_law_plate_1 = [0] := by kernel_rfl
def b_law_plate_2 : E := (.bi .tuple (.cons (.comp b_law_plate_1 (.name 2) (.rng1 (.idx (.var 1) (.int 1))) .nil) .nil))
@[simp] theorem b_law_plate_2_esc : escE b_law_plate_2 = [0] := by kernel_rfl
@[simp] theorem b_law_plate_2_escB : escB b_law_plate_2 = [0] := by kernel_rfl
def txf_law_plate : FDef := ⟨2, 4, (.seq (.ret (.bi .tuple (.cons (.comp b_law_plate_2 (.name 3) (.rng1 (.idx (.var 1) (.int 0))) .nil) .nil)))
 .skip)⟩
def txf_law_lay : FDef := ⟨2, 2, (.seq (.ret (.tup (.cons (.call "_law_plate" (.cons (.var 0) (.cons (.var 1) .nil))) (.cons (.call "_law_plate" (.cons (.var 0) (.cons (.var 1) .nil))) .nil))))
 .skip)⟩
def b_law_listed_1 : E := (.call "_law_listed" (.cons (.var 2) (.cons (.bin .sub (.var 1) (.int 1)) .nil)))
@[simp] theorem b_law_listed_1_esc : escE b_law_listed_1 = [2] := by kernel_rfl
@[simp] theorem b_law_listed_1_escB : escB b_law_listed_1 = [2] := by kernel_rfl
def txf_law_listed : FDef := ⟨2, 3, (.seq (.ite (.not (.isi (.var 0) .tuple))
(.seq (.ret (.var 0))
 .skip)
.skip)
 (.seq (.ret (.ite (.cmp .eq (.var 1) (.int 0)) (.bi .list (.cons (.var 0) .nil)) (.bi .tuple (.cons (.comp b_law_listed_1 (.name 2) (.var 0) .nil) .nil))))
 .skip))⟩
/-- a loop that looks at each item and goes out with False -/
theorem forL_check {f : D → SEnv → PSt → Out Fl} {q : D → Bool} {d0 : D} {p : PSt} (P : SEnv → Prop) : ∀ {xs : List D} {env : SEnv}, (∀ x ∈ xs, ∀ env, P env → (q x = true ∧ ∃ env', f x env p = .ok (.nx env') p ∧ P env') ∨ (q x = false ∧ f x env p = .ok (.rt d0) p)) → P env →
    (xs.all q = true ∧ ∃ env', forL f xs env p = .ok (.nx env') p ∧ P env') ∨ (xs.all q = false ∧ forL f xs env p = .ok (.rt d0) p)
  | [], env, _, hP => .inl ⟨rfl, env, rfl, hP⟩
  | x :: xs, env, h, hP => by
    rcases h x (by simp) env hP with ⟨qx, env1, e1, P1⟩ | ⟨qx, e1⟩
    · rcases forL_check P (xs := xs) (env := env1) (fun y hy => h y (by simp [hy])) P1 with ⟨qa, env2, e2, P2⟩ | ⟨qa, e2⟩
      · exact .inl ⟨by simp [qx, qa], env2, by rw [forL_cons, e1, forK_nx, e2], P2⟩
      · exact .inr ⟨by simp [qx, qa], by rw [forL_cons, e1, forK_nx, e2]⟩
    · exact .inr ⟨by simp [qx], by rw [forL_cons, e1, forK_rt]⟩
def isFaceD : D → Bool
  | .tup [.int i, .int j] => decide (0 ≤ i ∧ i ≤ 9999) && decide (0 ≤ j ∧ j ≤ 1) && (decide (0 < i) || decide (j = 0))
  | _ => false
def isRowD (c : Nat) : D → Bool
  | .tup xs => decide (xs.length = c) && xs.all isFaceD
  | _ => false
def isPlateD (r c : Nat) : D → Bool
  | .tup xs => decide (xs.length = r) && xs.all (isRowD c)
  | _ => false
def isLayD (r c : Nat) : D → Bool
  | .tup [x, y] => isPlateD r c x && isPlateD r c y
  | _ => false
section
variable {ft : FTab} {gt : Str → Option D}
theorem nice_pair {b k : Nat} {x y : D} (g : D.nice b k (.tup [x, y]) = true) : ∃ k', k = k' + 1 ∧ D.nice b k' x = true ∧ D.nice b k' y = true := by
  cases k with
  | zero => unfold D.nice at g; cases g
  | succ k' =>
    rw [nice_tup] at g
    exact ⟨k', rfl, niceL_iff.mp g x (by simp), niceL_iff.mp g y (by simp)⟩
theorem not_two {xs : List D} (l : ¬ (xs.length : Int) = 2) : ∀ x y, xs ≠ [x, y] := fun x y e => l (by rw [e]; rfl)
theorem isFace_not {xs : List D} (l : ¬ (xs.length : Int) = 2) : isFaceD (.tup xs) = false := by
  rcases xs with _ | ⟨x, _ | ⟨y, _ | ⟨_, _⟩⟩⟩
  · rfl
  · cases x <;> rfl
  · exact absurd rfl l
  · cases x <;> cases y <;> rfl
theorem isFace_out {x y : D} (h : inRange 0 9999 x = false ∨ inRange 0 1 y = false) : isFaceD (.tup [x, y]) = false := by
  cases x <;> cases y <;> first | rfl | skip
  rename_i i j
  simp only [inRange, decide_eq_false_iff_not] at h
  simp only [isFaceD, Bool.and_eq_false_iff, decide_eq_false_iff_not]
  rcases h with h | h
  · exact .inl (.inl h)
  · exact .inl (.inr h)
theorem c_is_face (h1 : Has ft "is_whole" txf_is_whole) (h2 : Has ft "is_from" txf_is_from) (h3 : Has ft "is_face" txf_is_face) {b k : Nat} {d : D} (g : D.nice b k d = true) (n : Nat) (p : PSt) : callF ft gt (n + 3) "is_face" [d] p = .ok (.bl (isFaceD d)) p := by
  rw [callF_succ h3, run_eq rfl]
  have np := nice_noPool g
  by_cases t : ∃ xs, d = .tup xs
  · obtain ⟨xs, rfl⟩ := t
    by_cases l : (xs.length : Int) = 2
    · obtain ⟨x, y, rfl⟩ := len_two.mp l
      obtain ⟨k', rfl, gx, gy⟩ := nice_pair g
      have cx := c_from (gt := gt) h1 h2 n (nice_noPool gx) 0 9999 p
      have cy := c_from (gt := gt) h1 h2 n (nice_noPool gy) 0 1 p
      by_cases rx : inRange 0 9999 x = true
      · by_cases ry : inRange 0 1 y = true
        · cases x <;> first | (simp [inRange] at rx; done) | skip
          cases y <;> first | (simp [inRange] at ry; done) | skip
          rename_i i j
          rw [rx] at cx
          rw [ry] at cy
          simp only [inRange, decide_eq_true_eq] at rx ry
          simp [txf_is_face, escE, escB, escBs, cx, cy, rx, ry, isFaceD]
          by_cases z : 0 < i <;> simp [z]
        · have ry' : inRange 0 1 y = false := by simpa using ry
          rw [isFace_out (.inr ry')]
          rw [rx] at cx
          rw [ry'] at cy
          simp [txf_is_face, escE, escB, escBs, cx, cy]
      · have rx' : inRange 0 9999 x = false := by simpa using rx
        rw [isFace_out (.inl rx')]
        rw [rx'] at cx
        simp [txf_is_face, escE, escB, escBs, cx]
    · rw [isFace_not l]
      simp [txf_is_face, escE, escB, escBs, l]
  · have e : isFaceD d = false := by
      cases d <;> first | rfl | exact absurd ⟨_, rfl⟩ t
    rw [e]
    cases d <;> first | (cases np; done) | (exact absurd ⟨_, rfl⟩ t) | simp [txf_is_face, escE, escB, escBs]
theorem c_law_is_face (h1 : Has ft "_law_is_integer" txf_law_is_integer) (h2 : Has ft "_law_is_number" txf_law_is_number) (h3 : Has ft "_law_is_face" txf_law_is_face) {b k : Nat} {d : D} (g : D.nice b k d = true) (n : Nat) (p : PSt) : callF ft gt (n + 3) "_law_is_face" [d] p = .ok (.bl (isFaceD d)) p := by
  rw [callF_succ h3, run_eq rfl]
  have np := nice_noPool g
  by_cases t : ∃ xs, d = .tup xs
  · obtain ⟨xs, rfl⟩ := t
    by_cases l : (xs.length : Int) = 2
    · obtain ⟨x, y, rfl⟩ := len_two.mp l
      obtain ⟨k', rfl, gx, gy⟩ := nice_pair g
      have cx := c_number (gt := gt) h1 h2 n (nice_noPool gx) 9999 p
      have cy := c_number (gt := gt) h1 h2 n (nice_noPool gy) 1 p
      by_cases rx : inRange 0 9999 x = true
      · by_cases ry : inRange 0 1 y = true
        · cases x <;> first | (simp [inRange] at rx; done) | skip
          cases y <;> first | (simp [inRange] at ry; done) | skip
          rename_i i j
          rw [rx] at cx
          rw [ry] at cy
          simp only [inRange, decide_eq_true_eq] at rx ry
          have ne := kC2_neD (p := p) (a := .tup [.int i, .int j]) (b := .tup [.int 0, .int 1]) (r := (i == 0 && (j == 1 && true))) rfl
          simp [txf_law_is_face, escE, escB, escBs, cx, cy, rx, ry, isFaceD, ne]
          by_cases z : i = 0
          · subst z
            by_cases u : j = 0
            · subst u; decide
            · have : j = 1 := by omega
              subst this; decide
          · have : 0 < i := by omega
            simp [z, this]
        · have ry' : inRange 0 1 y = false := by simpa using ry
          rw [isFace_out (.inr ry')]
          rw [rx] at cx
          rw [ry'] at cy
          simp [txf_law_is_face, escE, escB, escBs, cx, cy]
      · have rx' : inRange 0 9999 x = false := by simpa using rx
        rw [isFace_out (.inl rx')]
        rw [rx'] at cx
        simp [txf_law_is_face, escE, escB, escBs, cx]
    · rw [isFace_not l]
      simp [txf_law_is_face, escE, escB, escBs, l]
  · have e : isFaceD d = false := by
      cases d <;> first | rfl | exact absurd ⟨_, rfl⟩ t
    rw [e]
    cases d <;> first | (cases np; done) | (exact absurd ⟨_, rfl⟩ t) | simp [txf_law_is_face, escE, escB, escBs]
/-- a good thing's parts -/
theorem Good.parts {b k c : Nat} {xs : List D} (g : Good b k c (.tup xs)) : ∃ k', k = k' + 1 ∧ (∀ x ∈ xs, Good b k' c x) ∧ 2 * xs.length ≤ c := by
  cases k with
  | zero => have := g.nice; unfold D.nice at this; cases this
  | succ k' =>
    have gn := g.nice
    rw [nice_tup] at gn
    have gc := g.cost
    unfold D.cost at gc
    refine ⟨k', rfl, fun x hx => ⟨niceL_iff.mp gn x hx, ?_⟩, ?_⟩
    · have := costL_mem hx
      omega
    · have := costL_len xs
      omega
theorem c_is_plate (h1 : Has ft "is_whole" txf_is_whole) (h2 : Has ft "is_from" txf_is_from) (h3 : Has ft "is_face" txf_is_face) (h4 : Has ft "is_plate" txf_is_plate) {b k c : Nat} {d : D} (g : Good b k c d) (hc : c ≤ 16000000) (r w : Nat) (n : Nat) (p : PSt) :
    callF ft gt (n + 4) "is_plate" [.tup [.int r, .int w], d] p = .ok (.bl (isPlateD r w d)) p := by
  rw [callF_succ h4, run_eq rfl]
  have np := nice_noPool g.nice
  by_cases t : ∃ xs, d = .tup xs
  · obtain ⟨xs, rfl⟩ := t
    obtain ⟨k', rfl, parts, lx⟩ := g.parts
    by_cases l : (xs.length : Int) = (r : Int)
    · have l' : xs.length = r := by omega
      have ck := forL_check (f := fF (callF ft gt (n + 3)) gt (.name 2) b_is_plate_2) (q := isRowD w) (d0 := .bl false) (p := p) (fun env => ∃ s2 s3, env = [.val (.tup [.int r, .int w]), .val (.tup xs), s2, s3]) (xs := xs) (env := [.val (.tup [.int r, .int w]), .val (.tup xs), .no, .no]) (fun x hx env ⟨s2, s3, he⟩ => by
        subst he
        have gx := parts x hx
        have npx := nice_noPool gx.nice
        by_cases tx : ∃ ys, x = .tup ys
        · obtain ⟨ys, rfl⟩ := tx
          obtain ⟨k2, rfl, py, ly⟩ := gx.parts
          by_cases lw : (ys.length : Int) = (w : Int)
          · have lw' : ys.length = w := by omega
            have body := compL_on (f := fC (callF ft gt (n + 3)) gt b_is_plate_1 (.name 3) .nil [some (.tup [.int r, .int w]), some (.tup xs), some (.tup ys), s3.see]) (g := fun x => .bl (isFaceD x)) (p := p) (xs := ys) (fun y hy => by
              have := c_is_face (gt := gt) h1 h2 h3 (py y hy).nice n p
              simp [b_is_plate_1, this]) (by rw [sizeLine_eq]; omega)
            by_cases all : ys.all isFaceD = true
            · left
              refine ⟨by simp only [isRowD, lw', decide_true, Bool.true_and]; exact all, [.val (.tup [.int r, .int w]), .val (.tup xs), .val (.tup ys), s3], ?_, _, _, rfl⟩
              simp [b_is_plate_2, lw', body, kBi_all_map, all]
            · right
              have all' : ys.all isFaceD = false := by simpa using all
              refine ⟨by simp only [isRowD, lw', decide_true, Bool.true_and]; exact all', ?_⟩
              simp [b_is_plate_2, lw', body, kBi_all_map, all']
          · right
            have lw' : ¬ ys.length = w := by omega
            refine ⟨by simp [isRowD, lw'], ?_⟩
            simp [b_is_plate_2, lw, lw']
        · right
          refine ⟨by cases x <;> first | rfl | exact absurd ⟨_, rfl⟩ tx, ?_⟩
          cases x <;> first | (cases npx; done) | (exact absurd ⟨_, rfl⟩ tx) | simp [b_is_plate_2]) ⟨_, _, rfl⟩
      rcases ck with ⟨qa, env', e, s2, s3, rfl⟩ | ⟨qa, e⟩
      · have : isPlateD r w (.tup xs) = true := by simp only [isPlateD, l', decide_true, Bool.true_and]; exact qa
        simp [txf_is_plate, escE, escB, escBs, l', e, this]
      · have : isPlateD r w (.tup xs) = false := by simp only [isPlateD, l', decide_true, Bool.true_and]; exact qa
        simp [txf_is_plate, escE, escB, escBs, l', e, this]
    · have l' : ¬ xs.length = r := by omega
      have : isPlateD r w (.tup xs) = false := by simp [isPlateD, l']
      simp [txf_is_plate, escE, escB, escBs, l, l', this]
  · have e : isPlateD r w d = false := by
      cases d <;> first | rfl | exact absurd ⟨_, rfl⟩ t
    rw [e]
    cases d <;> first | (cases np; done) | (exact absurd ⟨_, rfl⟩ t) | simp [txf_is_plate, escE, escB, escBs]
theorem c_law_is_plate (h1 : Has ft "_law_is_integer" txf_law_is_integer) (h2 : Has ft "_law_is_number" txf_law_is_number) (h3 : Has ft "_law_is_face" txf_law_is_face) (h4 : Has ft "_law_is_plate" txf_law_is_plate) {b k c : Nat} {d : D} (g : Good b k c d) (hc : c ≤ 16000000) (r w : Nat) (n : Nat) (p : PSt) :
    callF ft gt (n + 4) "_law_is_plate" [.tup [.int r, .int w], d] p = .ok (.bl (isPlateD r w d)) p := by
  rw [callF_succ h4, run_eq rfl]
  have np := nice_noPool g.nice
  by_cases t : ∃ xs, d = .tup xs
  · obtain ⟨xs, rfl⟩ := t
    obtain ⟨k', rfl, parts, lx⟩ := g.parts
    by_cases l : (xs.length : Int) = (r : Int)
    · have l' : xs.length = r := by omega
      have ck := forL_check (f := fF (callF ft gt (n + 3)) gt (.name 2) b_law_is_plate_2) (q := isRowD w) (d0 := .bl false) (p := p) (fun env => ∃ s2 s3, env = [.val (.tup [.int r, .int w]), .val (.tup xs), s2, s3]) (xs := xs) (env := [.val (.tup [.int r, .int w]), .val (.tup xs), .no, .no]) (fun x hx env ⟨s2, s3, he⟩ => by
        subst he
        have gx := parts x hx
        have npx := nice_noPool gx.nice
        by_cases tx : ∃ ys, x = .tup ys
        · obtain ⟨ys, rfl⟩ := tx
          obtain ⟨k2, rfl, py, ly⟩ := gx.parts
          by_cases lw : (ys.length : Int) = (w : Int)
          · have lw' : ys.length = w := by omega
            have body := compL_fm (f := fC (callF ft gt (n + 3)) gt (.var 3) (.name 3) (.cons b_law_is_plate_1 .nil) [some (.tup [.int r, .int w]), some (.tup xs), some (.tup ys), s3.see]) (g := fun x => if isFaceD x = true then none else some x) (p := p) (xs := ys) (acc := []) (fun y hy => by
              have := c_law_is_face (gt := gt) h1 h2 h3 (py y hy).nice n p
              by_cases f : isFaceD y = true
              · rw [if_pos f]
                simp [b_law_is_plate_1, this, f]
              · rw [if_neg f]
                have f' : isFaceD y = false := by simpa using f
                simp [b_law_is_plate_1, this, f']) (by rw [sizeLine_eq]; simp; omega)
            rw [List.nil_append] at body
            by_cases all : ys.all isFaceD = true
            · have em : (ys.filterMap fun x => if isFaceD x = true then none else some x) = [] := by
                rw [List.filterMap_eq_nil_iff]
                intro y hy
                rw [if_pos (List.all_eq_true.mp all y hy)]
              rw [em] at body
              left
              refine ⟨by simp only [isRowD, lw', decide_true, Bool.true_and]; exact all, [.val (.tup [.int r, .int w]), .val (.tup xs), .val (.tup ys), s3], ?_, _, _, rfl⟩
              simp [b_law_is_plate_2, lw', body]
            · right
              have all' : ys.all isFaceD = false := by simpa using all
              refine ⟨by simp only [isRowD, lw', decide_true, Bool.true_and]; exact all', ?_⟩
              obtain ⟨y, hy, fy⟩ : ∃ y ∈ ys, isFaceD y = false := by simpa using all
              have pos : (0 : Int) < ((ys.filterMap fun x => if isFaceD x = true then none else some x).length : Int) := by
                have m : y ∈ ys.filterMap fun x => if isFaceD x = true then none else some x := List.mem_filterMap.mpr ⟨y, hy, by rw [if_neg (by simp [fy])]⟩
                have := List.length_pos_of_mem m
                omega
              generalize (ys.filterMap fun x => if isFaceD x = true then none else some x) = zs at body pos
              have pos' : 0 < zs.length := by omega
              have nz : zs ≠ [] := List.length_pos_iff.mp pos'
              simp [b_law_is_plate_2, lw', body, pos, pos', nz]
          · right
            have lw' : ¬ ys.length = w := by omega
            refine ⟨by simp [isRowD, lw'], ?_⟩
            simp [b_law_is_plate_2, lw, lw']
        · right
          refine ⟨by cases x <;> first | rfl | exact absurd ⟨_, rfl⟩ tx, ?_⟩
          cases x <;> first | (cases npx; done) | (exact absurd ⟨_, rfl⟩ tx) | simp [b_law_is_plate_2]) ⟨_, _, rfl⟩
      rcases ck with ⟨qa, env', e, s2, s3, rfl⟩ | ⟨qa, e⟩
      · have : isPlateD r w (.tup xs) = true := by simp only [isPlateD, l', decide_true, Bool.true_and]; exact qa
        simp [txf_law_is_plate, escE, escB, escBs, l', e, this]
      · have : isPlateD r w (.tup xs) = false := by simp only [isPlateD, l', decide_true, Bool.true_and]; exact qa
        simp [txf_law_is_plate, escE, escB, escBs, l', e, this]
    · have l' : ¬ xs.length = r := by omega
      have : isPlateD r w (.tup xs) = false := by simp [isPlateD, l']
      simp [txf_law_is_plate, escE, escB, escBs, l, l', this]
  · have e : isPlateD r w d = false := by
      cases d <;> first | rfl | exact absurd ⟨_, rfl⟩ t
    rw [e]
    cases d <;> first | (cases np; done) | (exact absurd ⟨_, rfl⟩ t) | simp [txf_law_is_plate, escE, escB, escBs]
end
end PD

namespace PD
open PySem PySem.Spec PyProof.Rows L2
/-- a page and its flip -/
def FaceOk (f : Nat × Nat) : Prop := f.1 ≤ 9999 ∧ f.2 ≤ 1 ∧ (f.1 = 0 → f.2 = 0)
def encF (f : Nat × Nat) : D := .tup [.int f.1, .int f.2]
def encRow (row : List (Nat × Nat)) : D := .tup (row.map encF)
def encPl (pl : List (List (Nat × Nat))) : D := .tup (pl.map encRow)
def PlateOk (r w : Nat) (pl : List (List (Nat × Nat))) : Prop := pl.length = r ∧ ∀ row ∈ pl, row.length = w ∧ ∀ f ∈ row, FaceOk f
section
variable {ft : FTab} {gt : Str → Option D}
theorem c_is_lay (h1 : Has ft "is_whole" txf_is_whole) (h2 : Has ft "is_from" txf_is_from) (h3 : Has ft "is_face" txf_is_face) (h4 : Has ft "is_plate" txf_is_plate) (h5 : Has ft "is_lay" txf_is_lay) {b k c : Nat} {d : D} (g : Good b k c d) (hc : c ≤ 16000000) (r w : Nat) (n : Nat) (p : PSt) :
    callF ft gt (n + 5) "is_lay" [.tup [.int r, .int w], d] p = .ok (.bl (isLayD r w d)) p := by
  rw [callF_succ h5, run_eq rfl]
  have np := nice_noPool g.nice
  by_cases t : ∃ xs, d = .tup xs
  · obtain ⟨xs, rfl⟩ := t
    obtain ⟨k', rfl, parts, lx⟩ := g.parts
    by_cases l : (xs.length : Int) = 2
    · obtain ⟨x, y, rfl⟩ := len_two.mp l
      have ex := c_is_plate (gt := gt) h1 h2 h3 h4 (parts x (by simp)) hc r w n p
      have ey := c_is_plate (gt := gt) h1 h2 h3 h4 (parts y (by simp)) hc r w n p
      cases hx : isPlateD r w x <;> rw [hx] at ex <;> simp [txf_is_lay, escE, escB, escBs, ex, ey, isLayD, hx]
    · have e : isLayD r w (.tup xs) = false := by
        rcases xs with _ | ⟨x, _ | ⟨y, _ | ⟨_, _⟩⟩⟩
        · rfl
        · rfl
        · exact absurd rfl l
        · rfl
      simp [txf_is_lay, escE, escB, escBs, l, e]
  · have e : isLayD r w d = false := by
      cases d <;> first | rfl | exact absurd ⟨_, rfl⟩ t
    rw [e]
    cases d <;> first | (cases np; done) | (exact absurd ⟨_, rfl⟩ t) | simp [txf_is_lay, escE, escB, escBs]
theorem c_law_is_lay (h1 : Has ft "_law_is_integer" txf_law_is_integer) (h2 : Has ft "_law_is_number" txf_law_is_number) (h3 : Has ft "_law_is_face" txf_law_is_face) (h4 : Has ft "_law_is_plate" txf_law_is_plate) (h5 : Has ft "_law_is_lay" txf_law_is_lay) {b k c : Nat} {d : D} (g : Good b k c d) (hc : c ≤ 16000000) (r w : Nat) (n : Nat) (p : PSt) :
    callF ft gt (n + 5) "_law_is_lay" [.tup [.int r, .int w], d] p = .ok (.bl (isLayD r w d)) p := by
  rw [callF_succ h5, run_eq rfl]
  have np := nice_noPool g.nice
  by_cases t : ∃ xs, d = .tup xs
  · obtain ⟨xs, rfl⟩ := t
    obtain ⟨k', rfl, parts, lx⟩ := g.parts
    by_cases l : (xs.length : Int) = 2
    · obtain ⟨x, y, rfl⟩ := len_two.mp l
      have ex := c_law_is_plate (gt := gt) h1 h2 h3 h4 (parts x (by simp)) hc r w n p
      have ey := c_law_is_plate (gt := gt) h1 h2 h3 h4 (parts y (by simp)) hc r w n p
      cases hx : isPlateD r w x <;> rw [hx] at ex <;> simp [txf_law_is_lay, escE, escB, escBs, ex, ey, isLayD, hx]
    · have e : isLayD r w (.tup xs) = false := by
        rcases xs with _ | ⟨x, _ | ⟨y, _ | ⟨_, _⟩⟩⟩
        · rfl
        · rfl
        · exact absurd rfl l
        · rfl
      simp [txf_law_is_lay, escE, escB, escBs, l, e]
  · have e : isLayD r w d = false := by
      cases d <;> first | rfl | exact absurd ⟨_, rfl⟩ t
    rw [e]
    cases d <;> first | (cases np; done) | (exact absurd ⟨_, rfl⟩ t) | simp [txf_law_is_lay, escE, escB, escBs]
theorem c_face (hs : Has ft "_law_spread" txf_law_spread) (hf : Has ft "_law_draw" txf_law_draw) (h : Has ft "_law_face" txf_law_face) (n : Nat) {p : PSt} (hp : PG p) : ∃ f p', callF ft gt (n + 3) "_law_face" [.pool] p = .ok (encF f) p' ∧ PG p' ∧ FaceOk f := by
  rw [callF_succ h, run_eq rfl]
  obtain ⟨v1, p1, e1, h1, hp1⟩ := draw_ex (gt := gt) hs hf n (m := 10000) (by decide) (by decide) hp
  obtain ⟨v2, p2, e2, h2, hp2⟩ := draw_ex (gt := gt) hs hf n (m := 9) (by decide) (by decide) hp1
  obtain ⟨v3, p3, e3, h3, hp3⟩ := draw_ex (gt := gt) hs hf n (m := 4) (by decide) (by decide) hp2
  obtain ⟨x, hx, hm⟩ := idx_ex (xs := [D.int v1, .int 0, .int (1 + v2), .int 9999]) (w := v3) (by simp; omega)
  obtain ⟨g, rfl, hg⟩ : ∃ g : Nat, x = .int g ∧ g ≤ 9999 := by
    simp only [List.mem_cons, List.not_mem_nil, or_false] at hm
    rcases hm with rfl | rfl | rfl | rfl
    · exact ⟨v1, rfl, by omega⟩
    · exact ⟨0, rfl, by omega⟩
    · exact ⟨1 + v2, by simp, by omega⟩
    · exact ⟨9999, rfl, by omega⟩
  by_cases g0 : (0 : Int) < (g : Int)
  · obtain ⟨v4, p4, e4, h4, hp4⟩ := draw_ex (gt := gt) hs hf n (m := 2) (by decide) (by decide) hp3
    have g0' : 0 < g := by omega
    refine ⟨(g, v4), p4, ?_, hp4, hg, by show v4 ≤ 1; omega, fun z => by have z : g = 0 := z; omega⟩
    simp [txf_law_face, escE, escB, escBs, e1, e2, e3, e4, hx, g0, g0', encF]
  · have g0' : g = 0 := by omega
    subst g0'
    refine ⟨(0, 0), p3, ?_, hp3, by show 0 ≤ 9999; omega, by show 0 ≤ 1; omega, fun _ => rfl⟩
    simp [txf_law_face, escE, escB, escBs, e1, e2, e3, hx, encF]
theorem c_plate (hs : Has ft "_law_spread" txf_law_spread) (hf : Has ft "_law_draw" txf_law_draw) (h : Has ft "_law_face" txf_law_face) (hq : Has ft "_law_plate" txf_law_plate) (r w : Nat) (hr : r ≤ 1000) (hw : w ≤ 1000) (n : Nat) {p : PSt} (hp : PG p) :
    ∃ pl p', callF ft gt (n + 4) "_law_plate" [.pool, .tup [.int r, .int w]] p = .ok (encPl pl) p' ∧ PG p' ∧ PlateOk r w pl := by
  rw [callF_succ hq, run_eq rfl]
  have inner : ∀ s2 s3, ∀ p, PG p → ∃ row p', compL (fC (callF ft gt (n + 3)) gt b_law_plate_1 (.name 2) .nil [some .pool, some (.tup [.int r, .int w]), s2, s3]) (rangeL 0 w) [] p = .ok (.lst (List.map encF row)) p' ∧ PG p' ∧ row.length = (rangeL 0 w).length ∧ ∀ f ∈ row, FaceOk f := fun s2 s3 p hp =>
    compL_ty (fun x _ p hp => by
      obtain ⟨f, p', e, hp', ok⟩ := c_face (gt := gt) hs hf h n hp
      exact ⟨f, p', by simp [b_law_plate_1, e], hp', ok⟩) (by rw [rangeL_len, sizeLine_eq]; omega) hp
  obtain ⟨pl, p', e, hp', hl, hok⟩ := compL_ty (enc := encRow) (Q := fun row => row.length = w ∧ ∀ f ∈ row, FaceOk f) (I := PG) (f := fC (callF ft gt (n + 3)) gt b_law_plate_2 (.name 3) .nil [some .pool, some (.tup [.int r, .int w]), none, none]) (xs := rangeL 0 r) (fun x _ p hp => by
    obtain ⟨row, p', e, hp', hl, ok⟩ := inner none (some x) p hp
    rw [rangeL_len] at hl
    exact ⟨row, p', by simp [b_law_plate_2, kRng1_eq, in62_len (n := w) (by rw [sizeLine_eq]; omega), e, encRow], hp', hl, ok⟩) (by rw [rangeL_len, sizeLine_eq]; omega) hp
  rw [rangeL_len] at hl
  exact ⟨pl, p', by simp [txf_law_plate, escE, escB, escBs, kRng1_eq, in62_len (n := r) (by rw [sizeLine_eq]; omega), e, encPl], hp', hl, hok⟩
theorem c_lay (hs : Has ft "_law_spread" txf_law_spread) (hf : Has ft "_law_draw" txf_law_draw) (h : Has ft "_law_face" txf_law_face) (hq : Has ft "_law_plate" txf_law_plate) (hy : Has ft "_law_lay" txf_law_lay) (r w : Nat) (hr : r ≤ 1000) (hw : w ≤ 1000) (n : Nat) {p : PSt} (hp : PG p) :
    ∃ pl pm p', callF ft gt (n + 5) "_law_lay" [.pool, .tup [.int r, .int w]] p = .ok (.tup [encPl pl, encPl pm]) p' ∧ PG p' ∧ PlateOk r w pl ∧ PlateOk r w pm := by
  obtain ⟨pl, p1, e1, hp1, o1⟩ := c_plate (gt := gt) hs hf h hq r w hr hw n hp
  obtain ⟨pm, p2, e2, hp2, o2⟩ := c_plate (gt := gt) hs hf h hq r w hr hw n hp1
  refine ⟨pl, pm, p2, ?_, hp2, o1, o2⟩
  rw [callF_succ hy, run_eq rfl]
  simp [txf_law_lay, escE, escB, escBs, e1, e2]
end
end PD

namespace PD
open PySem PySem.Spec PyProof.Rows L2
def lsD : Nat → D → D
  | 0, .tup xs => .lst xs
  | n + 1, .tup xs => .tup (xs.map (lsD n))
  | _, d => d
theorem lsD_good {b c : Nat} : ∀ (n : Nat) {k : Nat} {d : D}, Good b k c d → D.nice b k (lsD n d) = true ∧ D.cost (lsD n d) = D.cost d
  | 0, k, d, g => by
    by_cases t : ∃ xs, d = .tup xs
    · obtain ⟨xs, rfl⟩ := t
      have := g.nice
      cases k with
      | zero => unfold D.nice at this; cases this
      | succ k => exact ⟨by unfold lsD; rw [nice_lst]; rw [nice_tup] at this; exact this, by unfold lsD D.cost; rfl⟩
    · have e : lsD 0 d = d := by
        cases d <;> first | rfl | exact absurd ⟨_, rfl⟩ t
      rw [e]
      exact ⟨g.nice, rfl⟩
  | n + 1, k, d, g => by
    cases d <;> first | exact ⟨g.nice, rfl⟩ | skip
    rename_i xs
    obtain ⟨k', rfl, parts, _⟩ := g.parts
    unfold lsD
    constructor
    · rw [nice_tup]
      refine niceL_iff.mpr fun y hy => ?_
      obtain ⟨x, hx, rfl⟩ := List.mem_map.mp hy
      exact (lsD_good n (parts x hx)).1
    · unfold D.cost
      have : ∀ ys : List D, (∀ y ∈ ys, Good b k' c y) → D.costL (ys.map (lsD n)) = D.costL ys := by
        intro ys
        induction ys with
        | nil => intro _; rfl
        | cons y ys ih =>
          intro h
          simp only [List.map_cons, D.costL]
          rw [(lsD_good n (h y (by simp))).2, ih fun z hz => h z (by simp [hz])]
      rw [this xs parts]
theorem Good.ls {b k c : Nat} {d : D} (g : Good b k c d) (n : Nat) : Good b k c (lsD n d) := ⟨(lsD_good n g).1, by rw [(lsD_good n g).2]; exact g.cost⟩
theorem cut_last {α : Type} (xs : List α) (x : α) : cutD (xs ++ [x]) none (some (-1)) = xs := by
  unfold cutD
  rw [HT.sIx_none, List.drop_zero, Nat.sub_zero]
  have : HT.sIx (xs ++ [x]).length (xs ++ [x]).length (some (-1)) = xs.length := by
    unfold HT.sIx
    simp only [List.length_append, List.length_singleton]
    rw [if_pos (by decide)]
    omega
  rw [this, List.take_left]
theorem atI_end {α : Type} (xs : List α) (x : α) : atI (xs ++ [x]) (-1) = some x := atI_last _ _
section
variable {ft : FTab} {gt : Str → Option D}
theorem c_listed (h : Has ft "_law_listed" txf_law_listed) {b c : Nat} (hc : c ≤ 16000000) : ∀ (m : Nat) {k : Nat} (d : D), Good b k c d → ∀ (n : Nat) (p : PSt), callF ft gt (n + m + 1) "_law_listed" [d, .int m] p = .ok (lsD m d) p := by
  intro m
  induction m with
  | zero =>
    intro k d g n p
    rw [callF_succ h, run_eq rfl]
    have np := nice_noPool g.nice
    cases d <;> first | (cases np; done) | simp [txf_law_listed, escE, escB, escBs, lsD]
  | succ m ih =>
    intro k d g n p
    rw [callF_succ h, run_eq rfl]
    have np := nice_noPool g.nice
    by_cases t : ∃ xs, d = .tup xs
    · obtain ⟨xs, rfl⟩ := t
      obtain ⟨k', rfl, parts, lx⟩ := g.parts
      have body := compL_on (f := fC (callF ft gt (n + (m + 1))) gt b_law_listed_1 (.name 2) .nil [some (.tup xs), some (.int ((m : Int) + 1)), none]) (g := lsD m) (p := p) (xs := xs) (fun x hx => by
        have e := ih x (parts x hx) n p
        rw [show n + m + 1 = n + (m + 1) by omega] at e
        simp [b_law_listed_1, show (m : Int) + 1 - 1 = (m : Int) by omega, e]) (by rw [sizeLine_eq]; omega)
      have ne : ¬ ((m : Int) + 1 = 0) := by omega
      simp [txf_law_listed, escE, escB, escBs, Tg.own, body, lsD, ne]
    · have e : lsD (m + 1) d = d := by
        cases d <;> first | rfl | exact absurd ⟨_, rfl⟩ t
      rw [e]
      cases d <;> first | (cases np; done) | (exact absurd ⟨_, rfl⟩ t) | simp [txf_law_listed, escE, escB, escBs]
end
end PD

namespace PD
open PySem PySem.Spec PyProof.Rows L2
def b_law_shuffled_1 : PD.S := (.seq (.set 4 (.call "_law_draw" (.cons (.var 0) (.cons (.bi .len (.cons (.var 2) .nil)) .nil))) false)
 (.seq (.append 3 (.idx (.var 2) (.var 4)))
 (.seq (.set 2 (.bin .add (.sl (.var 2) .nil (.cons (.var 4) .nil)) (.sl (.var 2) (.cons (.bin .add (.var 4) (.int 1)) .nil) .nil)) false)
 .skip)))
def txf_law_shuffled : FDef := ⟨2, 5, (.seq (.set 2 (.bi .list (.cons (.var 1) .nil)) false)
 (.seq (.set 3 (.lst .nil) true)
 (.seq (.while 100000 (.cmp .gt (.bi .len (.cons (.var 2) .nil)) (.int 0))
b_law_shuffled_1)
 (.seq (.ret (.bi .tuple (.cons (.var 3) .nil)))
 .skip))))⟩
section
variable {ft : FTab} {gt : Str → Option D}
theorem c_shuffled (hs : Has ft "_law_spread" txf_law_spread) (hf : Has ft "_law_draw" txf_law_draw) (h : Has ft "_law_shuffled" txf_law_shuffled) {d : D} {xs : List D} (hd : d = .tup xs ∨ d = .lst xs) (hl : xs.length ≤ 10000) (n : Nat) {p : PSt} (hp : PG p) :
    ∃ ys p', callF ft gt (n + 3) "_law_shuffled" [.pool, d] p = .ok (.tup ys) p' ∧ PG p' ∧ ys.Perm xs := by
  rw [callF_succ h, run_eq rfl]
  obtain ⟨env', p', e, ⟨hp', ls, fs, s4, rfl, pm, _⟩, c3⟩ := whileL_meas (c := wC (callF ft gt (n + 2)) gt (.cmp .gt (.bi .len (.cons (.var 2) .nil)) (.int 0))) (f := wB (callF ft gt (n + 2)) gt b_law_shuffled_1)
    (fun env q => PG q ∧ ∃ ls fs s4, env = [.val .pool, .val d, .val (.lst ls), .own (.lst fs), s4] ∧ (fs ++ ls).Perm xs ∧ fs.length + ls.length = xs.length)
    (fun env _ => match env with
      | [_, _, .val (.lst ls), _, _] => ls.length
      | _ => 0) (fun env q ⟨hq, ls, fs, s4, he, pm, ll⟩ => by
      subst he
      by_cases l0 : ls = []
      · left
        subst l0
        simp
      · right
        have lp : 0 < ls.length := List.length_pos_iff.mpr l0
        refine ⟨by simp [lp, l0], ?_⟩
        obtain ⟨a, q1, e1, ha, hq1⟩ := draw_ex (gt := gt) hs hf n (m := (ls.length : Int)) (by omega) (by omega) hq
        have ha : a < ls.length := by omega
        have ga := atI_nat' (List.getElem?_eq_getElem ha)
        have tk : (ls.take a).length + (ls.drop (a + 1)).length ≤ sizeLine := by rw [List.length_take, List.length_drop, sizeLine_eq]; omega
        have fl : fs.length < sizeLine := by rw [sizeLine_eq]; omega
        refine ⟨[.val .pool, .val d, .val (.lst (ls.take a ++ ls.drop (a + 1))), .own (.lst (fs ++ [ls[a]])), .val (.int a)], q1, ?_, ⟨hq1, _, _, _, rfl, ?_, ?_⟩, ?_⟩
        · simp [b_law_shuffled_1, escE, escB, escBs, e1, ga, cut_to ls (Nat.le_of_lt ha), cut_from1 ls ha, kB2_lst tk, appK_eq _ _ _ fl]
        · refine List.Perm.trans ?_ pm
          have e2 : ls = ls.take a ++ ls[a] :: ls.drop (a + 1) := by
            rw [← List.drop_eq_getElem_cons ha, List.take_append_drop]
          conv => rhs; rw [e2]
          rw [List.append_assoc]
          refine List.Perm.append_left _ ?_
          rw [List.singleton_append]
          exact List.perm_middle.symm
        · simp only [List.length_append, List.length_take, List.length_drop, List.length_singleton]; omega
        · simp only [List.length_append, List.length_take, List.length_drop]; omega) 100000 [.val .pool, .val d, .val (.lst xs), .own (.lst []), .no] p ⟨hp, _, _, _, rfl, by simp, by simp⟩ (by dsimp only; omega)
  have l0 : ls = [] := by
    by_cases z : ls = []
    · exact z
    · have lp : 0 < ls.length := List.length_pos_iff.mpr z
      simp [lp, z] at c3
  subst l0
  rw [List.append_nil] at pm
  refine ⟨fs, p', ?_, hp', pm⟩
  rcases hd with rfl | rfl
  · simp [txf_law_shuffled, escE, escB, escBs, e]
  · simp [txf_law_shuffled, escE, escB, escBs, e]
end
end PD

namespace PD
open PySem PySem.Spec PyProof.Rows L2
/-! ### dicts as lists of pairs -/
section
variable {κ α : Type} [DecidableEq κ] {ek : κ → D} {ev : α → D}
def encAL (t : Bool) (ek : κ → D) (ev : α → D) (al : List (κ × α)) : D := .dict t (al.map fun q => ek q.1) (al.map fun q => ev q.2)
theorem dhas_al (hk : ∀ a b, keq (ek a) (ek b) = decide (a = b)) (al : List (κ × α)) (k : κ) : dhas (al.map fun q => ek q.1) (ek k) = decide (k ∈ al.map (·.1)) := by
  induction al with
  | nil => rfl
  | cons e al ih =>
    have ih' : ((al.map fun q => ek q.1).any fun x => keq x (ek k)) = decide (k ∈ al.map (·.1)) := ih
    show (((e :: al).map fun q => ek q.1).any fun x => keq x (ek k)) = _
    rw [List.map_cons, List.any_cons, ih', hk, List.map_cons]
    by_cases h : e.1 = k
    · subst h; simp
    · have h' : ¬ k = e.1 := fun z => h z.symm
      simp [h, h']
theorem dget_al (hk : ∀ a b, keq (ek a) (ek b) = decide (a = b)) : ∀ {al : List (κ × α)} {k : κ} {v : α}, (al.map (·.1)).Nodup → (k, v) ∈ al → dget (al.map fun q => ek q.1) (al.map fun q => ev q.2) (ek k) = some (ev v)
  | [], k, v, _, h => by cases h
  | e :: al, k, v, nd, h => by
    rw [List.map_cons, List.nodup_cons] at nd
    rw [List.map_cons, List.map_cons]
    unfold dget
    rw [hk]
    by_cases z : e.1 = k
    · rw [decide_eq_true z, if_pos rfl]
      rcases List.mem_cons.mp h with h | h
      · rw [← h]
      · exact absurd (List.mem_map_of_mem h) (by rw [← z] at *; exact nd.1)
    · rw [decide_eq_false z, if_neg Bool.false_ne_true]
      rcases List.mem_cons.mp h with h | h
      · exact absurd (by rw [← h]) z
      · exact dget_al hk nd.2 h
theorem dget_none (hk : ∀ a b, keq (ek a) (ek b) = decide (a = b)) : ∀ {al : List (κ × α)} {k : κ}, k ∉ al.map (·.1) → dget (al.map fun q => ek q.1) (al.map fun q => ev q.2) (ek k) = none
  | [], k, _ => rfl
  | e :: al, k, h => by
    rw [List.map_cons, List.mem_cons, not_or] at h
    rw [List.map_cons, List.map_cons]
    unfold dget
    rw [hk, decide_eq_false (fun z => h.1 z.symm), if_neg Bool.false_ne_true]
    exact dget_none hk h.2
theorem dputK_new (hk : ∀ a b, keq (ek a) (ek b) = decide (a = b)) {al : List (κ × α)} {k : κ} {v : α} (h : k ∉ al.map (·.1)) : dputK (al.map fun q => ek q.1) (ek k) = (al ++ [(k, v)]).map fun q => ek q.1 := by
  unfold dputK
  rw [dhas_al hk, decide_eq_false h, if_neg Bool.false_ne_true]
  simp
theorem dputV_new (hk : ∀ a b, keq (ek a) (ek b) = decide (a = b)) : ∀ {al : List (κ × α)} {k : κ} {v : α}, k ∉ al.map (·.1) → dputV (al.map fun q => ek q.1) (al.map fun q => ev q.2) (ek k) (ev v) = (al ++ [(k, v)]).map fun q => ev q.2
  | [], k, v, _ => rfl
  | e :: al, k, v, h => by
    rw [List.map_cons, List.mem_cons, not_or] at h
    rw [List.map_cons, List.map_cons]
    unfold dputV
    rw [hk, decide_eq_false (fun z => h.1 z.symm), if_neg Bool.false_ne_true, dputV_new hk h.2]
    rfl
theorem pairsL_al (t : Bool) (hk : ∀ a b, keq (ek a) (ek b) = decide (a = b)) (hi : ∀ a, isKey t (ek a) = true) : ∀ (more al : List (κ × α)), ((al ++ more).map (·.1)).Nodup →
    pairsL t (more.map fun e => .tup [ek e.1, ev e.2]) (al.map fun q => ek q.1) (al.map fun q => ev q.2) = some (encAL t ek ev (al ++ more))
  | [], al, _ => by rw [List.append_nil]; rfl
  | e :: more, al, nd => by
    rw [List.map_cons]
    unfold pairsL
    rw [if_pos (hi e.1)]
    have hn : e.1 ∉ al.map (·.1) := by
      rw [List.map_append, List.nodup_append] at nd
      exact fun z => nd.2.2 _ z e.1 (by simp) rfl
    rw [dputK_new hk (v := e.2) hn, dputV_new hk hn, pairsL_al t hk hi more (al ++ [e]) (by rw [List.append_assoc]; exact nd)]
    rw [List.append_assoc]
    rfl
end
def encP (q : Int × Int) : D := .tup [.int q.1, .int q.2]
theorem keq_P (a b : Int × Int) : keq (encP a) (encP b) = decide (a = b) := by
  obtain ⟨a1, a2⟩ := a
  obtain ⟨b1, b2⟩ := b
  show (keq1 (.int a1) (.int b1) && keqL [.int a2] [.int b2]) = _
  show ((a1 == b1) && ((a2 == b2) && true)) = _
  rw [Bool.and_true]
  by_cases h1 : a1 = b1 <;> by_cases h2 : a2 = b2 <;> simp [h1, h2]
@[simp] theorem isKey_P (a : Int × Int) : isKey true (encP a) = true := nr rfl
@[simp] theorem isKey_tup (xs) : isKey true (.tup xs) = (keysD xs).isSome := nr rfl
theorem encP_eq (i j : Int) : D.tup [.int i, .int j] = encP (i, j) := rfl

/-! ### layers, piles, places -/
def bI (b : Bool) : Int := if b then 1 else 0
abbrev Way := Bool × Bool
def encW (w : Way) : D := .tup [.int (bI w.1), .int (bI w.2)]
def encM : Way → D
  | (false, false) => .str "stay"
  | (true, false) => .str "turn"
  | (false, true) => .str "tumble"
  | (true, true) => .str "spin"
def act (w m : Way) : Way := (xor w.1 m.1, xor w.2 m.2)
abbrev Ly := (Int × Int × Int) × Way
def encLy (l : Ly) : D := .tup [.int l.1.1, .int l.1.2.1, .int l.1.2.2, .int (bI l.2.1), .int (bI l.2.2)]
def encLs (ls : List Ly) : D := .lst (ls.map encLy)
abbrev Pl := List ((Int × Int) × List Ly)
def encPc (pl : Pl) : D := encAL true encP encLs pl
def turnL (m : Way) (ls : List Ly) : List Ly := if xor m.1 m.2 = true then (ls.map fun l => (l.1, act l.2 m)).reverse else ls.map fun l => (l.1, act l.2 m)
theorem turnL_len (m : Way) (ls : List Ly) : (turnL m ls).length = ls.length := by
  unfold turnL
  split <;> simp
def txf_law_motions : FDef := ⟨0, 0, (.seq (.ret (.tup (.cons (.str "stay") (.cons (.str "turn") (.cons (.str "tumble") (.cons (.str "spin") .nil))))))
 .skip)⟩
def txf_law_way_after : FDef := ⟨2, 4, (.seq (.set 2 (.ite (.cmp .isin (.var 1) (.tup (.cons (.str "turn") (.cons (.str "spin") .nil)))) (.int 1) (.int 0)) false)
 (.seq (.set 3 (.ite (.cmp .isin (.var 1) (.tup (.cons (.str "tumble") (.cons (.str "spin") .nil)))) (.int 1) (.int 0)) false)
 (.seq (.ret (.tup (.cons (.bin .mod (.bi .int (.cons (.bin .add (.idx (.var 0) (.int 0)) (.var 2)) .nil)) (.int 2)) (.cons (.bin .mod (.bi .int (.cons (.bin .add (.idx (.var 0) (.int 1)) (.var 3)) .nil)) (.int 2)) .nil))))
 .skip)))⟩
def b_law_flat_1 : PD.S := (.seq (.put 2 (.tup (.cons (.var 3) (.cons (.var 4) .nil))) (.lst (.cons (.tup (.cons (.var 0) (.cons (.var 3) (.cons (.var 4) (.cons (.int 0) (.cons (.int 0) .nil)))))) .nil)))
 .skip)
def b_law_flat_2 : PD.S := (.seq (.for (.name 4) (.rng1 (.idx (.var 1) (.int 1)))
b_law_flat_1)
 .skip)
def txf_law_flat : FDef := ⟨2, 5, (.seq (.set 2 (.dnew true) true)
 (.seq (.for (.name 3) (.rng1 (.idx (.var 1) (.int 0)))
b_law_flat_2)
 (.seq (.ret (.var 2))
 .skip)))⟩
def b_law_told_stack_1 : E := (.bi .tuple (.cons (.idx (.var 0) (.tup (.cons (.var 5) (.cons (.var 4) .nil)))) .nil))
@[simp] theorem b_law_told_stack_1_esc : escE b_law_told_stack_1 = [] := by kernel_rfl
@[simp] theorem b_law_told_stack_1_escB : escB b_law_told_stack_1 = [] := by kernel_rfl
def b_law_told_stack_2 : E := (.bi .tuple (.cons (.comp b_law_told_stack_1 (.name 4) (.rng1 (.var 3)) .nil) .nil))
@[simp] theorem b_law_told_stack_2_esc : escE b_law_told_stack_2 = [] := by kernel_rfl
@[simp] theorem b_law_told_stack_2_escB : escB b_law_told_stack_2 = [] := by kernel_rfl
def b_law_told_stack_3 : E := (.idx (.var 2) (.int 1))
@[simp] theorem b_law_told_stack_3_esc : escE b_law_told_stack_3 = [] := by kernel_rfl
@[simp] theorem b_law_told_stack_3_escB : escB b_law_told_stack_3 = [] := by kernel_rfl
def b_law_told_stack_4 : E := (.idx (.var 2) (.int 0))
@[simp] theorem b_law_told_stack_4_esc : escE b_law_told_stack_4 = [] := by kernel_rfl
@[simp] theorem b_law_told_stack_4_escB : escB b_law_told_stack_4 = [] := by kernel_rfl
def txf_law_told_stack : FDef := ⟨1, 6, (.seq (.set 1 (.bin .add (.int 1) (.bi .max1 (.cons (.compD b_law_told_stack_4 (.name 2) 0 .nil) .nil))) false)
 (.seq (.set 3 (.bin .add (.int 1) (.bi .max1 (.cons (.compD b_law_told_stack_3 (.name 2) 0 .nil) .nil))) false)
 (.seq (.ret (.bi .tuple (.cons (.comp b_law_told_stack_2 (.name 5) (.rng1 (.var 1)) .nil) .nil)))
 .skip)))⟩
def b_law_turned_layers_1 : E := (.bin .add (.sl (.var 3) .nil (.cons (.int 3) .nil)) (.call "_law_way_after" (.cons (.sl (.var 3) (.cons (.int 3) .nil) .nil) (.cons (.var 1) .nil))))
@[simp] theorem b_law_turned_layers_1_esc : escE b_law_turned_layers_1 = [1] := by kernel_rfl
@[simp] theorem b_law_turned_layers_1_escB : escB b_law_turned_layers_1 = [1] := by kernel_rfl
def txf_law_turned_layers : FDef := ⟨2, 4, (.seq (.set 2 (.comp b_law_turned_layers_1 (.name 3) (.var 0) .nil) false)
 (.seq (.ret (.ite (.cmp .isin (.var 1) (.tup (.cons (.str "turn") (.cons (.str "tumble") .nil)))) (.rev (.var 2)) (.var 2)))
 .skip))⟩
def b_law_extent_1 : E := (.idx (.var 1) (.int 1))
@[simp] theorem b_law_extent_1_esc : escE b_law_extent_1 = [] := by kernel_rfl
@[simp] theorem b_law_extent_1_escB : escB b_law_extent_1 = [] := by kernel_rfl
def b_law_extent_2 : E := (.idx (.var 1) (.int 0))
@[simp] theorem b_law_extent_2_esc : escE b_law_extent_2 = [] := by kernel_rfl
@[simp] theorem b_law_extent_2_escB : escB b_law_extent_2 = [] := by kernel_rfl
def txf_law_extent : FDef := ⟨1, 2, (.seq (.ret (.tup (.cons (.bin .add (.int 1) (.bi .max1 (.cons (.compD b_law_extent_2 (.name 1) 0 .nil) .nil))) (.cons (.bin .add (.int 1) (.bi .max1 (.cons (.compD b_law_extent_1 (.name 1) 0 .nil) .nil))) .nil))))
 .skip)⟩
def b_law_folded_1 : E := (.tup (.cons (.tup (.cons (.bin .sub (.var 8) (.var 17)) (.cons (.bin .sub (.var 9) (.var 18)) .nil))) (.cons (.idx (.var 13) (.tup (.cons (.var 8) (.cons (.var 9) .nil)))) .nil)))
@[simp] theorem b_law_folded_1_esc : escE b_law_folded_1 = [] := by kernel_rfl
@[simp] theorem b_law_folded_1_escB : escB b_law_folded_1 = [] := by kernel_rfl
def b_law_folded_2 : E := (.idx (.var 14) (.int 1))
@[simp] theorem b_law_folded_2_esc : escE b_law_folded_2 = [] := by kernel_rfl
@[simp] theorem b_law_folded_2_escB : escB b_law_folded_2 = [] := by kernel_rfl
def b_law_folded_3 : E := (.idx (.var 14) (.int 0))
@[simp] theorem b_law_folded_3_esc : escE b_law_folded_3 = [] := by kernel_rfl
@[simp] theorem b_law_folded_3_escB : escB b_law_folded_3 = [] := by kernel_rfl
def b_law_folded_4 : E := (.cmp .notin (.var 14) (.var 6))
@[simp] theorem b_law_folded_4_esc : escE b_law_folded_4 = [] := by kernel_rfl
@[simp] theorem b_law_folded_4_escB : escB b_law_folded_4 = [] := by kernel_rfl
def b_law_folded_5 : PD.S := (.seq (.set 15 (.ite (.cmp .isin (.var 14) (.var 7)) (.idx (.var 7) (.var 14)) (.lst .nil)) false)
 (.seq (.set 16 (.ite (.cmp .isin (.var 14) (.var 6)) (.idx (.var 6) (.var 14)) (.lst .nil)) false)
 (.seq (.put 13 (.var 14) (.ite (.cmp .eq (.var 5) (.str "over")) (.bin .add (.var 15) (.var 16)) (.bin .add (.var 16) (.var 15))))
 .skip)))
def b_law_folded_6 : PD.S := (.seq (.set 10 (.ite (.cmp .eq (.var 2) (.str "column")) (.var 9) (.var 8)) false)
 (.seq (.ite (.cmp .eq (.cmp .lt (.var 10) (.var 3)) (.cmp .eq (.var 4) (.str "low")))
(.seq (.set 11 (.bin .sub (.bin .sub (.bin .mul (.int 2) (.var 3)) (.int 1)) (.var 10)) false)
 (.seq (.set 12 (.call "_law_turned_layers" (.cons (.idx (.var 0) (.tup (.cons (.var 8) (.cons (.var 9) .nil)))) (.cons (.ite (.cmp .eq (.var 2) (.str "column")) (.str "turn") (.str "tumble")) .nil))) false)
 (.seq (.put 6 (.ite (.cmp .eq (.var 2) (.str "column")) (.tup (.cons (.var 8) (.cons (.var 11) .nil))) (.tup (.cons (.var 11) (.cons (.var 9) .nil)))) (.var 12))
 .skip)))
(.seq (.put 7 (.tup (.cons (.var 8) (.cons (.var 9) .nil))) (.idx (.var 0) (.tup (.cons (.var 8) (.cons (.var 9) .nil)))))
 .skip))
 .skip))
def txf_law_folded : FDef := ⟨2, 19, (.seq (.asg [2, 3, 4, 5] (.var 1))
 (.seq (.set 6 (.dnew true) true)
 (.seq (.set 7 (.dnew true) true)
 (.seq (.forD (.tup [8, 9]) 0
b_law_folded_6)
 (.seq (.set 13 (.dnew true) true)
 (.seq (.for (.name 14) (.bin .add (.bi .list (.cons (.var 6) .nil)) (.compD (.var 14) (.name 14) 7 (.cons b_law_folded_4 .nil)))
b_law_folded_5)
 (.seq (.set 17 (.bi .min1 (.cons (.compD b_law_folded_3 (.name 14) 13 .nil) .nil)) false)
 (.seq (.set 18 (.bi .min1 (.cons (.compD b_law_folded_2 (.name 14) 13 .nil) .nil)) false)
 (.seq (.ret (.dpairs true (.compD b_law_folded_1 (.tup [8, 9]) 13 .nil)))
 .skip)))))))))⟩
def txf_law_fold : FDef := ⟨3, 5, (.seq (.set 3 (.ite (.or (.cmp .eq (.var 1) (.int 1)) (.and (.cmp .gt (.var 2) (.int 1)) (.cmp .eq (.call "_law_draw" (.cons (.var 0) (.cons (.int 2) .nil))) (.int 0)))) (.str "column") (.str "row")) false)
 (.seq (.set 4 (.ite (.cmp .eq (.var 3) (.str "column")) (.var 2) (.var 1)) false)
 (.seq (.ret (.tup (.cons (.var 3) (.cons (.bin .add (.int 1) (.call "_law_draw" (.cons (.var 0) (.cons (.bin .sub (.var 4) (.int 1)) .nil)))) (.cons (.idx (.tup (.cons (.str "low") (.cons (.str "high") .nil))) (.call "_law_draw" (.cons (.var 0) (.cons (.int 2) .nil)))) (.cons (.idx (.tup (.cons (.str "over") (.cons (.str "under") .nil))) (.call "_law_draw" (.cons (.var 0) (.cons (.int 2) .nil)))) .nil))))))
 .skip)))⟩
section
variable {ft : FTab} {gt : Str → Option D}
theorem c_motions (h : Has ft "_law_motions" txf_law_motions) (n : Nat) (p : PSt) : callF ft gt (n + 1) "_law_motions" [] p = .ok (.tup ([(false, false), (true, false), (false, true), (true, true)].map encM)) p := by
  rw [callF_succ h, run_eq rfl]
  simp [txf_law_motions, escE, escB, escBs, encM]
theorem c_way_after (h : Has ft "_law_way_after" txf_law_way_after) (n : Nat) (w m : Way) (p : PSt) : callF ft gt (n + 1) "_law_way_after" [encW w, encM m] p = .ok (encW (act w m)) p := by
  rw [callF_succ h, run_eq rfl]
  obtain ⟨a, b⟩ := w
  obtain ⟨c, d⟩ := m
  cases a <;> cases b <;> cases c <;> cases d <;> kernel_rfl
theorem cut3 (a b c d e : D) : cutD [a, b, c, d, e] none (some 3) = [a, b, c] := by rfl
theorem cut3' (a b c d e : D) : cutD [a, b, c, d, e] (some 3) none = [d, e] := by rfl
theorem c_turned_layers (h1 : Has ft "_law_way_after" txf_law_way_after) (h : Has ft "_law_turned_layers" txf_law_turned_layers) (n : Nat) (ls : List Ly) (m : Way) (hl : ls.length ≤ sizeLine) (p : PSt) :
    callF ft gt (n + 2) "_law_turned_layers" [encLs ls, encM m] p = .ok (encLs (turnL m ls)) p := by
  rw [callF_succ h, run_eq rfl]
  have body := compL_map (f := fC (callF ft gt (n + 1)) gt b_law_turned_layers_1 (.name 3) .nil [some (encLs ls), some (encM m), none, none]) (enc := encLy) (g := fun l => encLy (l.1, act l.2 m)) (p := p) (L := ls) (fun l _ => by
    have e := c_way_after (gt := gt) h1 n l.2 m p
    unfold encW at e
    simp [b_law_turned_layers_1, encLy, cut3, cut3', e]
    rw [kB2_tup (by simp [sizeLine_eq])]
    rfl) hl
  unfold encLs at body ⊢
  have em : (ls.map fun l => encLy (l.1, act l.2 m)) = (ls.map fun l => (l.1, act l.2 m)).map encLy := by simp
  rw [em] at body
  obtain ⟨c, d⟩ := m
  have i1 := kC2_inT (p := p) (r := false) (x := .str "stay") (xs := [.str "turn", .str "tumble"]) (by decide +kernel)
  have i2 := kC2_inT (p := p) (r := true) (x := .str "turn") (xs := [.str "turn", .str "tumble"]) (by decide +kernel)
  have i3 := kC2_inT (p := p) (r := true) (x := .str "tumble") (xs := [.str "turn", .str "tumble"]) (by decide +kernel)
  have i4 := kC2_inT (p := p) (r := false) (x := .str "spin") (xs := [.str "turn", .str "tumble"]) (by decide +kernel)
  cases c <;> cases d <;> dsimp only [encM] at body ⊢ <;> simp [txf_law_turned_layers, escE, escB, escBs, Tg.own, body, i1, i2, i3, i4, turnL, List.map_reverse]
end
end PD

namespace PD
open PySem PySem.Spec PyProof.Rows L2
section
variable {cf : Str → List D → PSt → Out D} {gt : Str → Option D} {env env2 : Env} {senv senv2 : SEnv} {p : PSt}
variable {κ α : Type} [DecidableEq κ] {ek : κ → D} {ev : α → D} {t : Bool} {al : List (κ × α)}
@[simp] theorem slOf_al : slOf true (encAL t ek ev al) = .own (encAL t ek ev al) := nr rfl
@[simp] theorem clean_al : D.clean (encAL t ek ev al) = false := nr rfl
@[simp] theorem isNonD_al : isNonD (encAL t ek ev al) = false := nr rfl
@[simp] theorem kCompD_al (elt tg c) : kCompD cf gt elt tg c env p (some (some (encAL t ek ev al))) = compL (fCN cf gt elt tg c env) (al.map fun q => ek q.1) [] p := nr rfl
@[simp] theorem kForD_al (tg body) : kForD cf gt tg body senv p (some (some (encAL t ek ev al))) = noExc (forL (fF cf gt tg body) (al.map fun q => ek q.1) senv p) := nr rfl
@[simp] theorem putS_al (i k d) : putS cf gt i k senv senv2 d p (some (.own (encAL t ek ev al))) = (evalE cf gt k (view senv) p).bind (putD2 i t (al.map fun q => ek q.1) (al.map fun q => ev q.2) d senv2) := nr rfl
@[simp] theorem kBi_len_al : kBi .len [encAL t ek ev al] p = .ok (.int al.length) p := by
  show Out.ok (D.int ((al.map fun q => ek q.1).length : Nat)) p = _
  rw [List.length_map]
@[simp] theorem kBi_list_al : kBi .list [encAL t ek ev al] p = .ok (.lst (al.map fun q => ek q.1)) p := nr rfl
theorem putD2_new (hk : ∀ a b, keq (ek a) (ek b) = decide (a = b)) (hi : ∀ a, isKey t (ek a) = true) (i : Nat) {k : κ} {v : α} (h : k ∉ al.map (·.1)) (hl : al.length < sizeLine) : putD2 i t (al.map fun q => ek q.1) (al.map fun q => ev q.2) (ev v) senv (ek k) p = .ok (.nx (senv.set i (.own (encAL t ek ev (al ++ [(k, v)]))))) p := by
  rw [putD2_eq _ _ _ _ _ _ (by rw [List.length_map]; exact hl) (hi k), dputK_new hk (v := v) h, dputV_new hk h]
  rfl
theorem idx_al (hk : ∀ a b, keq (ek a) (ek b) = decide (a = b)) (hi : ∀ a, isKey t (ek a) = true) (nd : (al.map (·.1)).Nodup) {k : κ} {v : α} (h : (k, v) ∈ al) : idxD (encAL t ek ev al) (ek k) = some (ev v) := by
  show (if isKey t (ek k) = true then dget (al.map fun q => ek q.1) (al.map fun q => ev q.2) (ek k) else none) = _
  rw [if_pos (hi k), dget_al hk nd h]
theorem in_al (hk : ∀ a b, keq (ek a) (ek b) = decide (a = b)) (hi : ∀ a, isKey t (ek a) = true) (k : κ) : kC2 .isin (ek k) (encAL t ek ev al) p = .ok (.bl (decide (k ∈ al.map (·.1)))) p := by
  unfold encAL
  rw [kC2_inD (hi k), dhas_al hk]
theorem notin_al (hk : ∀ a b, keq (ek a) (ek b) = decide (a = b)) (hi : ∀ a, isKey t (ek a) = true) (k : κ) : kC2 .notin (ek k) (encAL t ek ev al) p = .ok (.bl (!decide (k ∈ al.map (·.1)))) p := by
  unfold encAL
  rw [kC2_notinD (hi k), dhas_al hk]
theorem pairs_al (hk : ∀ a b, keq (ek a) (ek b) = decide (a = b)) (hi : ∀ a, isKey t (ek a) = true) {al : List (κ × α)} (nd : (al.map (·.1)).Nodup) (hl : al.length ≤ sizeLine) : pairsD t (.lst (al.map fun e => .tup [ek e.1, ev e.2])) = some (encAL t ek ev al) := by
  show (if _ then _ else _) = _
  rw [if_pos (by rw [List.length_map]; exact hl)]
  exact pairsL_al t hk hi al [] nd
end
/-! ### greatest, least -/
theorem fold_max : ∀ (xs : List Int) (a : Int), (xs.foldl (fun m y => if y > m then y else m) a = a ∨ xs.foldl (fun m y => if y > m then y else m) a ∈ xs) ∧ a ≤ xs.foldl (fun m y => if y > m then y else m) a ∧ ∀ y ∈ xs, y ≤ xs.foldl (fun m y => if y > m then y else m) a
  | [], a => ⟨.inl rfl, Int.le_refl _, by simp⟩
  | x :: xs, a => by
    rw [List.foldl_cons]
    obtain ⟨h1, h2, h3⟩ := fold_max xs (if x > a then x else a)
    generalize hm : (if x > a then x else a) = m at h1 h2 h3 ⊢
    have c : (m = x ∧ x > a) ∨ (m = a ∧ ¬ x > a) := by
      by_cases c : x > a
      · rw [if_pos c] at hm; exact .inl ⟨hm.symm, c⟩
      · rw [if_neg c] at hm; exact .inr ⟨hm.symm, c⟩
    refine ⟨?_, by omega, fun y hy => ?_⟩
    · rcases h1 with h1 | h1
      · rcases c with ⟨e, _⟩ | ⟨e, _⟩
        · right; rw [h1, e]; exact List.mem_cons_self
        · left; rw [h1, e]
      · exact .inr (List.mem_cons_of_mem _ h1)
    · rcases List.mem_cons.mp hy with rfl | hy
      · omega
      · exact h3 y hy
theorem maxI_eq {ns : List Int} {m : Int} (h : m ∈ ns) (hle : ∀ x ∈ ns, x ≤ m) : maxI ns = some m := by
  cases ns with
  | nil => cases h
  | cons a xs =>
    obtain ⟨h1, h2, h3⟩ := fold_max xs a
    show some (xs.foldl (fun m y => if y > m then y else m) a) = some m
    congr 1
    have l1 : xs.foldl (fun m y => if y > m then y else m) a ≤ m := by
      rcases h1 with h1 | h1
      · rw [h1]; exact hle a List.mem_cons_self
      · exact hle _ (List.mem_cons_of_mem _ h1)
    have l2 : m ≤ xs.foldl (fun m y => if y > m then y else m) a := by
      rcases List.mem_cons.mp h with rfl | h
      · exact h2
      · exact h3 m h
    omega
theorem fold_min : ∀ (xs : List Int) (a : Int), (xs.foldl (fun m y => if y < m then y else m) a = a ∨ xs.foldl (fun m y => if y < m then y else m) a ∈ xs) ∧ xs.foldl (fun m y => if y < m then y else m) a ≤ a ∧ ∀ y ∈ xs, xs.foldl (fun m y => if y < m then y else m) a ≤ y
  | [], a => ⟨.inl rfl, Int.le_refl _, by simp⟩
  | x :: xs, a => by
    rw [List.foldl_cons]
    obtain ⟨h1, h2, h3⟩ := fold_min xs (if x < a then x else a)
    generalize hm : (if x < a then x else a) = m at h1 h2 h3 ⊢
    have c : (m = x ∧ x < a) ∨ (m = a ∧ ¬ x < a) := by
      by_cases c : x < a
      · rw [if_pos c] at hm; exact .inl ⟨hm.symm, c⟩
      · rw [if_neg c] at hm; exact .inr ⟨hm.symm, c⟩
    refine ⟨?_, by omega, fun y hy => ?_⟩
    · rcases h1 with h1 | h1
      · rcases c with ⟨e, _⟩ | ⟨e, _⟩
        · right; rw [h1, e]; exact List.mem_cons_self
        · left; rw [h1, e]
      · exact .inr (List.mem_cons_of_mem _ h1)
    · rcases List.mem_cons.mp hy with rfl | hy
      · omega
      · exact h3 y hy
theorem minI_eq {ns : List Int} {m : Int} (h : m ∈ ns) (hle : ∀ x ∈ ns, m ≤ x) : minI ns = some m := by
  cases ns with
  | nil => cases h
  | cons a xs =>
    obtain ⟨h1, h2, h3⟩ := fold_min xs a
    show some (xs.foldl (fun m y => if y < m then y else m) a) = some m
    congr 1
    have l1 : m ≤ xs.foldl (fun m y => if y < m then y else m) a := by
      rcases h1 with h1 | h1
      · rw [h1]; exact hle a List.mem_cons_self
      · exact hle _ (List.mem_cons_of_mem _ h1)
    have l2 : xs.foldl (fun m y => if y < m then y else m) a ≤ m := by
      rcases List.mem_cons.mp h with rfl | h
      · exact h2
      · exact h3 m h
    omega
theorem kBi_max1 {p : PSt} {ns : List Int} {m : Int} (h : maxI ns = some m) : kBi .max1 [.lst (ns.map D.int)] p = .ok (.int m) p := by
  show lift ((intsD _).bind _) p = _
  rw [ints_of ns]
  show lift ((maxI ns).map D.int) p = _
  rw [h]; rfl
theorem kBi_min1 {p : PSt} {ns : List Int} {m : Int} (h : minI ns = some m) : kBi .min1 [.lst (ns.map D.int)] p = .ok (.int m) p := by
  show lift (min1D (ns.map D.int)) p = _
  unfold min1D
  rw [ints_of]
  dsimp only
  rw [h]
  rfl
/-! ### places on a grid -/
structure Grid (pl : Pl) (R C : Nat) : Prop where
  nd : (pl.map (·.1)).Nodup
  mem : ∀ q : Int × Int, q ∈ pl.map (·.1) ↔ (0 ≤ q.1 ∧ q.1 < R) ∧ 0 ≤ q.2 ∧ q.2 < C
  sz : pl.length ≤ 1000
theorem Grid.at {pl : Pl} {R C : Nat} (g : Grid pl R C) {i j : Nat} (hi : i < R) (hj : j < C) : ∃ ls, (((i : Int), (j : Int)), ls) ∈ pl := by
  obtain ⟨e, he, h⟩ := List.mem_map.mp ((g.mem ((i : Int), (j : Int))).mpr ⟨⟨by omega, by show (i : Int) < _; omega⟩, by omega, by show (j : Int) < _; omega⟩)
  exact ⟨e.2, by rw [← h]; exact he⟩
def getPl (pl : Pl) (q : Int × Int) : List Ly := ((pl.find? fun e => decide (e.1 = q)).map (·.2)).getD []
theorem getPl_eq {pl : Pl} (nd : (pl.map (·.1)).Nodup) {e : (Int × Int) × List Ly} (h : e ∈ pl) : getPl pl e.1 = e.2 := by
  induction pl with
  | nil => cases h
  | cons x pl ih =>
    rw [List.map_cons, List.nodup_cons] at nd
    unfold getPl
    rw [List.find?_cons]
    by_cases z : x.1 = e.1
    · rw [decide_eq_true z]
      rcases List.mem_cons.mp h with h | h
      · rw [h]; rfl
      · exact absurd (z ▸ List.mem_map_of_mem (f := Prod.fst) h) nd.1
    · rw [decide_eq_false z]
      rcases List.mem_cons.mp h with h | h
      · exact absurd (by rw [h]) z
      · exact ih nd.2 h
theorem Grid.get {pl : Pl} {R C : Nat} (g : Grid pl R C) {i j : Nat} (hi : i < R) (hj : j < C) : (((i : Int), (j : Int)), getPl pl ((i : Int), (j : Int))) ∈ pl := by
  obtain ⟨ls, h⟩ := g.at hi hj
  rw [getPl_eq g.nd h]
  exact h
section
variable {ft : FTab} {gt : Str → Option D}
theorem firsts (cf : Str → List D → PSt → Out D) (pl : Pl) (hl : pl.length ≤ sizeLine) (env : Env) (i : Nat) (hi : i < env.length) (p : PSt) : compL (fCN cf gt (.idx (.var i) (.int 0)) (.name i) .nil env) (pl.map fun q => encP q.1) [] p = .ok (.lst ((pl.map fun e => e.1.1).map .int)) p := by
  have := compL_map (f := fCN cf gt (.idx (.var i) (.int 0)) (.name i) .nil env) (enc := fun q : (Int × Int) × List Ly => encP q.1) (g := fun q => D.int q.1.1) (p := p) (L := pl) (fun q _ => by
    simp [List.getElem?_set_self hi, encP]) hl
  rw [this, List.map_map]
  rfl
theorem seconds (cf : Str → List D → PSt → Out D) (pl : Pl) (hl : pl.length ≤ sizeLine) (env : Env) (i : Nat) (hi : i < env.length) (p : PSt) : compL (fCN cf gt (.idx (.var i) (.int 1)) (.name i) .nil env) (pl.map fun q => encP q.1) [] p = .ok (.lst ((pl.map fun e => e.1.2).map .int)) p := by
  have := compL_map (f := fCN cf gt (.idx (.var i) (.int 1)) (.name i) .nil env) (enc := fun q : (Int × Int) × List Ly => encP q.1) (g := fun q => D.int q.1.2) (p := p) (L := pl) (fun q _ => by
    simp [List.getElem?_set_self hi, encP]) hl
  rw [this, List.map_map]
  rfl
theorem Grid.max1 {pl : Pl} {R C : Nat} (g : Grid pl R C) (hR : 0 < R) (hC : 0 < C) : maxI (pl.map fun e => e.1.1) = some ((R : Int) - 1) := by
  refine maxI_eq ?_ fun x hx => ?_
  · obtain ⟨ls, h⟩ := g.at (i := R - 1) (j := 0) (by omega) hC
    exact List.mem_map.mpr ⟨_, h, by show ((R - 1 : Nat) : Int) = _; omega⟩
  · obtain ⟨e, he, rfl⟩ := List.mem_map.mp hx
    have := (g.mem e.1).mp (List.mem_map_of_mem he)
    omega
theorem Grid.max2 {pl : Pl} {R C : Nat} (g : Grid pl R C) (hR : 0 < R) (hC : 0 < C) : maxI (pl.map fun e => e.1.2) = some ((C : Int) - 1) := by
  refine maxI_eq ?_ fun x hx => ?_
  · obtain ⟨ls, h⟩ := g.at (i := 0) (j := C - 1) hR (by omega)
    exact List.mem_map.mpr ⟨_, h, by show ((C - 1 : Nat) : Int) = _; omega⟩
  · obtain ⟨e, he, rfl⟩ := List.mem_map.mp hx
    have := (g.mem e.1).mp (List.mem_map_of_mem he)
    omega
theorem Grid.szL {pl : Pl} {R C : Nat} (g : Grid pl R C) : pl.length ≤ sizeLine := by
  have := g.sz
  rw [sizeLine_eq]
  omega
theorem c_extent (h : Has ft "_law_extent" txf_law_extent) {pl : Pl} {R C : Nat} (g : Grid pl R C) (hR : 0 < R) (hC : 0 < C) (n : Nat) (p : PSt) : callF ft gt (n + 1) "_law_extent" [encPc pl] p = .ok (.tup [.int R, .int C]) p := by
  rw [callF_succ h, run_eq rfl]
  unfold encPc
  have m1 := kBi_max1 (p := p) (g.max1 hR hC)
  have m2 := kBi_max1 (p := p) (g.max2 hR hC)
  have e1 : (1 : Int) + ((R : Int) - 1) = R := by omega
  have e2 : (1 : Int) + ((C : Int) - 1) = C := by omega
  simp [txf_law_extent, escE, escB, escBs, Tg.own, b_law_extent_1, b_law_extent_2, firsts _ pl g.szL, seconds _ pl g.szL, m1, m2, e1, e2, -List.map_map]
def toldSt (pl : Pl) (R C : Nat) : D := .tup ((List.range R).map fun (i : Nat) => .tup ((List.range C).map fun (j : Nat) => .tup ((getPl pl ((i : Int), (j : Int))).map encLy)))
theorem c_told_stack (h : Has ft "_law_told_stack" txf_law_told_stack) {pl : Pl} {R C : Nat} (g : Grid pl R C) (hR : 0 < R) (hC : 0 < C) (hr : R ≤ 1000) (hc : C ≤ 1000) (n : Nat) (p : PSt) : callF ft gt (n + 1) "_law_told_stack" [encPc pl] p = .ok (toldSt pl R C) p := by
  rw [callF_succ h, run_eq rfl]
  have row : ∀ (i : Nat), i < R → ∀ (s2 s4 : Option D), compL (fC (callF ft gt n) gt b_law_told_stack_1 (.name 4) .nil [some (encPc pl), some (.int R), s2, some (.int C), s4, some (.int i)]) (rangeL 0 C) [] p = .ok (.lst ((List.range C).map fun (j : Nat) => D.tup ((getPl pl ((i : Int), (j : Int))).map encLy))) p := fun i hi s2 s4 => by
    rw [rangeL_zero]
    refine compL_map (g := fun j : Nat => D.tup ((getPl pl ((i : Int), (j : Int))).map encLy)) (fun j hj => ?_) (by simp [sizeLine_eq]; omega)
    have e := idx_al (t := true) (ev := encLs) keq_P isKey_P g.nd (g.get hi (List.mem_range.mp hj))
    unfold encPc
    simp [b_law_told_stack_1, encP_eq, e]
    unfold encLs
    simp
  have rows := compL_map (f := fC (callF ft gt n) gt b_law_told_stack_2 (.name 5) .nil [some (encPc pl), some (.int R), none, some (.int C), none, none]) (enc := fun i : Nat => D.int (i : Int)) (g := fun i : Nat => D.tup ((List.range C).map fun (j : Nat) => D.tup ((getPl pl ((i : Int), (j : Int))).map encLy))) (p := p) (L := List.range R) (fun i hi => by
    simp [b_law_told_stack_2, kRng1_eq, in62_len (n := C) (by rw [sizeLine_eq]; omega), row i (List.mem_range.mp hi)]) (by simp [sizeLine_eq]; omega)
  rw [← rangeL_zero] at rows
  have m1 := kBi_max1 (p := p) (g.max1 hR hC)
  have m2 := kBi_max1 (p := p) (g.max2 hR hC)
  have e1 : (1 : Int) + ((R : Int) - 1) = R := by omega
  have e2 : (1 : Int) + ((C : Int) - 1) = C := by omega
  have f1 := firsts (gt := gt) (callF ft gt n) pl g.szL
  have f2 := seconds (gt := gt) (callF ft gt n) pl g.szL
  unfold encPc at rows ⊢
  simp [txf_law_told_stack, escE, escB, escBs, Tg.own, b_law_told_stack_3, b_law_told_stack_4, f1, f2, m1, m2, e1, e2, kRng1_eq, in62_len (n := R) (by rw [sizeLine_eq]; omega), rows, -List.map_map]
  rfl
end
end PD

namespace PD
open PySem PySem.Spec PyProof.Rows L2
section
variable {cf : Str → List D → PSt → Out D} {gt : Str → Option D} {env env2 : Env} {senv senv2 : SEnv} {p : PSt} {pl : Pl}
@[simp] theorem slOf_pc : slOf true (encPc pl) = .own (encPc pl) := nr rfl
@[simp] theorem clean_pc : D.clean (encPc pl) = false := nr rfl
@[simp] theorem kCompD_pc (elt tg c) : kCompD cf gt elt tg c env p (some (some (encPc pl))) = compL (fCN cf gt elt tg c env) (pl.map fun q => encP q.1) [] p := nr rfl
@[simp] theorem kForD_pc (tg body) : kForD cf gt tg body senv p (some (some (encPc pl))) = noExc (forL (fF cf gt tg body) (pl.map fun q => encP q.1) senv p) := nr rfl
@[simp] theorem putS_pc (i k d) : putS cf gt i k senv senv2 d p (some (.own (encPc pl))) = (evalE cf gt k (view senv) p).bind (putD2 i true (pl.map fun q => encP q.1) (pl.map fun q => encLs q.2) d senv2) := nr rfl
@[simp] theorem kBi_list_pc : kBi .list [encPc pl] p = .ok (.lst (pl.map fun q => encP q.1)) p := nr rfl
theorem idx_pc (nd : (pl.map (·.1)).Nodup) {k : Int × Int} {v : List Ly} (h : (k, v) ∈ pl) : idxD (encPc pl) (encP k) = some (encLs v) := idx_al keq_P isKey_P nd h
theorem in_pc (k : Int × Int) : kC2 .isin (encP k) (encPc pl) p = .ok (.bl (decide (k ∈ pl.map (·.1)))) p := (in_al keq_P isKey_P k).trans (by congr 2; exact decide_eq_decide.mpr Iff.rfl)
theorem notin_pc (k : Int × Int) : kC2 .notin (encP k) (encPc pl) p = .ok (.bl (!decide (k ∈ pl.map (·.1)))) p := (notin_al keq_P isKey_P k).trans (by congr 3; exact decide_eq_decide.mpr Iff.rfl)
theorem put_pc (i : Nat) {k : Int × Int} {v : List Ly} (h : k ∉ pl.map (·.1)) (hl : pl.length < sizeLine) : putD2 i true (pl.map fun q => encP q.1) (pl.map fun q => encLs q.2) (encLs v) senv (encP k) p = .ok (.nx (senv.set i (.own (encPc (pl ++ [(k, v)]))))) p := putD2_new keq_P isKey_P i h hl
end
def flatRow (num : Int) (i : Nat) (C : Nat) : Pl := (List.range C).map fun (j : Nat) => (((i : Int), (j : Int)), [((num, (i : Int), (j : Int)), (false, false))])
def flatPl (num : Int) (R C : Nat) : Pl := (List.range R).flatMap fun (i : Nat) => flatRow num i C
theorem flatPl_succ (num : Int) (R C : Nat) : flatPl num (R + 1) C = flatPl num R C ++ flatRow num R C := by
  unfold flatPl
  rw [List.range_succ, List.flatMap_append]
  simp
theorem flatRow_succ (num : Int) (i C : Nat) : flatRow num i (C + 1) = flatRow num i C ++ [(((i : Int), (C : Int)), [((num, (i : Int), (C : Int)), (false, false))])] := by
  unfold flatRow
  rw [List.range_succ, List.map_append]
  rfl
theorem flatPl_keys (num : Int) (R C : Nat) (q : Int × Int) : q ∈ (flatPl num R C).map (·.1) ↔ (0 ≤ q.1 ∧ q.1 < R) ∧ 0 ≤ q.2 ∧ q.2 < C := by
  obtain ⟨a, b⟩ := q
  unfold flatPl flatRow
  simp only [List.mem_map, List.mem_flatMap, List.mem_range, Prod.exists, Prod.mk.injEq]
  constructor
  · rintro ⟨a1, b1, ls, ⟨i, hi, j, hj, ⟨rfl, rfl⟩, _⟩, rfl, rfl⟩
    omega
  · rintro ⟨⟨h1, h2⟩, h3, h4⟩
    exact ⟨a, b, _, ⟨a.toNat, by omega, b.toNat, by omega, ⟨by omega, by omega⟩, rfl⟩, rfl, rfl⟩
theorem flatRow_keys (num : Int) (i C : Nat) (q : Int × Int) : q ∈ (flatRow num i C).map (·.1) ↔ q.1 = i ∧ 0 ≤ q.2 ∧ q.2 < C := by
  obtain ⟨a, b⟩ := q
  unfold flatRow
  simp only [List.mem_map, List.mem_range, Prod.exists, Prod.mk.injEq]
  constructor
  · rintro ⟨a1, b1, ls, ⟨j, hj, ⟨rfl, rfl⟩, _⟩, rfl, rfl⟩
    omega
  · rintro ⟨h1, h3, h4⟩
    exact ⟨a, b, _, ⟨b.toNat, by omega, ⟨by omega, by omega⟩, rfl⟩, rfl, rfl⟩
theorem flatRow_len (num : Int) (i C : Nat) : (flatRow num i C).length = C := by simp [flatRow]
theorem flatPl_len (num : Int) (R C : Nat) : (flatPl num R C).length = R * C := by
  induction R with
  | zero => simp [flatPl]
  | succ R ih => rw [flatPl_succ, List.length_append, ih, flatRow_len, Nat.succ_mul]
theorem flatRow_nd (num : Int) (i : Nat) : ∀ C, ((flatRow num i C).map (·.1)).Nodup
  | 0 => by simp [flatRow]
  | C + 1 => by
    rw [flatRow_succ, List.map_append, List.nodup_append]
    refine ⟨flatRow_nd num i C, by simp, fun a ha b hb e => ?_⟩
    obtain rfl : b = ((i : Int), (C : Int)) := by simpa using hb
    subst e
    have := (flatRow_keys num i C _).mp ha
    omega
theorem flat_grid (num : Int) (R C : Nat) (h : R * C ≤ 1000) : Grid (flatPl num R C) R C := by
  refine ⟨?_, flatPl_keys num R C, by rw [flatPl_len]; exact h⟩
  clear h
  induction R with
  | zero => simp [flatPl]
  | succ R ih =>
    rw [flatPl_succ, List.map_append, List.nodup_append]
    refine ⟨ih, flatRow_nd num R C, fun a ha b hb e => ?_⟩
    subst e
    have h1 := (flatPl_keys num R C a).mp ha
    have h2 := (flatRow_keys num R C a).mp hb
    omega
section
variable {ft : FTab} {gt : Str → Option D}
theorem flat_inner (cf : Str → List D → PSt → Out D) (num : Int) (R C i : Nat) (hC : C ≤ 1000) (hlen : (flatPl num i C).length + C ≤ 1000) (s4 : Sl) (p : PSt) :
    ∃ s4', forL (fF cf gt (.name 4) b_law_flat_1) (rangeL 0 C) [.val (.int num), .val (.tup [.int R, .int C]), .own (encPc (flatPl num i C)), .val (.int i), s4] p = .ok (.nx [.val (.int num), .val (.tup [.int R, .int C]), .own (encPc (flatPl num (i + 1) C)), .val (.int i), s4']) p := by
  obtain ⟨env3, p3, e3, rfl, s, rfl⟩ := forL_inv (f := fF cf gt (.name 4) b_law_flat_1) (xs := rangeL 0 C)
    (fun j env p' => p' = p ∧ ∃ s4, env = [.val (.int num), .val (.tup [.int R, .int C]), .own (encPc (flatPl num i C ++ flatRow num i j)), .val (.int i), s4]) (fun j x env p' hx ⟨hp, s4, he⟩ => by
      subst hp he
      obtain ⟨hj, rfl⟩ := rangeL_get hx
      refine ⟨[.val (.int num), .val (.tup [.int R, .int C]), .own (encPc (flatPl num i C ++ flatRow num i (j + 1))), .val (.int i), .val (.int j)], p', ?_, rfl, _, rfl⟩
      have put := putD2_new (t := true) (ek := encP) (ev := encLs) (al := flatPl num i C ++ flatRow num i j) (k := ((i : Int), (j : Int))) (v := [((num, (i : Int), (j : Int)), (false, false))]) (p := p')
        (senv := [.val (.int num), .val (.tup [.int R, .int C]), .own (encPc (flatPl num i C ++ flatRow num i j)), .val (.int i), .val (.int j)]) keq_P isKey_P 2 (by
          rw [List.map_append, List.mem_append, not_or]
          exact ⟨fun z => by have := (flatPl_keys num i C _).mp z; omega, fun z => by have := (flatRow_keys num i j _).mp z; omega⟩) (by rw [List.length_append, flatRow_len, sizeLine_eq]; omega)
      rw [List.append_assoc, ← flatRow_succ] at put
      unfold encPc at put ⊢
      simp [b_law_flat_1, escE, escB, escBs, -List.map_append]
      exact (congrArg (thn · (kSeq cf gt .skip)) put).trans (by simp)) (env := [.val (.int num), .val (.tup [.int R, .int C]), .own (encPc (flatPl num i C)), .val (.int i), s4]) (p := p) ⟨rfl, s4, by simp [flatRow]⟩
  rw [rangeL_len, ← flatPl_succ] at e3
  exact ⟨_, e3⟩
theorem c_flat (h : Has ft "_law_flat" txf_law_flat) (num : Int) (R C : Nat) (hR : R ≤ 1000) (hC : C ≤ 1000) (hRC : R * C ≤ 1000) (n : Nat) (p : PSt) : callF ft gt (n + 1) "_law_flat" [.int num, .tup [.int R, .int C]] p = .ok (encPc (flatPl num R C)) p := by
  rw [callF_succ h, run_eq rfl]
  obtain ⟨env3, p3, e3, rfl, s3, s4, rfl⟩ := forL_inv (f := fF (callF ft gt n) gt (.name 3) b_law_flat_2) (xs := rangeL 0 R)
    (fun i env p' => p' = p ∧ ∃ s3 s4, env = [.val (.int num), .val (.tup [.int R, .int C]), .own (encPc (flatPl num i C)), s3, s4]) (fun i x env p' hx ⟨hp, s3, s4, he⟩ => by
      subst hp he
      obtain ⟨hi, rfl⟩ := rangeL_get hx
      have hle : (flatPl num i C).length + C ≤ 1000 := by
        rw [flatPl_len]
        have := Nat.mul_le_mul_right C (show i + 1 ≤ R from hi)
        rw [Nat.succ_mul] at this
        omega
      obtain ⟨s, e⟩ := flat_inner (gt := gt) (callF ft gt n) num R C i hC hle s4 p'
      refine ⟨[.val (.int num), .val (.tup [.int R, .int C]), .own (encPc (flatPl num (i + 1) C)), .val (.int i), s], p', ?_, rfl, _, _, rfl⟩
      simp [b_law_flat_2, escE, escB, escBs, kRng1_eq, in62_len (n := C) (by rw [sizeLine_eq]; omega), e]) (env := [.val (.int num), .val (.tup [.int R, .int C]), .own (encPc []), .no, .no]) (p := p) ⟨rfl, _, _, rfl⟩
  rw [rangeL_len] at e3
  have e0 : D.dict true [] [] = encPc [] := rfl
  simp [txf_law_flat, escE, escB, escBs, kRng1_eq, in62_len (n := R) (by rw [sizeLine_eq]; omega), e0, e3]
end
end PD

namespace PD
open PySem PySem.Spec PyProof.Rows L2
/-! ### folding -/
def axS (col : Bool) : Str := if col then "column" else "row"
def loS (low : Bool) : Str := if low then "low" else "high"
def ovS (over : Bool) : Str := if over then "over" else "under"
structure Fld where
  col : Bool
  line : Int
  low : Bool
  over : Bool
def encFd (f : Fld) : D := .tup [.str (axS f.col), .int f.line, .str (loS f.low), .str (ovS f.over)]
@[simp] theorem axS_eq (c : Bool) : (axS c == ("column" : Str)) = c := by cases c <;> decide +kernel
@[simp] theorem loS_eq (c : Bool) : (loS c == ("low" : Str)) = c := by cases c <;> decide +kernel
@[simp] theorem ovS_eq (c : Bool) : (ovS c == ("over" : Str)) = c := by cases c <;> decide +kernel
def atOf (f : Fld) (q : Int × Int) : Int := if f.col then q.2 else q.1
def refl (f : Fld) (q : Int × Int) : Int × Int := if f.col then (q.1, 2 * f.line - 1 - q.2) else (2 * f.line - 1 - q.1, q.2)
def isMv (f : Fld) (q : Int × Int) : Bool := decide (decide (atOf f q < f.line) = f.low)
def mot (f : Fld) : Way := if f.col then (true, false) else (false, true)
def moved (f : Fld) (pl : Pl) : Pl := (pl.filter fun e => isMv f e.1).map fun e => (refl f e.1, turnL (mot f) e.2)
def kept (f : Fld) (pl : Pl) : Pl := pl.filter fun e => !isMv f e.1
def spots (f : Fld) (pl : Pl) : List (Int × Int) := (moved f pl).map (·.1) ++ ((kept f pl).map (·.1)).filter fun q => !decide (q ∈ (moved f pl).map (·.1))
def pile (f : Fld) (pl : Pl) (q : Int × Int) : List Ly := if f.over then getPl (kept f pl) q ++ getPl (moved f pl) q else getPl (moved f pl) q ++ getPl (kept f pl) q
def joined (f : Fld) (pl : Pl) : Pl := (spots f pl).map fun q => (q, pile f pl q)
def normed (pl : Pl) (top left : Int) : Pl := pl.map fun e => ((e.1.1 - top, e.1.2 - left), e.2)
theorem refl_inj (f : Fld) {a b : Int × Int} (h : refl f a = refl f b) : a = b := by
  obtain ⟨a1, a2⟩ := a
  obtain ⟨b1, b2⟩ := b
  unfold refl at h
  split at h
  · simp only [Prod.mk.injEq] at h ⊢; omega
  · simp only [Prod.mk.injEq] at h ⊢; omega
theorem moved_keys (f : Fld) (pl : Pl) (q : Int × Int) : q ∈ (moved f pl).map (·.1) ↔ ∃ e, e ∈ pl.map (·.1) ∧ isMv f e = true ∧ refl f e = q := by
  unfold moved
  simp only [List.mem_map, List.mem_filter]
  constructor
  · rintro ⟨_, ⟨e, ⟨h1, h2⟩, rfl⟩, rfl⟩
    exact ⟨e.1, ⟨e, h1, rfl⟩, h2, rfl⟩
  · rintro ⟨_, ⟨e, h1, rfl⟩, h2, rfl⟩
    exact ⟨_, ⟨e, ⟨h1, h2⟩, rfl⟩, rfl⟩
theorem kept_keys (f : Fld) (pl : Pl) (q : Int × Int) : q ∈ (kept f pl).map (·.1) ↔ q ∈ pl.map (·.1) ∧ isMv f q = false := by
  unfold kept
  simp only [List.mem_map, List.mem_filter, Bool.not_eq_true']
  constructor
  · rintro ⟨e, ⟨h1, h2⟩, rfl⟩
    exact ⟨⟨e, h1, rfl⟩, h2⟩
  · rintro ⟨⟨e, h1, rfl⟩, h2⟩
    exact ⟨e, ⟨h1, h2⟩, rfl⟩
theorem moved_nd (f : Fld) {pl : Pl} (nd : (pl.map (·.1)).Nodup) : ((moved f pl).map (·.1)).Nodup := by
  unfold moved
  rw [List.map_map]
  have h : ((pl.filter fun e => isMv f e.1).map (·.1)).Nodup := nd.sublist ((List.filter_sublist).map _)
  have e : (pl.filter fun e => isMv f e.1).map ((fun x : (Int × Int) × List Ly => x.1) ∘ fun e => (refl f e.1, turnL (mot f) e.2)) = ((pl.filter fun e => isMv f e.1).map (·.1)).map (refl f) := by
    rw [List.map_map]
    rfl
  rw [e]
  exact List.Pairwise.map _ (fun a b hab z => hab (refl_inj f z)) h
theorem kept_nd (f : Fld) {pl : Pl} (nd : (pl.map (·.1)).Nodup) : ((kept f pl).map (·.1)).Nodup := nd.sublist ((List.filter_sublist).map _)
theorem spots_nd (f : Fld) {pl : Pl} (nd : (pl.map (·.1)).Nodup) : (spots f pl).Nodup := by
  unfold spots
  rw [List.nodup_append]
  refine ⟨moved_nd f nd, (kept_nd f nd).sublist List.filter_sublist, fun a ha b hb e => ?_⟩
  subst e
  have := (List.mem_filter.mp hb).2
  simp only [Bool.not_eq_true', decide_eq_false_iff_not] at this
  exact this ha
theorem spots_mem (f : Fld) (pl : Pl) (q : Int × Int) : q ∈ spots f pl ↔ q ∈ (moved f pl).map (·.1) ∨ q ∈ (kept f pl).map (·.1) := by
  unfold spots
  simp only [List.mem_append, List.mem_filter, Bool.not_eq_true', decide_eq_false_iff_not]
  constructor
  · rintro (h | h)
    · exact .inl h
    · exact .inr h.1
  · rintro (h | h)
    · exact .inl h
    · by_cases z : q ∈ (moved f pl).map (·.1)
      · exact .inl z
      · exact .inr ⟨h, z⟩
theorem moved_len (f : Fld) (pl : Pl) : (moved f pl).length + (kept f pl).length = pl.length := by
  unfold moved kept
  rw [List.length_map]
  induction pl with
  | nil => rfl
  | cons e pl ih =>
    rw [List.filter_cons, List.filter_cons]
    cases isMv f e.1 <;> simp <;> omega
theorem spots_len (f : Fld) (pl : Pl) : (spots f pl).length ≤ pl.length := by
  have h1 := moved_len f pl
  have h2 := List.length_filter_le (fun q => !decide (q ∈ (moved f pl).map (·.1))) ((kept f pl).map (·.1))
  unfold spots
  rw [List.length_append]
  rw [List.length_map] at h2
  rw [List.length_map]
  omega
theorem moved_snoc (f : Fld) (pl : Pl) (e : (Int × Int) × List Ly) : moved f (pl ++ [e]) = if isMv f e.1 = true then moved f pl ++ [(refl f e.1, turnL (mot f) e.2)] else moved f pl := by
  unfold moved
  rw [List.filter_append, List.map_append]
  cases h : isMv f e.1 <;> simp [h]
theorem kept_snoc (f : Fld) (pl : Pl) (e : (Int × Int) × List Ly) : kept f (pl ++ [e]) = if isMv f e.1 = true then kept f pl else kept f pl ++ [e] := by
  unfold kept
  rw [List.filter_append]
  cases h : isMv f e.1 <;> simp [h]
theorem box_grid {pl : Pl} {top left : Int} {R C : Nat} (nd : (pl.map (·.1)).Nodup) (sz : pl.length ≤ 1000) (hR : 0 < R) (hC : 0 < C) (mem : ∀ q : Int × Int, q ∈ pl.map (·.1) ↔ (top ≤ q.1 ∧ q.1 < top + R) ∧ left ≤ q.2 ∧ q.2 < left + C) :
    minI (pl.map fun e => e.1.1) = some top ∧ minI (pl.map fun e => e.1.2) = some left ∧ Grid (normed pl top left) R C := by
  obtain ⟨e, he, h0⟩ := List.mem_map.mp ((mem (top, left)).mpr ⟨⟨Int.le_refl _, by show top < _; omega⟩, Int.le_refl _, by show left < _; omega⟩)
  refine ⟨minI_eq (List.mem_map.mpr ⟨e, he, by rw [h0]⟩) fun x hx => ?_, minI_eq (List.mem_map.mpr ⟨e, he, by rw [h0]⟩) fun x hx => ?_, ?_, ?_, ?_⟩
  · obtain ⟨e, he, rfl⟩ := List.mem_map.mp hx
    exact ((mem e.1).mp (List.mem_map_of_mem he)).1.1
  · obtain ⟨e, he, rfl⟩ := List.mem_map.mp hx
    exact ((mem e.1).mp (List.mem_map_of_mem he)).2.1
  · unfold normed
    rw [List.map_map]
    have e : pl.map ((fun x : (Int × Int) × List Ly => x.1) ∘ fun e => ((e.1.1 - top, e.1.2 - left), e.2)) = (pl.map (·.1)).map fun q => (q.1 - top, q.2 - left) := by
      rw [List.map_map]
      rfl
    rw [e]
    refine List.Pairwise.map _ (fun a b hab z => hab ?_) nd
    simp only [Prod.mk.injEq] at z
    exact Prod.ext (by omega) (by omega)
  · intro q
    have e : (normed pl top left).map (·.1) = (pl.map (·.1)).map fun q => (q.1 - top, q.2 - left) := by
      unfold normed
      rw [List.map_map, List.map_map]
      rfl
    rw [e, List.mem_map]
    constructor
    · rintro ⟨q', h, rfl⟩
      have := (mem q').mp h
      dsimp only
      omega
    · rintro h
      refine ⟨(q.1 + top, q.2 + left), (mem _).mpr ?_, ?_⟩
      · dsimp only
        omega
      · exact Prod.ext (by show q.1 + top - top = q.1; omega) (by show q.2 + left - left = q.2; omega)
  · unfold normed
    rw [List.length_map]
    exact sz
/-- where the folded places stand -/
theorem folded_grid (f : Fld) {pl : Pl} {R C : Nat} (g : Grid pl R C) (h1 : 1 ≤ f.line) (h2 : f.line < if f.col = true then (C : Int) else R) (hR : 0 < R) (hC : 0 < C) :
    ∃ (top left : Int) (R' C' : Nat), minI ((joined f pl).map fun e => e.1.1) = some top ∧ minI ((joined f pl).map fun e => e.1.2) = some left ∧ Grid (normed (joined f pl) top left) R' C' ∧ 0 < R' ∧ 0 < C' ∧ R' ≤ R ∧ C' ≤ C ∧ R' + C' < R + C := by
  · skip
    have jk : (joined f pl).map (·.1) = spots f pl := by
      unfold joined
      rw [List.map_map]
      exact List.map_id'' (fun _ => rfl) _
    have nd : ((joined f pl).map (·.1)).Nodup := by rw [jk]; exact spots_nd f g.nd
    have sz : (joined f pl).length ≤ 1000 := by
      have := spots_len f pl
      have := g.sz
      unfold joined
      rw [List.length_map]
      omega
    have mem : ∀ q : Int × Int, q ∈ (joined f pl).map (·.1) ↔ (∃ e : Int × Int, ((0 ≤ e.1 ∧ e.1 < R) ∧ 0 ≤ e.2 ∧ e.2 < C) ∧ isMv f e = true ∧ refl f e = q) ∨ (((0 ≤ q.1 ∧ q.1 < R) ∧ 0 ≤ q.2 ∧ q.2 < C) ∧ isMv f q = false) := fun q => by
      rw [jk, spots_mem, moved_keys, kept_keys, g.mem]
      simp only [g.mem]
    obtain ⟨col, line, low, over⟩ := f
    dsimp only at h1 h2
    have box : ∃ (top left : Int) (R' C' : Nat), (0 < R' ∧ 0 < C' ∧ R' ≤ R ∧ C' ≤ C ∧ R' + C' < R + C) ∧ ∀ q : Int × Int, ((∃ e : Int × Int, ((0 ≤ e.1 ∧ e.1 < R) ∧ 0 ≤ e.2 ∧ e.2 < C) ∧ isMv ⟨col, line, low, over⟩ e = true ∧ refl ⟨col, line, low, over⟩ e = q) ∨ (((0 ≤ q.1 ∧ q.1 < R) ∧ 0 ≤ q.2 ∧ q.2 < C) ∧ isMv ⟨col, line, low, over⟩ q = false)) ↔ (top ≤ q.1 ∧ q.1 < top + R') ∧ left ≤ q.2 ∧ q.2 < left + C' := by
      cases col with
      | true =>
        rw [if_pos rfl] at h2
        cases low with
        | true =>
          refine ⟨0, line, R, (max line (C - line)).toNat, by omega, fun q => ?_⟩
          obtain ⟨a, b⟩ := q
          simp only [isMv, refl, atOf, if_true, decide_eq_true_eq, Prod.exists, Prod.mk.injEq, decide_eq_false_iff_not]
          constructor
          · rintro (⟨a', b', h3, h4, rfl, rfl⟩ | ⟨h3, h4⟩) <;> omega
          · intro h
            by_cases z : b < C
            · exact .inr (by omega)
            · exact .inl ⟨a, 2 * line - 1 - b, by omega, by omega, rfl, by omega⟩
        | false =>
          refine ⟨0, min 0 (2 * line - C), R, (max line (C - line)).toNat, by omega, fun q => ?_⟩
          obtain ⟨a, b⟩ := q
          simp only [isMv, refl, atOf, if_true, decide_eq_true_eq, Prod.exists, Prod.mk.injEq, decide_eq_false_iff_not]
          constructor
          · rintro (⟨a', b', h3, h4, rfl, rfl⟩ | ⟨h3, h4⟩) <;> simp at h4 <;> omega
          · intro h
            by_cases z : 0 ≤ b
            · exact .inr (by simp; omega)
            · exact .inl ⟨a, 2 * line - 1 - b, by omega, by simp; omega, rfl, by omega⟩
      | false =>
        rw [if_neg Bool.false_ne_true] at h2
        cases low with
        | true =>
          refine ⟨line, 0, (max line (R - line)).toNat, C, by omega, fun q => ?_⟩
          obtain ⟨a, b⟩ := q
          simp only [isMv, refl, atOf, Bool.false_eq_true, if_false, decide_eq_true_eq, Prod.exists, Prod.mk.injEq, decide_eq_false_iff_not]
          constructor
          · rintro (⟨a', b', h3, h4, rfl, rfl⟩ | ⟨h3, h4⟩) <;> omega
          · intro h
            by_cases z : a < R
            · exact .inr (by omega)
            · exact .inl ⟨2 * line - 1 - a, b, by omega, by omega, by omega, rfl⟩
        | false =>
          refine ⟨min 0 (2 * line - R), 0, (max line (R - line)).toNat, C, by omega, fun q => ?_⟩
          obtain ⟨a, b⟩ := q
          simp only [isMv, refl, atOf, Bool.false_eq_true, if_false, decide_eq_true_eq, Prod.exists, Prod.mk.injEq, decide_eq_false_iff_not]
          constructor
          · rintro (⟨a', b', h3, h4, rfl, rfl⟩ | ⟨h3, h4⟩) <;> simp at h4 <;> omega
          · intro h
            by_cases z : 0 ≤ a
            · exact .inr (by simp; omega)
            · exact .inl ⟨2 * line - 1 - a, b, by omega, by simp; omega, by omega, rfl⟩
    obtain ⟨top, left, R', C', ⟨b1, b2, b3, b4, b5⟩, hb⟩ := box
    obtain ⟨m1, m2, m3⟩ := box_grid nd sz b1 b2 fun q => (mem q).trans (hb q)
    exact ⟨top, left, R', C', m1, m2, m3, b1, b2, b3, b4, b5⟩
end PD

namespace PD
open PySem PySem.Spec PyProof.Rows L2
theorem line63' : (16777216 : Nat) ≤ sizeLine := by rw [sizeLine_eq]; decide
def foldedPl (f : Fld) (pl : Pl) (top left : Int) : Pl := normed (joined f pl) top left
theorem getPl_none {pl : Pl} {q : Int × Int} (h : q ∉ pl.map (·.1)) : getPl pl q = [] := by
  unfold getPl
  have : pl.find? (fun e => decide (e.1 = q)) = none := by
    rw [List.find?_eq_none]
    intro e he
    simp only [decide_eq_true_eq]
    intro z
    exact h (z ▸ List.mem_map_of_mem (f := Prod.fst) he)
  rw [this]
  rfl
theorem getPl_mem {pl : Pl} (nd : (pl.map (·.1)).Nodup) {q : Int × Int} (h : q ∈ pl.map (·.1)) : (q, getPl pl q) ∈ pl := by
  obtain ⟨e, he, rfl⟩ := List.mem_map.mp h
  rw [getPl_eq nd he]
  exact he
theorem getPl_bound {pl : Pl} {b : Nat} (hb : ∀ e ∈ pl, e.2.length ≤ b) (q : Int × Int) : (getPl pl q).length ≤ b := by
  unfold getPl
  cases h : pl.find? (fun e => decide (e.1 = q)) with
  | none => simp
  | some e => exact hb e (List.mem_of_find?_eq_some h)
theorem moved_bound {f : Fld} {pl : Pl} {b : Nat} (hb : ∀ e ∈ pl, e.2.length ≤ b) : ∀ e ∈ moved f pl, e.2.length ≤ b := fun e he => by
  unfold moved at he
  obtain ⟨x, hx, rfl⟩ := List.mem_map.mp he
  dsimp only
  rw [turnL_len]
  exact hb x (List.mem_filter.mp hx).1
theorem kept_bound {f : Fld} {pl : Pl} {b : Nat} (hb : ∀ e ∈ pl, e.2.length ≤ b) : ∀ e ∈ kept f pl, e.2.length ≤ b := fun e he => hb e (List.mem_filter.mp he).1
theorem pile_bound {f : Fld} {pl : Pl} {b : Nat} (hb : ∀ e ∈ pl, e.2.length ≤ b) (q : Int × Int) : (pile f pl q).length ≤ 2 * b := by
  have h1 := getPl_bound (moved_bound (f := f) hb) q
  have h2 := getPl_bound (kept_bound (f := f) hb) q
  unfold pile
  split <;> rw [List.length_append] <;> omega
section
variable {ft : FTab} {gt : Str → Option D}
@[simp] theorem fF_P {cf : Str → List D → PSt → Out D} (i j : Nat) (body) (q : Int × Int) (env : SEnv) (p : PSt) : fF cf gt (.tup [i, j]) body (encP q) env p = execS cf gt body ((env.set i (.val (.int q.1))).set j (.val (.int q.2))) p := nr rfl
@[simp] theorem fCN_P {cf : Str → List D → PSt → Out D} (elt) (i j : Nat) (c) (q : Int × Int) (env : Env) (p : PSt) : fCN cf gt elt (.tup [i, j]) c env (encP q) p = (evalC cf gt c ((env.set i (some (.int q.1))).set j (some (.int q.2))) p).bind (kCoN cf gt elt ((env.set i (some (.int q.1))).set j (some (.int q.2)))) := nr rfl
theorem mul2 (j : Int) (p : PSt) : kB2 .mul (.int 2) (.int j) p = .ok (.int (2 * j)) p := kB2_mul (by rw [show small64 2 = true by decide +kernel]; rfl)
theorem fold_loop1 (h1 : Has ft "_law_way_after" txf_law_way_after) (h2 : Has ft "_law_turned_layers" txf_law_turned_layers) (n : Nat) (f : Fld) {pl : Pl} (nd : (pl.map (·.1)).Nodup) (sz : pl.length ≤ 1000) {b : Nat} (hb : ∀ e ∈ pl, e.2.length ≤ b) (hbs : b ≤ 100000) (s8 s9 s10 s11 s12 s13 s14 s15 s16 s17 s18 : Sl) (p : PSt) :
    ∃ s8' s9' s10' s11' s12', forL (fF (callF ft gt (n + 2)) gt (.tup [8, 9]) b_law_folded_6) (pl.map fun q => encP q.1) [.val (encPc pl), .val (encFd f), .val (.str (axS f.col)), .val (.int f.line), .val (.str (loS f.low)), .val (.str (ovS f.over)), .own (encPc []), .own (encPc []), s8, s9, s10, s11, s12, s13, s14, s15, s16, s17, s18] p =
      .ok (.nx [.val (encPc pl), .val (encFd f), .val (.str (axS f.col)), .val (.int f.line), .val (.str (loS f.low)), .val (.str (ovS f.over)), .own (encPc (moved f pl)), .own (encPc (kept f pl)), s8', s9', s10', s11', s12', s13, s14, s15, s16, s17, s18]) p := by
  obtain ⟨env3, p3, e3, rfl, t8, t9, t10, t11, t12, rfl⟩ := forL_inv (f := fF (callF ft gt (n + 2)) gt (.tup [8, 9]) b_law_folded_6) (xs := pl.map fun q => encP q.1)
    (fun i env p' => p' = p ∧ ∃ s8 s9 s10 s11 s12, env = [.val (encPc pl), .val (encFd f), .val (.str (axS f.col)), .val (.int f.line), .val (.str (loS f.low)), .val (.str (ovS f.over)), .own (encPc (moved f (pl.take i))), .own (encPc (kept f (pl.take i))), s8, s9, s10, s11, s12, s13, s14, s15, s16, s17, s18]) (fun i x env p' hx ⟨hp, s8, s9, s10, s11, s12, he⟩ => by
      subst hp he
      rw [List.getElem?_map] at hx
      obtain ⟨e, hi, rfl⟩ := Option.map_eq_some_iff.mp hx
      obtain ⟨hlt, hget⟩ := List.getElem?_eq_some_iff.mp hi
      have tk : pl.take (i + 1) = pl.take i ++ [e] := by rw [List.take_add_one, hi]; rfl
      have he : e ∈ pl := hget ▸ List.getElem_mem hlt
      have ndt : ((pl.take i ++ [e]).map (·.1)).Nodup := by rw [← tk]; exact nd.sublist ((List.take_sublist _ _).map _)
      rw [List.map_append, List.nodup_append] at ndt
      have fresh : e.1 ∉ (pl.take i).map (·.1) := fun z => ndt.2.2 _ z _ (by simp) rfl
      have e0 := idx_pc nd (k := e.1) (v := e.2) he
      have lenT : (pl.take i).length ≤ 1000 := by rw [List.length_take]; omega
      have lenM := moved_len f (pl.take i)
      have tl := c_turned_layers (gt := gt) h1 h2 n e.2 (mot f) (by have := hb e he; rw [sizeLine_eq]; omega) p'
      have q : encP e.1 = .tup [.int e.1.1, .int e.1.2] := rfl
      obtain ⟨⟨qi, qj⟩, ls⟩ := e
      dsimp only at e0 fresh tl q
      have e0' : idxD (encPc pl) (.tup [.int qi, .int qj]) = some (encLs ls) := e0
      rw [tk, moved_snoc, kept_snoc]
      dsimp only
      by_cases mv : isMv f (qi, qj) = true
      · rw [if_pos mv, if_pos mv]
        have fm : refl f (qi, qj) ∉ (moved f (pl.take i)).map (·.1) := fun z => by
          obtain ⟨a, ha, _, hr⟩ := (moved_keys f _ _).mp z
          rw [refl_inj f hr] at ha
          exact fresh ha
        have put := put_pc (p := p') (senv := [.val (encPc pl), .val (encFd f), .val (.str (axS f.col)), .val (.int f.line), .val (.str (loS f.low)), .val (.str (ovS f.over)), .own (encPc (moved f (pl.take i))), .own (encPc (kept f (pl.take i))), .val (.int qi), .val (.int qj), .val (.int (atOf f (qi, qj))), .val (.int (2 * f.line - 1 - atOf f (qi, qj))), .val (encLs (turnL (mot f) ls)), s13, s14, s15, s16, s17, s18]) 6 fm (v := turnL (mot f) ls) (by rw [sizeLine_eq]; omega)
        refine ⟨[.val (encPc pl), .val (encFd f), .val (.str (axS f.col)), .val (.int f.line), .val (.str (loS f.low)), .val (.str (ovS f.over)), .own (encPc (moved f (pl.take i) ++ [(refl f (qi, qj), turnL (mot f) ls)])), .own (encPc (kept f (pl.take i))), .val (.int qi), .val (.int qj), .val (.int (atOf f (qi, qj))), .val (.int (2 * f.line - 1 - atOf f (qi, qj))), .val (encLs (turnL (mot f) ls)), s13, s14, s15, s16, s17, s18], p', ?_, rfl, _, _, _, _, _, rfl⟩
        obtain ⟨col, line, low, over⟩ := f
        cases col
        · cases low
          · simp [isMv, atOf] at mv
            have mv' : ¬ qi < line := by omega
            simp only [mot, refl, atOf, Bool.false_eq_true, if_false, encM] at tl put ⊢
            simp [b_law_folded_6, escE, escB, escBs, mul2, e0', tl, mv, mv']
            change putD2 _ _ _ _ _ _ (D.tup [_, _]) _ = _ at put
            dsimp only at put
            simp [put]
          · simp [isMv, atOf] at mv
            simp only [mot, refl, atOf, Bool.false_eq_true, if_false, encM] at tl put ⊢
            simp [b_law_folded_6, escE, escB, escBs, mul2, e0', tl, mv]
            change putD2 _ _ _ _ _ _ (D.tup [_, _]) _ = _ at put
            dsimp only at put
            simp [put]
        · cases low
          · simp [isMv, atOf] at mv
            have mv' : ¬ qj < line := by omega
            simp only [mot, refl, atOf, if_true, encM] at tl put ⊢
            simp [b_law_folded_6, escE, escB, escBs, mul2, e0', tl, mv, mv']
            change putD2 _ _ _ _ _ _ (D.tup [_, _]) _ = _ at put
            dsimp only at put
            simp [put]
          · simp [isMv, atOf] at mv
            simp only [mot, refl, atOf, if_true, encM] at tl put ⊢
            simp [b_law_folded_6, escE, escB, escBs, mul2, e0', tl, mv]
            change putD2 _ _ _ _ _ _ (D.tup [_, _]) _ = _ at put
            dsimp only at put
            simp [put]
      · rw [if_neg mv, if_neg mv]
        have fk : (qi, qj) ∉ (kept f (pl.take i)).map (·.1) := fun z => fresh ((kept_keys f _ _).mp z).1
        have put := put_pc (p := p') (senv := [.val (encPc pl), .val (encFd f), .val (.str (axS f.col)), .val (.int f.line), .val (.str (loS f.low)), .val (.str (ovS f.over)), .own (encPc (moved f (pl.take i))), .own (encPc (kept f (pl.take i))), .val (.int qi), .val (.int qj), .val (.int (atOf f (qi, qj))), s11, s12, s13, s14, s15, s16, s17, s18]) 7 fk (v := ls) (by rw [sizeLine_eq]; omega)
        refine ⟨[.val (encPc pl), .val (encFd f), .val (.str (axS f.col)), .val (.int f.line), .val (.str (loS f.low)), .val (.str (ovS f.over)), .own (encPc (moved f (pl.take i))), .own (encPc (kept f (pl.take i) ++ [((qi, qj), ls)])), .val (.int qi), .val (.int qj), .val (.int (atOf f (qi, qj))), s11, s12, s13, s14, s15, s16, s17, s18], p', ?_, rfl, _, _, _, _, _, rfl⟩
        obtain ⟨col, line, low, over⟩ := f
        cases col
        · cases low
          · simp [isMv, atOf] at mv
            simp only [atOf, Bool.false_eq_true, if_false] at put ⊢
            simp [b_law_folded_6, escE, escB, escBs, mul2, e0', mv]
            change putD2 _ _ _ _ _ _ (D.tup [_, _]) _ = _ at put
            dsimp only at put
            simp [put]
          · simp [isMv, atOf] at mv
            have mv' : ¬ qi < line := by omega
            simp only [atOf, Bool.false_eq_true, if_false] at put ⊢
            simp [b_law_folded_6, escE, escB, escBs, mul2, e0', mv, mv']
            change putD2 _ _ _ _ _ _ (D.tup [_, _]) _ = _ at put
            dsimp only at put
            simp [put]
        · cases low
          · simp [isMv, atOf] at mv
            simp only [atOf, if_true] at put ⊢
            simp [b_law_folded_6, escE, escB, escBs, mul2, e0', mv]
            change putD2 _ _ _ _ _ _ (D.tup [_, _]) _ = _ at put
            dsimp only at put
            simp [put]
          · simp [isMv, atOf] at mv
            have mv' : ¬ qj < line := by omega
            simp only [atOf, if_true] at put ⊢
            simp [b_law_folded_6, escE, escB, escBs, mul2, e0', mv, mv']
            change putD2 _ _ _ _ _ _ (D.tup [_, _]) _ = _ at put
            dsimp only at put
            simp [put]) (env := [.val (encPc pl), .val (encFd f), .val (.str (axS f.col)), .val (.int f.line), .val (.str (loS f.low)), .val (.str (ovS f.over)), .own (encPc []), .own (encPc []), s8, s9, s10, s11, s12, s13, s14, s15, s16, s17, s18]) (p := p) ⟨rfl, s8, s9, s10, s11, s12, rfl⟩
  rw [List.length_map, List.take_length] at e3
  exact ⟨_, _, _, _, _, e3⟩
end
end PD

namespace PD
open PySem PySem.Spec PyProof.Rows L2
section
variable {ft : FTab} {gt : Str → Option D}
/-- d[q] if q in d else [] -/
theorem look_pc {cf : Str → List D → PSt → Out D} {pl : Pl} (nd : (pl.map (·.1)).Nodup) (q : Int × Int) (i j : Nat) (env : Env) (hi : env[i]? = some (some (encPc pl))) (hj : env[j]? = some (some (encP q))) (p : PSt) :
    evalE cf gt (.ite (.cmp .isin (.var j) (.var i)) (.idx (.var i) (.var j)) (.lst .nil)) env p = .ok (encLs (getPl pl q)) p := by
  by_cases h : q ∈ pl.map (·.1)
  · simp only [e_ite, e_cmp, e_var, hi, hj, getV_some, Out.bind_ok, kC1_eq, in_pc, decide_eq_true h, kIte_eq, if_true, e_idx, kIx1_eq, kIx2_eq, idx_pc nd (getPl_mem nd h), lift_some]
  · simp only [e_ite, e_cmp, e_var, hi, hj, getV_some, Out.bind_ok, kC1_eq, in_pc, decide_eq_false h, kIte_eq, Bool.false_eq_true, if_false, e_lst, es_nil, kLst_0, getPl_none h]
    rfl
theorem fold_loop2 (cf : Str → List D → PSt → Out D) (f : Fld) {pl : Pl} (nd : (pl.map (·.1)).Nodup) (sz : pl.length ≤ 1000) {b : Nat} (hb : ∀ e ∈ pl, e.2.length ≤ b) (hbs : b ≤ 100000) (s8 s9 s10 s11 s12 s14 s15 s16 s17 s18 : Sl) (p : PSt) :
    ∃ s14' s15' s16', forL (fF cf gt (.name 14) b_law_folded_5) ((spots f pl).map encP) [.val (encPc pl), .val (encFd f), .val (.str (axS f.col)), .val (.int f.line), .val (.str (loS f.low)), .val (.str (ovS f.over)), .own (encPc (moved f pl)), .own (encPc (kept f pl)), s8, s9, s10, s11, s12, .own (encPc []), s14, s15, s16, s17, s18] p =
      .ok (.nx [.val (encPc pl), .val (encFd f), .val (.str (axS f.col)), .val (.int f.line), .val (.str (loS f.low)), .val (.str (ovS f.over)), .own (encPc (moved f pl)), .own (encPc (kept f pl)), s8, s9, s10, s11, s12, .own (encPc (joined f pl)), s14', s15', s16', s17, s18]) p := by
  obtain ⟨env3, p3, e3, rfl, t14, t15, t16, rfl⟩ := forL_inv (f := fF cf gt (.name 14) b_law_folded_5) (xs := (spots f pl).map encP)
    (fun i env p' => p' = p ∧ ∃ s14 s15 s16, env = [.val (encPc pl), .val (encFd f), .val (.str (axS f.col)), .val (.int f.line), .val (.str (loS f.low)), .val (.str (ovS f.over)), .own (encPc (moved f pl)), .own (encPc (kept f pl)), s8, s9, s10, s11, s12, .own (encPc (((spots f pl).take i).map fun q => (q, pile f pl q))), s14, s15, s16, s17, s18]) (fun i x env p' hx ⟨hp, s14, s15, s16, he⟩ => by
      subst hp he
      rw [List.getElem?_map] at hx
      obtain ⟨q, hi, rfl⟩ := Option.map_eq_some_iff.mp hx
      obtain ⟨hlt, hget⟩ := List.getElem?_eq_some_iff.mp hi
      have tk : (spots f pl).take (i + 1) = (spots f pl).take i ++ [q] := by rw [List.take_add_one, hi]; rfl
      have nds : ((spots f pl).take i ++ [q]).Nodup := by rw [← tk]; exact (spots_nd f nd).sublist (List.take_sublist _ _)
      rw [List.nodup_append] at nds
      have jk : (((spots f pl).take i).map fun q => (q, pile f pl q)).map (·.1) = (spots f pl).take i := by
        rw [List.map_map]
        exact List.map_id'' (fun _ => rfl) _
      have fresh : q ∉ (((spots f pl).take i).map fun q => (q, pile f pl q)).map (·.1) := by
        rw [jk]
        exact fun z => nds.2.2 _ z _ (by simp) rfl
      have h1 := getPl_bound (moved_bound (f := f) hb) q
      have h2 := getPl_bound (kept_bound (f := f) hb) q
      have lt : (((spots f pl).take i).map fun q => (q, pile f pl q)).length < sizeLine := by
        have := spots_len f pl
        rw [List.length_map, List.length_take, sizeLine_eq]
        omega
      have put := put_pc (p := p') (senv := [.val (encPc pl), .val (encFd f), .val (.str (axS f.col)), .val (.int f.line), .val (.str (loS f.low)), .val (.str (ovS f.over)), .own (encPc (moved f pl)), .own (encPc (kept f pl)), s8, s9, s10, s11, s12, .own (encPc (((spots f pl).take i).map fun q => (q, pile f pl q))), .val (encP q), .val (encLs (getPl (kept f pl) q)), .val (encLs (getPl (moved f pl) q)), s17, s18]) 13 fresh (v := pile f pl q) lt
      refine ⟨[.val (encPc pl), .val (encFd f), .val (.str (axS f.col)), .val (.int f.line), .val (.str (loS f.low)), .val (.str (ovS f.over)), .own (encPc (moved f pl)), .own (encPc (kept f pl)), s8, s9, s10, s11, s12, .own (encPc (((spots f pl).take (i + 1)).map fun q => (q, pile f pl q))), .val (encP q), .val (encLs (getPl (kept f pl) q)), .val (encLs (getPl (moved f pl) q)), s17, s18], p', ?_, rfl, _, _, _, rfl⟩
      have l1 := fun (env : Env) hi hj => look_pc (gt := gt) (cf := cf) (kept_nd f nd) q 7 14 env hi hj p'
      have l2 := fun (env : Env) hi hj => look_pc (gt := gt) (cf := cf) (moved_nd f nd) q 6 14 env hi hj p'
      have add : ∀ xs ys : List Ly, xs.length ≤ b → ys.length ≤ b → kB2 .add (encLs xs) (encLs ys) p' = .ok (encLs (xs ++ ys)) p' := fun xs ys hx hy => by
        unfold encLs
        rw [kB2_lst (by rw [List.length_map, List.length_map, sizeLine_eq]; omega), List.map_append]
      have cl : ∀ ls, D.clean (encLs ls) = false := fun ls => rfl
      rw [fF_name]
      unfold b_law_folded_5
      rw [x_seq, x_set, l1 _ rfl rfl]
      simp only [Out.bind_ok, kSet_eq, cl, Bool.false_eq_true, if_false, thn_nx, kSeq_eq, slOf_false]
      rw [x_seq, x_set, l2 _ (by rfl) (by rfl)]
      simp only [Out.bind_ok, kSet_eq, cl, Bool.false_eq_true, if_false, thn_nx, kSeq_eq, slOf_false]
      have av : (if f.over = true then kB2 .add (encLs (getPl (kept f pl) q)) (encLs (getPl (moved f pl) q)) p' else kB2 .add (encLs (getPl (moved f pl) q)) (encLs (getPl (kept f pl) q)) p') = .ok (encLs (pile f pl q)) p' := by
        unfold pile
        split
        · exact add _ _ h2 h1
        · exact add _ _ h1 h2
      have tk2 : ((spots f pl).take (i + 1)).map (fun q => (q, pile f pl q)) = ((spots f pl).take i).map (fun q => (q, pile f pl q)) ++ [(q, pile f pl q)] := by rw [tk, List.map_append]; rfl
      rw [tk2]
      generalize ((spots f pl).take i).map (fun q => (q, pile f pl q)) = done at put ⊢
      simp [escE, escB, escBs, av, cl, put]) (env := [.val (encPc pl), .val (encFd f), .val (.str (axS f.col)), .val (.int f.line), .val (.str (loS f.low)), .val (.str (ovS f.over)), .own (encPc (moved f pl)), .own (encPc (kept f pl)), s8, s9, s10, s11, s12, .own (encPc []), s14, s15, s16, s17, s18]) (p := p) ⟨rfl, s14, s15, s16, rfl⟩
  rw [List.length_map, List.take_length] at e3
  exact ⟨_, _, _, e3⟩
end
end PD

namespace PD
open PySem PySem.Spec PyProof.Rows L2
theorem noDict_map {α : Type} {f : α → D} (h : ∀ a, D.noDict (f a) = true) : ∀ xs : List α, D.noDictL (xs.map f) = true
  | [] => rfl
  | x :: xs => by
    rw [List.map_cons]
    unfold D.noDictL
    rw [h x, noDict_map h xs]
    rfl
theorem noDict_Ly (l : Ly) : D.noDict (encLy l) = true := by
  unfold encLy
  simp [D.noDict, D.noDictL]
theorem noDict_Ls (ls : List Ly) : D.noDict (encLs ls) = true := by
  unfold encLs D.noDict
  exact noDict_map noDict_Ly ls
theorem noDict_P (q : Int × Int) : D.noDict (encP q) = true := by
  unfold encP
  simp [D.noDict, D.noDictL]
theorem joined_nd (f : Fld) {pl : Pl} (nd : (pl.map (·.1)).Nodup) : ((joined f pl).map (·.1)).Nodup := by
  unfold joined
  rw [List.map_map]
  have : (spots f pl).map ((fun x : (Int × Int) × List Ly => x.1) ∘ fun q => (q, pile f pl q)) = spots f pl := List.map_id'' (fun _ => rfl) _
  rw [this]
  exact spots_nd f nd
theorem joined_len (f : Fld) (pl : Pl) : (joined f pl).length ≤ pl.length := by
  unfold joined
  rw [List.length_map]
  exact spots_len f pl
section
variable {ft : FTab} {gt : Str → Option D}
theorem c_foldedX (h1 : Has ft "_law_way_after" txf_law_way_after) (h2 : Has ft "_law_turned_layers" txf_law_turned_layers) (h : Has ft "_law_folded" txf_law_folded) (f : Fld) {pl : Pl} {R C : Nat} (g : Grid pl R C) (l1 : 1 ≤ f.line) (l2 : f.line < if f.col = true then (C : Int) else R) (hR : 0 < R) (hC : 0 < C) {b : Nat} (hb : ∀ e ∈ pl, e.2.length ≤ b) (hbs : b ≤ 100000) (n : Nat) (p : PSt) :
    ∃ (pl' : Pl) (R' C' : Nat), callF ft gt (n + 3) "_law_folded" [encPc pl, encFd f] p = .ok (encPc pl') p ∧ Grid pl' R' C' ∧ 0 < R' ∧ 0 < C' ∧ R' ≤ R ∧ C' ≤ C ∧ R' + C' < R + C ∧ (∀ e ∈ pl', e.2.length ≤ 2 * b) ∧ ∀ e ∈ pl', ∃ q, e.2 = pile f pl q := by
  obtain ⟨top, left, R', C', m1, m2, g', r1, r2, r3, r4, r5⟩ := folded_grid f g l1 l2 hR hC
  refine ⟨normed (joined f pl) top left, R', C', ?_, g', r1, r2, r3, r4, r5, fun e he => ?_, fun e he => ?_⟩
  · rw [callF_succ h, run_eq rfl]
    have jl : (joined f pl).length ≤ 1000 := Nat.le_trans (joined_len f pl) g.sz
    have jl' : (joined f pl).length ≤ sizeLine := by rw [sizeLine_eq]; omega
    obtain ⟨s8, s9, s10, s11, s12, e1⟩ := fold_loop1 (gt := gt) h1 h2 n f g.nd g.sz hb hbs .no .no .no .no .no .no .no .no .no .no .no p
    obtain ⟨t14, t15, t16, e2⟩ := fold_loop2 (gt := gt) (callF ft gt (n + 2)) f g.nd g.sz hb hbs s8 s9 s10 s11 s12 .no .no .no .no .no p
    have e0 : D.dict true [] [] = encPc [] := rfl
    have cK : compL (fCN (callF ft gt (n + 2)) gt (.var 14) (.name 14) (.cons b_law_folded_4 .nil) (view [.val (encPc pl), .val (encFd f), .val (.str (axS f.col)), .val (.int f.line), .val (.str (loS f.low)), .val (.str (ovS f.over)), .own (encPc (moved f pl)), .own (encPc (kept f pl)), s8, s9, s10, s11, s12, .own (encPc []), .no, .no, .no, .no, .no])) ((kept f pl).map fun q => encP q.1) [] p =
        .ok (.lst ((((kept f pl).map (·.1)).filter fun q => !decide (q ∈ (moved f pl).map (·.1))).map encP)) p := by
      have := compL_filt (f := fCN (callF ft gt (n + 2)) gt (.var 14) (.name 14) (.cons b_law_folded_4 .nil) (view [.val (encPc pl), .val (encFd f), .val (.str (axS f.col)), .val (.int f.line), .val (.str (loS f.low)), .val (.str (ovS f.over)), .own (encPc (moved f pl)), .own (encPc (kept f pl)), s8, s9, s10, s11, s12, .own (encPc []), .no, .no, .no, .no, .no])) (enc := encP) (g := encP) (q := fun q => !decide (q ∈ (moved f pl).map (·.1))) (p := p) (L := (kept f pl).map (·.1)) (fun q _ => by
        simp only [fCN_name, setEnv_eq, view_cons, view_nil, see_val, see_own, see_no]
        by_cases hq : q ∈ (moved f pl).map (·.1)
        · simp only [ec_one, b_law_folded_4, e_cmp, e_var]
          simp [notin_pc, hq, -List.mem_map, -List.map_map]
        · simp only [ec_one, b_law_folded_4, e_cmp, e_var]
          simp [notin_pc, hq, -List.mem_map, -List.map_map, kND_eq (noDict_P q)]) (by
        have := moved_len f pl
        have := g.sz
        rw [List.length_map, sizeLine_eq]
        omega)
      rw [List.map_map] at this
      exact this
    have sp : kB2 .add (.lst ((moved f pl).map fun q => encP q.1)) (.lst ((((kept f pl).map (·.1)).filter fun q => !decide (q ∈ (moved f pl).map (·.1))).map encP)) p = .ok (.lst ((spots f pl).map encP)) p := by
      rw [kB2_lst (by
        have h1 := moved_len f pl
        have h2 := g.sz
        have h3 := List.length_filter_le (fun q => !decide (q ∈ (moved f pl).map (·.1))) ((kept f pl).map (·.1))
        rw [List.length_map] at h3
        rw [List.length_map, List.length_map, sizeLine_eq]
        omega)]
      unfold spots
      rw [List.map_append, List.map_map]
      rfl
    have fin : ∀ (env : Env), env[13]? = some (some (encPc (joined f pl))) → env[17]? = some (some (.int top)) → env[18]? = some (some (.int left)) → 18 < env.length → compL (fCN (callF ft gt (n + 2)) gt b_law_folded_1 (.tup [8, 9]) .nil env) ((joined f pl).map fun q => encP q.1) [] p = .ok (.lst ((normed (joined f pl) top left).map fun e => .tup [encP e.1, encLs e.2])) p := fun env h13 h17 h18 hl => by
      have := compL_map (f := fCN (callF ft gt (n + 2)) gt b_law_folded_1 (.tup [8, 9]) .nil env) (enc := fun e : (Int × Int) × List Ly => encP e.1) (g := fun e => .tup [encP (e.1.1 - top, e.1.2 - left), encLs e.2]) (p := p) (L := joined f pl) (fun e he => by
        have i0 := idx_pc (joined_nd f g.nd) (k := e.1) (v := e.2) he
        have i1 : idxD (encPc (joined f pl)) (.tup [.int e.1.1, .int e.1.2]) = some (encLs e.2) := i0
        have a8 : ((env.set 8 (some (.int e.1.1))).set 9 (some (.int e.1.2)))[8]? = some (some (.int e.1.1)) := by rw [List.getElem?_set_ne (by decide), List.getElem?_set_self (by omega)]
        have a9 : ((env.set 8 (some (.int e.1.1))).set 9 (some (.int e.1.2)))[9]? = some (some (.int e.1.2)) := List.getElem?_set_self (by simp; omega)
        have a13 : ((env.set 8 (some (.int e.1.1))).set 9 (some (.int e.1.2)))[13]? = some (some (encPc (joined f pl))) := by rw [List.getElem?_set_ne (by decide), List.getElem?_set_ne (by decide)]; exact h13
        have a17 : ((env.set 8 (some (.int e.1.1))).set 9 (some (.int e.1.2)))[17]? = some (some (.int top)) := by rw [List.getElem?_set_ne (by decide), List.getElem?_set_ne (by decide)]; exact h17
        have a18 : ((env.set 8 (some (.int e.1.1))).set 9 (some (.int e.1.2)))[18]? = some (some (.int left)) := by rw [List.getElem?_set_ne (by decide), List.getElem?_set_ne (by decide)]; exact h18
        have nd : D.noDict (.tup [.tup [.int (e.1.1 - top), .int (e.1.2 - left)], encLs e.2]) = true := by
          unfold D.noDict D.noDictL D.noDictL
          rw [noDict_Ls]
          simp [D.noDict, D.noDictL]
        simp only [fCN_P, ec_nil, Out.bind_ok, kCoN_true, b_law_folded_1, e_tup, es_cons, es_nil, e_bin, e_var, e_idx, a8, a9, a13, a17, a18, getV_some, kB1_eq, kB2_sub, kArgs_eq, kCons_eq, kTup_2, kIx1_eq, kIx2_eq, i1, lift_some, kND_eq nd]
        rfl) jl'
      rw [this]
      unfold normed
      rw [List.map_map]
      rfl
    have pairs := pairs_al (t := true) (ev := encLs) keq_P isKey_P g'.nd (by have := g'.sz; rw [sizeLine_eq]; omega)
    have f1 := firsts (gt := gt) (callF ft gt (n + 2)) (joined f pl) jl'
    have f2 := seconds (gt := gt) (callF ft gt (n + 2)) (joined f pl) jl'
    have k1 := kBi_min1 (p := p) m1
    have k2 := kBi_min1 (p := p) m2
    have asg : kAsg [2, 3, 4, 5] [.val (encPc pl), .val (encFd f), .no, .no, .no, .no, .no, .no, .no, .no, .no, .no, .no, .no, .no, .no, .no, .no, .no] (encFd f) p = .ok (.nx [.val (encPc pl), .val (encFd f), .val (.str (axS f.col)), .val (.int f.line), .val (.str (loS f.low)), .val (.str (ovS f.over)), .no, .no, .no, .no, .no, .no, .no, .no, .no, .no, .no, .no, .no]) p := rfl
    unfold txf_law_folded
    dsimp only
    simp only [List.map_cons, List.map_nil, List.cons_append, List.nil_append]
    rw [show List.replicate (19 - 2) Sl.no = [.no, .no, .no, .no, .no, .no, .no, .no, .no, .no, .no, .no, .no, .no, .no, .no, .no] from rfl]
    rw [x_seq, x_asg, show (evalE (callF ft gt (n + 2)) gt (.var 1) (view (Sl.val (encPc pl) :: Sl.val (encFd f) :: [.no, .no, .no, .no, .no, .no, .no, .no, .no, .no, .no, .no, .no, .no, .no, .no, .no])) p) = .ok (encFd f) p from by simp]
    rw [Out.bind_ok, show escB (.var 1) = [] from rfl, fzs_nil, asg, thn_nx, kSeq_eq]
    simp only [view_cons, view_nil, see_val, see_own, see_no] at cK
    simp [escE, escB, escBs, Tg.own, e0, e1]
    rw [cK, Out.bind_ok, sp, Out.bind_ok, kFor_lst, e2, thn_nx, kSeq_eq]
    simp [escE, escB, escBs, Tg.own, b_law_folded_3, b_law_folded_2, f1, f2, k1, k2, -List.map_map]
    rw [fin _ rfl rfl rfl (by simp)]
    simp [pairs]
    rfl
  · unfold normed at he
    obtain ⟨x, hx, rfl⟩ := List.mem_map.mp he
    unfold joined at hx
    obtain ⟨q, _, rfl⟩ := List.mem_map.mp hx
    exact pile_bound hb q
  · unfold normed joined at he
    simp only [List.map_map, List.mem_map] at he
    obtain ⟨q, _, rfl⟩ := he
    exact ⟨q, rfl⟩
theorem c_folded (h1 : Has ft "_law_way_after" txf_law_way_after) (h2 : Has ft "_law_turned_layers" txf_law_turned_layers) (h : Has ft "_law_folded" txf_law_folded) (f : Fld) {pl : Pl} {R C : Nat} (g : Grid pl R C) (l1 : 1 ≤ f.line) (l2 : f.line < if f.col = true then (C : Int) else R) (hR : 0 < R) (hC : 0 < C) {b : Nat} (hb : ∀ e ∈ pl, e.2.length ≤ b) (hbs : b ≤ 100000) (n : Nat) (p : PSt) :
    ∃ (pl' : Pl) (R' C' : Nat), callF ft gt (n + 3) "_law_folded" [encPc pl, encFd f] p = .ok (encPc pl') p ∧ Grid pl' R' C' ∧ 0 < R' ∧ 0 < C' ∧ R' ≤ R ∧ C' ≤ C ∧ R' + C' < R + C ∧ ∀ e ∈ pl', e.2.length ≤ 2 * b := by
  obtain ⟨pl', R', C', e, g', r1, r2, r3, r4, r5, hb', _⟩ := c_foldedX h1 h2 h f g l1 l2 hR hC hb hbs n p
  exact ⟨pl', R', C', e, g', r1, r2, r3, r4, r5, hb'⟩
theorem getPl_in {pl : Pl} {q : Int × Int} {l : Ly} (h : l ∈ getPl pl q) : ∃ e ∈ pl, l ∈ e.2 := by
  unfold getPl at h
  cases hf : pl.find? (fun e => decide (e.1 = q)) with
  | none => rw [hf] at h; simp at h
  | some e => rw [hf] at h; exact ⟨e, List.mem_of_find?_eq_some hf, h⟩
theorem turnL_in {m : Way} {ls : List Ly} {l : Ly} (h : l ∈ turnL m ls) : ∃ l0 ∈ ls, l0.1 = l.1 := by
  unfold turnL at h
  split at h
  · obtain ⟨l0, h0, rfl⟩ := List.mem_map.mp (List.mem_reverse.mp h)
    exact ⟨l0, h0, rfl⟩
  · obtain ⟨l0, h0, rfl⟩ := List.mem_map.mp h
    exact ⟨l0, h0, rfl⟩
theorem pile_in {f : Fld} {pl : Pl} {q : Int × Int} {l : Ly} (h : l ∈ pile f pl q) : ∃ e ∈ pl, ∃ l0 ∈ e.2, l0.1 = l.1 := by
  have k : l ∈ getPl (kept f pl) q → ∃ e ∈ pl, ∃ l0 ∈ e.2, l0.1 = l.1 := fun h => by
    obtain ⟨e, he, hl⟩ := getPl_in h
    exact ⟨e, (List.mem_filter.mp he).1, l, hl, rfl⟩
  have m : l ∈ getPl (moved f pl) q → ∃ e ∈ pl, ∃ l0 ∈ e.2, l0.1 = l.1 := fun h => by
    obtain ⟨e, he, hl⟩ := getPl_in h
    unfold moved at he
    obtain ⟨x, hx, rfl⟩ := List.mem_map.mp he
    obtain ⟨l0, h0, e0⟩ := turnL_in hl
    exact ⟨x, (List.mem_filter.mp hx).1, l0, h0, e0⟩
  unfold pile at h
  split at h <;> rcases List.mem_append.mp h with h | h
  · exact k h
  · exact m h
  · exact m h
  · exact k h
end
end PD

namespace PD
open PySem PySem.Spec PyProof.Rows L2
def restS : PD.S → PD.S
  | .seq _ b => b
  | _ => .skip
def headS : PD.S → PD.S
  | .seq a _ => a
  | _ => .skip
/-- a while whose invariant counts down -/
theorem whileL_dec {c : SEnv → PSt → Out Bool} {f : SEnv → PSt → Out Fl} (P : Nat → SEnv → PSt → Prop)
    (h : ∀ k env p, P k env p → (c env p = .ok false p) ∨ (c env p = .ok true p ∧ ∃ env' p' k', f env p = .ok (.nx env') p' ∧ k' < k ∧ P k' env' p')) :
    ∀ (n k : Nat) (env : SEnv) (p : PSt), P k env p → k < n → ∃ env' p' k', whileL c f n env p = .ok (.nx env') p' ∧ P k' env' p' ∧ c env' p' = .ok false p' := by
  intro n
  induction n with
  | zero => intro k env p _ hm; omega
  | succ n ih =>
    intro k env p hP hm
    rcases h k env p hP with e | ⟨e, env1, p1, k1, e1, m1, P1⟩
    · refine ⟨env, p, k, ?_, hP, e⟩
      show (match c env p with | .ok false p => _ | .ok true p => _ | .exc c ds p => _ | .bad => _) = _
      rw [e]
    · obtain ⟨env2, p2, k2, e2, P2, c2⟩ := ih k1 env1 p1 P1 (by omega)
      refine ⟨env2, p2, k2, ?_, P2, c2⟩
      show (match c env p with | .ok false p => _ | .ok true p => _ | .exc c ds p => _ | .bad => _) = _
      rw [e]
      dsimp only
      rw [e1]
      exact e2
section
variable {ft : FTab} {gt : Str → Option D}
theorem c_fold (hs : Has ft "_law_spread" txf_law_spread) (hf : Has ft "_law_draw" txf_law_draw) (h : Has ft "_law_fold" txf_law_fold) {R C : Nat} (hR : 0 < R) (hC : 0 < C) (hRC : 1 < R * C) (hr : R ≤ 1000) (hc : C ≤ 1000) (n : Nat) {p : PSt} (hp : PG p) :
    ∃ (f : Fld) (p' : PSt), callF ft gt (n + 3) "_law_fold" [.pool, .int R, .int C] p = .ok (encFd f) p' ∧ PG p' ∧ 1 ≤ f.line ∧ f.line < if f.col = true then (C : Int) else R := by
  rw [callF_succ h, run_eq rfl]
  have rest : ∀ (col : Bool) (p1 : PSt), PG p1 → (1 < if col = true then C else R) → ∃ (f : Fld) (p' : PSt), retOf (execS (callF ft gt (n + 2)) gt (restS txf_law_fold.body) [.val .pool, .val (.int R), .val (.int C), .val (.str (axS col)), .no] p1) = .ok (encFd f) p' ∧ PG p' ∧ 1 ≤ f.line ∧ f.line < if f.col = true then (C : Int) else R := fun col p1 hp1 hm => by
    have hm' : (1 : Int) < if col = true then (C : Int) else R := by split at hm <;> rename_i hc <;> simp only [hc] <;> simp <;> omega
    obtain ⟨v1, p2, e1, h1, hp2⟩ := draw_ex (gt := gt) hs hf n (m := (if col = true then (C : Int) else R) - 1) (by omega) (by split <;> omega) hp1
    obtain ⟨v2, p3, e2, h2, hp3⟩ := draw_ex (gt := gt) hs hf n (m := 2) (by decide) (by decide) hp2
    obtain ⟨v3, p4, e3, h3, hp4⟩ := draw_ex (gt := gt) hs hf n (m := 2) (by decide) (by decide) hp3
    have w2 : v2 = 0 ∨ v2 = 1 := by omega
    have w3 : v3 = 0 ∨ v3 = 1 := by omega
    refine ⟨⟨col, 1 + v1, decide (v2 = 0), decide (v3 = 0)⟩, p4, ?_, hp4, by show (1 : Int) ≤ 1 + v1; omega, by show (1 : Int) + v1 < if col = true then (C : Int) else R; omega⟩
    cases col
    · simp at e1
      rcases w2 with rfl | rfl <;> rcases w3 with rfl | rfl <;> (simp [txf_law_fold, restS, escE, escB, escBs, e1, e2, e3]; simp [encFd, loS, ovS])
    · simp at e1
      rcases w2 with rfl | rfl <;> rcases w3 with rfl | rfl <;> (simp [txf_law_fold, restS, escE, escB, escBs, e1, e2, e3]; simp [encFd, loS, ovS])
  have go : ∀ (col : Bool) (p1 : PSt), PG p1 → (1 < if col = true then C else R) → execS (callF ft gt (n + 2)) gt (headS txf_law_fold.body) [.val .pool, .val (.int R), .val (.int C), .no, .no] p = .ok (.nx [.val .pool, .val (.int R), .val (.int C), .val (.str (axS col)), .no]) p1 →
      ∃ (f : Fld) (p' : PSt), retOf (execS (callF ft gt (n + 2)) gt txf_law_fold.body [.val .pool, .val (.int R), .val (.int C), .no, .no] p) = .ok (encFd f) p' ∧ PG p' ∧ 1 ≤ f.line ∧ f.line < if f.col = true then (C : Int) else R := fun col p1 hp1 hm e => by
    obtain ⟨f, p', e', r⟩ := rest col p1 hp1 hm
    refine ⟨f, p', ?_, r⟩
    rw [show txf_law_fold.body = .seq (headS txf_law_fold.body) (restS txf_law_fold.body) from rfl, x_seq, e, thn_nx, kSeq_eq]
    exact e'
  show ∃ (f : Fld) (p' : PSt), retOf (execS (callF ft gt (n + 2)) gt txf_law_fold.body [.val .pool, .val (.int R), .val (.int C), .no, .no] p) = .ok (encFd f) p' ∧ _
  by_cases r1 : R = 1
  · subst r1
    refine go true p hp (by simp; omega) ?_
    simp [txf_law_fold, headS, escE, escB, escBs, axS]
  · have r1' : ¬ (R : Int) = 1 := by omega
    by_cases c1 : 1 < C
    · have c1' : (1 : Int) < C := by omega
      obtain ⟨v, p1, e1, h1, hp1⟩ := draw_ex (gt := gt) hs hf n (m := 2) (by decide) (by decide) hp
      by_cases v0 : v = 0
      · subst v0
        refine go true p1 hp1 (by simp; omega) ?_
        simp [txf_law_fold, headS, escE, escB, escBs, axS, r1, r1', c1, c1', e1]
      · have v0' : ¬ (v : Int) = 0 := by omega
        refine go false p1 hp1 (by simp; omega) ?_
        simp [txf_law_fold, headS, escE, escB, escBs, axS, r1, r1', c1, c1', e1, v0, v0']
    · have c1' : ¬ (1 : Int) < C := by omega
      refine go false p hp (by simp; omega) ?_
      simp [txf_law_fold, headS, escE, escB, escBs, axS, r1, r1', c1, c1']
end
end PD

namespace PD
open PySem PySem.Spec PyProof.Rows L2
/-! ### the order of rows -/
def ltIs : List Int → List Int → Bool
  | [], [] => false
  | [], _ :: _ => true
  | _ :: _, [] => false
  | x :: xs, y :: ys => decide (x < y) || (decide (x = y) && ltIs xs ys)
theorem ltIs_irr : ∀ xs, ltIs xs xs = false
  | [] => rfl
  | x :: xs => by simp [ltIs, ltIs_irr xs]
theorem ltIs_trans : ∀ {a b c : List Int}, ltIs a b = true → ltIs b c = true → ltIs a c = true
  | [], [], _, h, _ => by cases h
  | [], _ :: _, [], _, h => by cases h
  | [], _ :: _, _ :: _, _, _ => rfl
  | _ :: _, [], _, h, _ => by cases h
  | _ :: _, _ :: _, [], _, h => by cases h
  | x :: xs, y :: ys, z :: zs, h1, h2 => by
    simp only [ltIs, Bool.or_eq_true, Bool.and_eq_true, decide_eq_true_eq] at *
    rcases h1 with h1 | ⟨rfl, h1⟩
    · rcases h2 with h2 | ⟨rfl, h2⟩
      · exact .inl (by omega)
      · exact .inl h1
    · rcases h2 with h2 | ⟨rfl, h2⟩
      · exact .inl h2
      · exact .inr ⟨rfl, ltIs_trans h1 h2⟩
theorem ltIs_tot : ∀ {a b : List Int}, ltIs a b = false → ltIs b a = false → a = b
  | [], [], _, _ => rfl
  | [], _ :: _, h, _ => by cases h
  | _ :: _, [], _, h => by cases h
  | x :: xs, y :: ys, h1, h2 => by
    simp only [ltIs, Bool.or_eq_false_iff, Bool.and_eq_false_iff, decide_eq_false_iff_not] at *
    have e : x = y := by omega
    subst e
    rw [ltIs_tot (a := xs) (b := ys) (by rcases h1.2 with h | h; exact absurd rfl h; exact h) (by rcases h2.2 with h | h; exact absurd rfl h; exact h)]
abbrev IR := Int × List Int
/-- the order of pairs of a number and a row -/
def ltIR (a b : IR) : Bool := decide (a.1 < b.1) || (decide (a.1 = b.1) && ltIs a.2 b.2)
theorem ltIR_eq (a b : IR) : ltIR a b = ltIs (a.1 :: a.2) (b.1 :: b.2) := rfl
theorem ltIR_irr (a : IR) : ltIR a a = false := by rw [ltIR_eq]; exact ltIs_irr _
theorem ltIR_trans {a b c : IR} (h1 : ltIR a b = true) (h2 : ltIR b c = true) : ltIR a c = true := by
  rw [ltIR_eq] at *
  exact ltIs_trans h1 h2
theorem ltIR_tot {a b : IR} (h1 : ltIR a b = false) (h2 : ltIR b a = false) : a = b := by
  have := ltIs_tot (a := a.1 :: a.2) (b := b.1 :: b.2) h1 h2
  injection this with e1 e2
  exact Prod.ext e1 e2
/-- not above: a ≤ b -/
def leIR (a b : IR) : Prop := ltIR b a = false
theorem leIR_refl (a : IR) : leIR a a := ltIR_irr a
theorem leIR_trans {a b c : IR} (h1 : leIR a b) (h2 : leIR b c) : leIR a c := by
  unfold leIR at *
  by_cases h : ltIR c a = true
  · by_cases e : ltIR b c = true
    · rw [ltIR_trans e h] at h1; cases h1
    · have := ltIR_tot h2 (by simpa using e)
      rw [this] at h
      rw [h] at h1; cases h1
  · simpa using h
theorem leIR_antisymm {a b : IR} (h1 : leIR a b) (h2 : leIR b a) : a = b := ltIR_tot h2 h1
theorem leIR_of_lt {a b : IR} (h : ltIR a b = true) : leIR a b := by
  unfold leIR
  by_cases e : ltIR b a = true
  · have := ltIR_trans h e
    rw [ltIR_irr] at this; cases this
  · simpa using e
theorem alike_intsL : ∀ xs ys : List Int, PySem.W.alikeAll (toPys (xs.map D.int)) (toPys (ys.map D.int)) = true
  | [], _ => by simp [toPys, PySem.W.alikeAll]
  | _ :: _, [] => by simp [toPys, PySem.W.alikeAll]
  | x :: xs, y :: ys => by simp [toPys, toPy, PySem.W.alikeAll, PySem.W.alike, alike_intsL xs ys]
theorem toks_ints : ∀ xs ys : List Int, PyProof.Rows.lexLt PyProof.Rows.itemOrd (PySem.W.keyToksAll (toPys (xs.map D.int))) (PySem.W.keyToksAll (toPys (ys.map D.int))) = ltIs xs ys
  | [], [] => by simp [toPys]; rfl
  | [], y :: ys => by simp [toPys]; rfl
  | x :: xs, [] => by simp [toPys]; rfl
  | x :: xs, y :: ys => by
    rw [List.map_cons, List.map_cons, toPys, toPys]
    have al : PySem.W.alike (toPy (.int x)) (toPy (.int y)) = true := rfl
    by_cases h : x = y
    · subst h
      rw [PySem.W.dataLt_all_yes al (by simp [toPy, PyData.eqv]), toks_ints xs ys]
      simp [ltIs]
    · rw [PySem.W.dataLt_all_no al (by simp [toPy, PyData.eqv, h])]
      show PySem.W.dataLt (.int x) (.int y) = _
      rw [PySem.W.dataLt_int]
      simp [ltIs, h]
theorem fits_intsL (n : Nat) : ∀ xs : List Int, D.fitsL n (xs.map D.int) = true
  | [] => by simp [D.fitsL]
  | x :: xs => by simp [D.fitsL, D.fits, fits_intsL n xs]
theorem eqvs_ints : ∀ xs ys : List Int, D.eqvs (xs.map D.int) (ys.map D.int) = decide (xs = ys)
  | [], [] => by simp [D.eqvs]
  | [], _ :: _ => by simp [D.eqvs]
  | _ :: _, [] => by simp [D.eqvs]
  | x :: xs, y :: ys => by
    rw [List.map_cons, List.map_cons, D.eqvs, eqvs_ints xs ys]
    simp only [D.eqv]
    by_cases h1 : x = y <;> by_cases h2 : xs = ys <;> simp [h1, h2]
def encIsL (xs : List Int) : D := .lst (xs.map .int)
def encIsT (xs : List Int) : D := .tup (xs.map .int)
def encIRL (a : IR) : D := .tup [.int a.1, encIsL a.2]
def encIRT (a : IR) : D := .tup [.int a.1, encIsT a.2]
theorem fits_IsL (n : Nat) (xs : List Int) : D.fits (n + 1) (encIsL xs) = true := by unfold encIsL D.fits; exact fits_intsL n xs
theorem fits_IsT (n : Nat) (xs : List Int) : D.fits (n + 1) (encIsT xs) = true := by unfold encIsT D.fits; exact fits_intsL n xs
theorem ltD_IsT (xs ys : List Int) : ltD (encIsT xs) (encIsT ys) = some (ltIs xs ys) := by
  unfold ltD
  rw [fits_IsT 59, fits_IsT 59]
  have al : PySem.W.alike (toPy (encIsT xs)) (toPy (encIsT ys)) = true := by
    unfold encIsT
    simp only [toPy, PySem.W.alike]
    exact alike_intsL xs ys
  rw [al]
  simp only [Bool.and_self, if_true]
  unfold encIsT
  simp only [toPy]
  rw [PySem.W.dataLt_tuple, toks_ints]
theorem ltD_IRT (a b : IR) : ltD (encIRT a) (encIRT b) = some (ltIR a b) := by
  obtain ⟨i, xs⟩ := a
  obtain ⟨j, ys⟩ := b
  have f : ∀ a : IR, D.fits 60 (encIRT a) = true := fun a => by
    unfold encIRT D.fits D.fitsL
    simp [D.fits, D.fitsL, fits_IsT 58]
  have al : PySem.W.alike (toPy (encIRT (i, xs))) (toPy (encIRT (j, ys))) = true := by
    simp only [encIRT, encIsT, toPy, toPys, PySem.W.alike, PySem.W.alikeAll, alike_intsL, Bool.and_self]
  unfold ltD
  rw [f, f, al]
  simp only [Bool.and_self, if_true]
  simp only [encIRT, encIsT, toPy, toPys]
  rw [PySem.W.dataLt_tuple]
  have a1 : PySem.W.alike (.int i) (.int j) = true := rfl
  have a2 : PySem.W.alike (.tuple (toPys (xs.map D.int))) (.tuple (toPys (ys.map D.int))) = true := by simp only [PySem.W.alike]; exact alike_intsL xs ys
  by_cases h : i = j
  · subst h
    rw [PySem.W.dataLt_all_yes a1 (by simp [PyData.eqv])]
    by_cases e : PyData.eqv (.tuple (toPys (xs.map D.int))) (.tuple (toPys (ys.map D.int))) = true
    · rw [PySem.W.dataLt_all_yes a2 e]
      have k := (PySem.W.toks_eqv _ _ a2).1 e
      simp only [PySem.W.keyToks] at k
      have := toks_ints xs ys
      rw [k, toks_ints ys ys] at this
      have z := ltIs_irr ys
      simp only [ltIR, ← this, z]
      simp; rfl
    · rw [PySem.W.dataLt_all_no a2 (by simpa using e), PySem.W.dataLt_tuple, toks_ints]
      simp [ltIR]
  · rw [PySem.W.dataLt_all_no a1 (by simp [PyData.eqv, h]), PySem.W.dataLt_int]
    simp [ltIR, h]
theorem ltD_IRL (a b : IR) : ltD (encIRL a) (encIRL b) = some (ltIR a b) := by
  obtain ⟨i, xs⟩ := a
  obtain ⟨j, ys⟩ := b
  have f : ∀ a : IR, D.fits 60 (encIRL a) = true := fun a => by
    unfold encIRL D.fits D.fitsL
    simp [D.fits, D.fitsL, fits_IsL 58]
  have al : PySem.W.alike (toPy (encIRL (i, xs))) (toPy (encIRL (j, ys))) = true := by
    simp only [encIRL, encIsL, toPy, toPys, PySem.W.alike, PySem.W.alikeAll, alike_intsL, Bool.and_self]
  unfold ltD
  rw [f, f, al]
  simp only [Bool.and_self, if_true]
  simp only [encIRL, encIsL, toPy, toPys]
  rw [PySem.W.dataLt_tuple]
  have a1 : PySem.W.alike (.int i) (.int j) = true := rfl
  have a2 : PySem.W.alike (.list (toPys (xs.map D.int))) (.list (toPys (ys.map D.int))) = true := by simp only [PySem.W.alike]; exact alike_intsL xs ys
  by_cases h : i = j
  · subst h
    rw [PySem.W.dataLt_all_yes a1 (by simp [PyData.eqv])]
    by_cases e : PyData.eqv (.list (toPys (xs.map D.int))) (.list (toPys (ys.map D.int))) = true
    · rw [PySem.W.dataLt_all_yes a2 e]
      have k := (PySem.W.toks_eqv _ _ a2).1 e
      simp only [PySem.W.keyToks] at k
      have := toks_ints xs ys
      rw [k, toks_ints ys ys] at this
      have z := ltIs_irr ys
      simp only [ltIR, ← this, z]
      simp; rfl
    · rw [PySem.W.dataLt_all_no a2 (by simpa using e), PySem.W.dataLt_list, toks_ints]
      simp [ltIR]
  · rw [PySem.W.dataLt_all_no a1 (by simp [PyData.eqv, h]), PySem.W.dataLt_int]
    simp [ltIR, h]
section
variable {p : PSt}
theorem kC2_ltIRT (a b : IR) : kC2 .lt (encIRT a) (encIRT b) p = .ok (.bl (ltIR a b)) p := by
  show okB (ltD (encIRT a) (encIRT b)) p = _
  rw [ltD_IRT]; rfl
theorem kC2_ltIRL (a b : IR) : kC2 .lt (encIRL a) (encIRL b) p = .ok (.bl (ltIR a b)) p := by
  show okB (ltD (encIRL a) (encIRL b)) p = _
  rw [ltD_IRL]; rfl
theorem eqD_IsL (xs ys : List Int) : eqD (encIsL xs) (encIsL ys) = some (decide (xs = ys)) := by
  show (if D.fits 60 (encIsL xs) && D.fits 60 (encIsL ys) then some (D.eqv (encIsL xs) (encIsL ys)) else none) = _
  rw [fits_IsL 59, fits_IsL 59]
  simp only [Bool.and_self, if_true]
  unfold encIsL
  rw [D.eqv, eqvs_ints]
theorem eqD_IsT (xs ys : List Int) : eqD (encIsT xs) (encIsT ys) = some (decide (xs = ys)) := by
  show (if D.fits 60 (encIsT xs) && D.fits 60 (encIsT ys) then some (D.eqv (encIsT xs) (encIsT ys)) else none) = _
  rw [fits_IsT 59, fits_IsT 59]
  simp only [Bool.and_self, if_true]
  unfold encIsT
  rw [D.eqv, eqvs_ints]
theorem kC2_neIsL (xs ys : List Int) : kC2 .ne (encIsL xs) (encIsL ys) p = .ok (.bl (!decide (xs = ys))) p := kC2_neD (eqD_IsL xs ys)
theorem kC2_eqIsL (xs ys : List Int) : kC2 .eq (encIsL xs) (encIsL ys) p = .ok (.bl (decide (xs = ys))) p := kC2_eqD (eqD_IsL xs ys)
theorem fine_ints (n : Nat) : ∀ xs : List Int, D.fineL n (xs.map D.int) = true
  | [] => by simp [D.fineL]
  | x :: xs => by simp [D.fineL, D.fine, fine_ints n xs]
theorem fine_IsL (n : Nat) {xs : List Int} (h : xs.length ≤ sizeLine) : D.fine (n + 1) (encIsL xs) = true := by
  unfold encIsL D.fine
  simp [fine_ints n xs, h]
end
/-! ### what many laws use -/
def prt : Nat → PD.S → PD.S
  | 0, .seq a _ => a
  | n + 1, .seq _ b => prt n b
  | _, _ => .skip
def rst : Nat → PD.S → PD.S
  | 0, s => s
  | n + 1, .seq _ b => rst n b
  | _, _ => .skip
theorem in62_small {n : Int} (h : n.natAbs ≤ 100000) : in62 n = true := by
  unfold in62
  simp
  omega
def encO : Option Int → D
  | none => .non
  | some v => .int v
theorem rng_get {a : Int} {n m : Nat} {x : D} (h : (rangeL a n)[m]? = some x) : m < n ∧ x = .int (a + (m : Int)) := by
  unfold rangeL at h
  rw [List.getElem?_map] at h
  obtain ⟨k, hk, rfl⟩ := Option.map_eq_some_iff.mp h
  obtain ⟨h1, h2⟩ := List.getElem?_eq_some_iff.mp hk
  simp at h1 h2
  subst h2
  exact ⟨h1, rfl⟩
theorem rangeL_succ (a : Int) (n : Nat) : rangeL a (n + 1) = .int a :: rangeL (a + 1) n := by
  unfold rangeL
  rw [List.range_succ_eq_map, List.map_cons, List.map_map]
  congr 1
  · simp
  · apply List.map_congr_left
    intro k _
    show D.int (a + ((k + 1 : Nat) : Int)) = .int (a + 1 + (k : Int))
    congr 1
    omega
theorem cut_mid {α : Type} (xs : List α) {a b : Nat} (hb : b ≤ xs.length) (ab : a ≤ b) : cutD xs (some (a : Int)) (some (b : Int)) = (xs.drop a).take (b - a) := by
  unfold PD.cutD
  rw [HT.sIx_nat, HT.sIx_nat, Nat.min_eq_left hb, Nat.min_eq_left (by omega)]
theorem repN_one (x : D) (k : Nat) : repN [x] (k : Int) = List.replicate k x := by
  unfold repN
  rw [Int.toNat_natCast]
  induction k with
  | zero => rfl
  | succ k ih => rw [List.replicate_succ, List.flatten_cons, ih]; rfl
theorem kB2_rep {x : D} {k : Nat} {p : PSt} (hk : k ≤ 1000) : kB2 .mul (.lst [x]) (.int (k : Int)) p = .ok (.lst (List.replicate k x)) p := by
  have e : mulD (.lst [x]) (.int (k : Int)) = some (.lst (List.replicate k x)) := by
    unfold mulD
    dsimp only
    rw [if_pos ⟨by omega, by omega, by rw [sizeLine_eq]; simp; omega⟩, repN_one]
  unfold kB2 binD
  dsimp only
  rw [e, lift_some]
theorem max_ok (ws : List Int) (h : ws ≠ []) : ∃ m, maxI ws = some m ∧ m ∈ ws ∧ ∀ w ∈ ws, w ≤ m := by
  cases ws with
  | nil => exact absurd rfl h
  | cons x xs =>
    obtain ⟨h1, h2, h3⟩ := PD.fold_max xs x
    refine ⟨_, rfl, ?_, fun w hw => ?_⟩
    · rcases h1 with h1 | h1
      · rw [h1]; exact List.mem_cons_self
      · exact List.mem_cons_of_mem _ h1
    · rcases List.mem_cons.mp hw with rfl | hw
      · exact h2
      · exact h3 w hw
theorem compL_skip {f : D → PSt → Out (Option D)} {I : PSt → Prop} : ∀ (xs : List D) (acc : List D) (p : PSt), I p → (∀ x ∈ xs, ∀ p, I p → ∃ p', f x p = .ok none p' ∧ I p') → ∃ p', compL f xs acc p = .ok (.lst acc) p' ∧ I p'
  | [], acc, p, hp, _ => ⟨p, rfl, hp⟩
  | x :: xs, acc, p, hp, h => by
    obtain ⟨p1, e, hp1⟩ := h x (by simp) p hp
    obtain ⟨p2, e2, hp2⟩ := compL_skip xs acc p1 hp1 fun y hy => h y (by simp [hy])
    exact ⟨p2, by rw [compL_cons', e, compK_none, e2], hp2⟩
end PD

namespace PDL
open PySem PySem.Spec PyProof.Rows L2 PD
def b_nested_pages_1 : E := (.tup (.cons (.bin .sub (.var 1) (.bin .mul (.int 2) (.var 2))) (.cons (.bin .add (.bin .mul (.int 2) (.var 2)) (.int 1)) (.cons (.bin .add (.bin .mul (.int 2) (.var 2)) (.int 2)) (.cons (.bin .sub (.bin .sub (.var 1) (.bin .mul (.int 2) (.var 2))) (.int 1)) .nil)))))
@[simp] theorem b_nested_pages_1_esc : escE b_nested_pages_1 = [] := by kernel_rfl
@[simp] theorem b_nested_pages_1_escB : escB b_nested_pages_1 = [] := by kernel_rfl
def txf_nested_pages : FDef := ⟨1, 3, (.seq (.set 1 (.bin .mul (.int 4) (.var 0)) false)
 (.seq (.ret (.comp b_nested_pages_1 (.name 2) (.rng1 (.var 0)) .nil))
 .skip))⟩
def b_creep_1 : E := (.bin .sub (.var 2) (.bin .mul (.var 4) (.var 1)))
@[simp] theorem b_creep_1_esc : escE b_creep_1 = [] := by kernel_rfl
@[simp] theorem b_creep_1_escB : escB b_creep_1 = [] := by kernel_rfl
def txf_creep : FDef := ⟨4, 5, (.seq (.ite (.cmp .gt (.bin .mul (.bin .sub (.var 0) (.int 1)) (.var 1)) (.var 3))
(.seq (.raise "TooThick" (.cons (.var 0) .nil))
 .skip)
.skip)
 (.seq (.ret (.comp b_creep_1 (.name 4) (.rng1 (.var 0)) .nil))
 .skip))⟩
def txf_law_changed : FDef := ⟨2, 2, (.seq (.ite (.or (.cmp .eq (.idx (.var 0) (.int 0)) (.int 0)) (.cmp .eq (.var 1) (.int 0)))
(.seq (.ret (.var 0))
 .skip)
.skip)
 (.seq (.ret (.tup (.cons (.idx (.var 0) (.int 0)) (.cons (.bin .sub (.int 1) (.idx (.var 0) (.int 1))) .nil))))
 .skip))⟩
def txf_law_behind : FDef := ⟨4, 4, (.seq (.ite (.cmp .eq (.var 3) (.str "front"))
(.seq (.ret (.idx (.idx (.idx (.var 0) (.int 0)) (.var 1)) (.var 2)))
 .skip)
.skip)
 (.seq (.ret (.idx (.idx (.idx (.var 0) (.int 1)) (.var 1)) (.bin .sub (.bin .sub (.bi .len (.cons (.idx (.idx (.var 0) (.int 1)) (.var 1)) .nil)) (.int 1)) (.var 2))))
 .skip))⟩
def b_law_faces_1 : PD.S := (.seq (.asg [3, 4, 5, 6, 7] (.var 2))
 (.seq (.set 8 (.ite (.cmp .eq (.var 6) (.var 7)) (.str "front") (.str "back")) false)
 (.seq (.set 9 (.ite (.cmp .eq (.var 8) (.str "front")) (.str "back") (.str "front")) false)
 (.seq (.set 1 (.bin .add (.var 1) (.lst (.cons (.tup (.cons (.var 3) (.cons (.var 4) (.cons (.var 5) (.cons (.var 8) (.cons (.var 7) .nil)))))) (.cons (.tup (.cons (.var 3) (.cons (.var 4) (.cons (.var 5) (.cons (.var 9) (.cons (.var 7) .nil)))))) .nil)))) false)
 .skip))))
def txf_law_faces : FDef := ⟨1, 10, (.seq (.set 1 (.lst .nil) false)
 (.seq (.for (.name 2) (.rev (.var 0))
b_law_faces_1)
 (.seq (.ret (.var 1))
 .skip)))⟩
def txf_law_creep : FDef := ⟨4, 5, (.seq (.try (.seq (.ret (.tup (.cons (.str "told") (.cons (.call "creep" (.cons (.var 0) (.cons (.var 1) (.cons (.var 2) (.cons (.var 3) .nil))))) .nil))))
 .skip) (some "e") [("TooThick", (.ite (.and (.isi "ShopError") (.and (.isi "ValueError") (.not (.isi "BadFold")))) (.c (.str "thick")) (.c (.str "other"))))])
 .skip)⟩
def ft : FTab := [("nested_pages", txf_nested_pages), ("creep", txf_creep), ("_law_same", PD.txf_law_same), ("_law_is_integer", PD.txf_law_is_integer), ("_law_spread", PD.txf_law_spread), ("_law_draw", PD.txf_law_draw), ("_law_changed", txf_law_changed), ("_law_behind", txf_law_behind), ("_law_way_after", PD.txf_law_way_after), ("_law_flat", PD.txf_law_flat), ("_law_turned_layers", PD.txf_law_turned_layers), ("_law_folded", PD.txf_law_folded), ("_law_faces", txf_law_faces), ("_law_creep", txf_law_creep)]
def consts : List (Str × D) := []
def gt : Str → Option D := gtOf consts ["ShopError", "BadFold", "TooThick", "ValueError"]
def b_law_1 : E := (.bin .sub (.var 21) (.bin .mul (.var 7) (.var 18)))
@[simp] theorem b_law_1_esc : escE b_law_1 = [] := by kernel_rfl
@[simp] theorem b_law_1_escB : escB b_law_1 = [] := by kernel_rfl
def b_law_2 : PD.S := (.seq (.ite (.cmp .ge (.var 20) (.int 0))
(.seq (.set 21 (.bin .add (.var 20) (.call "_law_draw" (.cons (.var 1) (.cons (.int 100) .nil)))) false)
 (.seq (.set 22 (.ite (.cmp .gt (.var 19) (.var 20)) (.str "thick") (.tup (.cons (.str "told") (.cons (.comp b_law_1 (.name 7) (.rng1 (.var 2)) .nil) .nil)))) false)
 (.seq (.ite (.not (.call "_law_same" (.cons (.call "_law_creep" (.cons (.var 2) (.cons (.var 18) (.cons (.var 21) (.cons (.var 20) .nil))))) (.cons (.var 22) .nil))))
(.seq (.ret (.bl false))
 .skip)
.skip)
 .skip)))
.skip)
 .skip)
def b_law_3 : E := (.tup (.cons (.var 8) (.cons (.int 0) .nil)))
@[simp] theorem b_law_3_esc : escE b_law_3 = [8] := by kernel_rfl
@[simp] theorem b_law_3_escB : escB b_law_3 = [8] := by kernel_rfl
def b_law_4 : E := (.call "_law_changed" (.cons (.call "_law_behind" (.cons (.idx (.var 6) (.idx (.var 17) (.int 0))) (.cons (.idx (.var 17) (.int 1)) (.cons (.idx (.var 17) (.int 2)) (.cons (.idx (.var 17) (.int 3)) .nil))))) (.cons (.idx (.var 17) (.int 4)) .nil)))
@[simp] theorem b_law_4_esc : escE b_law_4 = [] := by kernel_rfl
@[simp] theorem b_law_4_escB : escB b_law_4 = [] := by kernel_rfl
def b_law_5 : E := (.tup (.cons (.var 14) (.cons (.bin .add (.idx (.var 5) (.var 14)) (.idx (.var 13) (.var 14))) .nil)))
@[simp] theorem b_law_5_esc : escE b_law_5 = [14] := by kernel_rfl
@[simp] theorem b_law_5_escB : escB b_law_5 = [14] := by kernel_rfl
def b_law_6 : E := (.not (.call "_law_is_integer" (.cons (.var 8) .nil)))
@[simp] theorem b_law_6_esc : escE b_law_6 = [] := by kernel_rfl
@[simp] theorem b_law_6_escB : escB b_law_6 = [] := by kernel_rfl
def b_law_7 : PD.S := (.seq (.ite (.cmp .gt (.bi .len (.cons (.comp (.var 8) (.name 8) (.idx (.var 3) (.var 7)) (.cons b_law_6 .nil)) .nil)) (.int 0))
(.seq (.ret (.bl false))
 .skip)
.skip)
 (.seq (.asg [9, 10, 11, 12] (.idx (.var 3) (.var 7)))
 (.seq (.append 6 (.tup (.cons (.tup (.cons (.tup (.cons (.tup (.cons (.var 11) (.cons (.int 0) .nil))) (.cons (.tup (.cons (.var 12) (.cons (.int 0) .nil))) .nil))) .nil)) (.cons (.tup (.cons (.tup (.cons (.tup (.cons (.var 9) (.cons (.int 0) .nil))) (.cons (.tup (.cons (.var 10) (.cons (.int 0) .nil))) .nil))) .nil)) .nil))))
 (.seq (.set 13 (.call "_law_flat" (.cons (.var 7) (.cons (.tup (.cons (.int 1) (.cons (.int 2) .nil))) .nil))) false)
 (.seq (.set 5 (.dpairs true (.comp b_law_5 (.name 14) (.bi .sorted (.cons (.bi .list (.cons (.var 5) .nil)) .nil)) .nil)) false)
 .skip)))))
def b_law_8 : E := (.or (.not (.isi (.var 4) .tuple)) (.cmp .ne (.bi .len (.cons (.var 4) .nil)) (.int 4)))
@[simp] theorem b_law_8_esc : escE b_law_8 = [] := by kernel_rfl
@[simp] theorem b_law_8_escB : escB b_law_8 = [] := by kernel_rfl
def lawB : PD.S := (.seq (.set 2 (.bin .add (.int 1) (.call "_law_draw" (.cons (.var 1) (.cons (.int 20) .nil)))) false)
 (.seq (.set 3 (.call "nested_pages" (.cons (.var 2) .nil)) false)
 (.seq (.ite (.or (.not (.isi (.var 3) .list)) (.or (.cmp .ne (.bi .len (.cons (.var 3) .nil)) (.var 2)) (.cmp .gt (.bi .len (.cons (.comp (.var 4) (.name 4) (.var 3) (.cons b_law_8 .nil)) .nil)) (.int 0))))
(.seq (.ret (.bl false))
 .skip)
.skip)
 (.seq (.set 5 (.ddispT (.tup (.cons (.int 0) (.cons (.int 0) .nil))) (.lst .nil) (.tup (.cons (.int 0) (.cons (.int 1) .nil))) (.lst .nil)) false)
 (.seq (.set 6 (.lst .nil) true)
 (.seq (.for (.name 7) (.rng1 (.var 2))
b_law_7)
 (.seq (.set 15 (.idx (.call "_law_folded" (.cons (.var 5) (.cons (.tup (.cons (.str "column") (.cons (.int 1) (.cons (.str "low") (.cons (.str "over") .nil))))) .nil))) (.tup (.cons (.int 0) (.cons (.int 0) .nil)))) false)
 (.seq (.set 16 (.comp b_law_4 (.name 17) (.call "_law_faces" (.cons (.var 15) .nil)) .nil) false)
 (.seq (.ite (.cmp .ne (.var 16) (.comp b_law_3 (.name 8) (.rng2 (.int 1) (.bin .add (.bin .mul (.int 4) (.var 2)) (.int 1))) .nil))
(.seq (.ret (.bl false))
 .skip)
.skip)
 (.seq (.set 18 (.call "_law_draw" (.cons (.var 1) (.cons (.int 9) .nil))) false)
 (.seq (.set 19 (.bin .mul (.bin .sub (.var 2) (.int 1)) (.var 18)) false)
 (.seq (.for (.name 20) (.tup (.cons (.var 19) (.cons (.bin .sub (.var 19) (.int 1)) (.cons (.bin .add (.var 19) (.int 3)) (.cons (.call "_law_draw" (.cons (.var 1) (.cons (.int 100) .nil))) .nil)))))
b_law_2)
 (.seq (.ret (.bl true))
 .skip)))))))))))))
end PDL

namespace PDL
open PySem PySem.Spec PyProof.Rows L2 PD
abbrev lvl : Nat := 200
section
variable {ft : FTab} {gt : Str → Option D}
theorem c_foldedY (h1 : Has ft "_law_way_after" txf_law_way_after) (h2 : Has ft "_law_turned_layers" txf_law_turned_layers) (h : Has ft "_law_folded" txf_law_folded) (f : Fld) {pl : Pl} {R C : Nat} (g : Grid pl R C) (l1 : 1 ≤ f.line) (l2 : f.line < if f.col = true then (C : Int) else R) (hR : 0 < R) (hC : 0 < C) {b : Nat} (hb : ∀ e ∈ pl, e.2.length ≤ b) (hbs : b ≤ 100000) (n : Nat) (p : PSt) :
    ∃ (pl' : Pl) (R' C' : Nat), callF ft gt (n + 3) "_law_folded" [encPc pl, encFd f] p = .ok (encPc pl') p ∧ Grid pl' R' C' ∧ 0 < R' ∧ 0 < C' ∧ R' ≤ R ∧ C' ≤ C ∧ R' + C' < R + C ∧ (∀ e ∈ pl', e.2.length ≤ 2 * b) ∧ ∃ top left, pl' = normed (joined f pl) top left := by
  obtain ⟨top, left, R', C', m1, m2, g', r1, r2, r3, r4, r5⟩ := folded_grid f g l1 l2 hR hC
  refine ⟨normed (joined f pl) top left, R', C', ?_, g', r1, r2, r3, r4, r5, fun e he => ?_, ⟨top, left, rfl⟩⟩
  · rw [callF_succ h, run_eq rfl]
    have jl : (joined f pl).length ≤ 1000 := Nat.le_trans (joined_len f pl) g.sz
    have jl' : (joined f pl).length ≤ sizeLine := by rw [sizeLine_eq]; omega
    obtain ⟨s8, s9, s10, s11, s12, e1⟩ := fold_loop1 (gt := gt) h1 h2 n f g.nd g.sz hb hbs .no .no .no .no .no .no .no .no .no .no .no p
    obtain ⟨t14, t15, t16, e2⟩ := fold_loop2 (gt := gt) (callF ft gt (n + 2)) f g.nd g.sz hb hbs s8 s9 s10 s11 s12 .no .no .no .no .no p
    have e0 : D.dict true [] [] = encPc [] := rfl
    have cK : compL (fCN (callF ft gt (n + 2)) gt (.var 14) (.name 14) (.cons b_law_folded_4 .nil) (view [.val (encPc pl), .val (encFd f), .val (.str (axS f.col)), .val (.int f.line), .val (.str (loS f.low)), .val (.str (ovS f.over)), .own (encPc (moved f pl)), .own (encPc (kept f pl)), s8, s9, s10, s11, s12, .own (encPc []), .no, .no, .no, .no, .no])) ((kept f pl).map fun q => encP q.1) [] p =
        .ok (.lst ((((kept f pl).map (·.1)).filter fun q => !decide (q ∈ (moved f pl).map (·.1))).map encP)) p := by
      have := compL_filt (f := fCN (callF ft gt (n + 2)) gt (.var 14) (.name 14) (.cons b_law_folded_4 .nil) (view [.val (encPc pl), .val (encFd f), .val (.str (axS f.col)), .val (.int f.line), .val (.str (loS f.low)), .val (.str (ovS f.over)), .own (encPc (moved f pl)), .own (encPc (kept f pl)), s8, s9, s10, s11, s12, .own (encPc []), .no, .no, .no, .no, .no])) (enc := encP) (g := encP) (q := fun q => !decide (q ∈ (moved f pl).map (·.1))) (p := p) (L := (kept f pl).map (·.1)) (fun q _ => by
        simp only [fCN_name, setEnv_eq, view_cons, view_nil, see_val, see_own, see_no]
        by_cases hq : q ∈ (moved f pl).map (·.1)
        · simp only [ec_one, b_law_folded_4, e_cmp, e_var]
          simp [notin_pc, hq, -List.mem_map, -List.map_map]
        · simp only [ec_one, b_law_folded_4, e_cmp, e_var]
          simp [notin_pc, hq, -List.mem_map, -List.map_map, kND_eq (noDict_P q)]) (by
        have := moved_len f pl
        have := g.sz
        rw [List.length_map, sizeLine_eq]
        omega)
      rw [List.map_map] at this
      exact this
    have sp : kB2 .add (.lst ((moved f pl).map fun q => encP q.1)) (.lst ((((kept f pl).map (·.1)).filter fun q => !decide (q ∈ (moved f pl).map (·.1))).map encP)) p = .ok (.lst ((spots f pl).map encP)) p := by
      rw [kB2_lst (by
        have h1 := moved_len f pl
        have h2 := g.sz
        have h3 := List.length_filter_le (fun q => !decide (q ∈ (moved f pl).map (·.1))) ((kept f pl).map (·.1))
        rw [List.length_map] at h3
        rw [List.length_map, List.length_map, sizeLine_eq]
        omega)]
      unfold spots
      rw [List.map_append, List.map_map]
      rfl
    have fin : ∀ (env : PD.Env), env[13]? = some (some (encPc (joined f pl))) → env[17]? = some (some (.int top)) → env[18]? = some (some (.int left)) → 18 < env.length → compL (fCN (callF ft gt (n + 2)) gt b_law_folded_1 (.tup [8, 9]) .nil env) ((joined f pl).map fun q => encP q.1) [] p = .ok (.lst ((normed (joined f pl) top left).map fun e => .tup [encP e.1, encLs e.2])) p := fun env h13 h17 h18 hl => by
      have := compL_map (f := fCN (callF ft gt (n + 2)) gt b_law_folded_1 (.tup [8, 9]) .nil env) (enc := fun e : (Int × Int) × List Ly => encP e.1) (g := fun e => .tup [encP (e.1.1 - top, e.1.2 - left), encLs e.2]) (p := p) (L := joined f pl) (fun e he => by
        have i0 := idx_pc (joined_nd f g.nd) (k := e.1) (v := e.2) he
        have i1 : idxD (encPc (joined f pl)) (.tup [.int e.1.1, .int e.1.2]) = some (encLs e.2) := i0
        have a8 : ((env.set 8 (some (.int e.1.1))).set 9 (some (.int e.1.2)))[8]? = some (some (.int e.1.1)) := by rw [List.getElem?_set_ne (by decide), List.getElem?_set_self (by omega)]
        have a9 : ((env.set 8 (some (.int e.1.1))).set 9 (some (.int e.1.2)))[9]? = some (some (.int e.1.2)) := List.getElem?_set_self (by simp; omega)
        have a13 : ((env.set 8 (some (.int e.1.1))).set 9 (some (.int e.1.2)))[13]? = some (some (encPc (joined f pl))) := by rw [List.getElem?_set_ne (by decide), List.getElem?_set_ne (by decide)]; exact h13
        have a17 : ((env.set 8 (some (.int e.1.1))).set 9 (some (.int e.1.2)))[17]? = some (some (.int top)) := by rw [List.getElem?_set_ne (by decide), List.getElem?_set_ne (by decide)]; exact h17
        have a18 : ((env.set 8 (some (.int e.1.1))).set 9 (some (.int e.1.2)))[18]? = some (some (.int left)) := by rw [List.getElem?_set_ne (by decide), List.getElem?_set_ne (by decide)]; exact h18
        have nd : D.noDict (.tup [.tup [.int (e.1.1 - top), .int (e.1.2 - left)], encLs e.2]) = true := by
          unfold D.noDict D.noDictL D.noDictL
          rw [noDict_Ls]
          simp [D.noDict, D.noDictL]
        simp only [fCN_P, ec_nil, Out.bind_ok, kCoN_true, b_law_folded_1, e_tup, es_cons, es_nil, e_bin, e_var, e_idx, a8, a9, a13, a17, a18, getV_some, kB1_eq, kB2_sub, kArgs_eq, kCons_eq, kTup_2, kIx1_eq, kIx2_eq, i1, lift_some, kND_eq nd]
        rfl) jl'
      rw [this]
      unfold normed
      rw [List.map_map]
      rfl
    have pairs := pairs_al (t := true) (ev := encLs) keq_P isKey_P g'.nd (by have := g'.sz; rw [sizeLine_eq]; omega)
    have f1 := firsts (gt := gt) (callF ft gt (n + 2)) (joined f pl) jl'
    have f2 := seconds (gt := gt) (callF ft gt (n + 2)) (joined f pl) jl'
    have k1 := kBi_min1 (p := p) m1
    have k2 := kBi_min1 (p := p) m2
    have asg : kAsg [2, 3, 4, 5] [.val (encPc pl), .val (encFd f), .no, .no, .no, .no, .no, .no, .no, .no, .no, .no, .no, .no, .no, .no, .no, .no, .no] (encFd f) p = .ok (.nx [.val (encPc pl), .val (encFd f), .val (.str (axS f.col)), .val (.int f.line), .val (.str (loS f.low)), .val (.str (ovS f.over)), .no, .no, .no, .no, .no, .no, .no, .no, .no, .no, .no, .no, .no]) p := rfl
    unfold txf_law_folded
    dsimp only
    simp only [List.map_cons, List.map_nil, List.cons_append, List.nil_append]
    rw [show List.replicate (19 - 2) Sl.no = [.no, .no, .no, .no, .no, .no, .no, .no, .no, .no, .no, .no, .no, .no, .no, .no, .no] from rfl]
    rw [x_seq, x_asg, show (evalE (callF ft gt (n + 2)) gt (.var 1) (view (Sl.val (encPc pl) :: Sl.val (encFd f) :: [.no, .no, .no, .no, .no, .no, .no, .no, .no, .no, .no, .no, .no, .no, .no, .no, .no])) p) = .ok (encFd f) p from by simp]
    rw [Out.bind_ok, show escB (.var 1) = [] from rfl, fzs_nil, asg, thn_nx, kSeq_eq]
    simp only [view_cons, view_nil, see_val, see_own, see_no] at cK
    simp [escE, escB, escBs, Tg.own, e0, e1]
    rw [cK, Out.bind_ok, sp, Out.bind_ok, kFor_lst, e2, thn_nx, kSeq_eq]
    simp [escE, escB, escBs, Tg.own, b_law_folded_3, b_law_folded_2, f1, f2, k1, k2, -List.map_map]
    rw [fin _ rfl rfl rfl (by simp)]
    simp [pairs]
    rfl
  · unfold normed at he
    obtain ⟨x, hx, rfl⟩ := List.mem_map.mp he
    unfold joined at hx
    obtain ⟨q, _, rfl⟩ := List.mem_map.mp hx
    exact pile_bound hb q
end
/-! ### faces by the law (from k09) -/
theorem h_lfaces : Has ft "_law_faces" txf_law_faces := by kernel_rfl
def sd (w : Way) : Str := if w.1 = w.2 then "front" else "back"
def faceD (l : Ly) (w : Way) : D := .tup [.int l.1.1, .int l.1.2.1, .int l.1.2.2, .str (sd w), .int (bI w.2)]
def two (l : Ly) : List D := [faceD l l.2, faceD l (act l.2 (true, false))]
def facesL (ls : List Ly) : List D := ls.flatMap two
theorem facesL_snoc (ls : List Ly) (l : Ly) : facesL (ls ++ [l]) = facesL ls ++ two l := by
  unfold facesL
  rw [List.flatMap_append]
  simp
theorem facesL_len (ls : List Ly) : (facesL ls).length = 2 * ls.length := by
  induction ls with
  | nil => rfl
  | cons l ls ih =>
    show (two l ++ facesL ls).length = _
    rw [List.length_append, ih]
    simp [two]
    omega
theorem c_lfaces (n : Nat) (ls : List Ly) (hl : ls.length ≤ 100000) (p : PSt) : callF ft gt (n + 1) "_law_faces" [encLs ls] p = .ok (.lst (facesL ls.reverse)) p := by
  rw [callF_succ h_lfaces, run_eq rfl]
  obtain ⟨env3, p3, e3, rfl, s2, s3, s4, s5, s6, s7, s8, s9, rfl⟩ := forL_inv (f := fF (callF ft gt n) gt (.name 2) b_law_faces_1) (xs := (ls.reverse).map encLy)
    (fun i env p' => p' = p ∧ ∃ s2 s3 s4 s5 s6 s7 s8 s9, env = [.val (encLs ls), .val (.lst (facesL (ls.reverse.take i))), s2, s3, s4, s5, s6, s7, s8, s9]) (fun i x env p' hx ⟨hp, s2, s3, s4, s5, s6, s7, s8, s9, he⟩ => by
      subst hp he
      rw [List.getElem?_map] at hx
      obtain ⟨l, hi, rfl⟩ := Option.map_eq_some_iff.mp hx
      have tk : ls.reverse.take (i + 1) = ls.reverse.take i ++ [l] := by rw [List.take_add_one, hi]; rfl
      have ll := facesL_len (ls.reverse.take i)
      rw [List.length_take, List.length_reverse] at ll
      obtain ⟨⟨a, b, c⟩, w⟩ := l
      have asg : kAsg [3, 4, 5, 6, 7] [.val (encLs ls), .val (.lst (facesL (ls.reverse.take i))), .val (encLy ((a, b, c), w)), s3, s4, s5, s6, s7, s8, s9] (encLy ((a, b, c), w)) p' = .ok (.nx [.val (encLs ls), .val (.lst (facesL (ls.reverse.take i))), .val (encLy ((a, b, c), w)), .val (.int a), .val (.int b), .val (.int c), .val (.int (bI w.1)), .val (.int (bI w.2)), s8, s9]) p' := rfl
      rw [tk, facesL_snoc]
      generalize facesL (ls.reverse.take i) = done at ll asg ⊢
      obtain ⟨x, y⟩ := w
      have add := kB2_lst (p := p') (a := done) (b := two ((a, b, c), (x, y))) (by rw [sizeLine_eq]; simp [two]; omega)
      unfold two faceD at add ⊢
      have sbf : ¬ (("back" : Str) = "front") := by decide +kernel
      refine ⟨[.val (encLs ls), .val (.lst (done ++ [.tup [.int a, .int b, .int c, .str (sd (x, y)), .int (bI y)], .tup [.int a, .int b, .int c, .str (sd (act (x, y) (true, false))), .int (bI (act (x, y) (true, false)).2)]])), .val (encLy ((a, b, c), (x, y))), .val (.int a), .val (.int b), .val (.int c), .val (.int (bI x)), .val (.int (bI y)), .val (.str (sd (x, y))), .val (.str (sd (act (x, y) (true, false))))], p', ?_, rfl, _, _, _, _, _, _, _, _, rfl⟩
      cases x <;> cases y <;> simp [act, sd, bI] at add asg ⊢ <;> simp [b_law_faces_1, escE, escB, escBs, asg, add, sbf]) (env := [.val (encLs ls), .val (.lst []), .no, .no, .no, .no, .no, .no, .no, .no]) (p := p) ⟨rfl, _, _, _, _, _, _, _, _, rfl⟩
  rw [List.length_map, List.take_length] at e3
  rw [List.map_reverse] at e3
  unfold encLs at e3 ⊢
  simp [txf_law_faces, escE, escB, escBs, e3]

/-! ### k18: the program and the law's helpers -/
theorem h_nested : Has ft "nested_pages" txf_nested_pages := by kernel_rfl
theorem h_creep : Has ft "creep" txf_creep := by kernel_rfl
theorem h_same : Has ft "_law_same" PD.txf_law_same := by kernel_rfl
theorem h_integer : Has ft "_law_is_integer" PD.txf_law_is_integer := by kernel_rfl
theorem h_spread : Has ft "_law_spread" PD.txf_law_spread := by kernel_rfl
theorem h_draw : Has ft "_law_draw" PD.txf_law_draw := by kernel_rfl
theorem h_changed : Has ft "_law_changed" txf_law_changed := by kernel_rfl
theorem h_behind : Has ft "_law_behind" txf_law_behind := by kernel_rfl
theorem h_wayafter : Has ft "_law_way_after" PD.txf_law_way_after := by kernel_rfl
theorem h_flat : Has ft "_law_flat" PD.txf_law_flat := by kernel_rfl
theorem h_turned : Has ft "_law_turned_layers" PD.txf_law_turned_layers := by kernel_rfl
theorem h_folded : Has ft "_law_folded" PD.txf_law_folded := by kernel_rfl
theorem h_lcreep : Has ft "_law_creep" txf_law_creep := by kernel_rfl
theorem cls_thick : (clsB gt "TooThick" && ownB "TooThick") = true := by kernel_rfl
theorem draw_l {n : Int} (h0 : 0 < n) (h1 : n < 1000) {p : PSt} (hp : PG p) : ∃ (k : Nat) (p' : PSt), callF ft gt lvl "_law_draw" [.pool, .int n] p = .ok (.int k) p' ∧ k < n ∧ PG p' := by
  obtain ⟨k, p', e, hk, hp'⟩ := draw_ex (gt := gt) h_spread h_draw 198 (m := n) h0 (by omega) hp
  exact ⟨k, p', e, hk, hp'⟩
theorem mul_sm {i j : Int} (h : j.natAbs ≤ 100000) (p : PSt) : kB2 .mul (.int i) (.int j) p = .ok (.int (i * j)) p := kB2_mul (by
  have : small64 j = true := by unfold PD.small64; exact decide_eq_true (by omega)
  rw [this, Bool.or_true])
def rowT (s i : Nat) : D := .tup [.int (4 * (s : Int) - 2 * i), .int (2 * (i : Int) + 1), .int (2 * (i : Int) + 2), .int (4 * (s : Int) - 2 * i - 1)]
def toldT (s : Nat) : List D := (List.range s).map (rowT s)
theorem c_nested (m : Nat) {s : Nat} (hs : s ≤ 1000) (p : PSt) : callF ft gt (m + 1) "nested_pages" [.int s] p = .ok (.lst (toldT s)) p := by
  rw [callF_succ h_nested, run_eq rfl]
  have mu := mul_sm (i := 4) (j := (s : Int)) (by omega) p
  have cm := compL_map (f := fC (callF ft gt m) gt b_nested_pages_1 (.name 2) .nil [some (.int (s : Int)), some (.int (4 * (s : Int))), none]) (enc := fun i : Nat => D.int (i : Int)) (g := rowT s) (p := p) (L := List.range s) (fun i hi => by
    have hi := List.mem_range.mp hi
    have m2 := mul_sm (i := 2) (j := (i : Int)) (by omega) p
    unfold rowT
    simp [b_nested_pages_1, m2]) (by rw [List.length_range, sizeLine_eq]; omega)
  have kr : kRng1 (.int (s : Int)) p = .ok (.lst ((List.range s).map fun i : Nat => D.int (i : Int))) p := by rw [kRng1_eq (in62_small (by omega)), Int.toNat_natCast, rangeL_zero]
  unfold toldT
  generalize (List.range s).map (rowT s) = R at *
  generalize ((List.range s).map fun i : Nat => D.int (i : Int)) = RL at *
  simp [txf_nested_pages, escE, escB, escBs, Tg.own, mu, kr, cm]
/-! the sheets, laid on each other -/
def lyA (s : Nat) : List Ly := (List.range s).map fun i : Nat => (((i : Int), 0, 0), (false, false))
def lyB (s : Nat) : List Ly := (List.range s).map fun i : Nat => (((i : Int), 0, 1), (false, false))
def plS (s : Nat) : Pl := [((0, 0), lyA s), ((0, 1), lyB s)]
theorem lyA_len (s : Nat) : (lyA s).length = s := by simp [lyA]
theorem lyB_len (s : Nat) : (lyB s).length = s := by simp [lyB]
theorem plS_grid (s : Nat) : Grid (plS s) 1 2 := by
  refine ⟨by show [((0 : Int), (0 : Int)), (0, 1)].Nodup; decide, fun q => ?_, by show 2 ≤ 1000; decide⟩
  obtain ⟨a, b⟩ := q
  show (a, b) ∈ [((0 : Int), (0 : Int)), (0, 1)] ↔ _
  simp only [List.mem_cons, Prod.mk.injEq, List.not_mem_nil, or_false]
  constructor
  · rintro (⟨rfl, rfl⟩ | ⟨rfl, rfl⟩) <;> simp
  · rintro ⟨⟨h1, h2⟩, h3, h4⟩
    have : a = 0 := by omega
    have : b = 0 ∨ b = 1 := by omega
    rcases this with rfl | rfl <;> simp_all
def fldS : Fld := ⟨true, 1, true, true⟩
def pileS (s : Nat) : List Ly := lyB s ++ turnL (true, false) (lyA s)
theorem joined_S (s : Nat) : joined fldS (plS s) = [((0, 1), pileS s)] := by
  unfold plS
  generalize hA : lyA s = A
  generalize hB : lyB s = B
  unfold pileS
  rw [hA, hB]
  rfl
theorem c_foldS (m : Nat) {s : Nat} (hs : s ≤ 1000) (p : PSt) : ∃ d, callF ft gt (m + 3) "_law_folded" [encPc (plS s), encFd fldS] p = .ok d p ∧ idxD d (.tup [.int 0, .int 0]) = some (encLs (pileS s)) := by
  obtain ⟨pl', R', C', e, g', r1, r2, r3, r4, r5, _, top, left, rfl⟩ := c_foldedY (gt := gt) h_wayafter h_turned h_folded fldS (plS_grid s) (by decide) (by decide) (by decide) (by decide) (b := s) (fun q hq => by
    unfold plS at hq
    simp only [List.mem_cons, List.not_mem_nil, or_false] at hq
    rcases hq with rfl | rfl
    · exact Nat.le_of_eq (lyA_len s)
    · exact Nat.le_of_eq (lyB_len s)) (by omega) m p
  refine ⟨_, e, ?_⟩
  rw [joined_S] at g' ⊢
  have hm := (g'.mem (0, 0)).mpr ⟨⟨by decide, by show (0 : Int) < R'; omega⟩, by decide, by show (0 : Int) < C'; omega⟩
  unfold normed at hm g' ⊢
  simp only [List.map_cons, List.map_nil, List.mem_cons, List.not_mem_nil, or_false] at hm
  simp only [List.map_cons, List.map_nil]
  rw [← hm]
  exact idx_pc (pl := [((0, 0), pileS s)]) (by simp) (k := (0, 0)) (v := pileS s) (by simp)
/-! the faces from top to bottom, as the law tells them -/
abbrev FT := Nat × Bool × Bool
def encFT (q : FT) : D := .tup [.int (q.1 : Int), .int 0, .int (if q.2.1 then 1 else 0), .str (if q.2.2 then "front" else "back"), .int 0]
def facesT (s : Nat) : List FT := (List.range s).flatMap (fun i => [(i, false, false), (i, false, true)]) ++ (List.range s).reverse.flatMap (fun i => [(i, true, true), (i, true, false)])
theorem facesL_app (a b : List Ly) : facesL (a ++ b) = facesL a ++ facesL b := by
  unfold facesL
  rw [List.flatMap_append]
theorem facesL_map (f : Nat → Ly) (g : Nat → List FT) (h : ∀ i, two (f i) = (g i).map encFT) (l : List Nat) : facesL (l.map f) = (l.flatMap g).map encFT := by
  induction l with
  | nil => rfl
  | cons i l ih =>
    rw [List.map_cons, List.flatMap_cons, List.map_append, ← ih, ← h]
    rfl
theorem facesT_eq (s : Nat) : facesL (pileS s).reverse = (facesT s).map encFT := by
  have e1 : turnL (true, false) (lyA s) = ((List.range s).map fun i : Nat => ((((i : Int), 0, 0), (true, false)) : Ly)).reverse := by
    unfold turnL lyA
    rw [if_pos (by decide), List.map_map]
    rfl
  unfold pileS facesT
  rw [List.reverse_append, e1, List.reverse_reverse, facesL_app, List.map_append]
  congr 1
  · exact facesL_map _ _ (fun i => rfl) _
  · unfold lyB
    rw [← List.map_reverse]
    exact facesL_map _ _ (fun i => rfl) _
def pageOf (s : Nat) (q : FT) : Nat := if q.2.1 then (if q.2.2 then 4 * s - 2 * q.1 - 1 else 4 * s - 2 * q.1) else (if q.2.2 then 2 * q.1 + 2 else 2 * q.1 + 1)
theorem pages_lo (s : Nat) : ∀ m, ((List.range m).flatMap fun i => [((i, false, false) : FT), (i, false, true)]).map (pageOf s) = List.range' 1 (2 * m)
  | 0 => rfl
  | m + 1 => by
    rw [List.range_succ, List.flatMap_append, List.map_append, pages_lo s m, show 2 * (m + 1) = 2 * m + 1 + 1 by omega, List.range'_concat, List.range'_concat, List.append_assoc]
    congr 1
    simp [pageOf]
    omega
theorem pages_hi (s : Nat) : ∀ m, m ≤ s → ((List.range m).reverse.flatMap fun i => [((i, true, true) : FT), (i, true, false)]).map (pageOf s) = List.range' (4 * s - 2 * m + 1) (2 * m)
  | 0, _ => rfl
  | m + 1, h => by
    rw [List.range_succ, List.reverse_append, List.flatMap_append, List.map_append, pages_hi s m (by omega), show 2 * (m + 1) = 2 * m + 1 + 1 by omega, List.range'_succ, List.range'_succ, show 4 * s - (2 * m + 1 + 1) + 1 = 4 * s - 2 * m - 1 by omega, show 4 * s - 2 * m - 1 + 1 = 4 * s - 2 * m by omega]
    rfl
theorem pages_all (s : Nat) : (facesT s).map (pageOf s) = List.range' 1 (4 * s) := by
  unfold facesT
  rw [List.map_append, pages_lo, pages_hi s s (Nat.le_refl _), show 4 * s = 2 * s + 2 * s by omega, ← List.range'_append]
  congr 2
  omega
/-! the lays of the sheets -/
def lay4 (a b c d : Int) : D := .tup [.tup [.tup [.tup [.int a, .int 0], .tup [.int b, .int 0]]], .tup [.tup [.tup [.int c, .int 0], .tup [.int d, .int 0]]]]
def layT (s i : Nat) : D := lay4 (2 * (i : Int) + 2) (4 * (s : Int) - 2 * i - 1) (4 * (s : Int) - 2 * i) (2 * (i : Int) + 1)
theorem c_behind (m : Nat) (a b c d : Int) (x y : Bool) (p : PSt) : callF ft gt (m + 1) "_law_behind" [lay4 a b c d, .int 0, .int (if x then 1 else 0), .str (if y then "front" else "back")] p = .ok (.tup [.int (if x then (if y then b else c) else (if y then a else d)), .int 0]) p := by
  rw [callF_succ h_behind, run_eq rfl]
  have bf : ¬ Str.ofString "back" = Str.ofString "front" := by decide +kernel
  cases x <;> cases y <;> simp [txf_law_behind, escE, escB, escBs, lay4, bf]
theorem c_changed (m : Nat) (a : Int) (p : PSt) : callF ft gt (m + 1) "_law_changed" [.tup [.int a, .int 0], .int 0] p = .ok (.tup [.int a, .int 0]) p := by
  rw [callF_succ h_changed, run_eq rfl]
  by_cases h : a = 0 <;> simp [txf_law_changed, escE, escB, escBs, h]
theorem ft_in {s : Nat} {q : FT} (h : q ∈ facesT s) : q.1 < s := by
  unfold facesT at h
  rcases List.mem_append.mp h with h | h
  · obtain ⟨i, hi, hq⟩ := List.mem_flatMap.mp h
    have := List.mem_range.mp hi
    simp only [List.mem_cons, List.not_mem_nil, or_false] at hq
    rcases hq with rfl | rfl <;> exact this
  · obtain ⟨i, hi, hq⟩ := List.mem_flatMap.mp h
    have := List.mem_range.mp (List.mem_reverse.mp hi)
    simp only [List.mem_cons, List.not_mem_nil, or_false] at hq
    rcases hq with rfl | rfl <;> exact this
def laysT (s a : Nat) : List D := (List.range a).map (layT s)
def pgD (n : Nat) : D := .tup [.int (n : Int), .int 0]
theorem x_faces {s : Nat} (hs : s ≤ 30) (e0 : PD.Env) (h6 : e0[6]? = some (some (.lst (laysT s s)))) (h17 : 17 < e0.length) (p : PSt) : compL (fC (callF ft gt lvl) gt b_law_4 (.name 17) .nil e0) ((facesT s).map encFT) [] p = .ok (.lst ((List.range' 1 (4 * s)).map pgD)) p := by
  have := compL_map (f := fC (callF ft gt lvl) gt b_law_4 (.name 17) .nil e0) (enc := encFT) (g := fun q => pgD (pageOf s q)) (p := p) (L := facesT s) (fun q hq => by
    have hi := ft_in hq
    obtain ⟨i, x, y⟩ := q
    dsimp only at hi
    have a6 : (e0.set 17 (some (encFT (i, x, y))))[6]? = some (some (.lst (laysT s s))) := by rw [List.getElem?_set_ne (by decide)]; exact h6
    have a17 : (e0.set 17 (some (encFT (i, x, y))))[17]? = some (some (encFT (i, x, y))) := List.getElem?_set_self h17
    have ix : idxD (.lst (laysT s s)) (.int (i : Int)) = some (layT s i) := by
      show atI _ _ = _
      refine atI_nat' ?_
      unfold laysT
      rw [List.getElem?_map, List.getElem?_range hi]
      rfl
    have f0 : idxD (encFT (i, x, y)) (.int 0) = some (.int (i : Int)) := rfl
    have f1 : idxD (encFT (i, x, y)) (.int 1) = some (.int 0) := rfl
    have f2 : idxD (encFT (i, x, y)) (.int 2) = some (.int (if x then 1 else 0)) := rfl
    have f3 : idxD (encFT (i, x, y)) (.int 3) = some (.str (if y then "front" else "back")) := rfl
    have f4 : idxD (encFT (i, x, y)) (.int 4) = some (.int 0) := rfl
    have cb := c_behind 199 (2 * (i : Int) + 2) (4 * (s : Int) - 2 * i - 1) (4 * (s : Int) - 2 * i) (2 * (i : Int) + 1) x y p
    have cb : callF ft gt lvl "_law_behind" [layT s i, .int 0, .int (if x then 1 else 0), .str (if y then "front" else "back")] p = _ := cb
    have cc : callF ft gt lvl "_law_changed" [.tup [.int (if x then (if y then 4 * (s : Int) - 2 * i - 1 else 4 * (s : Int) - 2 * i) else (if y then 2 * (i : Int) + 2 else 2 * (i : Int) + 1)), .int 0], .int 0] p = _ := c_changed 199 _ p
    have ep : pgD (pageOf s (i, x, y)) = .tup [.int (if x then (if y then 4 * (s : Int) - 2 * i - 1 else 4 * (s : Int) - 2 * i) else (if y then 2 * (i : Int) + 2 else 2 * (i : Int) + 1)), .int 0] := by
      unfold pgD pageOf
      congr 2
      cases x <;> cases y <;> simp <;> omega
    rw [ep]
    generalize (if x then (if y then 4 * (s : Int) - 2 * i - 1 else 4 * (s : Int) - 2 * i) else (if y then 2 * (i : Int) + 2 else 2 * (i : Int) + 1)) = V at *
    generalize encFT (i, x, y) = FQ at *
    generalize layT s i = LT at *
    generalize (if y then ("front" : Str) else "back") = SD at *
    generalize (if x then (1 : Int) else 0) = SX at *
    generalize D.lst (laysT s s) = LS at *
    rw [fC_name]
    show (evalC _ _ _ _ _).bind _ = _
    simp [b_law_4, setEnv, a6, a17, ix, f0, f1, f2, f3, f4, cb, cc]) (by
      have : (facesT s).length = 4 * s := by
        have := congrArg List.length (pages_all s)
        simpa using this
      rw [this, sizeLine_eq]; omega)
  rw [this, ← pages_all, List.map_map]
  rfl
theorem pg_ne (l : List Nat) (p : PSt) : kC2 .ne (.lst (l.map pgD)) (.lst (l.map pgD)) p = .ok (.bl false) p := by
  have f : D.fits 60 (.lst (l.map pgD)) = true := by
    show D.fitsL 59 (l.map pgD) = true
    induction l with
    | nil => rfl
    | cons e l ih =>
      rw [List.map_cons]
      unfold D.fitsL
      rw [ih]
      simp [pgD, D.fits, D.fitsL]
  have e : D.eqv (.lst (l.map pgD)) (.lst (l.map pgD)) = true := by
    rw [D.eqv]
    clear f
    induction l with
    | nil => rfl
    | cons e l ih =>
      rw [List.map_cons]
      unfold D.eqvs
      rw [ih]
      simp [pgD, D.eqv, D.eqvs]
  have : eqD (.lst (l.map pgD)) (.lst (l.map pgD)) = some true := by
    show (if (D.fits 60 (.lst (l.map pgD)) && D.fits 60 (.lst (l.map pgD))) = true then some (D.eqv (.lst (l.map pgD)) (.lst (l.map pgD))) else none) = _
    rw [f, e]
    rfl
  rw [kC2_neD this]
  rfl
/-! ### k18: the law, stage by stage -/
theorem rst_eq (m : Nat) (env : SEnv) (p : PSt) : execS (callF ft gt m) gt lawB env p = PD.thn (execS (callF ft gt m) gt (prt 0 lawB) env p) fun env p => PD.thn (execS (callF ft gt m) gt (prt 1 lawB) env p) fun env p => PD.thn (execS (callF ft gt m) gt (prt 2 lawB) env p) fun env p => PD.thn (execS (callF ft gt m) gt (prt 3 lawB) env p) fun env p => PD.thn (execS (callF ft gt m) gt (prt 4 lawB) env p) fun env p => PD.thn (execS (callF ft gt m) gt (prt 5 lawB) env p) fun env p => PD.thn (execS (callF ft gt m) gt (prt 6 lawB) env p) fun env p => PD.thn (execS (callF ft gt m) gt (prt 7 lawB) env p) fun env p => PD.thn (execS (callF ft gt m) gt (prt 8 lawB) env p) fun env p => PD.thn (execS (callF ft gt m) gt (prt 9 lawB) env p) fun env p => PD.thn (execS (callF ft gt m) gt (prt 10 lawB) env p) fun env p => PD.thn (execS (callF ft gt m) gt (prt 11 lawB) env p) fun env p => execS (callF ft gt m) gt (rst 12 lawB) env p := by
  rw [show lawB = .seq (prt 0 lawB) (.seq (prt 1 lawB) (.seq (prt 2 lawB) (.seq (prt 3 lawB) (.seq (prt 4 lawB) (.seq (prt 5 lawB) (.seq (prt 6 lawB) (.seq (prt 7 lawB) (.seq (prt 8 lawB) (.seq (prt 9 lawB) (.seq (prt 10 lawB) (.seq (prt 11 lawB) (rst 12 lawB)))))))))))) from rfl]
  rw [x_seq]
  congr 1
theorem stg0 (s2 s3 s4 s5 s6 s7 s8 s9 s10 s11 s12 s13 s14 s15 s16 s17 s18 s19 s20 s21 s22 : Sl) {p : PSt} (hp : PG p) : ∃ (s : Nat) (p' : PSt), PG p' ∧ 0 < s ∧ s ≤ 20 ∧ execS (callF ft gt lvl) gt (prt 0 lawB) [.no, .val .pool, s2, s3, s4, s5, s6, s7, s8, s9, s10, s11, s12, s13, s14, s15, s16, s17, s18, s19, s20, s21, s22] p = .ok (.nx [.no, .val .pool, .val (.int (s : Int)), s3, s4, s5, s6, s7, s8, s9, s10, s11, s12, s13, s14, s15, s16, s17, s18, s19, s20, s21, s22]) p' := by
  obtain ⟨a, p1, e1, ha, hp1⟩ := draw_l (n := 20) (by decide) (by decide) hp
  refine ⟨1 + a, p1, hp1, by omega, by omega, ?_⟩
  rw [show ((1 + a : Nat) : Int) = 1 + (a : Int) by omega]
  simp [prt, lawB, escE, escB, escBs, e1]
theorem stg1 {s : Nat} (hs : s ≤ 20) (s3 s4 s5 s6 s7 s8 s9 s10 s11 s12 s13 s14 s15 s16 s17 s18 s19 s20 s21 s22 : Sl) (p : PSt) : execS (callF ft gt lvl) gt (prt 1 lawB) [.no, .val .pool, .val (.int (s : Int)), s3, s4, s5, s6, s7, s8, s9, s10, s11, s12, s13, s14, s15, s16, s17, s18, s19, s20, s21, s22] p = .ok (.nx [.no, .val .pool, .val (.int (s : Int)), .val (.lst (toldT s)), s4, s5, s6, s7, s8, s9, s10, s11, s12, s13, s14, s15, s16, s17, s18, s19, s20, s21, s22]) p := by
  have c := c_nested 199 (s := s) (by omega) p
  have c : callF ft gt lvl "nested_pages" [.int (s : Int)] p = _ := c
  generalize toldT s = TT at *
  simp [prt, lawB, escE, escB, escBs, Tg.own, c]
theorem stg2 {s : Nat} (hs : s ≤ 20) (s4 s5 s6 s7 s8 s9 s10 s11 s12 s13 s14 s15 s16 s17 s18 s19 s20 s21 s22 : Sl) (p : PSt) : execS (callF ft gt lvl) gt (prt 2 lawB) [.no, .val .pool, .val (.int (s : Int)), .val (.lst (toldT s)), s4, s5, s6, s7, s8, s9, s10, s11, s12, s13, s14, s15, s16, s17, s18, s19, s20, s21, s22] p = .ok (.nx [.no, .val .pool, .val (.int (s : Int)), .val (.lst (toldT s)), s4, s5, s6, s7, s8, s9, s10, s11, s12, s13, s14, s15, s16, s17, s18, s19, s20, s21, s22]) p := by
  have lt : (toldT s).length = s := by simp [toldT]
  have kl : kBi .len [.lst (toldT s)] p = .ok (.int (s : Int)) p := by rw [kBi_lenL, lt]
  have cf := compL_fm (f := fC (callF ft gt lvl) gt (.var 4) (.name 4) (.cons b_law_8 .nil) [none, some .pool, some (.int (s : Int)), some (.lst (toldT s)), s4.see, s5.see, s6.see, s7.see, s8.see, s9.see, s10.see, s11.see, s12.see, s13.see, s14.see, s15.see, s16.see, s17.see, s18.see, s19.see, s20.see, s21.see, s22.see]) (g := fun _ => none) (p := p) (xs := toldT s) (acc := []) (fun x hx => by
    unfold toldT at hx
    obtain ⟨i, _, rfl⟩ := List.mem_map.mp hx
    generalize toldT s = TT at *
    unfold rowT
    simp [b_law_8]) (by rw [lt, sizeLine_eq]; simp; omega)
  have nil : (toldT s).filterMap (fun _ => (none : Option D)) = [] := by simp
  rw [nil, List.append_nil] at cf
  generalize toldT s = TT at *
  simp [prt, lawB, escE, escB, escBs, Tg.own, kl, cf]
theorem stg3 (s : Nat) (s4 s5 s6 s7 s8 s9 s10 s11 s12 s13 s14 s15 s16 s17 s18 s19 s20 s21 s22 : Sl) (p : PSt) : execS (callF ft gt lvl) gt (prt 3 lawB) [.no, .val .pool, .val (.int (s : Int)), .val (.lst (toldT s)), s4, s5, s6, s7, s8, s9, s10, s11, s12, s13, s14, s15, s16, s17, s18, s19, s20, s21, s22] p = .ok (.nx [.no, .val .pool, .val (.int (s : Int)), .val (.lst (toldT s)), s4, .val (encPc (plS 0)), s6, s7, s8, s9, s10, s11, s12, s13, s14, s15, s16, s17, s18, s19, s20, s21, s22]) p := by
  have k4 := kDt4_eq (p := p) (.tup [.int 0, .int 0]) (.lst []) (.tup [.int 0, .int 1]) (.lst []) rfl rfl
  have e : D.dict true (dputK [.tup [.int 0, .int 0]] (.tup [.int 0, .int 1])) (dputV [.tup [.int 0, .int 0]] [.lst []] (.tup [.int 0, .int 1]) (.lst [])) = encPc (plS 0) := rfl
  rw [e] at k4
  generalize encPc (plS 0) = PC at *
  generalize toldT s = TT at *
  simp [prt, lawB, escE, escB, escBs, Tg.own, k4]
theorem stg4 (s : Nat) (s4 s6 s7 s8 s9 s10 s11 s12 s13 s14 s15 s16 s17 s18 s19 s20 s21 s22 : Sl) (p : PSt) : execS (callF ft gt lvl) gt (prt 4 lawB) [.no, .val .pool, .val (.int (s : Int)), .val (.lst (toldT s)), s4, .val (encPc (plS 0)), s6, s7, s8, s9, s10, s11, s12, s13, s14, s15, s16, s17, s18, s19, s20, s21, s22] p = .ok (.nx [.no, .val .pool, .val (.int (s : Int)), .val (.lst (toldT s)), s4, .val (encPc (plS 0)), .own (.lst (laysT s 0)), s7, s8, s9, s10, s11, s12, s13, s14, s15, s16, s17, s18, s19, s20, s21, s22]) p := by
  rw [show laysT s 0 = [] from rfl]
  generalize encPc (plS 0) = PC at *
  generalize toldT s = TT at *
  simp [prt, lawB, escE, escB, escBs, Tg.own]
theorem keys_sorted (a : Nat) : sortD (.lst ((plS a).map fun q => encP q.1)) = some (.lst ((plS a).map fun q => encP q.1)) := by
  have e : (plS a).map (fun q => encP q.1) = [encP (0, 0), encP (0, 1)] := rfl
  rw [e]
  have so : sortOk [encP (0, 0), encP (0, 1)] = true := by kernel_rfl
  show (if sortOk [encP (0, 0), encP (0, 1)] = true then some (D.lst ([encP (0, 0), encP (0, 1)].mergeSort leD)) else none) = _
  rw [if_pos so]
  congr 2
  refine List.mergeSort_of_pairwise ?_
  have le : leD (encP (0, 0)) (encP (0, 1)) = true := by kernel_rfl
  simp [le]
theorem plS_succ (a : Nat) : plS (a + 1) = [((0, 0), lyA a ++ [(((a : Int), 0, 0), (false, false))]), ((0, 1), lyB a ++ [(((a : Int), 0, 1), (false, false))])] := by
  unfold plS lyA lyB
  rw [List.range_succ, List.map_append, List.map_append]
  rfl
theorem flat_1 (a : Nat) : flatPl (a : Int) 1 2 = [((0, 0), [(((a : Int), 0, 0), (false, false))]), ((0, 1), [(((a : Int), 0, 1), (false, false))])] := rfl
theorem addLs (x y : List Ly) (h : x.length + y.length ≤ 10000) (p : PSt) : kB2 .add (encLs x) (encLs y) p = .ok (encLs (x ++ y)) p := by
  unfold encLs
  rw [kB2_lst (by rw [List.length_map, List.length_map, sizeLine_eq]; omega), List.map_append]
theorem x_sheet {s a : Nat} (hs : s ≤ 20) (ha : a < s) (s4 s7 s8 s9 s10 s11 s12 s13 s14 s15 s16 s17 s18 s19 s20 s21 s22 : Sl) (p : PSt) :
    fF (callF ft gt lvl) gt (.name 7) b_law_7 (.int (a : Int)) [.no, .val .pool, .val (.int (s : Int)), .val (.lst (toldT s)), s4, .val (encPc (plS a)), .own (.lst (laysT s a)), s7, s8, s9, s10, s11, s12, s13, s14, s15, s16, s17, s18, s19, s20, s21, s22] p = .ok (.nx [.no, .val .pool, .val (.int (s : Int)), .val (.lst (toldT s)), s4, .val (encPc (plS (a + 1))), .own (.lst (laysT s (a + 1))), .val (.int (a : Int)), s8, .val (.int (4 * (s : Int) - 2 * a)), .val (.int (2 * (a : Int) + 1)), .val (.int (2 * (a : Int) + 2)), .val (.int (4 * (s : Int) - 2 * a - 1)), .val (encPc (flatPl (a : Int) 1 2)), s14, s15, s16, s17, s18, s19, s20, s21, s22]) p := by
  have ix : idxD (.lst (toldT s)) (.int (a : Int)) = some (rowT s a) := by
    show atI _ _ = _
    refine atI_nat' ?_
    unfold toldT
    rw [List.getElem?_map, List.getElem?_range ha]
    rfl
  have cf := compL_filt (f := fC (callF ft gt lvl) gt (.var 8) (.name 8) (.cons b_law_6 .nil) [none, some .pool, some (.int (s : Int)), some (.lst (toldT s)), s4.see, some (encPc (plS a)), some (.lst (laysT s a)), some (.int (a : Int)), s8.see, s9.see, s10.see, s11.see, s12.see, s13.see, s14.see, s15.see, s16.see, s17.see, s18.see, s19.see, s20.see, s21.see, s22.see]) (enc := D.int) (g := D.int) (q := fun _ => false) (p := p) (L := [4 * (s : Int) - 2 * a, 2 * (a : Int) + 1, 2 * (a : Int) + 2, 4 * (s : Int) - 2 * a - 1]) (fun i _ => by
    have ci := c_integer (gt := gt) h_integer 199 (d := .int i) rfl p
    have ci : callF ft gt lvl "_law_is_integer" [.int i] p = _ := ci
    generalize encPc (plS a) = PC at *
    generalize toldT s = TT at *
    generalize laysT s a = LL at *
    simp [b_law_6, ci, PD.isInt]) (by rw [sizeLine_eq]; simp)
  have cf : compL (fC (callF ft gt lvl) gt (.var 8) (.name 8) (.cons b_law_6 .nil) [none, some .pool, some (.int (s : Int)), some (.lst (toldT s)), s4.see, some (encPc (plS a)), some (.lst (laysT s a)), some (.int (a : Int)), s8.see, s9.see, s10.see, s11.see, s12.see, s13.see, s14.see, s15.see, s16.see, s17.see, s18.see, s19.see, s20.see, s21.see, s22.see]) [.int (4 * (s : Int) - 2 * a), .int (2 * (a : Int) + 1), .int (2 * (a : Int) + 2), .int (4 * (s : Int) - 2 * a - 1)] [] p = .ok (.lst []) p := cf
  have asg : ∀ env : SEnv, kAsg [9, 10, 11, 12] env (rowT s a) p = .ok (.nx (setSs env [9, 10, 11, 12] [.int (4 * (s : Int) - 2 * a), .int (2 * (a : Int) + 1), .int (2 * (a : Int) + 2), .int (4 * (s : Int) - 2 * a - 1)])) p := fun env => kAsg_tup _ _ rfl
  have ap := fun (env : SEnv) => appK_eq (env := env) (p := p) 6 (laysT s a) (layT s a) (by unfold laysT; rw [List.length_map, List.length_range, sizeLine_eq]; omega)
  have es : laysT s a ++ [layT s a] = laysT s (a + 1) := by
    unfold laysT
    rw [List.range_succ, List.map_append]
    rfl
  rw [es] at ap
  have fl := c_flat (gt := gt) h_flat (a : Int) 1 2 (by decide) (by decide) (by decide) 199 p
  have fl : callF ft gt lvl "_law_flat" [.int (a : Int), .tup [.int 1, .int 2]] p = .ok (encPc (flatPl (a : Int) 1 2)) p := fl
  have nd1 : ((plS a).map (·.1)).Nodup := (plS_grid a).nd
  have nd2 : ((flatPl (a : Int) 1 2).map (·.1)).Nodup := by rw [flat_1]; show [((0 : Int), (0 : Int)), (0, 1)].Nodup; decide
  have ks := keys_sorted a
  have cm := compL_map (f := fC (callF ft gt lvl) gt b_law_5 (.name 14) .nil [none, some .pool, some (.int (s : Int)), some (.lst (toldT s)), s4.see, some (encPc (plS a)), some (.lst (laysT s (a + 1))), some (.int (a : Int)), s8.see, some (.int (4 * (s : Int) - 2 * a)), some (.int (2 * (a : Int) + 1)), some (.int (2 * (a : Int) + 2)), some (.int (4 * (s : Int) - 2 * a - 1)), some (encPc (flatPl (a : Int) 1 2)), s14.see, s15.see, s16.see, s17.see, s18.see, s19.see, s20.see, s21.see, s22.see]) (enc := fun q : (Int × Int) × List Ly × List Ly => encP q.1) (g := fun q => .tup [encP q.1, encLs (q.2.1 ++ q.2.2)]) (p := p) (L := [((0, 0), lyA a, [(((a : Int), 0, 0), (false, false))]), ((0, 1), lyB a, [(((a : Int), 0, 1), (false, false))])]) (fun q hq => by
    have i1 : idxD (encPc (plS a)) (encP q.1) = some (encLs q.2.1) := idx_pc nd1 (by
      unfold plS
      simp only [List.mem_cons, List.not_mem_nil, or_false] at hq ⊢
      rcases hq with rfl | rfl <;> simp)
    have i2 : idxD (encPc (flatPl (a : Int) 1 2)) (encP q.1) = some (encLs q.2.2) := idx_pc nd2 (by
      rw [flat_1]
      simp only [List.mem_cons, List.not_mem_nil, or_false] at hq ⊢
      rcases hq with rfl | rfl <;> simp)
    have ad := addLs q.2.1 q.2.2 (by
      simp only [List.mem_cons, List.not_mem_nil, or_false] at hq
      rcases hq with rfl | rfl
      · show (lyA a).length + 1 ≤ _
        rw [lyA_len]; omega
      · show (lyB a).length + 1 ≤ _
        rw [lyB_len]; omega) p
    generalize encLs (q.2.1 ++ q.2.2) = R at *
    generalize encLs q.2.1 = R1 at *
    generalize encLs q.2.2 = R2 at *
    generalize encP q.1 = KK at *
    generalize encPc (plS a) = PC at *
    generalize encPc (flatPl (a : Int) 1 2) = FP at *
    generalize toldT s = TT at *
    generalize laysT s (a + 1) = LL at *
    simp [b_law_5, i1, i2, ad]) (by rw [sizeLine_eq]; simp)
  have cm : compL (fC (callF ft gt lvl) gt b_law_5 (.name 14) .nil [none, some .pool, some (.int (s : Int)), some (.lst (toldT s)), s4.see, some (encPc (plS a)), some (.lst (laysT s (a + 1))), some (.int (a : Int)), s8.see, some (.int (4 * (s : Int) - 2 * a)), some (.int (2 * (a : Int) + 1)), some (.int (2 * (a : Int) + 2)), some (.int (4 * (s : Int) - 2 * a - 1)), some (encPc (flatPl (a : Int) 1 2)), s14.see, s15.see, s16.see, s17.see, s18.see, s19.see, s20.see, s21.see, s22.see]) ((plS a).map fun q => encP q.1) [] p = .ok (.lst ((plS (a + 1)).map fun e => .tup [encP e.1, encLs e.2])) p := by
    rw [plS_succ]
    exact cm
  have pa := pairs_al (t := true) (ev := encLs) keq_P isKey_P (al := plS (a + 1)) (plS_grid (a + 1)).nd (by rw [sizeLine_eq]; exact (by show 2 ≤ 16777216; decide))
  have pa : pairsD true (.lst ((plS (a + 1)).map fun e => .tup [encP e.1, encLs e.2])) = some (encPc (plS (a + 1))) := pa
  have kl : kBi .list [encPc (plS a)] p = .ok (.lst ((plS a).map fun q => encP q.1)) p := by simp
  clear nd1 nd2 es
  have el : layT s a = .tup [.tup [.tup [.tup [.int (2 * (a : Int) + 2), .int 0], .tup [.int (4 * (s : Int) - 2 * a - 1), .int 0]]], .tup [.tup [.tup [.int (4 * (s : Int) - 2 * a), .int 0], .tup [.int (2 * (a : Int) + 1), .int 0]]]] := rfl
  rw [el] at ap
  have er : rowT s a = .tup [.int (4 * (s : Int) - 2 * a), .int (2 * (a : Int) + 1), .int (2 * (a : Int) + 2), .int (4 * (s : Int) - 2 * a - 1)] := rfl
  rw [er] at ix asg
  generalize (plS (a + 1)).map (fun e => D.tup [encP e.1, encLs e.2]) = PR at *
  generalize (plS a).map (fun q => encP q.1) = KS at *
  generalize encPc (plS (a + 1)) = P2 at *
  generalize encPc (plS a) = P1 at *
  generalize encPc (flatPl (a : Int) 1 2) = FP at *
  generalize toldT s = TT at *
  generalize laysT s (a + 1) = L2 at *
  generalize laysT s a = L1 at *
  generalize 4 * (s : Int) - 2 * a = v1 at *
  generalize 2 * (a : Int) + 1 = v2 at *
  generalize 2 * (a : Int) + 2 = v3 at *
  simp [b_law_7, escE, escB, escBs, Tg.own, ix, cf, asg, setSs, ap, fl, kl, ks, cm, pa]
theorem x_sheets {s : Nat} (hs : s ≤ 20) (s4 s8 s14 s15 s16 s17 s18 s19 s20 s21 s22 : Sl) (p : PSt) : ∀ (d a : Nat) (s7 s9 s10 s11 s12 s13 : Sl), a + d = s →
    ∃ t7 t9 t10 t11 t12 t13, forL (fF (callF ft gt lvl) gt (.name 7) b_law_7) (rangeL (a : Int) d) [.no, .val .pool, .val (.int (s : Int)), .val (.lst (toldT s)), s4, .val (encPc (plS a)), .own (.lst (laysT s a)), s7, s8, s9, s10, s11, s12, s13, s14, s15, s16, s17, s18, s19, s20, s21, s22] p = .ok (.nx [.no, .val .pool, .val (.int (s : Int)), .val (.lst (toldT s)), s4, .val (encPc (plS s)), .own (.lst (laysT s s)), t7, s8, t9, t10, t11, t12, t13, s14, s15, s16, s17, s18, s19, s20, s21, s22]) p
  | 0, a, s7, s9, s10, s11, s12, s13, e => ⟨s7, s9, s10, s11, s12, s13, by
    have e : a = s := by omega
    subst e
    rfl⟩
  | d + 1, a, s7, s9, s10, s11, s12, s13, e => by
    have stp := x_sheet hs (a := a) (by omega) s4 s7 s8 s9 s10 s11 s12 s13 s14 s15 s16 s17 s18 s19 s20 s21 s22 p
    obtain ⟨t7, t9, t10, t11, t12, t13, h⟩ := x_sheets hs s4 s8 s14 s15 s16 s17 s18 s19 s20 s21 s22 p d (a + 1) (.val (.int (a : Int))) (.val (.int (4 * (s : Int) - 2 * a))) (.val (.int (2 * (a : Int) + 1))) (.val (.int (2 * (a : Int) + 2))) (.val (.int (4 * (s : Int) - 2 * a - 1))) (.val (encPc (flatPl (a : Int) 1 2))) (by omega)
    refine ⟨t7, t9, t10, t11, t12, t13, ?_⟩
    rw [rangeL_succ, forL_cons, stp, forK_nx]
    exact h
theorem stg5 {s : Nat} (hs : s ≤ 20) (s4 s7 s8 s9 s10 s11 s12 s13 s14 s15 s16 s17 s18 s19 s20 s21 s22 : Sl) (p : PSt) : ∃ t7 t9 t10 t11 t12 t13, execS (callF ft gt lvl) gt (prt 5 lawB) [.no, .val .pool, .val (.int (s : Int)), .val (.lst (toldT s)), s4, .val (encPc (plS 0)), .own (.lst (laysT s 0)), s7, s8, s9, s10, s11, s12, s13, s14, s15, s16, s17, s18, s19, s20, s21, s22] p = .ok (.nx [.no, .val .pool, .val (.int (s : Int)), .val (.lst (toldT s)), s4, .val (encPc (plS s)), .own (.lst (laysT s s)), t7, s8, t9, t10, t11, t12, t13, s14, s15, s16, s17, s18, s19, s20, s21, s22]) p := by
  obtain ⟨t7, t9, t10, t11, t12, t13, e⟩ := x_sheets hs s4 s8 s14 s15 s16 s17 s18 s19 s20 s21 s22 p s 0 s7 s9 s10 s11 s12 s13 (by omega)
  have kr : kRng1 (.int (s : Int)) p = .ok (.lst (rangeL ((0 : Nat) : Int) s)) p := by rw [kRng1_eq (in62_small (by omega)), Int.toNat_natCast]; rfl
  refine ⟨t7, t9, t10, t11, t12, t13, ?_⟩
  generalize rangeL ((0 : Nat) : Int) s = RL at *
  generalize encPc (plS s) = P1 at *
  generalize encPc (plS 0) = P0 at *
  generalize laysT s s = L1 at *
  generalize laysT s 0 = L0 at *
  generalize toldT s = TT at *
  simp [prt, lawB, escE, escB, escBs, kr, e]
theorem stg6 {s : Nat} (hs : s ≤ 20) (s4 s7 s8 s9 s10 s11 s12 s13 s14 s16 s17 s18 s19 s20 s21 s22 s15 : Sl) (p : PSt) : execS (callF ft gt lvl) gt (prt 6 lawB) [.no, .val .pool, .val (.int (s : Int)), .val (.lst (toldT s)), s4, .val (encPc (plS s)), .own (.lst (laysT s s)), s7, s8, s9, s10, s11, s12, s13, s14, s15, s16, s17, s18, s19, s20, s21, s22] p = .ok (.nx [.no, .val .pool, .val (.int (s : Int)), .val (.lst (toldT s)), s4, .val (encPc (plS s)), .own (.lst (laysT s s)), s7, s8, s9, s10, s11, s12, s13, s14, .val (encLs (pileS s)), s16, s17, s18, s19, s20, s21, s22]) p := by
  obtain ⟨d, e, ix⟩ := c_foldS 197 (s := s) (by omega) p
  have e : callF ft gt lvl "_law_folded" [encPc (plS s), .tup [.str "column", .int 1, .str "low", .str "over"]] p = .ok d p := e
  generalize encLs (pileS s) = PI at *
  generalize encPc (plS s) = P1 at *
  generalize laysT s s = L1 at *
  generalize toldT s = TT at *
  by_cases cl : D.clean PI = true <;> simp [prt, lawB, escE, escB, escBs, e, ix, cl]
theorem stg7 {s : Nat} (hs : s ≤ 20) (s4 s7 s8 s9 s10 s11 s12 s13 s14 s17 s18 s19 s20 s21 s22 s16 : Sl) (p : PSt) : execS (callF ft gt lvl) gt (prt 7 lawB) [.no, .val .pool, .val (.int (s : Int)), .val (.lst (toldT s)), s4, .val (encPc (plS s)), .own (.lst (laysT s s)), s7, s8, s9, s10, s11, s12, s13, s14, .val (encLs (pileS s)), s16, s17, s18, s19, s20, s21, s22] p = .ok (.nx [.no, .val .pool, .val (.int (s : Int)), .val (.lst (toldT s)), s4, .val (encPc (plS s)), .own (.lst (laysT s s)), s7, s8, s9, s10, s11, s12, s13, s14, .val (encLs (pileS s)), (.val (.lst ((List.range' 1 (4 * s)).map pgD))), s17, s18, s19, s20, s21, s22]) p := by
  have lp : (pileS s).length ≤ 1000 := by
    unfold pileS
    rw [List.length_append, turnL_len, lyA_len, lyB_len]
    omega
  have cf := c_lfaces 199 (pileS s) (by omega) p
  rw [facesT_eq] at cf
  have cf : callF ft gt lvl "_law_faces" [encLs (pileS s)] p = .ok (.lst ((facesT s).map encFT)) p := cf
  have xf := x_faces (s := s) (by omega) [none, some .pool, some (.int (s : Int)), some (.lst (toldT s)), s4.see, some (encPc (plS s)), some (.lst (laysT s s)), s7.see, s8.see, s9.see, s10.see, s11.see, s12.see, s13.see, s14.see, some (encLs (pileS s)), s16.see, s17.see, s18.see, s19.see, s20.see, s21.see, s22.see] rfl (by simp) p
  generalize (List.range' 1 (4 * s)).map pgD = PG at *
  generalize (facesT s).map encFT = FTL at *
  generalize encLs (pileS s) = PI at *
  generalize encPc (plS s) = P1 at *
  generalize laysT s s = L1 at *
  generalize toldT s = TT at *
  simp [prt, lawB, escE, escB, escBs, Tg.own, cf, xf]
theorem stg8 {s : Nat} (hs : s ≤ 20) (s4 s7 s8 s9 s10 s11 s12 s13 s14 s17 s18 s19 s20 s21 s22 : Sl) (p : PSt) : execS (callF ft gt lvl) gt (prt 8 lawB) [.no, .val .pool, .val (.int (s : Int)), .val (.lst (toldT s)), s4, .val (encPc (plS s)), .own (.lst (laysT s s)), s7, s8, s9, s10, s11, s12, s13, s14, .val (encLs (pileS s)), (.val (.lst ((List.range' 1 (4 * s)).map pgD))), s17, s18, s19, s20, s21, s22] p = .ok (.nx [.no, .val .pool, .val (.int (s : Int)), .val (.lst (toldT s)), s4, .val (encPc (plS s)), .own (.lst (laysT s s)), s7, s8, s9, s10, s11, s12, s13, s14, .val (encLs (pileS s)), (.val (.lst ((List.range' 1 (4 * s)).map pgD))), s17, s18, s19, s20, s21, s22]) p := by
  have mu := mul_sm (i := 4) (j := (s : Int)) (by omega) p
  have kr : kRng2b (.int 1) (.int (4 * (s : Int) + 1)) p = .ok (.lst ((List.range' 1 (4 * s)).map fun i : Nat => D.int (i : Int))) p := by
    rw [kRng2b_eq (by rw [in62_small (by decide), in62_small (by omega)]; rfl), show ((4 * (s : Int) + 1) - 1).toNat = 4 * s by omega]
    congr 2
    unfold rangeL
    rw [List.range'_eq_map_range, List.map_map]
    refine List.map_congr_left fun k _ => ?_
    show D.int (1 + (k : Int)) = D.int ((1 + k : Nat) : Int)
    congr 1
  have cm := compL_map (f := fC (callF ft gt lvl) gt b_law_3 (.name 8) .nil [none, some .pool, some (.int (s : Int)), some (.lst (toldT s)), s4.see, some (encPc (plS s)), some (.lst (laysT s s)), s7.see, s8.see, s9.see, s10.see, s11.see, s12.see, s13.see, s14.see, some (encLs (pileS s)), some (.lst ((List.range' 1 (4 * s)).map pgD)), s17.see, s18.see, s19.see, s20.see, s21.see, s22.see]) (enc := fun i : Nat => D.int (i : Int)) (g := pgD) (p := p) (L := List.range' 1 (4 * s)) (fun i _ => by
    unfold pgD
    generalize (List.range' 1 (4 * s)).map (fun n : Nat => D.tup [.int (n : Int), .int 0]) = PG at *
    generalize encLs (pileS s) = PI at *
    generalize encPc (plS s) = P1 at *
    generalize laysT s s = L1 at *
    generalize toldT s = TT at *
    simp [b_law_3]) (by rw [List.length_range', sizeLine_eq]; omega)
  have ne := pg_ne (List.range' 1 (4 * s)) p
  generalize (List.range' 1 (4 * s)).map pgD = PG at *
  generalize (List.range' 1 (4 * s)).map (fun i : Nat => D.int (i : Int)) = RI at *
  generalize encLs (pileS s) = PI at *
  generalize encPc (plS s) = P1 at *
  generalize laysT s s = L1 at *
  generalize toldT s = TT at *
  simp [prt, lawB, escE, escB, escBs, Tg.own, mu, kr, cm, ne]
theorem stg9 {s : Nat} (s3 s4 s5 s6 s7 s8 s9 s10 s11 s12 s13 s14 s15 s16 s17 s19 s20 s21 s22 s18 : Sl) {p : PSt} (hp : PG p) : ∃ (t : Nat) (p' : PSt), PG p' ∧ t < 9 ∧ execS (callF ft gt lvl) gt (prt 9 lawB) [.no, .val .pool, .val (.int (s : Int)), s3, s4, s5, s6, s7, s8, s9, s10, s11, s12, s13, s14, s15, s16, s17, s18, s19, s20, s21, s22] p = .ok (.nx [.no, .val .pool, .val (.int (s : Int)), s3, s4, s5, s6, s7, s8, s9, s10, s11, s12, s13, s14, s15, s16, s17, .val (.int (t : Int)), s19, s20, s21, s22]) p' := by
  obtain ⟨a, p1, e1, ha, hp1⟩ := draw_l (n := 9) (by decide) (by decide) hp
  refine ⟨a, p1, hp1, by omega, ?_⟩
  simp [prt, lawB, escE, escB, escBs, e1]
theorem stg10 {s t : Nat} (hs : s ≤ 20) (ht : t < 9) (s3 s4 s5 s6 s7 s8 s9 s10 s11 s12 s13 s14 s15 s16 s17 s20 s21 s22 s19 : Sl) (p : PSt) : execS (callF ft gt lvl) gt (prt 10 lawB) [.no, .val .pool, .val (.int (s : Int)), s3, s4, s5, s6, s7, s8, s9, s10, s11, s12, s13, s14, s15, s16, s17, .val (.int (t : Int)), s19, s20, s21, s22] p = .ok (.nx [.no, .val .pool, .val (.int (s : Int)), s3, s4, s5, s6, s7, s8, s9, s10, s11, s12, s13, s14, s15, s16, s17, .val (.int (t : Int)), .val (.int (((s : Int) - 1) * t)), s20, s21, s22]) p := by
  have mu := mul_sm (i := (s : Int) - 1) (j := (t : Int)) (by omega) p
  simp [prt, lawB, escE, escB, escBs, mu]
/-! ### the creep -/
def crL (s : Nat) (t w : Int) : List Int := (List.range s).map fun i : Nat => w - (i : Int) * t
theorem c_creep (m : Nat) {s : Nat} (hs : s ≤ 1000) {t w most : Int} (ht : t.natAbs ≤ 1000) (p : PSt) :
    callF ft gt (m + 1) "creep" [.int s, .int t, .int w, .int most] p = if ((s : Int) - 1) * t > most then .exc "TooThick" [.int s] p else .ok (encIsL (crL s t w)) p := by
  rw [callF_succ h_creep, run_eq rfl]
  have mu := mul_sm (i := (s : Int) - 1) (j := t) (by omega) p
  have kr : kRng1 (.int (s : Int)) p = .ok (.lst ((List.range s).map fun i : Nat => D.int (i : Int))) p := by rw [kRng1_eq (in62_small (by omega)), Int.toNat_natCast, rangeL_zero]
  have cm := compL_map (f := fC (callF ft gt m) gt b_creep_1 (.name 4) .nil [some (.int (s : Int)), some (.int t), some (.int w), some (.int most), none]) (enc := fun i : Nat => D.int (i : Int)) (g := fun i : Nat => D.int (w - (i : Int) * t)) (p := p) (L := List.range s) (fun i hi => by
    have m2 := mul_sm (i := (i : Int)) (j := t) (by omega) p
    simp [b_creep_1, m2]) (by rw [List.length_range, sizeLine_eq]; omega)
  have el : encIsL (crL s t w) = .lst ((List.range s).map fun i : Nat => D.int (w - (i : Int) * t)) := by
    unfold encIsL crL
    rw [List.map_map]
    rfl
  rw [el]
  generalize ((List.range s).map fun i : Nat => D.int (w - (i : Int) * t)) = R at *
  generalize ((List.range s).map fun i : Nat => D.int (i : Int)) = RL at *
  generalize ((s : Int) - 1) * t = PU at *
  by_cases c : PU > most
  · have c' : most < PU := c
    have cl : clsB gt "TooThick" = true := by kernel_rfl
    have ow : ownB "TooThick" = true := by kernel_rfl
    rw [if_pos c]
    simp [txf_creep, escE, escB, escBs, mu, c', cl, ow]
  · have c' : ¬ most < PU := c
    rw [if_neg c]
    simp [txf_creep, escE, escB, escBs, Tg.own, mu, c', kr, cm]
def crD (s : Nat) (t w most : Int) : D := if ((s : Int) - 1) * t > most then .str "thick" else .tup [.str "told", encIsL (crL s t w)]
theorem hds_ok : hdsOk gt [("TooThick", HE.ite (.and (.isi "ShopError") (.and (.isi "ValueError") (.not (.isi "BadFold")))) (.c (.str "thick")) (.c (.str "other")))] = true := by kernel_rfl
theorem c_lcreep (m : Nat) {s : Nat} (hs : s ≤ 1000) {t w most : Int} (ht : t.natAbs ≤ 1000) (p : PSt) :
    callF ft gt (m + 2) "_law_creep" [.int s, .int t, .int w, .int most] p = .ok (crD s t w most) p := by
  rw [callF_succ h_lcreep, run_eq rfl]
  have cc := c_creep m hs (t := t) (w := w) (most := most) ht p
  have tk := tryK_exc (gt := gt) (p := p) (c := "TooThick") (hds := [("TooThick", HE.ite (.and (.isi "ShopError") (.and (.isi "ValueError") (.not (.isi "BadFold")))) (.c (.str "thick")) (.c (.str "other")))]) (d := .str "thick") [.int (s : Int)] cls_thick (by kernel_rfl)
  have hk := hds_ok
  unfold crD
  generalize encIsL (crL s t w) = R at *
  generalize ((s : Int) - 1) * t = PU at *
  by_cases c : PU > most
  · rw [if_pos c] at cc ⊢
    simp [txf_law_creep, escE, escB, escBs, hk, cc, tk]
  · rw [if_neg c] at cc ⊢
    simp [txf_law_creep, escE, escB, escBs, hk, cc]
theorem crD_fine {s : Nat} (hs : s ≤ 1000) (t w most : Int) : D.fine 3 (crD s t w most) = true := by
  unfold crD
  split
  · unfold D.fine; decide +kernel
  · unfold D.fine
    simp only [Bool.and_eq_true, decide_eq_true_eq]
    refine ⟨by rw [sizeLine_eq]; simp, fineL_of fun x hx => ?_⟩
    simp only [List.mem_cons, List.not_mem_nil, or_false] at hx
    rcases hx with rfl | rfl
    · unfold D.fine; decide +kernel
    · exact fine_IsL 1 (by unfold crL; rw [List.length_map, List.length_range, sizeLine_eq]; omega)
theorem x_most {s t : Nat} (hs : s ≤ 20) (ht : t < 9) (most : Int) (s3 s4 s5 s6 s7 s8 s9 s10 s11 s12 s13 s14 s15 s16 s17 s20 s21 s22 : Sl) {p : PSt} (hp : PG p) : ∃ p' t7 t20 t21 t22, PG p' ∧ fF (callF ft gt lvl) gt (.name 20) b_law_2 (.int most) [.no, .val .pool, .val (.int (s : Int)), s3, s4, s5, s6, s7, s8, s9, s10, s11, s12, s13, s14, s15, s16, s17, .val (.int (t : Int)), .val (.int (((s : Int) - 1) * t)), s20, s21, s22] p = .ok (.nx [.no, .val .pool, .val (.int (s : Int)), s3, s4, s5, s6, t7, s8, s9, s10, s11, s12, s13, s14, s15, s16, s17, .val (.int (t : Int)), .val (.int (((s : Int) - 1) * t)), t20, t21, t22]) p' := by
  by_cases c : 0 ≤ most
  · obtain ⟨a, p1, e1, ha, hp1⟩ := draw_l (n := 100) (by decide) (by decide) hp
    have lc := c_lcreep 198 (s := s) (by omega) (t := (t : Int)) (w := most + a) (most := most) (by omega) p1
    have lc : callF ft gt lvl "_law_creep" [.int (s : Int), .int (t : Int), .int (most + a), .int most] p1 = _ := lc
    have sm := same_refl (gt := gt) h_same 3 (crD s (t : Int) (most + a) most) (crD_fine (by omega) _ _ _) 196 p1
    have sm : callF ft gt lvl "_law_same" [crD s (t : Int) (most + a) most, crD s (t : Int) (most + a) most] p1 = _ := sm
    have kr : kRng1 (.int (s : Int)) p1 = .ok (.lst ((List.range s).map fun i : Nat => D.int (i : Int))) p1 := by rw [kRng1_eq (in62_small (by omega)), Int.toNat_natCast, rangeL_zero]
    have cm := compL_map (f := fC (callF ft gt lvl) gt b_law_1 (.name 7) .nil [none, some .pool, some (.int (s : Int)), s3.see, s4.see, s5.see, s6.see, s7.see, s8.see, s9.see, s10.see, s11.see, s12.see, s13.see, s14.see, s15.see, s16.see, s17.see, some (.int (t : Int)), some (.int (((s : Int) - 1) * t)), some (.int most), some (.int (most + a)), s22.see]) (enc := fun i : Nat => D.int (i : Int)) (g := fun i : Nat => D.int (most + a - (i : Int) * t)) (p := p1) (L := List.range s) (fun i hi => by
      have m2 := mul_sm (i := (i : Int)) (j := (t : Int)) (by omega) p1
      simp [b_law_1, m2]) (by rw [List.length_range, sizeLine_eq]; omega)
    have el : encIsL (crL s (t : Int) (most + a)) = .lst ((List.range s).map fun i : Nat => D.int (most + a - (i : Int) * t)) := by
      unfold encIsL crL
      rw [List.map_map]
      rfl
    refine ⟨p1, s7, .val (.int most), .val (.int (most + a)), .val (crD s (t : Int) (most + a) most), hp1, ?_⟩
    unfold crD at *
    simp only [el] at lc sm ⊢
    clear el
    generalize ((List.range s).map fun i : Nat => D.int (most + a - (i : Int) * t)) = R at *
    generalize ((List.range s).map fun i : Nat => D.int (i : Int)) = RL at *
    generalize ((s : Int) - 1) * t = PU at *
    by_cases c2 : PU > most
    · have c3 : most < PU := c2
      rw [if_pos c2] at *
      simp [b_law_2, escE, escB, escBs, Tg.own, c, c3, e1, lc, sm]
    · have c3 : ¬ most < PU := c2
      rw [if_neg c2] at *
      simp [b_law_2, escE, escB, escBs, Tg.own, c, c3, e1, kr, cm, lc, sm]
  · refine ⟨p, s7, .val (.int most), s21, s22, hp, ?_⟩
    simp [b_law_2, escE, escB, escBs, c]
theorem x_mosts {s t : Nat} (hs : s ≤ 20) (ht : t < 9) (s3 s4 s5 s6 s8 s9 s10 s11 s12 s13 s14 s15 s16 s17 : Sl) : ∀ (ms : List Int) (s7 s20 s21 s22 : Sl) {p : PSt} (_ : PG p), ∃ p' t7 t20 t21 t22, PG p' ∧ forL (fF (callF ft gt lvl) gt (.name 20) b_law_2) (ms.map D.int) [.no, .val .pool, .val (.int (s : Int)), s3, s4, s5, s6, s7, s8, s9, s10, s11, s12, s13, s14, s15, s16, s17, .val (.int (t : Int)), .val (.int (((s : Int) - 1) * t)), s20, s21, s22] p = .ok (.nx [.no, .val .pool, .val (.int (s : Int)), s3, s4, s5, s6, t7, s8, s9, s10, s11, s12, s13, s14, s15, s16, s17, .val (.int (t : Int)), .val (.int (((s : Int) - 1) * t)), t20, t21, t22]) p'
  | [], s7, s20, s21, s22, p, hp => ⟨p, s7, s20, s21, s22, hp, rfl⟩
  | m :: ms, s7, s20, s21, s22, p, hp => by
    obtain ⟨p1, t7, t20, t21, t22, hp1, e1⟩ := x_most hs ht m s3 s4 s5 s6 s7 s8 s9 s10 s11 s12 s13 s14 s15 s16 s17 s20 s21 s22 hp
    obtain ⟨p2, u7, u20, u21, u22, hp2, e2⟩ := x_mosts hs ht s3 s4 s5 s6 s8 s9 s10 s11 s12 s13 s14 s15 s16 s17 ms t7 t20 t21 t22 hp1
    refine ⟨p2, u7, u20, u21, u22, hp2, ?_⟩
    rw [List.map_cons, forL_cons, e1, forK_nx, e2]
theorem stg11 {s t : Nat} (hs : s ≤ 20) (ht : t < 9) (s3 s4 s5 s6 s7 s8 s9 s10 s11 s12 s13 s14 s15 s16 s17 s20 s21 s22 : Sl) {p : PSt} (hp : PG p) : ∃ p' t7 t20 t21 t22, PG p' ∧ execS (callF ft gt lvl) gt (prt 11 lawB) [.no, .val .pool, .val (.int (s : Int)), s3, s4, s5, s6, s7, s8, s9, s10, s11, s12, s13, s14, s15, s16, s17, .val (.int (t : Int)), .val (.int (((s : Int) - 1) * t)), s20, s21, s22] p = .ok (.nx [.no, .val .pool, .val (.int (s : Int)), s3, s4, s5, s6, t7, s8, s9, s10, s11, s12, s13, s14, s15, s16, s17, .val (.int (t : Int)), .val (.int (((s : Int) - 1) * t)), t20, t21, t22]) p' := by
  obtain ⟨a, p1, e1, ha, hp1⟩ := draw_l (n := 100) (by decide) (by decide) hp
  obtain ⟨p2, t7, t20, t21, t22, hp2, e2⟩ := x_mosts hs ht s3 s4 s5 s6 s8 s9 s10 s11 s12 s13 s14 s15 s16 s17 [((s : Int) - 1) * t, ((s : Int) - 1) * t - 1, ((s : Int) - 1) * t + 3, (a : Int)] s7 s20 s21 s22 hp1
  refine ⟨p2, t7, t20, t21, t22, hp2, ?_⟩
  have e2 : forL (fF (callF ft gt lvl) gt (.name 20) b_law_2) [.int (((s : Int) - 1) * t), .int (((s : Int) - 1) * t - 1), .int (((s : Int) - 1) * t + 3), .int (a : Int)] [.no, .val .pool, .val (.int (s : Int)), s3, s4, s5, s6, s7, s8, s9, s10, s11, s12, s13, s14, s15, s16, s17, .val (.int (t : Int)), .val (.int (((s : Int) - 1) * t)), s20, s21, s22] p1 = _ := e2
  generalize ((s : Int) - 1) * t = PU at *
  simp [prt, lawB, escE, escB, escBs, e1, e2]
theorem law_ev (ns : List Int) (salt : Int) (hl : ns.length ≤ 63) : ∃ p', execS (callF ft gt lvl) gt lawB (.no :: .val .pool :: List.replicate (23 - 2) .no) ⟨ns, 0, 0, 0, salt⟩ = .ok (.rt (.bl true)) p' := by
  have hp : PG ⟨ns, 0, 0, 0, salt⟩ := Nat.zero_le _
  generalize (⟨ns, 0, 0, 0, salt⟩ : PSt) = p at hp ⊢
  obtain ⟨s, p1, hp1, s0, hs, e0⟩ := stg0 .no .no .no .no .no .no .no .no .no .no .no .no .no .no .no .no .no .no .no .no .no hp
  obtain ⟨t7, t9, t10, t11, t12, t13, e5⟩ := stg5 hs .no .no .no .no .no .no .no .no .no .no .no .no .no .no .no .no .no p1
  obtain ⟨t, p2, hp2, ht, e9⟩ := stg9 (s := s) (.val (.lst (toldT s))) .no (.val (encPc (plS s))) (.own (.lst (laysT s s))) t7 .no t9 t10 t11 t12 t13 .no (.val (encLs (pileS s))) (.val (.lst ((List.range' 1 (4 * s)).map pgD))) .no .no .no .no .no .no hp1
  obtain ⟨p3, u7, u20, u21, u22, hp3, e11⟩ := stg11 hs ht (.val (.lst (toldT s))) .no (.val (encPc (plS s))) (.own (.lst (laysT s s))) t7 .no t9 t10 t11 t12 t13 .no (.val (encLs (pileS s))) (.val (.lst ((List.range' 1 (4 * s)).map pgD))) .no .no .no .no hp2
  refine ⟨p3, ?_⟩
  have ev : (.no :: .val .pool :: List.replicate (23 - 2) .no : SEnv) = [.no, .val .pool, .no, .no, .no, .no, .no, .no, .no, .no, .no, .no, .no, .no, .no, .no, .no, .no, .no, .no, .no, .no, .no] := rfl
  rw [ev, rst_eq, e0, thn_nx, stg1 hs, thn_nx, stg2 hs, thn_nx, stg3, thn_nx, stg4, thn_nx, e5, thn_nx, stg6 hs, thn_nx, stg7 hs, thn_nx, stg8 hs, thn_nx, e9, thn_nx, stg10 hs ht, thn_nx, e11, thn_nx]
  simp [rst, lawB, escE, escB, escBs]
end PDL

namespace PDL
open PySem PySem.Spec PyProof.Rows L2 PD
def topS (i : Nat) : Stmt := PySem.Challenge.pw_foldandbound_k18_whole_nested_sections.main.body.getD i (.Pass ⟨0, 0, 0, 0⟩)
def fnNames : List Str := ft.map (·.1)
theorem ttf_nested_pages : TextIs fnNames (topS 5) txf_nested_pages := ⟨⟨["s", "many", "i"], ["s"], ⟨rfl, rfl, rfl, by decide +kernel, rfl, by decide +kernel, by decide +kernel⟩, rfl, rfl, by decide +kernel, fun _ _ _ _ _ _ _ us hl => match us, hl with | [_], _ => rfl⟩⟩
theorem ttf_creep : TextIs fnNames (topS 6) txf_creep := ⟨⟨["s", "t", "width", "most", "i"], ["s", "t", "width", "most"], ⟨rfl, rfl, rfl, by decide +kernel, rfl, by decide +kernel, by decide +kernel⟩, rfl, rfl, by decide +kernel, fun _ _ _ _ _ _ _ us hl => match us, hl with | [_, _, _, _], _ => rfl⟩⟩
theorem ttf_law_same : TextIs fnNames (topS 8) PD.txf_law_same := ⟨⟨["actual", "due", "k"], ["actual", "due"], ⟨rfl, rfl, rfl, by decide +kernel, rfl, by decide +kernel, by decide +kernel⟩, rfl, rfl, by decide +kernel, fun _ _ _ _ _ _ _ us hl => match us, hl with | [_, _], _ => rfl⟩⟩
theorem ttf_law_is_integer : TextIs fnNames (topS 9) PD.txf_law_is_integer := ⟨⟨["actual"], ["actual"], ⟨rfl, rfl, rfl, by decide +kernel, rfl, by decide +kernel, by decide +kernel⟩, rfl, rfl, by decide +kernel, fun _ _ _ _ _ _ _ us hl => match us, hl with | [_], _ => rfl⟩⟩
theorem ttf_law_spread : TextIs fnNames (topS 11) PD.txf_law_spread := ⟨⟨["cell", "mixed", "total", "k"], ["cell"], ⟨rfl, rfl, rfl, by decide +kernel, rfl, by decide +kernel, by decide +kernel⟩, rfl, rfl, by decide +kernel, fun _ _ _ _ _ _ _ us hl => match us, hl with | [_], _ => rfl⟩⟩
theorem ttf_law_draw : TextIs fnNames (topS 12) PD.txf_law_draw := ⟨⟨["pool", "many", "cell", "mixed", "value"], ["pool", "many"], ⟨rfl, rfl, rfl, by decide +kernel, rfl, by decide +kernel, by decide +kernel⟩, rfl, rfl, by decide +kernel, fun _ _ _ _ _ _ _ us hl => match us, hl with | [_, _], _ => rfl⟩⟩
theorem ttf_law_changed : TextIs fnNames (topS 13) txf_law_changed := ⟨⟨["face", "flip"], ["face", "flip"], ⟨rfl, rfl, rfl, by decide +kernel, rfl, by decide +kernel, by decide +kernel⟩, rfl, rfl, by decide +kernel, fun _ _ _ _ _ _ _ us hl => match us, hl with | [_, _], _ => rfl⟩⟩
theorem ttf_law_behind : TextIs fnNames (topS 14) txf_law_behind := ⟨⟨["lay", "row", "column", "side"], ["lay", "row", "column", "side"], ⟨rfl, rfl, rfl, by decide +kernel, rfl, by decide +kernel, by decide +kernel⟩, rfl, rfl, by decide +kernel, fun _ _ _ _ _ _ _ us hl => match us, hl with | [_, _, _, _], _ => rfl⟩⟩
theorem ttf_law_way_after : TextIs fnNames (topS 15) PD.txf_law_way_after := ⟨⟨["way", "motion", "across", "down"], ["way", "motion"], ⟨rfl, rfl, rfl, by decide +kernel, rfl, by decide +kernel, by decide +kernel⟩, rfl, rfl, by decide +kernel, fun _ _ _ _ _ _ _ us hl => match us, hl with | [_, _], _ => rfl⟩⟩
theorem ttf_law_flat : TextIs fnNames (topS 16) PD.txf_law_flat := ⟨⟨["number", "size", "found", "i", "j"], ["number", "size"], ⟨rfl, rfl, rfl, by decide +kernel, rfl, by decide +kernel, by decide +kernel⟩, rfl, rfl, by decide +kernel, fun _ _ _ _ _ _ _ us hl => match us, hl with | [_, _], _ => rfl⟩⟩
theorem ttf_law_turned_layers : TextIs fnNames (topS 17) PD.txf_law_turned_layers := ⟨⟨["layers", "motion", "found", "layer"], ["layers", "motion"], ⟨rfl, rfl, rfl, by decide +kernel, rfl, by decide +kernel, by decide +kernel⟩, rfl, rfl, by decide +kernel, fun _ _ _ _ _ _ _ us hl => match us, hl with | [_, _], _ => rfl⟩⟩
theorem ttf_law_folded : TextIs fnNames (topS 18) PD.txf_law_folded := ⟨⟨["places", "fold", "axis", "line", "part", "place", "moved", "kept", "i", "j", "at", "there", "layers", "found", "spot", "one", "two", "top", "left"], ["places", "fold"], ⟨rfl, rfl, rfl, by decide +kernel, rfl, by decide +kernel, by decide +kernel⟩, rfl, rfl, by decide +kernel, fun _ _ _ _ _ _ _ us hl => match us, hl with | [_, _], _ => rfl⟩⟩
theorem ttf_law_faces : TextIs fnNames (topS 19) txf_law_faces := ⟨⟨["pile", "found", "layer", "sheet", "row", "column", "across", "down", "up", "under"], ["pile"], ⟨rfl, rfl, rfl, by decide +kernel, rfl, by decide +kernel, by decide +kernel⟩, rfl, rfl, by decide +kernel, fun _ _ _ _ _ _ _ us hl => match us, hl with | [_], _ => rfl⟩⟩
theorem ttf_law_creep : TextIs fnNames (topS 20) txf_law_creep := ⟨⟨["s", "t", "width", "most", "e"], ["s", "t", "width", "most"], ⟨rfl, rfl, rfl, by decide +kernel, rfl, by decide +kernel, by decide +kernel⟩, rfl, rfl, by decide +kernel, fun _ _ _ _ _ _ _ us hl => match us, hl with | [_, _, _, _], _ => rfl⟩⟩
theorem lt : LawText fnNames (topS 21) (topS 10) ["script", "pool", "s", "told", "row", "places", "lays", "k", "page", "outer_left", "outer_right", "inner_left", "inner_right", "flat", "spot", "pile", "faces", "face", "t", "push", "most", "width", "due"] lawB := ⟨⟨_, _, ⟨rfl, rfl, rfl, by decide +kernel, rfl, by decide +kernel, by decide +kernel⟩, rfl, rfl, rfl, by decide +kernel, by decide +kernel, by decide +kernel, by decide +kernel⟩, ⟨⟨rfl, rfl, rfl, by decide +kernel, rfl, by decide +kernel, by decide +kernel⟩, by decide +kernel, by decide +kernel, by decide +kernel, by decide +kernel, by decide +kernel, by decide +kernel⟩, fun _ _ _ _ _ _ _ us hl => match us, hl with | [_], _ => rfl, fun _ _ _ _ _ _ _ us hl => match us, hl with | [_], _ => rfl⟩
theorem all_mk {P : Program} {w : World} {K : PySem.W.Frag} {h : Heap} {mg : Str → Option Value} {fa : Addr} (X : K.In h) (G : h.Ns mainGlobals mg) (hfa : mg "law" = some (.ref fa))
    (z0 : PySem.W.nsIn K mainGlobals "len" = some none)
    (z1 : PySem.W.nsIn K mainGlobals "sum" = some none)
    (z2 : PySem.W.nsIn K mainGlobals "max" = some none)
    (z3 : PySem.W.nsIn K mainGlobals "min" = some none)
    (z4 : PySem.W.nsIn K mainGlobals "abs" = some none)
    (z5 : PySem.W.nsIn K mainGlobals "tuple" = some none)
    (z6 : PySem.W.nsIn K mainGlobals "list" = some none)
    (z7 : PySem.W.nsIn K mainGlobals "all" = some none)
    (z8 : PySem.W.nsIn K mainGlobals "any" = some none)
    (z9 : PySem.W.nsIn K mainGlobals "range" = some none)
    (z10 : PySem.W.nsIn K mainGlobals "isinstance" = some none)
    (z11 : PySem.W.nsIn K mainGlobals "int" = some none)
    (z12 : PySem.W.nsIn K mainGlobals "bool" = some none)
    (z13 : PySem.W.nsIn K mainGlobals "str" = some none)
    (z14 : PySem.W.nsIn K mainGlobals "dict" = some none)
    (z15 : PySem.W.nsIn K mainGlobals "repr" = some none)
    (z16 : PySem.W.nsIn K mainGlobals "sorted" = some none)
    (z17 : PySem.W.nsIn K mainGlobals "zip" = some none)
    (z18 : PySem.W.nsIn K mainGlobals "reversed" = some none)
    (z19 : PySem.W.nsIn K mainGlobals "set" = some none)
    (dL : DefIs K "law" (topS 21)) (dP : DefIs K "_law_pool" (topS 10))
    (d0 : DefIs K "nested_pages" (topS 5))
    (d1 : DefIs K "creep" (topS 6))
    (d2 : DefIs K "_law_same" (topS 8))
    (d3 : DefIs K "_law_is_integer" (topS 9))
    (d4 : DefIs K "_law_spread" (topS 11))
    (d5 : DefIs K "_law_draw" (topS 12))
    (d6 : DefIs K "_law_changed" (topS 13))
    (d7 : DefIs K "_law_behind" (topS 14))
    (d8 : DefIs K "_law_way_after" (topS 15))
    (d9 : DefIs K "_law_flat" (topS 16))
    (d10 : DefIs K "_law_turned_layers" (topS 17))
    (d11 : DefIs K "_law_folded" (topS 18))
    (d12 : DefIs K "_law_faces" (topS 19))
    (d13 : DefIs K "_law_creep" (topS 20))
    {e0 : Addr} {e1 : Addr} {e2 : Addr}
    (eg0 : PySem.W.nsIn K mainGlobals "ShopError" = some (some (.ref e0)))
    (ek0 : PySem.W.keepIn K (.ref e0) = true)
    (ex0 : PySem.W.excIn K e0 [.type "ValueError", .type "Exception", .type "BaseException", .type "object"] "ValueError.__new__" = true)
    (eb0 : PySem.W.subIn K (.ref e0) (.type "BaseException") = some true)
    (et0 : PySem.W.typeIn K (.ref e0) = some (.type "type"))
    (ea0 : PySem.W.findIn K (.ref e0) "__getattribute__" = some (some (.builtin "BaseException.__getattribute__")))
    (eh0 : PySem.W.findIn K (.ref e0) "__getattr__" = some none)
    (ed0 : PySem.W.hasDictIn K e0 = true)
    (ec0 : PySem.W.findIn K (.ref e0) "__class__" = some (some (.builtin "object.__class__")))
    (em0 : PySem.W.mroIn K e0 (.type "object") = some true)
    (es0_0 : PySem.W.subIn K (.ref e0) (.ref e0) = some true)
    (es0_1 : PySem.W.subIn K (.ref e0) (.ref e1) = some false)
    (es0_2 : PySem.W.subIn K (.ref e0) (.ref e2) = some false)
    (es0_3 : PySem.W.subIn K (.ref e0) (.type "ValueError") = some true)
    (eg1 : PySem.W.nsIn K mainGlobals "BadFold" = some (some (.ref e1)))
    (ek1 : PySem.W.keepIn K (.ref e1) = true)
    (ex1 : PySem.W.excIn K e1 [.type "ValueError", .type "Exception", .type "BaseException", .type "object"] "ValueError.__new__" = true)
    (eb1 : PySem.W.subIn K (.ref e1) (.type "BaseException") = some true)
    (et1 : PySem.W.typeIn K (.ref e1) = some (.type "type"))
    (ea1 : PySem.W.findIn K (.ref e1) "__getattribute__" = some (some (.builtin "BaseException.__getattribute__")))
    (eh1 : PySem.W.findIn K (.ref e1) "__getattr__" = some none)
    (ed1 : PySem.W.hasDictIn K e1 = true)
    (ec1 : PySem.W.findIn K (.ref e1) "__class__" = some (some (.builtin "object.__class__")))
    (em1 : PySem.W.mroIn K e1 (.type "object") = some true)
    (es1_0 : PySem.W.subIn K (.ref e1) (.ref e0) = some true)
    (es1_1 : PySem.W.subIn K (.ref e1) (.ref e1) = some true)
    (es1_2 : PySem.W.subIn K (.ref e1) (.ref e2) = some false)
    (es1_3 : PySem.W.subIn K (.ref e1) (.type "ValueError") = some true)
    (eg2 : PySem.W.nsIn K mainGlobals "TooThick" = some (some (.ref e2)))
    (ek2 : PySem.W.keepIn K (.ref e2) = true)
    (ex2 : PySem.W.excIn K e2 [.type "ValueError", .type "Exception", .type "BaseException", .type "object"] "ValueError.__new__" = true)
    (eb2 : PySem.W.subIn K (.ref e2) (.type "BaseException") = some true)
    (et2 : PySem.W.typeIn K (.ref e2) = some (.type "type"))
    (ea2 : PySem.W.findIn K (.ref e2) "__getattribute__" = some (some (.builtin "BaseException.__getattribute__")))
    (eh2 : PySem.W.findIn K (.ref e2) "__getattr__" = some none)
    (ed2 : PySem.W.hasDictIn K e2 = true)
    (ec2 : PySem.W.findIn K (.ref e2) "__class__" = some (some (.builtin "object.__class__")))
    (em2 : PySem.W.mroIn K e2 (.type "object") = some true)
    (es2_0 : PySem.W.subIn K (.ref e2) (.ref e0) = some true)
    (es2_1 : PySem.W.subIn K (.ref e2) (.ref e1) = some false)
    (es2_2 : PySem.W.subIn K (.ref e2) (.ref e2) = some true)
    (es2_3 : PySem.W.subIn K (.ref e2) (.type "ValueError") = some true)
    (esp : PySem.W.specialIn K (.builtin "object.__class__") "__get__" = some (some (.builtin "getset_descriptor.__get__")))
    (etk : PySem.W.takesIn K (.builtin "object.__class__") = some true)
    (egv : PySem.W.nsIn K mainGlobals "ValueError" = some none)
    (esv : PySem.W.subIn K (.type "ValueError") (.type "BaseException") = some true)
    : ∃ fd : FuncData, (∀ (s : Shared) (v : Value), BindsTo s fd ⟨[v], []⟩ [("script", v)]) ∧ ∀ base : Heap, K.In base → base.Ns mainGlobals mg → FnG P w K mg base (L2.CX P w) (lvl + 1) fa fd ["script"] (spLaw K) := by
  refine all_of (ft := ft) (gt := gt) (body := lawB) X G hfa ?_ dL dP lt (excF_of ([("ShopError", (.ref e0)), ("BadFold", (.ref e1)), ("TooThick", (.ref e2)), ("ValueError", (.type "ValueError"))] : List (Str × Value)) ⟨⟨.own (by kernel_rfl) (PySem.W.mg_of X G eg0) ⟨ek0, ex0, eb0, et0, ⟨ea0, eh0, eb0, ed0, ec0, esp, etk, em0⟩⟩ ed0, by kernel_rfl⟩, ⟨⟨.own (by kernel_rfl) (PySem.W.mg_of X G eg1) ⟨ek1, ex1, eb1, et1, ⟨ea1, eh1, eb1, ed1, ec1, esp, etk, em1⟩⟩ ed1, by kernel_rfl⟩, ⟨⟨.own (by kernel_rfl) (PySem.W.mg_of X G eg2) ⟨ek2, ex2, eb2, et2, ⟨ea2, eh2, eb2, ed2, ec2, esp, etk, em2⟩⟩ ed2, by kernel_rfl⟩, ⟨⟨.boot (PySem.W.mg_none_of X G egv) esv, by kernel_rfl⟩, trivial⟩⟩⟩⟩ (by intro q hq r hr ho; simp only [List.mem_cons, List.not_mem_nil, or_false] at hq hr; rcases hq with rfl | rfl | rfl | rfl <;> rcases hr with rfl | rfl | rfl | rfl; (exact es0_0.trans (by kernel_rfl)); (exact es0_1.trans (by kernel_rfl)); (exact es0_2.trans (by kernel_rfl)); (exact es0_3.trans (by kernel_rfl)); (exact es1_0.trans (by kernel_rfl)); (exact es1_1.trans (by kernel_rfl)); (exact es1_2.trans (by kernel_rfl)); (exact es1_3.trans (by kernel_rfl)); (exact es2_0.trans (by kernel_rfl)); (exact es2_1.trans (by kernel_rfl)); (exact es2_2.trans (by kernel_rfl)); (exact es2_3.trans (by kernel_rfl)); (cases ho); (cases ho); (cases ho); (cases ho)) (fun c h => cls_gtOf (cs := consts) (cls := ["ShopError", "BadFold", "TooThick", "ValueError"]) (by decide) h)) (glob_gtOf (cs := consts) trivial) ?_ (by decide) law_ev
  · intro x hx
    simp only [List.mem_cons, List.not_mem_nil, or_false] at hx
    rcases hx with rfl | rfl | rfl | rfl | rfl | rfl | rfl | rfl | rfl | rfl | rfl | rfl | rfl | rfl | rfl | rfl | rfl | rfl | rfl | rfl <;> assumption
  · exact ⟨ttf_nested_pages.fn X G d0, ttf_creep.fn X G d1, ttf_law_same.fn X G d2, ttf_law_is_integer.fn X G d3, ttf_law_spread.fn X G d4, ttf_law_draw.fn X G d5, ttf_law_changed.fn X G d6, ttf_law_behind.fn X G d7, ttf_law_way_after.fn X G d8, ttf_law_flat.fn X G d9, ttf_law_turned_layers.fn X G d10, ttf_law_folded.fn X G d11, ttf_law_faces.fn X G d12, ttf_law_creep.fn X G d13, trivial⟩
end PDL
open PySem PySem.W PyProof.Rows
set_option maxHeartbeats 0 in
theorem PySem.Challenge.cw_foldandbound_k18_whole_nested_sections_holds : PySem.Challenge.rw_foldandbound_k18_whole_nested_sections.Holds := by
  w_on; o_law; k_head; (case hw => w_witness2)
  k_fill
  refine PD.walk_G (l := PySem.Challenge.rw_foldandbound_k18_whole_nested_sections) (n := 63) (k := PDL.lvl + 1) (x := "script") (CX := fun w => L2.CX PySem.Challenge.rw_foldandbound_k18_whole_nested_sections.prog w) (sp := fun w => PD.spLaw _) rfl (by decide) rfl ⟨rfl, by decide, by decide⟩ (fun w h Y => PySem.W.kIn_of Y) ?F (fun _ _ a ns hl hS => ⟨a, ns, rfl, hS, hl, fun _ => rfl⟩) (fun _ _ _ _ _ z => PD.cx_none z)
  case F =>
    intro w mg fa h KX G hmg
    refine' PDL.all_mk KX G hmg ?z0 ?z1 ?z2 ?z3 ?z4 ?z5 ?z6 ?z7 ?z8 ?z9 ?z10 ?z11 ?z12 ?z13 ?z14 ?z15 ?z16 ?z17 ?z18 ?z19 ?dL ?dP ?d0 ?d1 ?d2 ?d3 ?d4 ?d5 ?d6 ?d7 ?d8 ?d9 ?d10 ?d11 ?d12 ?d13 ?eg0 ?ek0 ?ex0 ?eb0 ?et0 ?ea0 ?eh0 ?ed0 ?ec0 ?em0 ?es0_0 ?es0_1 ?es0_2 ?es0_3 ?eg1 ?ek1 ?ex1 ?eb1 ?et1 ?ea1 ?eh1 ?ed1 ?ec1 ?em1 ?es1_0 ?es1_1 ?es1_2 ?es1_3 ?eg2 ?ek2 ?ex2 ?eb2 ?et2 ?ea2 ?eh2 ?ed2 ?ec2 ?em2 ?es2_0 ?es2_1 ?es2_2 ?es2_3 ?esp ?etk ?egv ?esv
    (case eg0 => first | k_is | rfl)
    (case eg1 => first | k_is | rfl)
    (case eg2 => first | k_is | rfl)
    (case egv => first | k_is | rfl)
    (case ek0 => first | k_is | rfl)
    (case ex0 => k_exc)
    (case eb0 => first | k_is | rfl)
    (case et0 => first | k_is | rfl)
    (case ea0 => first | k_is | rfl)
    (case eh0 => first | k_is | rfl)
    (case ed0 => first | k_is | rfl)
    (case ec0 => first | k_is | rfl)
    (case em0 => first | k_is | rfl)
    (case es0_0 => first | k_is | rfl)
    (case es0_1 => first | k_is | rfl)
    (case es0_2 => first | k_is | rfl)
    (case es0_3 => first | k_is | rfl)
    (case ek1 => first | k_is | rfl)
    (case ex1 => k_exc)
    (case eb1 => first | k_is | rfl)
    (case et1 => first | k_is | rfl)
    (case ea1 => first | k_is | rfl)
    (case eh1 => first | k_is | rfl)
    (case ed1 => first | k_is | rfl)
    (case ec1 => first | k_is | rfl)
    (case em1 => first | k_is | rfl)
    (case es1_0 => first | k_is | rfl)
    (case es1_1 => first | k_is | rfl)
    (case es1_2 => first | k_is | rfl)
    (case es1_3 => first | k_is | rfl)
    (case ek2 => first | k_is | rfl)
    (case ex2 => k_exc)
    (case eb2 => first | k_is | rfl)
    (case et2 => first | k_is | rfl)
    (case ea2 => first | k_is | rfl)
    (case eh2 => first | k_is | rfl)
    (case ed2 => first | k_is | rfl)
    (case ec2 => first | k_is | rfl)
    (case em2 => first | k_is | rfl)
    (case es2_0 => first | k_is | rfl)
    (case es2_1 => first | k_is | rfl)
    (case es2_2 => first | k_is | rfl)
    (case es2_3 => first | k_is | rfl)
    (case esp => first | k_is | rfl)
    (case etk => first | k_is | rfl)
    (case esv => first | k_is | rfl)
    (case z0 => k_is)
    (case z1 => k_is)
    (case z2 => k_is)
    (case z3 => k_is)
    (case z4 => k_is)
    (case z5 => k_is)
    (case z6 => k_is)
    (case z7 => k_is)
    (case z8 => k_is)
    (case z9 => k_is)
    (case z10 => k_is)
    (case z11 => k_is)
    (case z12 => k_is)
    (case z13 => k_is)
    (case z14 => k_is)
    (case z15 => k_is)
    (case z16 => k_is)
    (case z17 => k_is)
    (case z18 => k_is)
    (case z19 => k_is)
    (case dL => (refine' PD.defIs ?a ?l ?c ?k; (case a => k_is); (case l => k_is); (case c => k_is); (case k => k_is)))
    (case dP => (refine' PD.defIs ?a ?l ?c ?k; (case a => k_is); (case l => k_is); (case c => k_is); (case k => k_is)))
    (case d0 => (refine' PD.defIs ?a ?l ?c ?k; (case a => k_is); (case l => k_is); (case c => k_is); (case k => k_is)))
    (case d1 => (refine' PD.defIs ?a ?l ?c ?k; (case a => k_is); (case l => k_is); (case c => k_is); (case k => k_is)))
    (case d2 => (refine' PD.defIs ?a ?l ?c ?k; (case a => k_is); (case l => k_is); (case c => k_is); (case k => k_is)))
    (case d3 => (refine' PD.defIs ?a ?l ?c ?k; (case a => k_is); (case l => k_is); (case c => k_is); (case k => k_is)))
    (case d4 => (refine' PD.defIs ?a ?l ?c ?k; (case a => k_is); (case l => k_is); (case c => k_is); (case k => k_is)))
    (case d5 => (refine' PD.defIs ?a ?l ?c ?k; (case a => k_is); (case l => k_is); (case c => k_is); (case k => k_is)))
    (case d6 => (refine' PD.defIs ?a ?l ?c ?k; (case a => k_is); (case l => k_is); (case c => k_is); (case k => k_is)))
    (case d7 => (refine' PD.defIs ?a ?l ?c ?k; (case a => k_is); (case l => k_is); (case c => k_is); (case k => k_is)))
    (case d8 => (refine' PD.defIs ?a ?l ?c ?k; (case a => k_is); (case l => k_is); (case c => k_is); (case k => k_is)))
    (case d9 => (refine' PD.defIs ?a ?l ?c ?k; (case a => k_is); (case l => k_is); (case c => k_is); (case k => k_is)))
    (case d10 => (refine' PD.defIs ?a ?l ?c ?k; (case a => k_is); (case l => k_is); (case c => k_is); (case k => k_is)))
    (case d11 => (refine' PD.defIs ?a ?l ?c ?k; (case a => k_is); (case l => k_is); (case c => k_is); (case k => k_is)))
    (case d12 => (refine' PD.defIs ?a ?l ?c ?k; (case a => k_is); (case l => k_is); (case c => k_is); (case k => k_is)))
    (case d13 => (refine' PD.defIs ?a ?l ?c ?k; (case a => k_is); (case l => k_is); (case c => k_is); (case k => k_is)))

