import PyProof.Rows.All
import Wide.All
import OpenK.AllK
import Wide.FinOn
import HandS.ForMost
import KE.SortKeyHeap
import KE.KMathGC
import KE.DataMinMax
import HandS.Text
import HandS.Deep
import HandS.Iter
import HandS.IsInst
import HandS.Style
import HandS.TupAny
import HandS.TupMul
import HandS.Wide
import HandS.ExcOwn
import HandS.TryOnly
import HandS.HeadHook1
import HandS.Dict
import HandS.Conv
import HandS.TupLen
import PyProof.StrOps2
import HandS.More
import KE.KDictCopyH
import KE.KDictExact
import HandS.DictSubView
import HandS.Sort
import HandS.SortKw
import HandS.Small
import HandS.Gcd
import HandS.SetFor
import HandS.TupSets
import HandS.Codes
import HandS.Defaults
import HandS.Replace
import HandS.RaiseMore
import KE.KStateDown
import Lean
import HandS.Ends
import HandS.Head0
import HandS.Head1
import HandS.Head2
import HandS.Head3
import HandS.HeadEnd
import HandS.HeadHook2
import HandS.HeadHook4
import HandS.EndBits
import PySem.Challenge.RW_oneturn_k07_fractions_and_words
set_option Elab.async false
set_option linter.all false
set_option maxRecDepth 100000
set_option maxHeartbeats 4000000
/-! DLa: plain data, the IR of the functional part, its evaluator. -/
namespace DL
open PySem L2

/-- plain data: what a Python value is worth -/
inductive D where
  | non | bl (b : Bool) | int (i : Int) | str (s : Str)
  | tup (xs : List D) | lst (xs : List D) | ro (xs : List D) | dct (t : Bool) (kvs : List (D × D)) | obj (c : Str) (fs : List (Str × D))
  deriving Inhabited

mutual
def D.py : D → PyData
  | .non => .none
  | .bl b => .bool b
  | .int i => .int i
  | .str s => .str s
  | .tup xs => .tuple (D.pys xs)
  | .lst xs => .list (D.pys xs)
  | .ro _ => .dict []
  | .dct _ _ => .dict []
  | .obj _ _ => .dict []
def D.pys : List D → List PyData
  | [] => []
  | x :: xs => D.py x :: D.pys xs
end
mutual
/-- tuples and lists of scalars at most n deep -/
def D.okN : Nat → D → Bool
  | _, .non => true
  | _, .bl _ => true
  | _, .int _ => true
  | _, .str s => PyData.strOk s
  | 0, .tup _ => false
  | 0, .lst _ => false
  | n + 1, .tup xs => D.okNs n xs
  | n + 1, .lst xs => D.okNs n xs
  | _, .ro _ => false
  | _, .dct _ _ => false
  | _, .obj _ _ => false
def D.okNs : Nat → List D → Bool
  | _, [] => true
  | n, x :: xs => D.okN n x && D.okNs n xs
end
mutual
/-- Python's == of such data -/
def D.eqv : D → D → Bool
  | .non, .non => true
  | .bl a, .bl b => a == b
  | .bl a, .int j => (if a then 1 else 0) == j
  | .int i, .bl b => i == (if b then 1 else 0)
  | .int i, .int j => i == j
  | .str x, .str y => x == y
  | .tup xs, .tup ys => D.eqvs xs ys
  | .lst xs, .lst ys => D.eqvs xs ys
  | _, _ => false
def D.eqvs : List D → List D → Bool
  | [], [] => true
  | x :: xs, y :: ys => D.eqv x y && D.eqvs xs ys
  | _, _ => false
end

/-- the module's class names -/
inductive Ty where
  | int | bool | str | tuple | list
  deriving DecidableEq
def Ty.name : Ty → String
  | .int => "int" | .bool => "bool" | .str => "str" | .tuple => "tuple" | .list => "list"
def isiD (t : Ty) : D → Option Bool
  | .non => some false
  | .bl _ => some (decide (t = .bool) || decide (t = .int))
  | .int _ => some (decide (t = .int))
  | .str _ => some (decide (t = .str))
  | .tup _ => some (decide (t = .tuple))
  | .lst _ => some (decide (t = .list))
  | .ro _ => none
  | .dct _ _ => none
  | .obj _ _ => none

/-! ### a frame's slots -/
inductive Sl where
  | un
  /-- a value that no one changes any more -/
  | fz (d : D)
  /-- a list, a dict that this slot alone holds; some k: the def's by-reference parameter k -/
  | ow' (t : Option Nat) (d : D)
  deriving Inhabited
abbrev Sl.ow (d : D) : Sl := .ow' none d
abbrev Env := List Sl

/-- an expression's end: stuck, an exception, a value -/
inductive R (α : Type) where
  | no
  | ex (x : D) (ρ : Env)
  | ok (a : α) (ρ : Env)
def R.bind {α β : Type} (r : R α) (f : α → Env → R β) : R β := match r with
  | .no => .no
  | .ex x ρ => .ex x ρ
  | .ok a ρ => f a ρ
/-- where no exception may leave -/
def R.nox {α : Type} (r : R α) : R α := match r with
  | .ok a ρ => .ok a ρ
  | _ => .no
def R.of {α : Type} (o : Option α) (ρ : Env) : R α := match o with
  | none => .no
  | some a => .ok a ρ
/-- a statement's end -/
inductive SR where
  | no
  | ex (x : D) (ρ : Env)
  | nx (ρ : Env)
  | rt (d : D) (ρ : Env)
  | bk (ρ : Env)
  | ct (ρ : Env)
def R.st {α : Type} (r : R α) (f : α → Env → SR) : SR := match r with
  | .no => .no
  | .ex x ρ => .ex x ρ
  | .ok a ρ => f a ρ
/-- a def's end -/
inductive DR where
  | no
  | ex (x : D)
  | ok (d : D)
mutual
/-- scalars, tuples and lists alone -/
def D.pl : D → Bool
  | .non => true
  | .bl _ => true
  | .int _ => true
  | .str _ => true
  | .tup xs => D.pls xs
  | .lst xs => D.pls xs
  | .ro _ => false
  | .dct _ _ => false
  | .obj _ _ => false
def D.pls : List D → Bool
  | [] => true
  | x :: xs => D.pl x && D.pls xs
end
mutual
/-- the same data (of plain data) -/
def D.sm : D → D → Bool
  | .non, .non => true
  | .bl a, .bl b => a == b
  | .int a, .int b => a == b
  | .str a, .str b => a == b
  | .tup xs, .tup ys => D.sms xs ys
  | .lst xs, .lst ys => D.sms xs ys
  | _, _ => false
def D.sms : List D → List D → Bool
  | [], [] => true
  | x :: xs, y :: ys => D.sm x y && D.sms xs ys
  | _, _ => false
end
mutual
/-- d does not stand in this data -/
def D.out (d : D) : D → Bool
  | .tup xs => !D.sm (.tup xs) d && D.outs d xs
  | .lst xs => !D.sm (.lst xs) d && D.outs d xs
  | e => !D.sm e d
def D.outs (d : D) : List D → Bool
  | [] => true
  | x :: xs => D.out d x && D.outs d xs
end
/-- the end of a call whose list is new -/
def newD (den : List D → DR) (ds : List D) : DR := match den ds with
  | .ok (.lst xs) => if D.pls xs = true ∧ D.pls ds = true ∧ D.outs (.lst xs) ds = true then .ok (.lst xs) else .no
  | .ex x => .ex x
  | _ => .no
abbrev Fns := Nat → List D → DR
def DR.r (o : DR) (ρ : Env) : R D := match o with
  | .no => .no
  | .ex x => .ex x ρ
  | .ok d => .ok d ρ

/-! ### slots read and stored -/
def getV (i : Nat) (ρ : Env) : R D := match ρ[i]? with
  | some (.fz d) => .ok d ρ
  | some (.ow' none d) => .ok d (ρ.set i (.fz d))
  | _ => .no
/-- a look without keeping -/
def peekV (i : Nat) (ρ : Env) : Option D := match ρ[i]? with
  | some (.fz d) => some d
  | some (.ow' _ d) => some d
  | _ => none

/-! ### dicts: keys are ints and texts, or flat tuples of such -/
def keyK : D → Option L2.Key
  | .int i => some (.inl i)
  | .str s => some (.inr s)
  | _ => none
def keysK : List D → Option (List L2.Key)
  | [] => some []
  | d :: ds => match keyK d, keysK ds with
    | some k, some ks => some (k :: ks)
    | _, _ => none
def keyT : D → Option (List L2.Key)
  | .tup ds => keysK ds
  | _ => none
/-- may d be a key of such a dict -/
def isKey (t : Bool) (d : D) : Bool := if t then (keyT d).isSome else (keyK d).isSome
def dGet (kvs : List (D × D)) (k : D) : Option D := (kvs.find? fun p => D.eqv p.1 k).map (·.2)
def dPut (kvs : List (D × D)) (k v : D) : List (D × D) := if kvs.any (fun p => D.eqv p.1 k) then kvs.map (fun p => if D.eqv p.1 k then (p.1, v) else p) else kvs ++ [(k, v)]
def intsOf : List D → Option (List Int)
  | [] => some []
  | .int i :: r => (intsOf r).map (i :: ·)
  | _ :: _ => none
/-! ### operators -/
def sizeL : Nat := 16777216
inductive Bop where
  | add | sub | mul | fdiv | mod | pow
  deriving DecidableEq
def small64 (i : Int) : Bool := decide (-(2 ^ 64) < i) && decide (i < 2 ^ 64)
/-- a text told k times -/
def strRep (x : Str) (k : Nat) : Str := ⟨(List.replicate k x.cps).foldl (· ++ ·) #[]⟩
def mulS (x : Str) (k : Int) : Option D := if 2 ≤ k ∧ k ≤ 1000 ∧ 1 ≤ x.length ∧ x.length ≤ 1000 then some (.str (strRep x k.toNat)) else none
/-- a text's signs -/
def signsD (z : Str) : List D := z.cps.toList.map fun c => .str ⟨#[c]⟩
def strsOf : List D → Option (List Str)
  | [] => some []
  | .str x :: r => (strsOf r).map (x :: ·)
  | _ :: _ => none
def occB (a b : Str) : Bool := !(Builtin.Str.occurrences b a 0 b.length 1).isEmpty
/-- wide numbers -/
def wideB : Int := 2 ^ 6000
def mulW (i j : Int) : Option D := if -wideB < i ∧ i < wideB ∧ -wideB < j ∧ j < wideB then some (.int (i * j)) else none
def fdivW (i j : Int) : Option D := if 0 < j ∧ j < wideB then some (.int (i / j)) else if j < 0 ∧ -wideB < j then some (.int (i.fdiv j)) else none
def bopD : Bop → D → D → Option D
  | .add, .int i, .int j => some (.int (i + j))
  | .add, .str x, .str y => if x.length + y.length ≤ sizeL then some (.str (x ++ y)) else none
  | .add, .tup xs, .tup ys => if xs.length + ys.length ≤ sizeL then some (.tup (xs ++ ys)) else none
  | .sub, .int i, .int j => some (.int (i - j))
  | .mul, .int i, .int j => if small64 i || small64 j then some (.int (i * j)) else mulW i j
  | .mul, .tup xs, .int k => if xs.length ≤ 1000 ∧ 1 ≤ k ∧ k ≤ 1000 then some (.tup (List.replicate k.toNat xs).flatten) else none
  | .mul, .str x, .int k => mulS x k
  | .fdiv, .int i, .int j => if 0 < j ∧ j < 1073741824 then some (.int (i / j)) else fdivW i j
  | .mod, .int i, .int j => if 0 < j then some (.int (i % j)) else none
  | .pow, .int i, .int j => if 0 ≤ j ∧ j ≤ 1000 ∧ i.natAbs < 2 ^ 64 then some (.int (i ^ j.toNat)) else none
  | _, _, _ => none
inductive Cop where
  | eq | ne | lt | le | gt | ge | is | isnot | inn | notin
  deriving DecidableEq
def eqD (d e : D) : Option Bool := if D.okN 60 d && D.okN 60 e then some (D.eqv d e) else none
def isNon : D → Bool
  | .non => true
  | _ => false
def isD : D → D → Option Bool
  | d, .non => some (isNon d)
  | .bl a, .bl b => some (decide (a = b))
  | _, _ => none
def memD (d : D) : D → Option Bool
  | .lst xs => if D.okN 60 d && D.okN 60 (.lst xs) then some (xs.any fun z => D.eqv z d) else none
  | .tup xs => if D.okN 60 d && D.okN 60 (.tup xs) then some (xs.any fun z => D.eqv z d) else none
  | .dct t kvs => if isKey t d then some (dGet kvs d).isSome else none
  | .str b => match d with
    | .str a => some (occB a b)
    | _ => none
  | .ro xs => if D.okN 60 d && D.okNs 59 xs then some (xs.any fun z => D.eqv z d) else none
  | _ => none
def copD : Cop → D → D → Option Bool
  | .eq, d, e => eqD d e
  | .ne, d, e => (eqD d e).map (!·)
  | .lt, .int i, .int j => some (decide (i < j))
  | .lt, .tup xs, .tup ys => match intsOf xs, intsOf ys with
    | some ns, some ms => some (HT.lexLt ns ms)
    | _, _ => none
  | .le, .int i, .int j => some (decide (i ≤ j))
  | .gt, .int i, .int j => some (decide (j < i))
  | .ge, .int i, .int j => some (decide (j ≤ i))
  | .is, d, e => isD d e
  | .isnot, d, e => (isD d e).map (!·)
  | .inn, d, e => memD d e
  | .notin, d, e => (memD d e).map (!·)
  | _, _, _ => none
/-- xs[i], i of either sign -/
abbrev atL (xs : List D) (i : Int) : Option D := L2.atI xs i
def ixD : D → D → Option D
  | .tup xs, .int i => atL xs i
  | .lst xs, .int i => atL xs i
  | .ro xs, .int i => atL xs i
  | .dct t kvs, k => if isKey t k then dGet kvs k else none
  | .str z, .int i => if z.length ≤ sizeL then (L2.atI z.cps.toList i).map fun c => .str ⟨#[c]⟩ else none
  | _, _ => none
def cutL {α : Type} (xs : List α) (lo hi : Option Int) : List α := (xs.drop (HT.sIx xs.length 0 lo)).take (HT.sIx xs.length xs.length hi - HT.sIx xs.length 0 lo)
def slD : D → Option Int → Option Int → Option D
  | .tup xs, lo, hi => some (.tup (cutL xs lo hi))
  | .str z, lo, hi => if z.length ≤ sizeL then some (.str (L2.cutS z lo hi)) else none
  | _, _, _ => none

/-- a tuple's items xs[lo:hi:st] -/
def stepT {α : Type} (xs : List α) (lo hi : Option Int) (st : Int) : List α := (List.range (Builtin.Slice.slicePlaces (Builtin.Slice.sliceAdjust lo hi st xs.length).1 (Builtin.Slice.sliceAdjust lo hi st xs.length).2 st)).filterMap fun m : Nat => xs[((Builtin.Slice.sliceAdjust lo hi st xs.length).1 + (m : Int) * st).toNat]?
/-- a list's items xs[lo:hi:st] -/
def stepL {α : Type} (xs : List α) (lo hi : Option Int) (st : Int) : List α := (sliceRange (sliceBounds lo hi (some st) xs.length).1 (sliceBounds lo hi (some st) xs.length).2.1 (sliceBounds lo hi (some st) xs.length).2.2).filterMap (xs[·]?)
def slxD : D → Option Int → Option Int → Option Int → Option D
  | .tup xs, lo, hi, some st => if st ≠ 0 ∧ st ≠ 1 ∧ (stepT xs lo hi st).length ≤ sizeL then some (.tup (stepT xs lo hi st)) else none
  | _, _, _, _ => none
def slxN : D → Option Int → Option Int → Option Int → Option D
  | .lst xs, lo, hi, some st => if st ≠ 0 then some (.lst (stepL xs lo hi st)) else none
  | _, _, _, _ => none
def valsD : D → Option D
  | .dct _ kvs => some (.lst (kvs.map (·.2)))
  | _ => none
/-! ### new lists -/
def catD : D → D → Option D
  | .lst xs, .lst ys => if xs.length + ys.length ≤ sizeL then some (.lst (xs ++ ys)) else none
  | _, _ => none
def repD : D → D → Option D
  | .lst xs, .int k => if -(2 ^ 63) ≤ k ∧ k < 2 ^ 63 ∧ xs.length * k.toNat ≤ sizeL then some (.lst (List.replicate k.toNat xs).flatten) else none
  | _, _ => none
def seqD : D → Option D
  | .lst xs => some (.lst xs)
  | .tup xs => some (.lst xs)
  | .ro xs => some (.lst xs)
  | .dct _ kvs => some (.lst (kvs.map (·.1)))
  | _ => none
def slN : D → Option Int → Option Int → Option D
  | .lst xs, lo, hi => some (.lst (cutL xs lo hi))
  | _, _, _ => none

/-! ### sorting -/
def neTup : D → Bool
  | .tup (_ :: _) => true
  | _ => false
def notTup : D → Bool
  | .tup _ => false
  | .non => false
  | _ => true
/-- may these be compared one with another -/
def keysOk (ks : List D) : Bool := ks.all (D.okN 60) && (ks.all fun a => ks.all fun b => PySem.W.alike a.py b.py) && (ks.all neTup || ks.all notTup)
def sortD : D → Option D
  | .lst xs => if keysOk xs ∧ xs.length ≤ sizeL then some (.lst (xs.mergeSort (PySem.W.dataLe false D.py))) else none
  | .tup xs => if keysOk xs ∧ xs.length ≤ sizeL then some (.lst (xs.mergeSort (PySem.W.dataLe false D.py))) else none
  | _ => none
def keyP (den : List D → DR) (x : D) : PyData := match den [x] with
  | .ok k => k.py
  | _ => .none
def keysD (den : List D → DR) : List D → Option (List D)
  | [] => some []
  | x :: xs => match den [x], keysD den xs with
    | .ok k, some ks => some (k :: ks)
    | _, _ => none
def sortKD (den : List D → DR) : D → Option D
  | .lst xs => match keysD den xs with
    | some ks => if keysOk ks ∧ xs.length ≤ sizeL then some (.lst (xs.mergeSort (PySem.W.dataLe false (keyP den)))) else none
    | none => none
  | _ => none
/-! ### the IR -/
inductive Tg where
  | name (i : Nat)
  | tup (is : List Nat)
inductive B1 where
  | len | int | tuple | isi (t : Ty) | abs | sum | min1 | max1 | fact | str | upper
  deriving DecidableEq
inductive B2 where
  | min | max | gcd | comb
  deriving DecidableEq
def Tg.slots : Tg → List Nat
  | .name i => [i]
  | .tup is => is
/-- methods that only read -/
inductive M1 where
  | index | count | sindex | join
  deriving DecidableEq
def bestOk (ds : List D) : Bool := ds.all (D.okN 60) && (ds.all fun a => ds.all fun b => PySem.W.alike a.py b.py) && ds.all fun d => !isNon d
def minDD (x : D) (xs : List D) : D := xs.foldl (fun a y => if PySem.W.dataLt y.py a.py then y else a) x
def maxDD (x : D) (xs : List D) : D := xs.foldl (fun a y => if PySem.W.dataLt a.py y.py then y else a) x
def facN : Nat → Nat
  | 0 => 1
  | n + 1 => facN n * (n + 1)
def m1D : M1 → D → D → Option D
  | .index, .lst xs, d => if D.okN 60 d && D.okN 60 (.lst xs) then (xs.findIdx? fun z => D.eqv z d).map fun j => .int (j : Nat) else none
  | .count, .lst xs, .int k => (intsOf xs).map fun ns => .int (ns.count k : Nat)
  | .sindex, .str a, .str b => match Builtin.Str.occurrences a b 0 a.length 1 with
    | i :: _ => some (.int (i : Nat))
    | [] => none
  | .join, .str a, .lst xs => (strsOf xs).bind fun ys => if (ys.map (·.length)).sum + ys.length * a.length ≤ 16777216 then some (.str (Txt.join a ys)) else none
  | _, _, _ => none
def lsetD : D → Option D
  | .tup xs => match intsOf xs with
    | some ns => if ns.length < 1000 then some (.int (ns.eraseDups.length : Nat)) else none
    | none => none
  | _ => none
def getD2 : D → D → D → Option D
  | .dct t kvs, k, d => if isKey t k then some ((dGet kvs k).getD d) else none
  | _, _, _ => none
def b1D : B1 → D → Option D
  | .len, .tup xs => some (.int xs.length)
  | .len, .lst xs => some (.int xs.length)
  | .len, .ro xs => some (.int xs.length)
  | .len, .dct _ kvs => some (.int kvs.length)
  | .len, .str x => if x.length ≤ sizeL then some (.int x.length) else none
  | .int, .int i => some (.int i)
  | .int, .bl b => some (.int (if b then 1 else 0))
  | .int, .str a => if a.length ≤ 640 then (PySem.intText? a).map .int else none
  | .tuple, .lst xs => some (.tup xs)
  | .tuple, .tup xs => some (.tup xs)
  | .isi t, d => (isiD t d).map .bl
  | .abs, .int i => some (.int (if i < 0 then -i else i))
  | .sum, .lst xs => (intsOf xs).map fun ns => .int ns.sum
  | .sum, .tup xs => (intsOf xs).map fun ns => .int ns.sum
  | .min1, .lst (x :: xs) => if bestOk (x :: xs) then some (minDD x xs) else none
  | .min1, .tup (x :: xs) => if bestOk (x :: xs) then some (minDD x xs) else none
  | .max1, .lst (x :: xs) => if bestOk (x :: xs) then some (maxDD x xs) else none
  | .max1, .tup (x :: xs) => if bestOk (x :: xs) then some (maxDD x xs) else none
  | .str, .int i => if i.natAbs.log2 < 1920 then some (.str (toString i)) else none
  | .upper, .str a => if a.length ≤ 5592405 then some (.str (Txt.upper a)) else none
  | .fact, .int i => if 0 ≤ i ∧ i ≤ 20000 then some (.int (facN i.toNat : Nat)) else none
  | _, _ => none
def b2D : B2 → D → D → Option D
  | .min, .int i, .int j => some (.int (if j < i then j else i))
  | .max, .int i, .int j => some (.int (if j > i then j else i))
  | .gcd, .int i, .int j => some (.int (Nat.gcd i.natAbs j.natAbs : Nat))
  | .comb, .int i, .int j => if 0 ≤ i ∧ 0 ≤ j ∧ i ≤ 18000 then some (.int (PySem.W.mcComb i j)) else none
  | _, _, _ => none
inductive Cst where
  | non | bl (b : Bool) | int (i : Int) | str (s : Str) | tups (xs : List Str)
  deriving DecidableEq
def Cst.d : Cst → D
  | .non => .non
  | .bl b => .bl b
  | .int i => .int i
  | .str s => .str s
  | .tups xs => .ro (xs.map .str)

mutual
/-- expressions -/
inductive E where
  | v (i : Nat)
  | c (k : Cst)
  | bin (o : Bop) (a b : E)
  | neg (a : E)
  | not (a : E)
  | and (a b : E)
  | or (a b : E)
  | one (a : E)
  | cmp (o : Cop) (a b : E)
  | chain (o p : Cop) (a b c : E)
  | ife (c a b : E)
  | tup (es : Es)
  | new (n : Nw)
  | ix (a i : E)
  | ixv (x : Nat) (i : E)
  | sl (a : E) (lo hi : Eo)
  | slx (a : E) (lo hi st : Eo)
  | call (f : Nat) (es : Es)
  | b1 (b : B1) (a : E)
  | b2 (b : B2) (a b : E)
  | lenv (x : Nat)
  | inv (neg : Bool) (a : E) (x : Nat)
  | m1 (m : M1) (a b : E)
  | get (x : Nat) (a b : E)
  | lset (a : E)
  | pop (x : Nat)
  | popi (x : Nat) (a : E)
  | call0 (f : Nat)
  | callr (f : Nat) (bs : List Bool) (es : Es)
inductive Es where
  | nil
  | cons (e : E) (es : Es)
inductive Eo where
  | none
  | some (e : E)
/-- what makes a new list -/
inductive Nw where
  | disp (es : Es)
  | cat (a b : E)
  | rep (a b : E)
  | listof (a : E)
  | vals (a : E)
  | split (a b : E)
  | listv (x : Nat)
  | dnew (t : Bool)
  | sort (a : E)
  | sortk (f : Nat) (a : E)
  | sl (a : E) (lo hi : Eo)
  | slx (a : E) (lo hi st : Eo)
  | lrng (src : It)
  | lc2 (own : List Nat) (tg : Tg) (src : It) (tg1 : Tg) (src1 : It) (cs : Es) (elt : E)
  | lc (own : List Nat) (tg : Tg) (src : It) (cs : Es) (elt : E)
  | callN (f : Nat) (es : Es)
/-- what a for walks -/
inductive It where
  | seq (e : E)
  | keys (e : E)
  | rng1 (a : E)
  | rng2 (a b : E)
  | rng3 (a b c : E)
end
mutual
/-- statements -/
inductive S where
  | set (i : Nat) (e : E)
  | unp (is : List Nat) (e : E)
  | ext (i : Nat) (e : E)
  | setN (i : Nat) (n : Nw)
  | app (i : Nat) (e : E)
  | seti (i : Nat) (k e : E)
  | expr (e : E)
  | ret (e : E)
  | ife (c : E) (a b : Ss)
  | for (tg : Tg) (src : It) (body : Ss)
  | while (fuel : Nat) (c : E) (body : Ss)
  | brk
  | cont
  | pass
inductive Ss where
  | nil
  | cons (s : S) (ss : Ss)
end

/-! ### by-reference arguments -/
/-- the slots that are handed on -/
def refX : List Bool → Es → List Nat
  | true :: bs, .cons (.v x) es => x :: refX bs es
  | _ :: bs, .cons _ es => refX bs es
  | _, _ => []
/-- what the call gets: the values, the slots' things -/
def fillR : List Bool → Es → List D → Env → Option (List D)
  | true :: bs, .cons (.v x) es, _ :: ds, ρ => match ρ[x]?, fillR bs es ds ρ with
    | some (.ow' _ d), some r => some (d :: r)
    | _, _ => none
  | false :: bs, .cons _ es, d :: ds, ρ => (fillR bs es ds ρ).map (d :: ·)
  | [], .nil, [], _ => some []
  | _, _, _, _ => none
/-- what the slots hold behind it -/
def putR : List Nat → List D → Env → Option Env
  | x :: xs, d :: ds, ρ => match ρ[x]? with
    | some (.ow' t _) => putR xs ds (ρ.set x (.ow' t d))
    | _ => none
  | [], [], ρ => some ρ
  | _, _, _ => none
def callR (den : List D → DR) (bs : List Bool) (es : Es) (xs : List D) (ρ : Env) : R D := match fillR bs es xs ρ with
  | none => .no
  | some ds => match den ds with
    | .ok (.tup (d :: os)) => match putR (refX bs es) os ρ with
      | some ρ' => .ok d ρ'
      | none => .no
    | _ => .no
/-! ### the evaluator -/
def ownL : Option Sl → Bool
  | some (.ow' _ (.lst _)) => true
  | _ => false
def seqT : D → Option (List D)
  | .lst xs => some xs
  | .tup xs => some xs
  | _ => none
def lstB : D → Bool
  | .lst _ => true
  | _ => false
def strB : D → Bool
  | .str _ => true
  | _ => false
/-- what a method stands behind -/
def m1B : M1 → D → Bool
  | .index, d => lstB d
  | .count, d => lstB d
  | .sindex, d => strB d
  | .join, d => strB d
def splitD : D → D → Option D
  | .str a, .str b => if b.length ≠ 0 ∧ a.length + 2 ≤ sizeL then some (.lst ((Txt.split a b).map .str)) else none
  | _, _ => none
def dctB : D → Bool
  | .dct _ _ => true
  | _ => false
def popS (x : Nat) (ρ : Env) : R D := match ρ[x]? with
  | some (.ow' t (.lst xs)) => match xs[xs.length - 1]? with
    | some d => .ok d (ρ.set x (.ow' t (.lst xs.dropLast)))
    | none => .no
  | _ => .no
def popiS (x : Nat) (y : D) (ρ : Env) : R D := match ρ[x]? with
  | some (.ow' t (.lst xs)) => match y with
    | .int i => match (if small64 (2 * i) then L2.ixN xs.length i else none) with
      | some k => match xs[k]? with
        | some d => .ok d (ρ.set x (.ow' t (.lst (xs.eraseIdx k))))
        | none => .no
      | none => .no
    | _ => .no
  | _ => .no
/-- a def's end where no exception may leave -/
def DR.nx : DR → DR
  | .ex _ => .no
  | r => r
def boolD : D → Option Bool
  | .bl b => some b
  | _ => none
def listD : D → Option (List D)
  | .lst xs => some xs
  | .ro xs => some xs
  | .tup xs => some xs
  | .str z => some (signsD z)
  | _ => none
def keysDD : D → Option (List D)
  | .dct _ kvs => some (kvs.map (·.1))
  | _ => none
def ints62 (i : Int) : Bool := decide (-(2 ^ 62) ≤ i) && decide (i < 2 ^ 62)
def rangeD (a b : Int) : List D := (List.range (b - a).toNat).map fun k => .int (a + (k : Nat))
/-- range(a, b, c), 0 < c -/
def rsz (a b c : Int) : Nat := (if a < b then (b - a - 1) / c + 1 else 0).toNat
def rangeS (a b c : Int) : List D := (List.range (rsz a b c)).map fun k => .int (a + (k : Nat) * c)
def rng3D (x y z : D) (ρ : Env) : R (List D) := match x, y, z with
  | .int i, .int j, .int c => if ints62 i && ints62 j && decide (0 < c) && decide (c < 1073741824) then .ok (rangeS i j c) ρ else .no
  | _, _, _ => .no
def asg : Tg → D → Env → Option Env
  | .name i, d, ρ => if i < ρ.length then some (ρ.set i (.fz d)) else none
  | .tup is, .tup xs, ρ => if is.length = xs.length ∧ is.all (· < ρ.length) then some ((is.zip xs).foldl (fun ρ p => ρ.set p.1 (.fz p.2)) ρ) else none
  | _, _, _ => none
/-- the slots of a block's own names forgotten -/
def wipeE (ρ : Env) (vs : List Nat) : Env := vs.foldl (fun ρ v => ρ.set v .un) ρ
def isOw : Option Sl → Bool
  | some (.ow' _ _) => true
  | _ => false
/-- behind a block: its own names as they were -/
def backE (old new : Env) : List Nat → Env
  | [] => new
  | v :: vs => match old[v]? with
    | some s => (backE old new vs).set v s
    | none => backE old new vs
/-- a comprehension's turns -/
def lcD (own : List Nat) (tg : Tg) (t : Env → R D) (e : Env → R D) : List D → List D → Env → R (List D)
  | [], acc, ρ => .ok acc ρ
  | x :: r, acc, ρ => match asg tg x (wipeE ρ own) with
    | none => .no
    | some ρ1 => (t ρ1).nox.bind fun c ρ2 => match c with
      | .bl true => (e ρ2).nox.bind fun d ρ3 => if acc.length < sizeL then lcD own tg t e r (acc ++ [d]) ρ3 else .no
      | .bl false => lcD own tg t e r acc ρ2
      | _ => .no
/-- a comprehension's two clauses: for each item the inner one's turns -/
def lcD2 (own : List Nat) (tg : Tg) (src1 : Env → R (List D)) (tg1 : Tg) (t : Env → R D) (e : Env → R D) : List D → List D → Env → R (List D)
  | [], acc, ρ => .ok acc ρ
  | x :: r, acc, ρ => match asg tg x (wipeE ρ own) with
    | none => .no
    | some ρ1 => (src1 ρ1).nox.bind fun ys ρ2 => (lcD tg1.slots tg1 t e ys acc ρ2).bind fun acc' ρ3 => lcD2 own tg src1 tg1 t e r acc' ρ3
/-- a for's turns -/
def forD (tg : Tg) (body : Env → SR) : List D → Env → SR
  | [], ρ => .nx ρ
  | x :: r, ρ => match asg tg x ρ with
    | none => .no
    | some ρ1 => match body ρ1 with
      | .nx ρ2 => forD tg body r ρ2
      | .ct ρ2 => forD tg body r ρ2
      | .bk ρ2 => .nx ρ2
      | .rt d ρ2 => .rt d ρ2
      | .ex x ρ2 => .ex x ρ2
      | .no => .no
def whileD (c : Env → R D) (body : Env → SR) : Nat → Env → SR
  | 0, _ => .no
  | n + 1, ρ => (c ρ).st fun b ρ1 => match b with
    | .bl true => match body ρ1 with
      | .nx ρ2 => whileD c body n ρ2
      | .ct ρ2 => whileD c body n ρ2
      | .bk ρ2 => .nx ρ2
      | .rt d ρ2 => .rt d ρ2
      | .ex x ρ2 => .ex x ρ2
      | .no => .no
    | .bl false => .nx ρ1
    | _ => .no

mutual
def evE (Φ : Fns) : E → Env → R D
  | .v i, ρ => getV i ρ
  | .c k, ρ => .ok k.d ρ
  | .bin o a b, ρ => (evE Φ a ρ).bind fun x ρ1 => (evE Φ b ρ1).bind fun y ρ2 => R.of (bopD o x y) ρ2
  | .neg a, ρ => (evE Φ a ρ).bind fun x ρ1 => match x with
    | .int i => .ok (.int (-i)) ρ1
    | _ => .no
  | .not a, ρ => (evE Φ a ρ).bind fun x ρ1 => match x with
    | .bl b => .ok (.bl (!b)) ρ1
    | _ => .no
  | .and a b, ρ => (evE Φ a ρ).bind fun x ρ1 => match x with
    | .bl true => evE Φ b ρ1
    | .bl false => .ok (.bl false) ρ1
    | _ => .no
  | .or a b, ρ => (evE Φ a ρ).bind fun x ρ1 => match x with
    | .bl true => .ok (.bl true) ρ1
    | .bl false => evE Φ b ρ1
    | _ => .no
  | .one a, ρ => evE Φ a ρ
  | .cmp o a b, ρ => (evE Φ a ρ).bind fun x ρ1 => (evE Φ b ρ1).bind fun y ρ2 => R.of ((copD o x y).map .bl) ρ2
  | .chain o p a b c, ρ => (evE Φ a ρ).bind fun x ρ1 => (evE Φ b ρ1).bind fun y ρ2 => match copD o x y with
    | some true => (evE Φ c ρ2).bind fun z ρ3 => R.of ((copD p y z).map .bl) ρ3
    | some false => .ok (.bl false) ρ2
    | none => .no
  | .ife c a b, ρ => (evE Φ c ρ).bind fun x ρ1 => match x with
    | .bl true => evE Φ a ρ1
    | .bl false => evE Φ b ρ1
    | _ => .no
  | .tup es, ρ => (evEs Φ es ρ).bind fun xs ρ1 => if xs.length ≤ sizeL then .ok (.tup xs) ρ1 else .no
  | .new n, ρ => evN Φ n ρ
  | .ix a i, ρ => (evE Φ a ρ).bind fun x ρ1 => (evE Φ i ρ1).bind fun y ρ2 => R.of (ixD x y) ρ2
  | .ixv x i, ρ => (R.of (peekV x ρ) ρ).bind fun _ ρ0 => (evE Φ i ρ0).bind fun y ρ1 => R.of ((peekV x ρ1).bind fun d => ixD d y) ρ1
  | .sl a lo hi, ρ => (evE Φ a ρ).bind fun x ρ1 => (evO Φ lo ρ1).bind fun l ρ2 => (evO Φ hi ρ2).bind fun h ρ3 => R.of (slD x l h) ρ3
  | .slx a lo hi st, ρ => (evE Φ a ρ).bind fun x ρ1 => (evO Φ lo ρ1).bind fun l ρ2 => (evO Φ hi ρ2).bind fun h ρ3 => (evO Φ st ρ3).bind fun k ρ4 => R.of (slxD x l h k) ρ4
  | .call f es, ρ => (evEs Φ es ρ).bind fun xs ρ1 => (Φ f xs).r ρ1
  | .b1 b a, ρ => (evE Φ a ρ).bind fun x ρ1 => R.of (b1D b x) ρ1
  | .b2 b a c, ρ => (evE Φ a ρ).bind fun x ρ1 => (evE Φ c ρ1).bind fun y ρ2 => R.of (b2D b x y) ρ2
  | .lenv x, ρ => R.of ((peekV x ρ).bind fun d => b1D .len d) ρ
  | .inv neg a x, ρ => (evE Φ a ρ).bind fun y ρ1 => R.of ((peekV x ρ1).bind fun d => (memD y d).map fun b => .bl (if neg then !b else b)) ρ1
  | .m1 m a b, ρ => (evE Φ a ρ).bind fun x ρ1 => if m1B m x then (evE Φ b ρ1).bind fun y ρ2 => R.of (m1D m x y) ρ2 else .no
  | .get x a b, ρ => (R.of (peekV x ρ) ρ).bind fun d0 ρ0 => if dctB d0 then (evE Φ a ρ0).bind fun y ρ1 => (evE Φ b ρ1).bind fun z ρ2 => R.of ((peekV x ρ2).bind fun d => getD2 d y z) ρ2 else .no
  | .lset a, ρ => (evE Φ a ρ).bind fun x ρ1 => R.of (lsetD x) ρ1
  | .pop x, ρ => popS x ρ
  | .popi x a, ρ => (R.of (peekV x ρ) ρ).bind fun d0 ρ0 => if lstB d0 then (evE Φ a ρ0).bind fun y ρ1 => popiS x y ρ1 else .no
  | .call0 f, ρ => ((Φ f []).nx).r ρ
  | .callr f bs es, ρ => if (refX bs es).Nodup then (evA Φ bs es ρ).bind fun xs ρ1 => callR (Φ f) bs es xs ρ1 else .no
def evEs (Φ : Fns) : Es → Env → R (List D)
  | .nil, ρ => .ok [] ρ
  | .cons e es, ρ => (evE Φ e ρ).bind fun x ρ1 => (evEs Φ es ρ1).bind fun xs ρ2 => .ok (x :: xs) ρ2
/-- arguments, some of them slots that are handed on -/
def evA (Φ : Fns) : List Bool → Es → Env → R (List D)
  | [], .nil, ρ => .ok [] ρ
  | true :: bs, .cons e es, ρ => match e with
    | .v x => (R.of (peekV x ρ) ρ).bind fun _ ρ0 => (evA Φ bs es ρ0).bind fun xs ρ2 => .ok (.non :: xs) ρ2
    | _ => .no
  | false :: bs, .cons e es, ρ => (evE Φ e ρ).bind fun x ρ1 => (evA Φ bs es ρ1).bind fun xs ρ2 => .ok (x :: xs) ρ2
  | _, _, _ => .no
def evO (Φ : Fns) : Eo → Env → R (Option Int)
  | .none, ρ => .ok none ρ
  | .some e, ρ => (evE Φ e ρ).bind fun x ρ1 => match x with
    | .int i => .ok (some i) ρ1
    | _ => .no
def evN (Φ : Fns) : Nw → Env → R D
  | .disp es, ρ => (evEs Φ es ρ).bind fun xs ρ1 => if xs.length ≤ sizeL then .ok (.lst xs) ρ1 else .no
  | .cat a b, ρ => (evE Φ a ρ).bind fun x ρ1 => (evE Φ b ρ1).bind fun y ρ2 => R.of (catD x y) ρ2
  | .rep a b, ρ => (evE Φ a ρ).bind fun x ρ1 => (evE Φ b ρ1).bind fun y ρ2 => R.of (repD x y) ρ2
  | .listof a, ρ => (evE Φ a ρ).bind fun x ρ1 => R.of (seqD x) ρ1
  | .vals a, ρ => (evE Φ a ρ).bind fun x ρ1 => R.of (valsD x) ρ1
  | .split a b, ρ => (evE Φ a ρ).bind fun x ρ1 => if strB x then (evE Φ b ρ1).bind fun y ρ2 => R.of (splitD x y) ρ2 else .no
  | .listv x, ρ => R.of ((peekV x ρ).bind seqD) ρ
  | .dnew t, ρ => .ok (.dct t []) ρ
  | .sort a, ρ => (evE Φ a ρ).bind fun x ρ1 => R.of (sortD x) ρ1
  | .sortk f a, ρ => (evE Φ a ρ).bind fun x ρ1 => R.of (sortKD (Φ f) x) ρ1
  | .sl a lo hi, ρ => (evE Φ a ρ).bind fun x ρ1 => (evO Φ lo ρ1).bind fun l ρ2 => (evO Φ hi ρ2).bind fun h ρ3 => R.of (slN x l h) ρ3
  | .slx a lo hi st, ρ => (evE Φ a ρ).bind fun x ρ1 => (evO Φ lo ρ1).bind fun l ρ2 => (evO Φ hi ρ2).bind fun h ρ3 => (evO Φ st ρ3).bind fun k ρ4 => R.of (slxN x l h k) ρ4
  | .callN f es, ρ => (evEs Φ es ρ).bind fun xs ρ1 => (newD (Φ f) xs).r ρ1
  | .lrng src, ρ => (evI Φ src ρ).bind fun xs ρ1 => if xs.length ≤ sizeL then .ok (.lst xs) ρ1 else .no
  | .lc2 own tg src tg1 src1 cs elt, ρ => (evI Φ src ρ).bind fun xs ρ1 => if own.any (fun v => isOw ρ1[v]?) then .no else
      (lcD2 own tg (evI Φ src1) tg1 (evT Φ cs) (evE Φ elt) xs [] ρ1).bind fun ys ρ2 => .ok (.lst ys) (backE ρ1 ρ2 own)
  | .lc own tg src cs elt, ρ => (evI Φ src ρ).bind fun xs ρ1 => if own.any (fun v => isOw ρ1[v]?) then .no else
      (lcD own tg (evT Φ cs) (evE Φ elt) xs [] ρ1).bind fun ys ρ2 => .ok (.lst ys) (backE ρ1 ρ2 own)
/-- a comprehension's tests: none or one -/
def evT (Φ : Fns) : Es → Env → R D
  | .nil, ρ => .ok (.bl true) ρ
  | .cons e _, ρ => evE Φ e ρ
def evI (Φ : Fns) : It → Env → R (List D)
  | .seq e, ρ => (evE Φ e ρ).bind fun x ρ1 => R.of (listD x) ρ1
  | .keys e, ρ => (evE Φ e ρ).bind fun x ρ1 => R.of (keysDD x) ρ1
  | .rng1 a, ρ => (evE Φ a ρ).bind fun x ρ1 => match x with
    | .int j => if ints62 j then .ok (rangeD 0 j) ρ1 else .no
    | _ => .no
  | .rng2 a b, ρ => (evE Φ a ρ).bind fun x ρ1 => (evE Φ b ρ1).bind fun y ρ2 => match x, y with
    | .int i, .int j => if ints62 i && ints62 j then .ok (rangeD i j) ρ2 else .no
    | _, _ => .no
  | .rng3 a b c, ρ => (evE Φ a ρ).bind fun x ρ1 => (evE Φ b ρ1).bind fun y ρ2 => (evE Φ c ρ2).bind fun z ρ3 => rng3D x y z ρ3
end
def putI (c y d : D) (k : D → SR) : SR := match c with
  | .lst xs => match y with
    | .int j => match L2.ixN xs.length j with
      | some n => k (.lst (xs.set n d))
      | none => .no
    | _ => .no
  | .dct t kvs => if isKey t y ∧ kvs.length < sizeL then k (.dct t (dPut kvs y d)) else .no
  | _ => .no
mutual
def evS (Φ : Fns) : S → Env → SR
  | .set i e, ρ => (evE Φ e ρ).st fun d ρ1 => if i < ρ1.length then .nx (ρ1.set i (.fz d)) else .no
  | .setN i n, ρ => (evN Φ n ρ).st fun d ρ1 => if i < ρ1.length then .nx (ρ1.set i (.ow d)) else .no
  | .unp is e, ρ => (evE Φ e ρ).st fun d ρ1 => match asg (.tup is) d ρ1 with
    | some ρ2 => .nx ρ2
    | none => .no
  | .ext i e, ρ => if ownL ρ[i]? then (evE Φ e ρ).st fun d ρ1 => match ρ1[i]? with
    | some (.ow' t (.lst xs)) => match seqT d with
      | some ys => if xs.length + ys.length ≤ sizeL then .nx (ρ1.set i (.ow' t (.lst (xs ++ ys)))) else .no
      | none => .no
    | _ => .no
    else .no
  | .app i e, ρ => match ρ[i]? with
    | some (.ow' _ (.lst _)) => (evE Φ e ρ).st fun d ρ1 => match ρ1[i]? with
      | some (.ow' t (.lst xs)) => if xs.length < sizeL then .nx (ρ1.set i (.ow' t (.lst (xs ++ [d])))) else .no
      | _ => .no
    | _ => .no
  | .seti i k e, ρ => (evE Φ e ρ).st fun d ρ1 => match ρ1[i]? with
    | some (.ow' _ _) => (evE Φ k ρ1).st fun y ρ2 => match ρ2[i]? with
      | some (.ow' t c) => putI c y d fun c' => .nx (ρ2.set i (.ow' t c'))
      | _ => .no
    | _ => .no
  | .expr e, ρ => (evE Φ e ρ).st fun _ ρ1 => .nx ρ1
  | .ret e, ρ => (evE Φ e ρ).st fun d ρ1 => .rt d ρ1
  | .ife c a b, ρ => (evE Φ c ρ).st fun x ρ1 => match x with
    | .bl true => evSs Φ a ρ1
    | .bl false => evSs Φ b ρ1
    | _ => .no
  | .for tg src body, ρ => (evI Φ src ρ).st fun xs ρ1 => forD tg (evSs Φ body) xs ρ1
  | .while fuel c body, ρ => whileD (evE Φ c) (evSs Φ body) fuel ρ
  | .brk, ρ => .bk ρ
  | .cont, ρ => .ct ρ
  | .pass, ρ => .nx ρ
def evSs (Φ : Fns) : Ss → Env → SR
  | .nil, ρ => .nx ρ
  | .cons s ss, ρ => match evS Φ s ρ with
    | .nx ρ1 => evSs Φ ss ρ1
    | r => r
end
/-- a def: its number of slots, its body -/
structure Df where
  slots : Nat
  body : Ss
def SR.end : SR → DR
  | .rt d _ => .ok d
  | .nx _ => .ok .non
  | .ex x _ => .ex x
  | _ => .no
/-- the slots of the parameters, the by-reference ones tagged -/
def stR : Nat → List Bool → List D → Env
  | i, true :: bs, d :: ds => .ow' (some i) d :: stR (i + 1) bs ds
  | i, false :: bs, d :: ds => .fz d :: stR (i + 1) bs ds
  | _, _, _ => []
/-- what the by-reference parameters hold at the end -/
def outR (ρ : Env) : Nat → List Bool → Option (List D)
  | _, [] => some []
  | i, true :: bs => match ρ[i]?, outR ρ (i + 1) bs with
    | some (.ow' (some j) d), some r => if i = j then some (d :: r) else none
    | _, _ => none
  | i, false :: bs => outR ρ (i + 1) bs
def SR.endR (bs : List Bool) : SR → DR
  | .rt d ρ => match outR ρ 0 bs with
    | some os => .ok (.tup (d :: os))
    | none => .no
  | .nx ρ => match outR ρ 0 bs with
    | some os => .ok (.tup (.non :: os))
    | none => .no
  | _ => .no
/-- a def with by-reference parameters: its end is its value and what they hold then -/
def Df.runR (bs : List Bool) (Φ : Fns) (f : Df) (ds : List D) : DR := if ds.length = bs.length then (evSs Φ f.body (stR 0 bs ds ++ List.replicate (f.slots - ds.length) .un)).endR bs else .no
def Df.run (Φ : Fns) (f : Df) (ds : List D) : DR := (evSs Φ f.body (ds.map .fz ++ List.replicate (f.slots - ds.length) .un)).end
end DL
set_option Elab.async false
set_option linter.all false
set_option maxRecDepth 100000
set_option maxHeartbeats 4000000
/-! DLb: how data lies in the heap; an expression's and a statement's end over it. -/
namespace DL
open PySem PySem.Spec PyProof.Rows L2

mutual
/-- the value v is worth the data d, over the part H of the heap -/
inductive Rp (K : PySem.W.Frag) (H : Hp) : V → D → Prop
  | non : Rp K H .non .non
  | bl (b : Bool) : Rp K H (.bl b) (.bl b)
  | int (i : Int) : Rp K H (.int i) (.int i)
  | str (x : Str) : Rp K H (.str x) (.str x)
  | tup {a : Addr} {xs : List V} {ds : List D} : H a = some (.tup xs) → Rps K H xs ds → Rp K H (.ref a) (.tup ds)
  | lst {a : Addr} {xs : List V} {ds : List D} : H a = some (.lst xs) → Rps K H xs ds → Rp K H (.ref a) (.lst ds)
  | ro {a : Addr} {xs : List V} {ds : List D} : SqL K H a xs ∨ SqT K H a xs → Rps K H xs ds → Rp K H (.ref a) (.ro ds)
  | dk {a : Addr} {ps : List (Key × V)} {kvs : List (D × D)} : Rd H a (.dK ps) → Rpk K H ps kvs → Rp K H (.ref a) (.dct false kvs)
  | dt {a : Addr} {ps : List (List Key × V)} {kvs : List (D × D)} : Rd H a (.dT ps) → Rpt K H ps kvs → Rp K H (.ref a) (.dct true kvs)
inductive Rps (K : PySem.W.Frag) (H : Hp) : List V → List D → Prop
  | nil : Rps K H [] []
  | cons {v : V} {vs : List V} {d : D} {ds : List D} : Rp K H v d → Rps K H vs ds → Rps K H (v :: vs) (d :: ds)
inductive Rpk (K : PySem.W.Frag) (H : Hp) : List (Key × V) → List (D × D) → Prop
  | nil : Rpk K H [] []
  | cons {k : Key} {v : V} {ps : List (Key × V)} {d e : D} {kvs : List (D × D)} : keyK d = some k → Rp K H v e → Rpk K H ps kvs → Rpk K H ((k, v) :: ps) ((d, e) :: kvs)
inductive Rpt (K : PySem.W.Frag) (H : Hp) : List (List Key × V) → List (D × D) → Prop
  | nil : Rpt K H [] []
  | cons {k : List Key} {v : V} {ps : List (List Key × V)} {d e : D} {kvs : List (D × D)} : keyT d = some k → Rp K H v e → Rpt K H ps kvs → Rpt K H ((k, v) :: ps) ((d, e) :: kvs)
end
theorem Same.rd' {H H' : Hp} {a : Addr} {u : HO} (e : Same H H') (h : Rd H a u) : Rd H' a u := by
  rcases h with h | ⟨o, h⟩
  · exact .inl (e _ _ h)
  · exact .inr ⟨o, e _ _ h⟩
theorem Same.seqT {K : PySem.W.Frag} {H H' : Hp} {a : Addr} {xs : List V} (e : Same H H') (h : SqT K H a xs) : SqT K H' a xs := by
  rcases h with (h | ⟨o, h⟩) | h
  · exact .inl (.inl (e _ _ h))
  · exact .inl (.inr ⟨o, e _ _ h⟩)
  · exact .inr h
section
variable {K : PySem.W.Frag} {H H' : Hp}
mutual
theorem Rp.mono (e : Same H H') : ∀ {v : V} {d : D}, Rp K H v d → Rp K H' v d
  | _, _, .non => .non
  | _, _, .bl b => .bl b
  | _, _, .int i => .int i
  | _, _, .str x => .str x
  | _, _, .tup h r => .tup (e _ _ h) (Rps.mono e r)
  | _, _, .lst h r => .lst (e _ _ h) (Rps.mono e r)
  | _, _, .ro h r => .ro (h.imp e.seq (Same.seqT e)) (Rps.mono e r)
  | _, _, .dk h r => .dk (Same.rd' e h) (Rpk.mono e r)
  | _, _, .dt h r => .dt (Same.rd' e h) (Rpt.mono e r)
theorem Rps.mono (e : Same H H') : ∀ {vs : List V} {ds : List D}, Rps K H vs ds → Rps K H' vs ds
  | _, _, .nil => .nil
  | _, _, .cons h r => .cons (Rp.mono e h) (Rps.mono e r)
theorem Rpk.mono (e : Same H H') : ∀ {ps : List (Key × V)} {kvs : List (D × D)}, Rpk K H ps kvs → Rpk K H' ps kvs
  | _, _, .nil => .nil
  | _, _, .cons k h r => .cons k (Rp.mono e h) (Rpk.mono e r)
theorem Rpt.mono (e : Same H H') : ∀ {ps : List (List Key × V)} {kvs : List (D × D)}, Rpt K H ps kvs → Rpt K H' ps kvs
  | _, _, .nil => .nil
  | _, _, .cons k h r => .cons k (Rp.mono e h) (Rpt.mono e r)
end
theorem Rps.length : ∀ {vs : List V} {ds : List D}, Rps K H vs ds → vs.length = ds.length
  | _, _, .nil => rfl
  | _, _, .cons _ r => congrArg (· + 1) (Rps.length r)
theorem Rps.get : ∀ {vs : List V} {ds : List D} {i : Nat} {d : D}, Rps K H vs ds → ds[i]? = some d → ∃ v, vs[i]? = some v ∧ Rp K H v d
  | _, _, _, _, .nil, e => by simp at e
  | _, _, 0, _, .cons h _, e => by simp at e; subst e; exact ⟨_, rfl, h⟩
  | _, _, i + 1, d, .cons _ r, e => by
    obtain ⟨v, h1, h2⟩ := Rps.get (i := i) (d := d) r (by simpa using e)
    exact ⟨v, by simpa using h1, h2⟩
theorem Rps.getV : ∀ {vs : List V} {ds : List D} {i : Nat} {v : V}, Rps K H vs ds → vs[i]? = some v → ∃ d, ds[i]? = some d ∧ Rp K H v d
  | _, _, _, _, .nil, e => by simp at e
  | _, _, 0, _, .cons h _, e => by simp at e; subst e; exact ⟨_, rfl, h⟩
  | _, _, i + 1, d, .cons _ r, e => by
    obtain ⟨v, h1, h2⟩ := Rps.getV (i := i) (v := d) r (by simpa using e)
    exact ⟨v, by simpa using h1, h2⟩
theorem Rps.append : ∀ {vs ws : List V} {ds es : List D}, Rps K H vs ds → Rps K H ws es → Rps K H (vs ++ ws) (ds ++ es)
  | _, _, _, _, .nil, s => s
  | _, _, _, _, .cons h r, s => .cons h (Rps.append r s)
theorem Rps.take : ∀ {vs : List V} {ds : List D} (n : Nat), Rps K H vs ds → Rps K H (vs.take n) (ds.take n)
  | _, _, 0, _ => .nil
  | _, _, _ + 1, .nil => .nil
  | _, _, n + 1, .cons h r => .cons h (Rps.take n r)
theorem Rps.drop : ∀ {vs : List V} {ds : List D} (n : Nat), Rps K H vs ds → Rps K H (vs.drop n) (ds.drop n)
  | _, _, 0, r => r
  | _, _, _ + 1, .nil => .nil
  | _, _, n + 1, .cons _ r => Rps.drop n r
theorem Rps.set {v : V} {d : D} (h : Rp K H v d) : ∀ {vs : List V} {ds : List D} (i : Nat), Rps K H vs ds → Rps K H (vs.set i v) (ds.set i d)
  | _, _, _, .nil => .nil
  | _, _, 0, .cons _ r => .cons h r
  | _, _, i + 1, .cons q r => .cons q (Rps.set h i r)
theorem Rps.rep {vs : List V} {ds : List D} (h : Rps K H vs ds) : ∀ k : Nat, Rps K H (List.replicate k vs).flatten (List.replicate k ds).flatten
  | 0 => .nil
  | k + 1 => by
    rw [List.replicate_succ, List.replicate_succ, List.flatten_cons, List.flatten_cons]
    exact Rps.append h (Rps.rep h k)
theorem Rps.ints : ∀ ns : List Int, Rps K H (ns.map V.int) (ns.map D.int)
  | [] => .nil
  | n :: ns => .cons (.int n) (Rps.ints ns)
theorem Rps.intsV : ∀ {vs : List V} {ds : List D} {ns : List Int}, Rps K H vs ds → intsOf ds = some ns → vs = ns.map V.int
  | _, _, ns, .nil, e => by
    have e' : some [] = some ns := e
    cases e'
    rfl
  | _, _, ns, .cons (d := d) (ds := ds) h r, e => by
    cases h with
    | int i =>
      have e' : (intsOf ds).map (i :: ·) = some ns := e
      cases q : intsOf ds with
      | none => rw [q] at e'; cases e'
      | some ms =>
        rw [q] at e'
        cases e'
        rw [Rps.intsV r q]
        rfl
    | _ => cases e
/-! ### Python's == -/
mutual
theorem eqv_py : ∀ d e : D, PyData.eqv d.py e.py = D.eqv d e
  | .non, e => by cases e <;> simp [D.py, PyData.eqv, D.eqv]
  | .bl b, e => by cases e <;> simp [D.py, PyData.eqv, D.eqv]
  | .int i, e => by cases e <;> simp [D.py, PyData.eqv, D.eqv]
  | .str x, e => by cases e <;> simp [D.py, PyData.eqv, D.eqv]
  | .tup xs, e => by cases e <;> simp [D.py, PyData.eqv, D.eqv, eqvs_py xs]
  | .lst xs, e => by cases e <;> simp [D.py, PyData.eqv, D.eqv, eqvs_py xs]
  | .ro k, e => by cases e <;> simp [D.py, PyData.eqv, D.eqv]
  | .dct t k, e => by cases e <;> simp [D.py, PyData.eqv, D.eqv]
  | .obj c f, e => by cases e <;> simp [D.py, PyData.eqv, D.eqv]
theorem eqvs_py : ∀ ds es : List D, PyData.eqvAll (D.pys ds) (D.pys es) = D.eqvs ds es
  | [], [] => by simp [D.pys, PyData.eqvAll, D.eqvs]
  | [], _ :: _ => by simp [D.pys, PyData.eqvAll, D.eqvs]
  | _ :: _, [] => by simp [D.pys, PyData.eqvAll, D.eqvs]
  | d :: ds, e :: es => by simp [D.pys, PyData.eqvAll, D.eqvs, eqv_py d e, eqvs_py ds es]
end
mutual
theorem okN_lay : ∀ (n : Nat) (d : D), D.okN n d = true → d.py.canLay0 = true ∧ d.py.depth ≤ n + 1
  | n, .non, _ => by simp [D.py, PyData.canLay0, PyData.depth]
  | n, .bl _, _ => by simp [D.py, PyData.canLay0, PyData.depth]
  | n, .int _, _ => by simp [D.py, PyData.canLay0, PyData.depth]
  | n, .str x, h => by
    have h' : PyData.strOk x = true := by cases n <;> simpa [D.okN] using h
    simp [D.py, PyData.canLay0, PyData.depth, h']
  | 0, .tup xs, h => by simp [D.okN] at h
  | 0, .lst xs, h => by simp [D.okN] at h
  | n + 1, .tup xs, h => by
    have q := okNs_lay n xs (by simpa [D.okN] using h)
    simp only [D.py, PyData.canLay0, PyData.depth]
    exact ⟨q.1, by have := q.2; omega⟩
  | n + 1, .lst xs, h => by
    have q := okNs_lay n xs (by simpa [D.okN] using h)
    simp only [D.py, PyData.canLay0, PyData.depth]
    exact ⟨q.1, by have := q.2; omega⟩
  | 0, .ro k, h => by simp [D.okN] at h
  | n + 1, .ro k, h => by simp [D.okN] at h
  | 0, .dct t k, h => by simp [D.okN] at h
  | n + 1, .dct t k, h => by simp [D.okN] at h
  | 0, .obj c f, h => by simp [D.okN] at h
  | n + 1, .obj c f, h => by simp [D.okN] at h
theorem okNs_lay : ∀ (n : Nat) (ds : List D), D.okNs n ds = true → PyData.canLayAll0 (D.pys ds) = true ∧ PyData.depthAll (D.pys ds) ≤ n + 1
  | n, [], _ => by simp [D.pys, PyData.canLayAll0, PyData.depthAll]
  | n, d :: ds, h => by
    have h' : D.okN n d = true ∧ D.okNs n ds = true := by cases n <;> simpa [D.okNs] using h
    have q1 := okN_lay n d h'.1
    have q2 := okNs_lay n ds h'.2
    simp only [D.pys, PyData.canLayAll0, PyData.depthAll, q1.1, q2.1, Bool.and_self, true_and]
    exact Nat.max_le.mpr ⟨q1.2, q2.2⟩
end
theorem ok_shaped {d : D} (h : D.okN 60 d = true) : SeqAt.shaped d.py = true := by
  have q := okN_lay 60 d h
  unfold SeqAt.shaped
  rw [q.1, decide_eq_true (show d.py.depth ≤ 64 by have := q.2; omega)]
  rfl
mutual
theorem Rp.dp : ∀ {n : Nat} {v : V} {d : D}, Rp K H v d → D.okN n d = true → Dp K H v d.py
  | _, _, _, .non, _ => .non
  | _, _, _, .bl b, _ => .bl b
  | _, _, _, .int i, _ => .int i
  | _, _, _, .str x, _ => .str x
  | 0, _, _, .tup h r, q => by simp [D.okN] at q
  | n + 1, _, _, .tup h r, q => .tup (SqT.of h) (Rps.dp (n := n) r (by simpa [D.okN] using q))
  | 0, _, _, .lst h r, q => by simp [D.okN] at q
  | n + 1, _, _, .lst h r, q => .lst (SqL.of h) (Rps.dp (n := n) r (by simpa [D.okN] using q))
  | 0, _, _, .ro h r, q => by simp [D.okN] at q
  | n + 1, _, _, .ro h r, q => by simp [D.okN] at q
  | 0, _, _, .dk h r, q => by simp [D.okN] at q
  | n + 1, _, _, .dk h r, q => by simp [D.okN] at q
  | 0, _, _, .dt h r, q => by simp [D.okN] at q
  | n + 1, _, _, .dt h r, q => by simp [D.okN] at q
theorem Rps.dp : ∀ {n : Nat} {vs : List V} {ds : List D}, Rps K H vs ds → D.okNs n ds = true → DpAll K H vs (D.pys ds)
  | _, _, _, .nil, _ => .nil
  | n, _, _, .cons (d := d) (ds := ds) h r, q => by
    have q' : D.okN n d = true ∧ D.okNs n ds = true := by cases n <;> simpa [D.okNs] using q
    exact .cons (Rp.dp (n := n) h q'.1) (Rps.dp (n := n) r q'.2)
end
end

/-! ### heaps: the frame Fr, what is frozen Hf, all of it H -/
/-- a dict that may still change -/
def DctO : HO → Prop
  | .dK _ => True
  | .dT _ => True
  | _ => False
def NoD (H : Hp) : Prop := ∀ a o, H a = some o → ¬ DctO o
/-- the heap has grown; what is new in the frozen part is new in the heap -/
structure Grow (Hf H Hf' H' : Hp) : Prop where
  f : Same Hf Hf'
  h : Same H H'
  n : ∀ a o, Hf' a = some o → Hf a = some o ∨ (H a = none ∧ H' a = some o) ∨ ∃ xs, o = .tup xs ∧ H' a = some o
  d : NoD Hf → NoD Hf'
theorem Grow.refl {Hf H : Hp} : Grow Hf H Hf H := ⟨Same.refl _, Same.refl _, fun _ _ h => .inl h, fun h => h⟩
theorem Grow.trans {Hf H Hf1 H1 Hf2 H2 : Hp} (a : Grow Hf H Hf1 H1) (b : Grow Hf1 H1 Hf2 H2) : Grow Hf H Hf2 H2 := by
  refine ⟨a.f.trans b.f, a.h.trans b.h, fun c o e => ?_, fun h => b.d (a.d h)⟩
  rcases b.n c o e with q | ⟨q1, q2⟩ | ⟨xs, q1, q2⟩
  · rcases a.n c o q with q | ⟨q1, q2⟩ | ⟨xs, q1, q2⟩
    · exact .inl q
    · exact .inr (.inl ⟨q1, b.h _ _ q2⟩)
    · exact .inr (.inr ⟨xs, q1, b.h _ _ q2⟩)
  · refine .inr (.inl ⟨?_, q2⟩)
    cases r : H c with
    | none => rfl
    | some u =>
      rw [a.h _ _ r] at q1
      cases q1
  · exact .inr (.inr ⟨xs, q1, q2⟩)
theorem same_upd {H : Hp} {p : Addr} {o : HO} (h : H p = none) : Same H (upd H p o) := fun b x e => by
  rw [upd_ne (ne_of_none e h)]
  exact e
/-- a new object, frozen -/
theorem NoD.upd {H : Hp} {p : Addr} {o : HO} (h : NoD H) (ho : ¬ DctO o) : NoD (upd H p o) := fun a u e => by
  by_cases q : a = p
  · subst q
    rw [upd_same] at e
    cases e
    exact ho
  · rw [upd_ne q] at e
    exact h a u e
theorem Grow.new {Hf H : Hp} {p : Addr} {o : HO} (s : Same Hf H) (h : H p = none) (ho : ¬ DctO o := by exact fun h => h) : Grow Hf H (L2.upd Hf p o) (L2.upd H p o) := by
  have hf : Hf p = none := s.free h
  refine ⟨same_upd hf, same_upd h, fun a u e => ?_, fun h => h.upd ho⟩
  by_cases q : a = p
  · subst q
    rw [upd_same] at e
    exact .inr (.inl ⟨h, by rw [upd_same]; exact e⟩)
  · rw [upd_ne q] at e
    exact .inl e
/-- a new object that is not frozen -/
theorem Grow.extra {Hf H : Hp} {p : Addr} {o : HO} (h : H p = none) : Grow Hf H Hf (upd H p o) := ⟨Same.refl _, same_upd h, fun _ _ e => .inl e, fun h => h⟩

/-- the frame: what stands outside; where the by-reference parameters' things stand -/
structure Fm where
  h : Hp
  al : Nat → Addr
instance : CoeFun Fm fun _ => Addr → Option HO := ⟨Fm.h⟩
abbrev Fm.upd (F : Fm) (p : Addr) (u : HO) : Fm := ⟨L2.upd F.h p u, F.al⟩
theorem Fm.upd_same {F : Fm} {p : Addr} {u : HO} : F.upd p u p = some u := L2.upd_same
theorem Fm.upd_ne {F : Fm} {p b : Addr} {u : HO} (h : b ≠ p) : F.upd p u b = F b := L2.upd_ne h
structure HeapAt (Fr : Fm) (Hf H : Hp) : Prop where
  fr : Same Fr.h H
  hf : Same Hf H
  dj : ∀ a, Fr a ≠ none → Hf a = none ∨ ∃ xs, Hf a = some (.tup xs)
  nd : NoD Hf
theorem HeapAt.grow {Fr : Fm} {Hf H Hf' H' : Hp} (h : HeapAt Fr Hf H) (g : Grow Hf H Hf' H') : HeapAt Fr Hf' H' := by
  refine ⟨h.fr.trans g.h, fun a o e => ?_, fun a q => ?_, g.d h.nd⟩
  · rcases g.n a o e with r | ⟨_, r⟩ | ⟨_, _, r⟩
    · exact g.h _ _ (h.hf _ _ r)
    · exact r
    · exact r
  · cases e : Hf' a with
    | none => exact .inl rfl
    | some o =>
      rcases g.n a o e with r | ⟨r, _⟩ | ⟨xs, r, _⟩
      · rcases h.dj a q with z | ⟨xs, z⟩
        · rw [z] at r; cases r
        · rw [z] at r
          cases r
          exact .inr ⟨xs, rfl⟩
      · exfalso
        cases f : Fr a with
        | none => exact q f
        | some u =>
          rw [h.fr _ _ f] at r
          cases r
      · exact .inr ⟨xs, by rw [r]⟩

/-- a thing of one's own: no tuple -/
def OwnHO : HO → Prop
  | .lst _ => True
  | .dK _ => True
  | .dT _ => True
  | _ => False
/-- the object o is worth d -/
def RpO (K : PySem.W.Frag) (H : Hp) (o : HO) : D → Prop
  | .lst ds => ∃ xs, o = .lst xs ∧ Rps K H xs ds
  | .dct false kvs => ∃ ps, o = .dK ps ∧ Rpk K H ps kvs
  | .dct true kvs => ∃ ps, o = .dT ps ∧ Rpt K H ps kvs
  | _ => False
theorem RpO.own {K : PySem.W.Frag} {H : Hp} {o : HO} {d : D} (h : RpO K H o d) : OwnHO o := by
  cases d with
  | lst ds => obtain ⟨xs, rfl, _⟩ := h; trivial
  | dct t kvs => cases t <;> (obtain ⟨xs, rfl, _⟩ := h; trivial)
  | _ => cases h
theorem RpO.mono {K : PySem.W.Frag} {H H' : Hp} (e : Same H H') {o : HO} {d : D} (h : RpO K H o d) : RpO K H' o d := by
  cases d with
  | lst ds => obtain ⟨xs, rfl, r⟩ := h; exact ⟨xs, rfl, r.mono e⟩
  | dct t kvs => cases t <;> (obtain ⟨xs, rfl, r⟩ := h; exact ⟨xs, rfl, r.mono e⟩)
  | _ => cases h
theorem RpO.rp {K : PySem.W.Frag} {H : Hp} {a : Addr} {o : HO} {d : D} (h : RpO K H o d) (e : H a = some o) : Rp K H (.ref a) d := by
  cases d with
  | lst ds => obtain ⟨xs, rfl, r⟩ := h; exact .lst e r
  | dct t kvs =>
    cases t
    · obtain ⟨xs, rfl, r⟩ := h; exact .dk (.inl e) r
    · obtain ⟨xs, rfl, r⟩ := h; exact .dt (.inl e) r
  | _ => cases h
/-- what a thing is once it is frozen: a dict is locked -/
inductive Locked : HO → HO → Prop
  | lst (xs : List V) : Locked (.lst xs) (.lst xs)
  | dk (o : Obj) (ps : List (Key × V)) : Locked (.dK ps) (.frz o (.dK ps))
  | dt (o : Obj) (ps : List (List Key × V)) : Locked (.dT ps) (.frz o (.dT ps))
theorem Locked.nod {u u' : HO} (l : Locked u u') : ¬ DctO u' := by cases l <;> exact fun h => h
theorem RpO.rpL {K : PySem.W.Frag} {H : Hp} {a : Addr} {o o' : HO} {d : D} (h : RpO K H o d) (l : Locked o o') (e : H a = some o') : Rp K H (.ref a) d := by
  cases d with
  | lst ds => obtain ⟨xs, rfl, r⟩ := h; cases l; exact .lst e r
  | dct t kvs =>
    cases t
    · obtain ⟨xs, rfl, r⟩ := h; cases l; exact .dk (.inr ⟨_, e⟩) r
    · obtain ⟨xs, rfl, r⟩ := h; cases l; exact .dt (.inr ⟨_, e⟩) r
  | _ => cases h
/-- slot i of ρ holds a thing of its own, at a -/
def Own (ρ : Env) (σ : L2.St) (i : Nat) (a : Addr) : Prop := isOw ρ[i]? = true ∧ σ[i]? = some (some (.ref a))
def SlAt (K : PySem.W.Frag) (Fr : Fm) (Hf H : Hp) (o : Option (Option V)) : Sl → Prop
  | .un => True
  | .fz d => ∃ v, o = some (some v) ∧ Rp K Hf v d
  | .ow' t d => ∃ a u, o = some (some (.ref a)) ∧ Fr a = none ∧ Hf a = none ∧ H a = some u ∧ RpO K Hf u d ∧ ∀ k, t = some k → Fr.al k = a
structure EnvAt (K : PySem.W.Frag) (Fr : Fm) (Hf : Hp) (ρ : Env) (σ : L2.St) (H : Hp) : Prop where
  hp : HeapAt Fr Hf H
  len : ρ.length = σ.length
  sl : ∀ (i : Nat) s, ρ[i]? = some s → SlAt K Fr Hf H σ[i]? s
  ne : ∀ i j a, Own ρ σ i a → Own ρ σ j a → i = j
section
variable {K : PySem.W.Frag} {Fr : Fm} {Hf H Hf' H' : Hp} {ρ ρ' : Env} {σ σ' : L2.St}
theorem EnvAt.own (e : EnvAt K Fr Hf ρ σ H) {i : Nat} {a : Addr} (h : Own ρ σ i a) : Fr a = none ∧ Hf a = none ∧ ∃ o, H a = some o ∧ OwnHO o := by
  obtain ⟨h1, h2⟩ := h
  cases q : ρ[i]? with
  | none => rw [q] at h1; cases h1
  | some s =>
    have z := e.sl i s q
    rw [q] at h1
    cases s with
    | un => cases h1
    | fz d => cases h1
    | ow' t ds =>
      obtain ⟨b, xs, e1, e2, e3, e4, e5, _⟩ := z
      rw [h2] at e1
      cases e1
      exact ⟨e2, e3, _, e4, e5.own⟩
/-- the frozen part grows, the owned things stay out of it -/
theorem keep_out {Hf H Hf' H' : Hp} (g : Grow Hf H Hf' H') {a : Addr} {o : HO} (n : Hf a = none) (q : H a = some o) (w : OwnHO o) : Hf' a = none := by
  cases z : Hf' a with
  | none => rfl
  | some u =>
    rcases g.n a u z with y | ⟨y, _⟩ | ⟨xs, y, y2⟩
    · rw [n] at y; cases y
    · rw [q] at y; cases y
    · rw [g.h _ _ q] at y2
      cases y2
      subst y
      exact w.elim
theorem SlAt.grow {o : Option (Option V)} {s : Sl} (h : SlAt K Fr Hf H o s) (g : Grow Hf H Hf' H') : SlAt K Fr Hf' H' o s := by
  cases s with
  | un => trivial
  | fz d =>
    obtain ⟨v, e, r⟩ := h
    exact ⟨v, e, r.mono g.f⟩
  | ow' t ds =>
    obtain ⟨a, xs, e, f, n, q, r, w⟩ := h
    exact ⟨a, xs, e, f, keep_out g n q r.own, g.h _ _ q, r.mono g.f, w⟩
theorem EnvAt.grow (e : EnvAt K Fr Hf ρ σ H) (g : Grow Hf H Hf' H') : EnvAt K Fr Hf' ρ σ H' :=
  ⟨e.hp.grow g, e.len, fun i s q => (e.sl i s q).grow g, e.ne⟩
/-- a slot is looked at -/
theorem EnvAt.look (e : EnvAt K Fr Hf ρ σ H) {i : Nat} {d : D} (h : peekV i ρ = some d) : ∃ v, σ[i]? = some (some v) ∧ ∃ Hp', Same Hf Hp' ∧ Same Hp' H ∧ Rp K Hp' v d := by
  unfold peekV at h
  cases q : ρ[i]? with
  | none => rw [q] at h; cases h
  | some s =>
    have z := e.sl i s q
    rw [q] at h
    cases s with
    | un => cases h
    | fz d' =>
      cases h
      obtain ⟨v, e1, r⟩ := z
      exact ⟨v, e1, Hf, Same.refl _, e.hp.hf, r⟩
    | ow' t ds =>
      cases h
      obtain ⟨a, o, e1, f, n, q2, r, _⟩ := z
      refine ⟨_, e1, upd Hf a o, same_upd n, fun b o y => ?_, (r.mono (same_upd n)).rp upd_same⟩
      by_cases hb : b = a
      · subst hb
        rw [upd_same] at y
        cases y
        exact q2
      · rw [upd_ne hb] at y
        exact e.hp.hf _ _ y
theorem own_set_fz {i j : Nat} {a : Addr} {d : D} (h : Own (ρ.set i (.fz d)) σ j a) : Own ρ σ j a ∧ j ≠ i := by
  obtain ⟨h1, h2⟩ := h
  by_cases q : j = i
  · subst q
    by_cases hl : j < ρ.length
    · rw [List.getElem?_set_self hl] at h1; cases h1
    · rw [List.getElem?_eq_none (by simpa using hl)] at h1; cases h1
  · rw [List.getElem?_set_ne (Ne.symm q)] at h1
    exact ⟨⟨h1, h2⟩, q⟩
/-- the slot's own thing is frozen: the frozen part grows by it -/
theorem EnvAt.freeze (e : EnvAt K Fr Hf ρ σ H) {i : Nat} {d : D} (h : ρ[i]? = some (.ow d)) :
    ∃ a u, σ[i]? = some (some (.ref a)) ∧ H a = some u ∧ RpO K Hf u d ∧ ∀ u', Locked u u' → Same Hf (upd Hf a u') ∧ Rp K (upd Hf a u') (.ref a) d ∧ EnvAt K Fr (upd Hf a u') (ρ.set i (.fz d)) σ (upd H a u') := by
  obtain ⟨a, u, e1, f, n, q, r, tg⟩ := e.sl i _ h
  refine ⟨a, u, e1, q, r, fun u' lk => ?_⟩
  have sm : Same Hf (upd Hf a u') := same_upd n
  have rp : Rp K (upd Hf a u') (.ref a) d := (r.mono sm).rpL lk upd_same
  have oa : Own ρ σ i a := ⟨by rw [h]; rfl, e1⟩
  refine ⟨sm, rp, ⟨⟨fun b o y => ?_, fun b o y => ?_, fun b y => ?_, e.hp.nd.upd lk.nod⟩, by rw [List.length_set]; exact e.len, fun j s y => ?_, fun j k b y1 y2 => e.ne j k b (own_set_fz y1).1 (own_set_fz y2).1⟩⟩
  · rw [upd_ne (fun z => by rw [z, f] at y; cases y)]
    exact e.hp.fr _ _ y
  · by_cases hb : b = a
    · subst hb
      rw [upd_same] at y
      cases y
      exact upd_same
    · rw [upd_ne hb] at y ⊢
      exact e.hp.hf _ _ y
  · rw [upd_ne (fun z => y (by rw [z]; exact f))]
    exact e.hp.dj b y
  · by_cases hj : j = i
    · subst hj
      rw [List.getElem?_set_self (by rcases List.getElem?_eq_some_iff.mp h with ⟨l, _⟩; exact l)] at y
      cases y
      exact ⟨_, e1, rp⟩
    · rw [List.getElem?_set_ne (Ne.symm hj)] at y
      have z := e.sl j s y
      cases s with
      | un => trivial
      | fz d =>
        obtain ⟨v, e2, r2⟩ := z
        exact ⟨v, e2, r2.mono sm⟩
      | ow' t2 d2 =>
        obtain ⟨b, ys, e2, f2, n2, q2, r2, w2⟩ := z
        have hne : b ≠ a := fun w => hj (e.ne j i a ⟨by rw [y]; rfl, by rw [← w]; exact e2⟩ oa)
        refine ⟨b, ys, e2, f2, ?_, ?_, r2.mono sm, w2⟩
        · rw [upd_ne hne]
          exact n2
        · rw [upd_ne hne]
          exact q2
/-- a value is stored -/
theorem EnvAt.store (e : EnvAt K Fr Hf ρ σ H) {i : Nat} {v : V} {d : D} (hi : i < ρ.length) (r : Rp K Hf v d) : EnvAt K Fr Hf (ρ.set i (.fz d)) (σ.set i (some v)) H := by
  have hs : i < σ.length := by rw [← e.len]; exact hi
  have ow : ∀ {j : Nat} {a : Addr}, Own (ρ.set i (.fz d)) (σ.set i (some v)) j a → Own ρ σ j a := fun {j a} h => by
    obtain ⟨h1, h2⟩ := h
    by_cases q : j = i
    · subst q
      rw [List.getElem?_set_self hi] at h1; cases h1
    · rw [List.getElem?_set_ne (Ne.symm q)] at h1 h2
      exact ⟨h1, h2⟩
  refine ⟨e.hp, by rw [List.length_set, List.length_set]; exact e.len, fun j s y => ?_, fun j k b y1 y2 => e.ne j k b (ow y1) (ow y2)⟩
  by_cases hj : j = i
  · subst hj
    rw [List.getElem?_set_self hi] at y
    cases y
    exact ⟨v, List.getElem?_set_self hs, r⟩
  · rw [List.getElem?_set_ne (Ne.symm hj)] at y ⊢
    exact e.sl j s y
/-- a new list or dict p: of no slot, not frozen -/
structure NewAt (K : PySem.W.Frag) (Fr : Fm) (Hf : Hp) (ρ : Env) (σ : L2.St) (H : Hp) (p : Addr) (u : HO) : Prop where
  fr : Fr p = none
  hf : Hf p = none
  at_ : H p = some u
  no : ∀ i, ¬ Own ρ σ i p
/-- .. stored as the slot's own -/
theorem EnvAt.storeN (e : EnvAt K Fr Hf ρ σ H) {i : Nat} {p : Addr} {u : HO} {d : D} (hi : i < ρ.length) (n : NewAt K Fr Hf ρ σ H p u) (r : RpO K Hf u d) : EnvAt K Fr Hf (ρ.set i (.ow d)) (σ.set i (some (.ref p))) H := by
  have hs : i < σ.length := by rw [← e.len]; exact hi
  have ow : ∀ {j : Nat} {a : Addr}, Own (ρ.set i (.ow d)) (σ.set i (some (.ref p))) j a → (j = i ∧ a = p) ∨ (j ≠ i ∧ Own ρ σ j a) := fun {j a} h => by
    obtain ⟨h1, h2⟩ := h
    by_cases q : j = i
    · subst q
      rw [List.getElem?_set_self hs] at h2
      cases h2
      exact .inl ⟨rfl, rfl⟩
    · rw [List.getElem?_set_ne (Ne.symm q)] at h1 h2
      exact .inr ⟨q, h1, h2⟩
  refine ⟨e.hp, by rw [List.length_set, List.length_set]; exact e.len, fun j s y => ?_, fun j k b y1 y2 => ?_⟩
  · by_cases hj : j = i
    · subst hj
      rw [List.getElem?_set_self hi] at y
      cases y
      exact ⟨p, u, List.getElem?_set_self hs, n.fr, n.hf, n.at_, r, fun k z => nomatch z⟩
    · rw [List.getElem?_set_ne (Ne.symm hj)] at y ⊢
      exact e.sl j s y
  · rcases ow y1 with ⟨rfl, rfl⟩ | ⟨_, z1⟩
    · rcases ow y2 with ⟨rfl, _⟩ | ⟨_, z2⟩
      · rfl
      · exact absurd z2 (n.no k)
    · rcases ow y2 with ⟨rfl, rfl⟩ | ⟨_, z2⟩
      · exact absurd z1 (n.no j)
      · exact e.ne j k b z1 z2
/-- .. frozen at once -/
theorem EnvAt.frozenN (e : EnvAt K Fr Hf ρ σ H) {p : Addr} {u : HO} {d : D} (n : NewAt K Fr Hf ρ σ H p u) (r : RpO K Hf u d) :
    ∀ u', Locked u u' → Same Hf (upd Hf p u') ∧ EnvAt K Fr (upd Hf p u') ρ σ (upd H p u') ∧ Rp K (upd Hf p u') (.ref p) d := by
  intro u' lk
  have sm : Same Hf (upd Hf p u') := same_upd n.hf
  refine ⟨sm, ⟨⟨fun b o y => ?_, fun b o y => ?_, fun b y => ?_, e.hp.nd.upd lk.nod⟩, e.len, fun j s y => ?_, e.ne⟩, (r.mono sm).rpL lk upd_same⟩
  · rw [upd_ne (fun z => by rw [z, n.fr] at y; cases y)]
    exact e.hp.fr _ _ y
  · by_cases hb : b = p
    · subst hb
      rw [upd_same] at y
      cases y
      exact upd_same
    · rw [upd_ne hb] at y ⊢
      exact e.hp.hf _ _ y
  · rw [upd_ne (fun z => y (by rw [z]; exact n.fr))]
    exact e.hp.dj b y
  · have z := e.sl j s y
    cases s with
    | un => trivial
    | fz d =>
      obtain ⟨v, e2, r2⟩ := z
      exact ⟨v, e2, r2.mono sm⟩
    | ow' t2 d2 =>
      obtain ⟨b, ys, e2, f2, n2, q2, r2, w2⟩ := z
      have hne : b ≠ p := fun w => n.no j ⟨by rw [y]; rfl, by rw [← w]; exact e2⟩
      refine ⟨b, ys, e2, f2, ?_, ?_, r2.mono sm, w2⟩
      · rw [upd_ne hne]
        exact n2
      · rw [upd_ne hne]
        exact q2
/-- the slot's own thing is changed -/
theorem EnvAt.change (e : EnvAt K Fr Hf ρ σ H) {i : Nat} {tg : Option Nat} {d d' : D} (h : ρ[i]? = some (.ow' tg d)) :
    ∃ a u, σ[i]? = some (some (.ref a)) ∧ H a = some u ∧ RpO K Hf u d ∧ ∀ u', RpO K Hf u' d' → EnvAt K Fr Hf (ρ.set i (.ow' tg d')) σ (upd H a u') := by
  obtain ⟨a, u, e1, f, n, q, r, wt⟩ := e.sl i _ h
  have hi : i < ρ.length := by rcases List.getElem?_eq_some_iff.mp h with ⟨l, _⟩; exact l
  have oa : Own ρ σ i a := ⟨by rw [h]; rfl, e1⟩
  refine ⟨a, u, e1, q, r, fun ys ry => ⟨⟨fun b o y => ?_, fun b o y => ?_, e.hp.dj, e.hp.nd⟩, by rw [List.length_set]; exact e.len, fun j s y => ?_, fun j k b y1 y2 => e.ne j k b ?_ ?_⟩⟩
  · rw [upd_ne fun z => by rw [z, f] at y; cases y]
    exact e.hp.fr _ _ y
  · rw [upd_ne fun z => by rw [z, n] at y; cases y]
    exact e.hp.hf _ _ y
  · by_cases hj : j = i
    · subst hj
      rw [List.getElem?_set_self hi] at y
      cases y
      exact ⟨a, ys, e1, f, n, upd_same, ry, wt⟩
    · rw [List.getElem?_set_ne (Ne.symm hj)] at y
      have z := e.sl j s y
      cases s with
      | un => trivial
      | fz d => exact z
      | ow' t2 d2 =>
        obtain ⟨b, zs, e2, f2, n2, q2, r2, w2⟩ := z
        refine ⟨b, zs, e2, f2, n2, ?_, r2, w2⟩
        rw [upd_ne fun w => hj (e.ne j i a ⟨by rw [y]; rfl, by rw [← w]; exact e2⟩ oa)]
        exact q2
  · obtain ⟨h1, h2⟩ := y1
    refine ⟨?_, h2⟩
    by_cases hj : j = i
    · subst hj; rw [h]; rfl
    · rw [List.getElem?_set_ne (Ne.symm hj)] at h1; exact h1
  · obtain ⟨h1, h2⟩ := y2
    refine ⟨?_, h2⟩
    by_cases hj : k = i
    · subst hj; rw [h]; rfl
    · rw [List.getElem?_set_ne (Ne.symm hj)] at h1; exact h1
end
end DL
set_option Elab.async false
set_option linter.all false
set_option maxRecDepth 100000
set_option maxHeartbeats 4000000
/-! DLc: the evaluator's ends as readings; one rule a construct (expressions). -/
namespace DL
open PySem PySem.Spec PyProof.Rows L2
abbrev SSt := L2.St

/-- an exception as data -/
def ExAt (K : PySem.W.Frag) (Hf : Hp) (x : D) (cls : Value) (od : Option Addr) : Prop := match x with
  | .obj c fs => cls = .ref (He.ga K c) ∧ ∃ d vs, od = some d ∧ Hf d = some (.xd vs) ∧ vs.map (·.1) = fs.map (·.1) ∧ Rps K Hf (vs.map (·.2)) (fs.map (·.2))
  | _ => False

section
variable {K : PySem.W.Frag} {W : WX} {Fr : Fm} {Hf Hf1 : Hp} {σ : SSt} {α β γ δ : Type}
/-- the evaluator's end r, as what is wanted behind -/
def Go (K : PySem.W.Frag) (W : WX) (Fr : Fm) (Hf : Hp) (σ : SSt) (P : Hp → Hp → Env → β → α → Prop) (r : R α) (Q : β → Hp → Prop) : Prop := match r with
  | .no => False
  | .ex x ρ => ∀ Hf' H' cls od, Same Hf Hf' → EnvAt K Fr Hf' ρ σ H' → ExAt K Hf' x cls od → W cls od σ H'
  | .ok a ρ => ∀ b Hf' H', Same Hf Hf' → EnvAt K Fr Hf' ρ σ H' → P Hf' H' ρ b a → Q b H'
theorem Go.weak {P : Hp → Hp → Env → β → α → Prop} {r : R α} {Q : β → Hp → Prop} (g : Go K W Fr Hf σ P r Q) (s : Same Hf Hf1) : Go K W Fr Hf1 σ P r Q := by
  cases r with
  | no => exact g
  | ex x ρ => exact fun Hf' H' cls od s' => g Hf' H' cls od (s.trans s')
  | ok a ρ => exact fun b Hf' H' s' => g b Hf' H' (s.trans s')
theorem Go.imp {P : Hp → Hp → Env → β → α → Prop} {r : R α} {Q Q' : β → Hp → Prop} (g : Go K W Fr Hf σ P r Q) (h : ∀ b H', Q b H' → Q' b H') : Go K W Fr Hf σ P r Q' := by
  cases r with
  | no => exact g
  | ex x ρ => exact g
  | ok a ρ => exact fun b Hf' H' s' e p => h b H' (g b Hf' H' s' e p)
theorem Go.bind {P1 : Hp → Hp → Env → γ → δ → Prop} {P : Hp → Hp → Env → β → α → Prop} {r : R δ} {f : δ → Env → R α} {Q : β → Hp → Prop} (g : Go K W Fr Hf σ P (r.bind f) Q) :
    Go K W Fr Hf σ P1 r (fun c H1 => ∃ a Hf1 ρ1, Same Hf Hf1 ∧ EnvAt K Fr Hf1 ρ1 σ H1 ∧ P1 Hf1 H1 ρ1 c a ∧ Go K W Fr Hf1 σ P (f a ρ1) Q) := by
  cases r with
  | no => exact g
  | ex x ρ => exact g
  | ok a ρ => exact fun b Hf' H' s' e p => ⟨a, Hf', ρ, s', e, p, Go.weak g s'⟩
/-- what the values are -/
abbrev PV (K : PySem.W.Frag) : Hp → Hp → Env → V → D → Prop := fun Hf _ _ v d => Rp K Hf v d
abbrev PVs (K : PySem.W.Frag) : Hp → Hp → Env → List V → List D → Prop := fun Hf _ _ v d => Rps K Hf v d
abbrev PB : Hp → Hp → Env → Bool → D → Prop := fun _ _ _ b d => d = .bl b
abbrev PO' : Hp → Hp → Env → Option Int → Option Int → Prop := fun _ _ _ b d => b = d
abbrev PN (K : PySem.W.Frag) (Fr : Fm) (σ : SSt) : Hp → Hp → Env → V → D → Prop := fun Hf H ρ v d => ∃ p u, v = .ref p ∧ NewAt K Fr Hf ρ σ H p u ∧ RpO K Hf u d
/-- the readings -/
def rd (K : PySem.W.Frag) (W : WX) (m : Env → R D) : TE := fun σ H Q => ∃ Fr Hf ρ, EnvAt K Fr Hf ρ σ H ∧ Go K W Fr Hf σ (PV K) (m ρ) Q
def rdT (K : PySem.W.Frag) (W : WX) (m : Env → R D) : TT := fun σ H Q => ∃ Fr Hf ρ, EnvAt K Fr Hf ρ σ H ∧ Go K W Fr Hf σ PB (m ρ) Q
def rdA (K : PySem.W.Frag) (W : WX) (m : Env → R (List D)) : TA := fun σ H Q => ∃ Fr Hf ρ, EnvAt K Fr Hf ρ σ H ∧ Go K W Fr Hf σ (PVs K) (m ρ) Q
def rdO (K : PySem.W.Frag) (W : WX) (m : Env → R (Option Int)) : TO := fun σ H Q => ∃ Fr Hf ρ, EnvAt K Fr Hf ρ σ H ∧ Go K W Fr Hf σ PO' (m ρ) Q
def rdN (K : PySem.W.Frag) (W : WX) (m : Env → R D) : TE := fun σ H Q => ∃ Fr Hf ρ, EnvAt K Fr Hf ρ σ H ∧ Go K W Fr Hf σ (PN K Fr σ) (m ρ) Q
end

section
variable {X : Cx} {W : WX}
theorem PEweak {e : Expr} {t t' : TE} (h : PE X e t) (w : ∀ σ H Q, t' σ H Q → t σ H Q) : PE X e t' := ⟨fun pins s σ H Q I h' => h.run pins s σ H Q I (w σ H Q h')⟩
theorem PTweak {e : Expr} {t t' : TT} (h : PT X e t) (w : ∀ σ H Q, t' σ H Q → t σ H Q) : PT X e t' := ⟨fun pins s σ H Q I h' => h.run pins s σ H Q I (w σ H Q h')⟩
theorem PWweak {e : Expr} {t t' : TT} (h : PW X e t) (w : ∀ σ H Q, t' σ H Q → t σ H Q) : PW X e t' := ⟨fun wh pins s σ H Q I h' => h.run wh pins s σ H Q I (w σ H Q h')⟩
theorem PAweak {es : List Expr} {t t' : TA} (h : PA X es t) (w : ∀ σ H Q, t' σ H Q → t σ H Q) : PA X es t' := ⟨fun pos pins s σ H Q I h' => h.run pos pins s σ H Q I (w σ H Q h')⟩
theorem POweak {e : Option Expr} {t t' : TO} (h : PO X e t) (w : ∀ σ H Q, t' σ H Q → t σ H Q) : PO X e t' := ⟨fun pins s σ H Q I h' => h.run pins s σ H Q I (w σ H Q h')⟩
end

section
variable {X : Cx} {W : WX} {pos : Pos}
/-! ### what is wanted, once a dict is locked -/
def LockQ (Q : VK) : VK := fun v H => Q v H ∨ ∃ d u, v = .ref d ∧ H d = some u ∧ Mut (some u) ∧ ∀ od, Q v (upd H d (.frz od u))
theorem PElock {e : Expr} {t : TE} (h : PE X e t) : PE X e fun σ H Q => t σ H (LockQ Q) := by
  refine ⟨fun pins s σ H Q I h' => thn (h.run pins s σ H _ I h') fun v s1 ⟨x, H1, I1, r1, q1⟩ => ?_⟩
  rcases q1 with q | ⟨d, u, rfl, hd, mu, q⟩
  · exact ⟨x, H1, I1, r1, q⟩
  · obtain ⟨od, I2⟩ := I1.lock hd mu
    exact ⟨_, _, I2, r1, q od⟩
theorem upd_id {H : Hp} {a : Addr} {u : HO} (h : H a = some u) : upd H a u = H := by
  funext b
  by_cases q : b = a
  · subst q; rw [upd_same, h]
  · rw [upd_ne q]
/-- a thing frozen: a dict is locked -/
theorem lockQ_of {Q : VK} {H : Hp} {a : Addr} {u : HO} {K : PySem.W.Frag} {Hf : Hp} {d : D} (h : H a = some u) (r : RpO K Hf u d) (q : ∀ u', Locked u u' → Q (.ref a) (upd H a u')) : LockQ Q (.ref a) H := by
  cases d with
  | lst ds =>
    obtain ⟨xs, rfl, _⟩ := r
    have := q _ (.lst xs)
    rw [upd_id h] at this
    exact .inl this
  | dct t kvs =>
    cases t with
    | false =>
      obtain ⟨ps, rfl, _⟩ := r
      exact .inr ⟨a, _, rfl, h, trivial, fun od => q _ (.dk od ps)⟩
    | true =>
      obtain ⟨ps, rfl, _⟩ := r
      exact .inr ⟨a, _, rfl, h, trivial, fun od => q _ (.dt od ps)⟩
  | _ => cases r
/-! ### names, constants -/
theorem pd_v {i : Nat} {x : Str} (hN : X.N[i]? = some x) (hv : Vis X.env.scope x) (h1 : (x == ("__debug__" : Str)) = false) (h2 : (x == ("__classdict__" : Str)) = false) : PE X (.Name x pos) (rd X.K W (getV i)) := by
  refine PEweak (PElock (pe_var hN hv h1 h2)) fun σ H Q ⟨Fr, Hf, ρ, e, g⟩ => ?_
  unfold getV at g
  cases q : ρ[i]? with
  | none => rw [q] at g; exact g.elim
  | some s =>
    rw [q] at g
    cases s with
    | un => exact g.elim
    | fz d =>
      obtain ⟨v, e1, r⟩ := e.sl i _ q
      exact ⟨v, e1, .inl (g v Hf H (Same.refl _) e r)⟩
    | ow' tg ds =>
      cases tg with
      | some k => exact g.elim
      | none =>
      obtain ⟨a, u, e1, hu, ro, lk⟩ := e.freeze q
      exact ⟨.ref a, e1, lockQ_of hu ro fun u' l => by
        obtain ⟨sm, r, e2⟩ := lk u' l
        exact g _ _ _ sm e2 r⟩
def cstC : Cst → Option Const
  | .non => some .none
  | .bl b => some (.bool b)
  | .int i => some (.int i)
  | .str s => some (.str s)
  | .tups _ => none
theorem pd_c {k : Cst} {n : Nat} {c : Const} (h : cstC k = some c) : PE X (.Constant c n pos) (rd X.K W fun ρ => .ok k.d ρ) := by
  cases k with
  | non => cases h; exact PEweak pe_non fun σ H Q ⟨Fr, Hf, ρ, e, g⟩ => g _ Hf H (Same.refl _) e .non
  | bl b => cases h; exact PEweak pe_bl fun σ H Q ⟨Fr, Hf, ρ, e, g⟩ => g _ Hf H (Same.refl _) e (.bl b)
  | int b => cases h; exact PEweak pe_int fun σ H Q ⟨Fr, Hf, ρ, e, g⟩ => g _ Hf H (Same.refl _) e (.int b)
  | str b => cases h; exact PEweak pe_str fun σ H Q ⟨Fr, Hf, ρ, e, g⟩ => g _ Hf H (Same.refl _) e (.str b)
  | tups xs => cases h

/-! ### operators by values -/
variable {a b c : Expr} {ma mb mc : Env → R D}
/-- an operator's rule does what f says -/
def OpD (K : PySem.W.Frag) (r : R2) (f : D → D → Option D) : Prop := ∀ (Hf H : Hp) (v w : V) (d e z : D) (Q : VK), Same Hf H → Rp K Hf v d → Rp K Hf w e → f d e = some z → (∀ u Hf' H', Grow Hf H Hf' H' → Rp K Hf' u z → Q u H') → r v w H Q
theorem OpD.run {K : PySem.W.Frag} {r : R2} {f : D → D → Option D} (h : OpD K r f) {Fr : Fm} {Hf H : Hp} {ρ : Env} {σ : SSt} {v w : V} {d e : D} {Q : VK} (ev : EnvAt K Fr Hf ρ σ H) (rv : Rp K Hf v d) (rw_ : Rp K Hf w e) (g : Go K W Fr Hf σ (PV K) (R.of (f d e) ρ) Q) : r v w H Q := by
  cases q : f d e with
  | none => rw [q] at g; exact g.elim
  | some z =>
    rw [q] at g
    exact h Hf H v w d e z Q ev.hp.hf rv rw_ q fun u Hf' H' gr ru => g u Hf' H' gr.f (ev.grow gr) ru
theorem pd_bin {op : Operator} {r : R2} {f : D → D → Option D} (ho : OpR X (binaryOp op) r) (hf : OpD X.K r f) (ha : PE X a (rd X.K W ma)) (hb : PE X b (rd X.K W mb)) :
    PE X (.BinOp a op b pos) (rd X.K W fun ρ => (ma ρ).bind fun x ρ1 => (mb ρ1).bind fun y ρ2 => R.of (f x y) ρ2) := by
  refine PEweak (pe_op ho ha hb) fun σ H Q ⟨Fr, Hf, ρ, e, g⟩ => ?_
  refine ⟨Fr, Hf, ρ, e, (Go.bind g).imp fun v H1 ⟨d1, Hf1, ρ1, s1, e1, r1, g1⟩ => ⟨Fr, Hf1, ρ1, e1, (Go.bind g1).imp fun w H2 ⟨d2, Hf2, ρ2, s2, e2, r2, g2⟩ => ?_⟩⟩
  exact hf.run e2 (r1.mono s2) r2 g2
theorem pd_cmp {op : CmpOp} {r : R2} {f : D → D → Option D} (ho : OpR X (compareOp op) r) (hf : OpD X.K r f) (ha : PE X a (rd X.K W ma)) (hb : PE X b (rd X.K W mb)) (hm : behindInMarks op b = false) :
    PE X (.Compare a [op] [b] pos) (rd X.K W fun ρ => (ma ρ).bind fun x ρ1 => (mb ρ1).bind fun y ρ2 => R.of (f x y) ρ2) := by
  refine PEweak (pe_cmpR ho ha hb hm) fun σ H Q ⟨Fr, Hf, ρ, e, g⟩ => ?_
  refine ⟨Fr, Hf, ρ, e, (Go.bind g).imp fun v H1 ⟨d1, Hf1, ρ1, s1, e1, r1, g1⟩ => ⟨Fr, Hf1, ρ1, e1, (Go.bind g1).imp fun w H2 ⟨d2, Hf2, ρ2, s2, e2, r2, g2⟩ => ?_⟩⟩
  exact hf.run e2 (r1.mono s2) r2 g2
/-- a truth is wanted: a value that is one -/
theorem go_bool {K : PySem.W.Frag} {Fr : Fm} {Hf : Hp} {σ : SSt} {r : R D} {Q : Bool → Hp → Prop} (g : Go K W Fr Hf σ PB r Q) : Go K W Fr Hf σ (PV K) r (fun x H' => ∃ k, x = .bl k ∧ (∀ d ρ, r = .ok d ρ → d = .bl k) → True) := by
  cases r with
  | no => exact g
  | ex x ρ => exact g
  | ok d ρ => exact fun b Hf' H' s' e p => ⟨true, fun _ => trivial⟩
/-- the end as a value, if the data is a truth -/
theorem Go.toT {K : PySem.W.Frag} {Fr : Fm} {Hf : Hp} {σ : SSt} {r : R D} {Q : Bool → Hp → Prop} (hb : ∀ d ρ, r = .ok d ρ → ∃ k, d = .bl k) (g : Go K W Fr Hf σ PB r Q) : Go K W Fr Hf σ (PV K) r (fun x H' => ∃ k, x = .bl k ∧ Q k H') := by
  cases r with
  | no => exact g
  | ex x ρ => exact g
  | ok d ρ =>
    obtain ⟨k, rfl⟩ := hb d ρ rfl
    intro b Hf' H' s' e p
    cases p
    exact ⟨k, rfl, g k Hf' H' s' e rfl⟩
end

/-! ### a test's end wants a truth: rdB m is rdT of m, stuck where m's data is none -/
def R.b (r : R D) : R D := match r with
  | .ok (.bl k) ρ => .ok (.bl k) ρ
  | .ok _ _ => .no
  | .ex x ρ => .ex x ρ
  | .no => .no
theorem R.b_ok {r : R D} {d : D} {ρ : Env} (h : r.b = .ok d ρ) : ∃ k, d = .bl k := by
  cases r with
  | no => cases h
  | ex x ρ => cases h
  | ok e ρ' =>
    cases e <;> first | (cases h; exact ⟨_, rfl⟩) | cases h
theorem Go.ofB {K : PySem.W.Frag} {W : WX} {Fr : Fm} {Hf : Hp} {σ : SSt} {r : R D} {Q : Bool → Hp → Prop} (g : Go K W Fr Hf σ PB r.b Q) : Go K W Fr Hf σ (PV K) r (fun x H' => ∃ k, x = .bl k ∧ Q k H') := by
  cases r with
  | no => exact g
  | ex x ρ => exact g
  | ok e ρ' =>
    cases e with
    | bl k =>
      intro b Hf' H' s' e p
      cases p
      exact ⟨k, rfl, g k Hf' H' s' e rfl⟩
    | _ => exact g.elim
theorem R.b_bind {r : R D} {f : D → Env → R D} : (r.bind f).b = r.bind fun d ρ => (f d ρ).b := by
  cases r <;> rfl
section
variable {X : Cx} {W : WX} {pos : Pos} {a b c : Expr} {ma mb mc : Env → R D}
/-- tests -/
abbrev rdB (K : PySem.W.Frag) (W : WX) (m : Env → R D) : TT := rdT K W fun ρ => (m ρ).b
theorem pt_plain {e : Expr} (h : PE X e (rd X.K W ma)) (he : ∀ whole, isTrue e X.env whole = (do let v ← whole; standAt e.pos; holding [v] (truthy v))) : PT X e (rdB X.K W ma) :=
  PTweak (pt_val h he) fun σ H Q ⟨Fr, Hf, ρ, ev, g⟩ => ⟨Fr, Hf, ρ, ev, g.ofB⟩
theorem pt_cmpD {op : CmpOp} {r : R2} {f : D → D → Option D} (ho : OpR X (compareOp op) r) (hf : OpD X.K r f) (ha : PE X a (rd X.K W ma)) (hb : PE X b (rd X.K W mb)) (hm : behindInMarks op b = false) :
    PT X (.Compare a [op] [b] pos) (rdB X.K W fun ρ => (ma ρ).bind fun x ρ1 => (mb ρ1).bind fun y ρ2 => R.of (f x y) ρ2) := by
  refine PTweak (pt_cmpR ho ha hb hm) fun σ H Q ⟨Fr, Hf, ρ, e, g⟩ => ?_
  have g := g.ofB
  refine ⟨Fr, Hf, ρ, e, (Go.bind g).imp fun v H1 ⟨d1, Hf1, ρ1, s1, e1, r1, g1⟩ => ⟨Fr, Hf1, ρ1, e1, (Go.bind g1).imp fun w H2 ⟨d2, Hf2, ρ2, s2, e2, r2, g2⟩ => ?_⟩⟩
  exact hf.run e2 (r1.mono s2) r2 g2
/-! ### not, and, or, a if c else b -/
def notD (x : D) (ρ : Env) : R D := match x with
  | .bl b => .ok (.bl (!b)) ρ
  | _ => .no
theorem pd_not (ha : PE X a (rd X.K W ma)) : PE X (.UnaryOp .Not a pos) (rd X.K W fun ρ => (ma ρ).bind notD) := by
  refine PEweak (pe_not ha) fun σ H Q ⟨Fr, Hf, ρ, e, g⟩ => ⟨Fr, Hf, ρ, e, (Go.bind g).imp fun v H1 ⟨d1, Hf1, ρ1, s1, e1, r1, g1⟩ => ?_⟩
  cases r1 with
  | bl k => exact ⟨k, rfl, g1 _ Hf1 H1 (Same.refl _) e1 (.bl _)⟩
  | _ => exact g1.elim
theorem pd_notT (ha : PT X a (rdB X.K W ma)) : PT X (.UnaryOp .Not a pos) (rdB X.K W fun ρ => (ma ρ).bind notD) := by
  refine PTweak (pt_not ha) fun σ H Q ⟨Fr, Hf, ρ, e, g⟩ => ⟨Fr, Hf, ρ, e, ?_⟩
  have g : Go X.K W Fr Hf σ PB ((ma ρ).bind notD).b Q := g
  show Go X.K W Fr Hf σ PB (ma ρ).b _
  cases q : ma ρ with
  | no => rw [q] at g; exact g
  | ex x ρ => rw [q] at g; exact g
  | ok d ρ1 =>
    rw [q] at g
    cases d with
    | bl k => exact fun b Hf' H' s' e p => by cases p; exact g _ Hf' H' s' e rfl
    | _ => exact g.elim
def andD (m : Env → R D) (x : D) (ρ : Env) : R D := match x with
  | .bl true => m ρ
  | .bl false => .ok (.bl false) ρ
  | _ => .no
def orD (m : Env → R D) (x : D) (ρ : Env) : R D := match x with
  | .bl true => .ok (.bl true) ρ
  | .bl false => m ρ
  | _ => .no
variable {rest : List Expr}
theorem pd_and (ha : PE X a (rd X.K W ma)) (hb : PE X (.BoolOp .And (b :: rest) pos) (rd X.K W mb)) : PE X (.BoolOp .And (a :: b :: rest) pos) (rd X.K W fun ρ => (ma ρ).bind (andD mb)) := by
  refine PEweak (pe_and ha hb) fun σ H Q ⟨Fr, Hf, ρ, e, g⟩ => ⟨Fr, Hf, ρ, e, (Go.bind g).imp fun v H1 ⟨d1, Hf1, ρ1, s1, e1, r1, g1⟩ => ?_⟩
  cases r1 with
  | bl k =>
    cases k with
    | true => exact ⟨true, rfl, iteT ⟨Fr, Hf1, ρ1, e1, g1⟩⟩
    | false => exact ⟨false, rfl, iteF (g1 _ Hf1 H1 (Same.refl _) e1 (.bl false))⟩
  | _ => exact g1.elim
theorem pd_or (ha : PE X a (rd X.K W ma)) (hb : PE X (.BoolOp .Or (b :: rest) pos) (rd X.K W mb)) : PE X (.BoolOp .Or (a :: b :: rest) pos) (rd X.K W fun ρ => (ma ρ).bind (orD mb)) := by
  refine PEweak (pe_or ha hb) fun σ H Q ⟨Fr, Hf, ρ, e, g⟩ => ⟨Fr, Hf, ρ, e, (Go.bind g).imp fun v H1 ⟨d1, Hf1, ρ1, s1, e1, r1, g1⟩ => ?_⟩
  cases r1 with
  | bl k =>
    cases k with
    | true => exact ⟨true, rfl, iteT (g1 _ Hf1 H1 (Same.refl _) e1 (.bl true))⟩
    | false => exact ⟨false, rfl, iteF ⟨Fr, Hf1, ρ1, e1, g1⟩⟩
  | _ => exact g1.elim
theorem pd_one {op} (ha : PE X a (rd X.K W ma)) : PE X (.BoolOp op [a] pos) (rd X.K W ma) := pe_one ha
theorem pw_andD (ha : PT X a (rdB X.K W ma)) (hb : PW X (.BoolOp .And (b :: rest) pos) (rdB X.K W mb)) : PW X (.BoolOp .And (a :: b :: rest) pos) (rdB X.K W fun ρ => (ma ρ).bind (andD mb)) := by
  refine PWweak (pw_and ha hb) fun σ H Q ⟨Fr, Hf, ρ, e, g⟩ => ⟨Fr, Hf, ρ, e, ?_⟩
  have g : Go X.K W Fr Hf σ PB ((ma ρ).bind (andD mb)).b Q := g
  show Go X.K W Fr Hf σ PB (ma ρ).b _
  cases q : ma ρ with
  | no => rw [q] at g; exact g
  | ex x ρ => rw [q] at g; exact g
  | ok d ρ1 =>
    rw [q] at g
    cases d with
    | bl k =>
      intro b Hf' H' s' e p
      cases p
      cases k with
      | true => exact iteT ⟨Fr, Hf', ρ1, e, Go.weak g s'⟩
      | false => exact iteF (g _ Hf' H' s' e rfl)
    | _ => exact g.elim
theorem pw_orD (ha : PT X a (rdB X.K W ma)) (hb : PW X (.BoolOp .Or (b :: rest) pos) (rdB X.K W mb)) : PW X (.BoolOp .Or (a :: b :: rest) pos) (rdB X.K W fun ρ => (ma ρ).bind (orD mb)) := by
  refine PWweak (pw_or ha hb) fun σ H Q ⟨Fr, Hf, ρ, e, g⟩ => ⟨Fr, Hf, ρ, e, ?_⟩
  have g : Go X.K W Fr Hf σ PB ((ma ρ).bind (orD mb)).b Q := g
  show Go X.K W Fr Hf σ PB (ma ρ).b _
  cases q : ma ρ with
  | no => rw [q] at g; exact g
  | ex x ρ => rw [q] at g; exact g
  | ok d ρ1 =>
    rw [q] at g
    cases d with
    | bl k =>
      intro b Hf' H' s' e p
      cases p
      cases k with
      | true => exact iteT (g _ Hf' H' s' e rfl)
      | false => exact iteF ⟨Fr, Hf', ρ1, e, Go.weak g s'⟩
    | _ => exact g.elim
def ifD (m n : Env → R D) (x : D) (ρ : Env) : R D := match x with
  | .bl true => m ρ
  | .bl false => n ρ
  | _ => .no
theorem pd_ife (hc : PT X c (rdB X.K W mc)) (ha : PE X a (rd X.K W ma)) (hb : PE X b (rd X.K W mb)) : PE X (.IfExp c a b pos) (rd X.K W fun ρ => (mc ρ).bind (ifD ma mb)) := by
  refine PEweak (pe_ifExp hc ha hb) fun σ H Q ⟨Fr, Hf, ρ, e, g⟩ => ⟨Fr, Hf, ρ, e, ?_⟩
  have g : Go X.K W Fr Hf σ (PV X.K) ((mc ρ).bind (ifD ma mb)) Q := g
  show Go X.K W Fr Hf σ PB (mc ρ).b _
  cases q : mc ρ with
  | no => rw [q] at g; exact g
  | ex x ρ => rw [q] at g; exact g
  | ok d ρ1 =>
    rw [q] at g
    cases d with
    | bl k =>
      intro b Hf' H' s' e p
      cases p
      cases k with
      | true => exact iteT ⟨Fr, Hf', ρ1, e, Go.weak g s'⟩
      | false => exact iteF ⟨Fr, Hf', ρ1, e, Go.weak g s'⟩
    | _ => exact g.elim
/-! ### a < b < c -/
def chD (f g : D → D → Option Bool) (mc : Env → R D) (x y : D) (ρ : Env) : R D := match f x y with
  | some true => (mc ρ).bind fun z ρ3 => R.of ((g y z).map .bl) ρ3
  | some false => .ok (.bl false) ρ
  | none => .no
theorem pd_chain {op op' : CmpOp} {r r' : R2} {f g' : D → D → Option Bool} (ho : OpR X (compareOp op) r) (ho' : OpR X (compareOp op') r') (hf : OpD X.K r fun d e => (f d e).map .bl) (hg : OpD X.K r' fun d e => (g' d e).map .bl) (ha : PE X a (rd X.K W ma)) (hb : PE X b (rd X.K W mb)) (hc : PE X c (rd X.K W mc))
    (hcx : X.calm = true)
    (hm : PE X (.Compare a [op, op'] [b, c] pos) (tChain r r' (rd X.K W ma) (rd X.K W mb) (rd X.K W mc))) :
    PE X (.Compare a [op, op'] [b, c] pos) (rd X.K W fun ρ => (ma ρ).bind fun x ρ1 => (mb ρ1).bind (chD f g' mc x)) := by
  refine PEweak hm fun σ H Q ⟨Fr, Hf, ρ, e, g⟩ => ?_
  refine ⟨Fr, Hf, ρ, e, (Go.bind g).imp fun v H1 ⟨d1, Hf1, ρ1, s1, e1, r1, g1⟩ => ⟨Fr, Hf1, ρ1, e1, (Go.bind g1).imp fun w H2 ⟨d2, Hf2, ρ2, s2, e2, r2, g2⟩ => ?_⟩⟩
  unfold chD at g2
  cases q : f d1 d2 with
  | none => rw [q] at g2; exact g2.elim
  | some k =>
    refine hf Hf2 H2 v w d1 d2 (.bl k) _ e2.hp.hf (r1.mono s2) r2 (by show (f d1 d2).map D.bl = _; rw [q]; rfl) fun u Hf3 H3 gr ru => ?_
    cases ru
    refine ⟨k, rfl, ?_⟩
    rw [q] at g2
    have e3 := e2.grow gr
    cases k with
    | false => exact iteF (g2 _ Hf3 H3 gr.f e3 (.bl false))
    | true => exact iteT ⟨Fr, Hf3, ρ2, e3, (Go.bind (Go.weak g2 gr.f)).imp fun w4 H4 ⟨d4, Hf4, ρ4, s4, e4, r4, g4⟩ => hg.run e4 ((r2.mono gr.f).mono s4) r4 g4⟩
theorem pd_chainT {op op' : CmpOp} {r r' : R2} {f g' : D → D → Option Bool} (ho : OpR X (compareOp op) r) (ho' : OpR X (compareOp op') r') (hf : OpD X.K r fun d e => (f d e).map .bl) (hg : OpD X.K r' fun d e => (g' d e).map .bl) (ha : PE X a (rd X.K W ma)) (hb : PE X b (rd X.K W mb)) (hc : PE X c (rd X.K W mc))
    (hm : PT X (.Compare a [op, op'] [b, c] pos) (tTest (tChain r r' (rd X.K W ma) (rd X.K W mb) (rd X.K W mc)))) :
    PT X (.Compare a [op, op'] [b, c] pos) (rdB X.K W fun ρ => (ma ρ).bind fun x ρ1 => (mb ρ1).bind (chD f g' mc x)) := by
  refine PTweak hm fun σ H Q ⟨Fr, Hf, ρ, e, g⟩ => ?_
  have g := g.ofB
  refine ⟨Fr, Hf, ρ, e, (Go.bind g).imp fun v H1 ⟨d1, Hf1, ρ1, s1, e1, r1, g1⟩ => ⟨Fr, Hf1, ρ1, e1, (Go.bind g1).imp fun w H2 ⟨d2, Hf2, ρ2, s2, e2, r2, g2⟩ => ?_⟩⟩
  unfold chD at g2
  cases q : f d1 d2 with
  | none => rw [q] at g2; exact g2.elim
  | some k =>
    refine hf Hf2 H2 v w d1 d2 (.bl k) _ e2.hp.hf (r1.mono s2) r2 (by show (f d1 d2).map D.bl = _; rw [q]; rfl) fun u Hf3 H3 gr ru => ?_
    cases ru
    refine ⟨k, rfl, ?_⟩
    rw [q] at g2
    have e3 := e2.grow gr
    cases k with
    | false => exact iteF (g2 _ Hf3 H3 gr.f e3 (.bl false))
    | true => exact iteT ⟨Fr, Hf3, ρ2, e3, (Go.bind (Go.weak g2 gr.f)).imp fun w4 H4 ⟨d4, Hf4, ρ4, s4, e4, r4, g4⟩ => hg.run e4 ((r2.mono gr.f).mono s4) r4 g4⟩
/-! ### arguments, displays -/
theorem pd_nil : PA X [] (rdA X.K W fun ρ => .ok [] ρ) := PAweak pa_nil fun σ H Q ⟨Fr, Hf, ρ, e, g⟩ => g [] Hf H (Same.refl _) e .nil
theorem pd_cons {e : Expr} {es : List Expr} {m : Env → R D} {ms : Env → R (List D)} (ha : PE X e (rd X.K W m)) (hr : PA X es (rdA X.K W ms)) (hs : starEach (e :: es) X.env = (false, eval e X.env) :: starEach es X.env) :
    PA X (e :: es) (rdA X.K W fun ρ => (m ρ).bind fun x ρ1 => (ms ρ1).bind fun xs ρ2 => .ok (x :: xs) ρ2) := by
  refine PAweak (pa_cons ha hr hs) fun σ H Q ⟨Fr, Hf, ρ, e, g⟩ => ?_
  refine ⟨Fr, Hf, ρ, e, (Go.bind g).imp fun v H1 ⟨d1, Hf1, ρ1, s1, e1, r1, g1⟩ => ⟨Fr, Hf1, ρ1, e1, (Go.bind g1).imp fun w H2 ⟨d2, Hf2, ρ2, s2, e2, r2, g2⟩ => ?_⟩⟩
  exact g2 (v :: w) Hf2 H2 (Same.refl _) e2 (.cons (r1.mono s2) r2)
theorem size_ok {n : Nat} : n ≤ sizeL ↔ n ≤ sizeLine := by
  rw [sizeLine_eq]
  exact Iff.rfl
theorem pd_tup {es : List Expr} {k} {ms : Env → R (List D)} (h : PA X es (rdA X.K W ms)) : PE X (.Tuple es k pos) (rd X.K W fun ρ => (ms ρ).bind fun xs ρ1 => if xs.length ≤ sizeL then .ok (.tup xs) ρ1 else .no) := by
  refine PEweak (pe_tup h) fun σ H Q ⟨Fr, Hf, ρ, e, g⟩ => ⟨Fr, Hf, ρ, e, (Go.bind g).imp fun v H1 ⟨d1, Hf1, ρ1, s1, e1, r1, g1⟩ => ?_⟩
  by_cases q : d1.length ≤ sizeL
  · rw [if_pos q] at g1
    refine ⟨by rw [r1.length]; exact size_ok.mp q, fun p hp => ?_⟩
    have gr : Grow Hf1 H1 (upd Hf1 p (.tup v)) (upd H1 p (.tup v)) := Grow.new e1.hp.hf hp
    exact g1 _ _ _ gr.f (e1.grow gr) (.tup upd_same (r1.mono gr.f))
  · rw [if_neg q] at g1
    exact g1.elim
/-- a new object's place: in no slot, not frozen -/
theorem NewAt.of {K : PySem.W.Frag} {Fr : Fm} {Hf H : Hp} {ρ : Env} {σ : SSt} {p : Addr} {u : HO} (e : EnvAt K Fr Hf ρ σ H) (hp : H p = none) : NewAt K Fr Hf ρ σ (upd H p u) p u := by
  refine ⟨e.hp.fr.free hp, e.hp.hf.free hp, upd_same, fun i o => ?_⟩
  obtain ⟨_, _, ys, q, _⟩ := e.own o
  rw [hp] at q
  cases q
theorem pn_disp {es : List Expr} {ms : Env → R (List D)} (h : PA X es (rdA X.K W ms)) : PE X (.List es pos) (rdN X.K W fun ρ => (ms ρ).bind fun xs ρ1 => if xs.length ≤ sizeL then .ok (.lst xs) ρ1 else .no) := by
  refine PEweak (pe_lst h) fun σ H Q ⟨Fr, Hf, ρ, e, g⟩ => ⟨Fr, Hf, ρ, e, (Go.bind g).imp fun v H1 ⟨d1, Hf1, ρ1, s1, e1, r1, g1⟩ => ?_⟩
  by_cases q : d1.length ≤ sizeL
  · rw [if_pos q] at g1
    refine ⟨by rw [r1.length]; exact size_ok.mp q, fun p hp => ?_⟩
    exact g1 _ Hf1 _ (Same.refl _) (e1.grow (Grow.extra hp)) ⟨p, .lst v, rfl, NewAt.of e1 hp, v, rfl, r1⟩
  · rw [if_neg q] at g1
    exact g1.elim
/-- a new object, frozen at once -/
theorem pd_new {e : Expr} {ms : Env → R D} (h : PE X e (rdN X.K W ms)) : PE X e (rd X.K W ms) := by
  refine PEweak (PElock h) fun σ H Q ⟨Fr, Hf, ρ, e, g⟩ => ⟨Fr, Hf, ρ, e, ?_⟩
  cases q : ms ρ with
  | no => rw [q] at g; exact g
  | ex x ρ1 => rw [q] at g; exact g
  | ok d ρ1 =>
    rw [q] at g
    intro v Hf1 H1 s1 e1 ⟨p, xs, ev, n, r⟩
    subst ev
    exact lockQ_of n.at_ r fun u' l => by
      obtain ⟨sm, e2, r2⟩ := e1.frozenN n r u' l
      exact g _ _ _ (s1.trans sm) e2 r2
/-- a new object made of two values: an operator -/
def OpN (K : PySem.W.Frag) (r : R2) (f : D → D → Option D) : Prop := ∀ (Hf H : Hp) (v w : V) (d e : D) (z : D) (Q : VK), Same Hf H → Rp K Hf v d → Rp K Hf w e → f d e = some z → (∀ p u, H p = none → RpO K Hf u z → Q (.ref p) (upd H p u)) → r v w H Q
theorem pn_bin {op : Operator} {r : R2} {f : D → D → Option D} (ho : OpR X (binaryOp op) r) (hf : OpN X.K r f) (ha : PE X a (rd X.K W ma)) (hb : PE X b (rd X.K W mb)) :
    PE X (.BinOp a op b pos) (rdN X.K W fun ρ => (ma ρ).bind fun x ρ1 => (mb ρ1).bind fun y ρ2 => R.of (f x y) ρ2) := by
  refine PEweak (pe_op ho ha hb) fun σ H Q ⟨Fr, Hf, ρ, e, g⟩ => ?_
  refine ⟨Fr, Hf, ρ, e, (Go.bind g).imp fun v H1 ⟨d1, Hf1, ρ1, s1, e1, r1, g1⟩ => ⟨Fr, Hf1, ρ1, e1, (Go.bind g1).imp fun w H2 ⟨d2, Hf2, ρ2, s2, e2, r2, g2⟩ => ?_⟩⟩
  cases q : f d1 d2 with
  | none => rw [q] at g2; exact g2.elim
  | some z =>
    rw [q] at g2
    exact hf Hf2 H2 v w d1 d2 z Q e2.hp.hf (r1.mono s2) r2 q fun p xs hp rx => g2 _ Hf2 _ (Same.refl _) (e2.grow (Grow.extra hp)) ⟨p, xs, rfl, NewAt.of e2 hp, rx⟩
end
end DL
set_option Elab.async false
set_option linter.all false
set_option maxRecDepth 100000
set_option maxHeartbeats 4000000
/-! DLb1: dicts. -/
namespace DL
open PySem PySem.Spec PyProof.Rows L2

section
variable {K : PySem.W.Frag} {H Hf : Hp}
theorem keyK_v {d : D} {k : Key} {v : V} (h : keyK d = some k) (r : Rp K H v d) : v = kV k := by
  cases r with
  | int i => cases h; rfl
  | str x => cases h; rfl
  | _ => cases h
theorem keyK_rp {d : D} {k : Key} (h : keyK d = some k) : Rp K H (kV k) d := by
  cases d with
  | int i => cases h; exact .int i
  | str x => cases h; exact .str x
  | _ => cases h
theorem keysK_cons {d : D} {ds : List D} {ks : List Key} (h : keysK (d :: ds) = some ks) : ∃ k r, keyK d = some k ∧ keysK ds = some r ∧ ks = k :: r := by
  unfold keysK at h
  cases h1 : keyK d with
  | none => simp [h1] at h
  | some k =>
    cases h2 : keysK ds with
    | none => simp [h1, h2] at h
    | some r =>
      simp [h1, h2] at h
      exact ⟨k, r, rfl, rfl, h.symm⟩
theorem keysK_v : ∀ {ds : List D} {ks : List Key} {vs : List V}, keysK ds = some ks → Rps K H vs ds → vs = ks.map kV
  | [], ks, vs, h, r => by
    cases r
    cases h
    rfl
  | d :: ds, ks, _, h, .cons r1 r2 => by
    obtain ⟨k, r, h1, h2, rfl⟩ := keysK_cons h
    rw [keyK_v h1 r1, keysK_v h2 r2]
    rfl
theorem keysK_rp : ∀ {ds : List D} {ks : List Key}, keysK ds = some ks → Rps K H (ks.map kV) ds
  | [], ks, h => by
    cases h
    exact .nil
  | d :: ds, ks, h => by
    obtain ⟨k, r, h1, h2, rfl⟩ := keysK_cons h
    exact .cons (keyK_rp h1) (keysK_rp h2)
theorem keyT_v {d : D} {k : List Key} {v : V} (h : keyT d = some k) (r : Rp K H v d) : ∃ b, v = .ref b ∧ H b = some (.tup (k.map kV)) := by
  cases r with
  | tup ha ra =>
    have e := keysK_v h ra
    subst e
    exact ⟨_, rfl, ha⟩
  | _ => cases h
theorem keyT_rp {d : D} {k : List Key} {b : Addr} (h : keyT d = some k) (hb : H b = some (.tup (k.map kV))) : Rp K H (.ref b) d := by
  cases d with
  | tup ds => exact .tup hb (keysK_rp h)
  | _ => cases h
theorem keyK_eq {d e : D} {a b : Key} (h : keyK d = some a) (h' : keyK e = some b) : D.eqv d e = decide (a = b) := by
  cases d with
  | int i =>
    cases h
    cases e with
    | int j =>
      cases h'
      show (i == j) = _
      by_cases q : i = j
      · subst q; simp
      · rw [decide_eq_false (fun z => q (Sum.inl.inj z))]
        exact beq_eq_false_iff_ne.mpr q
    | str y => cases h'; show false = _; rw [decide_eq_false (fun z => by cases z)]
    | _ => cases h'
  | str x =>
    cases h
    cases e with
    | int j => cases h'; show false = _; rw [decide_eq_false (fun z => by cases z)]
    | str y =>
      cases h'
      show (x == y) = _
      by_cases q : x = y
      · subst q; simp
      · rw [decide_eq_false (fun z => q (Sum.inr.inj z))]
        exact beq_eq_false_iff_ne.mpr q
    | _ => cases h'
  | _ => cases h
theorem keysK_eq : ∀ {ds es : List D} {a b : List Key}, keysK ds = some a → keysK es = some b → D.eqvs ds es = decide (a = b)
  | [], [], a, b, h, h' => by cases h; cases h'; simp [D.eqvs]
  | [], e :: es, a, b, h, h' => by
    obtain ⟨k, r, _, _, rfl⟩ := keysK_cons h'
    cases h
    simp [D.eqvs]
  | d :: ds, [], a, b, h, h' => by
    obtain ⟨k, r, _, _, rfl⟩ := keysK_cons h
    cases h'
    simp [D.eqvs]
  | d :: ds, e :: es, a, b, h, h' => by
    obtain ⟨k, r, h1, h2, rfl⟩ := keysK_cons h
    obtain ⟨k', r', h1', h2', rfl⟩ := keysK_cons h'
    simp [D.eqvs, keyK_eq h1 h1', keysK_eq h2 h2']
theorem keyT_eq {d e : D} {a b : List Key} (h : keyT d = some a) (h' : keyT e = some b) : D.eqv d e = decide (a = b) := by
  cases d with
  | tup ds =>
    cases e with
    | tup es =>
      have := keysK_eq (show keysK ds = some a from h) (show keysK es = some b from h')
      simpa [D.eqv] using this
    | _ => cases h'
  | _ => cases h
/-! ### what stands at a key -/
theorem dGet_nil {k : D} : dGet [] k = none := rfl
theorem dGet_cons {p : D × D} {kvs : List (D × D)} {k : D} : dGet (p :: kvs) k = if D.eqv p.1 k then some p.2 else dGet kvs k := by
  unfold dGet
  rw [List.find?_cons]
  cases D.eqv p.1 k <;> rfl
theorem Rpk.get {y : D} {k : Key} (hk : keyK y = some k) : ∀ {ps : List (Key × V)} {kvs : List (D × D)}, Rpk K H ps kvs → (match dGet kvs y with
    | none => valV ps k = none
    | some e => ∃ v, valV ps k = some v ∧ Rp K H v e)
  | _, _, .nil => by rw [dGet_nil]; exact valV_nil
  | _, _, .cons (k := j) (v := v) (ps := ps) (d := d) (e := e) (kvs := kvs) h1 h2 r => by
    rw [dGet_cons, keyK_eq h1 hk]
    by_cases q : j = k
    · rw [if_pos (decide_eq_true q)]
      exact ⟨v, valV_pos q, h2⟩
    · rw [if_neg (by rw [decide_eq_false q]; decide), valV_neg q]
      exact Rpk.get hk r
theorem Rpt.get {y : D} {k : List Key} (hk : keyT y = some k) : ∀ {ps : List (List Key × V)} {kvs : List (D × D)}, Rpt K H ps kvs → (match dGet kvs y with
    | none => valV ps k = none
    | some e => ∃ v, valV ps k = some v ∧ Rp K H v e)
  | _, _, .nil => by rw [dGet_nil]; exact valV_nil
  | _, _, .cons (k := j) (v := v) (ps := ps) (d := d) (e := e) (kvs := kvs) h1 h2 r => by
    rw [dGet_cons, keyT_eq h1 hk]
    by_cases q : j = k
    · rw [if_pos (decide_eq_true q)]
      exact ⟨v, valV_pos q, h2⟩
    · rw [if_neg (by rw [decide_eq_false q]; decide), valV_neg q]
      exact Rpt.get hk r
theorem Rpk.length : ∀ {ps : List (Key × V)} {kvs : List (D × D)}, Rpk K H ps kvs → ps.length = kvs.length
  | _, _, .nil => rfl
  | _, _, .cons _ _ r => congrArg (· + 1) (Rpk.length r)
theorem Rpt.length : ∀ {ps : List (List Key × V)} {kvs : List (D × D)}, Rpt K H ps kvs → ps.length = kvs.length
  | _, _, .nil => rfl
  | _, _, .cons _ _ r => congrArg (· + 1) (Rpt.length r)
theorem Rpk.any {y : D} {k : Key} (hk : keyK y = some k) : ∀ {ps : List (Key × V)} {kvs : List (D × D)}, Rpk K H ps kvs → (kvs.any fun p => D.eqv p.1 y) = ps.any fun p => decide (p.1 = k)
  | _, _, .nil => rfl
  | _, _, .cons h1 h2 r => by rw [List.any_cons, List.any_cons, keyK_eq h1 hk, Rpk.any hk r]
theorem Rpt.any {y : D} {k : List Key} (hk : keyT y = some k) : ∀ {ps : List (List Key × V)} {kvs : List (D × D)}, Rpt K H ps kvs → (kvs.any fun p => D.eqv p.1 y) = ps.any fun p => decide (p.1 = k)
  | _, _, .nil => rfl
  | _, _, .cons h1 h2 r => by rw [List.any_cons, List.any_cons, keyT_eq h1 hk, Rpt.any hk r]
theorem Rpk.repl {y e : D} {k : Key} {v : V} (hk : keyK y = some k) (hv : Rp K H v e) : ∀ {ps : List (Key × V)} {kvs : List (D × D)}, Rpk K H ps kvs → Rpk K H (ps.map fun kv => if kv.1 = k then (kv.1, v) else kv) (kvs.map fun p => if D.eqv p.1 y then (p.1, e) else p)
  | _, _, .nil => .nil
  | _, _, .cons (k := j) (d := d) h1 h2 r => by
    rw [List.map_cons, List.map_cons]
    have e1 := keyK_eq h1 hk
    by_cases q : j = k
    · rw [if_pos q, if_pos (by rw [e1]; exact decide_eq_true q)]
      exact .cons h1 hv (Rpk.repl hk hv r)
    · rw [if_neg q, if_neg (by rw [e1, decide_eq_false q]; decide)]
      exact .cons h1 h2 (Rpk.repl hk hv r)
theorem Rpt.repl {y e : D} {k : List Key} {v : V} (hk : keyT y = some k) (hv : Rp K H v e) : ∀ {ps : List (List Key × V)} {kvs : List (D × D)}, Rpt K H ps kvs → Rpt K H (ps.map fun kv => if kv.1 = k then (kv.1, v) else kv) (kvs.map fun p => if D.eqv p.1 y then (p.1, e) else p)
  | _, _, .nil => .nil
  | _, _, .cons (k := j) (d := d) h1 h2 r => by
    rw [List.map_cons, List.map_cons]
    have e1 := keyT_eq h1 hk
    by_cases q : j = k
    · rw [if_pos q, if_pos (by rw [e1]; exact decide_eq_true q)]
      exact .cons h1 hv (Rpt.repl hk hv r)
    · rw [if_neg q, if_neg (by rw [e1, decide_eq_false q]; decide)]
      exact .cons h1 h2 (Rpt.repl hk hv r)
theorem Rpk.snoc {y e : D} {k : Key} {v : V} (hk : keyK y = some k) (hv : Rp K H v e) : ∀ {ps : List (Key × V)} {kvs : List (D × D)}, Rpk K H ps kvs → Rpk K H (ps ++ [(k, v)]) (kvs ++ [(y, e)])
  | _, _, .nil => .cons hk hv .nil
  | _, _, .cons h1 h2 r => .cons h1 h2 (Rpk.snoc hk hv r)
theorem Rpt.snoc {y e : D} {k : List Key} {v : V} (hk : keyT y = some k) (hv : Rp K H v e) : ∀ {ps : List (List Key × V)} {kvs : List (D × D)}, Rpt K H ps kvs → Rpt K H (ps ++ [(k, v)]) (kvs ++ [(y, e)])
  | _, _, .nil => .cons hk hv .nil
  | _, _, .cons h1 h2 r => .cons h1 h2 (Rpt.snoc hk hv r)
theorem Rpk.put {y e : D} {k : Key} {v : V} (hk : keyK y = some k) (hv : Rp K H v e) {ps : List (Key × V)} {kvs : List (D × D)} (r : Rpk K H ps kvs) : Rpk K H (putK ps k v) (dPut kvs y e) := by
  unfold putK dPut
  rw [r.any hk]
  by_cases q : (ps.any fun kv => decide (kv.1 = k)) = true
  · rw [if_pos q, if_pos q]
    exact r.repl hk hv
  · rw [if_neg q, if_neg q]
    exact r.snoc hk hv
theorem Rpt.put {y e : D} {k : List Key} {v : V} (hk : keyT y = some k) (hv : Rp K H v e) {ps : List (List Key × V)} {kvs : List (D × D)} (r : Rpt K H ps kvs) : Rpt K H (putK ps k v) (dPut kvs y e) := by
  unfold putK dPut
  rw [r.any hk]
  by_cases q : (ps.any fun kv => decide (kv.1 = k)) = true
  · rw [if_pos q, if_pos q]
    exact r.repl hk hv
  · rw [if_neg q, if_neg q]
    exact r.snoc hk hv
theorem Rpk.keys : ∀ {ps : List (Key × V)} {kvs : List (D × D)}, Rpk K H ps kvs → Rps K H (ps.map fun p => kV p.1) (kvs.map (·.1))
  | _, _, .nil => .nil
  | _, _, .cons h1 h2 r => .cons (keyK_rp h1) (Rpk.keys r)
theorem Rpt.keys (hp : Same Hf H) : ∀ {ps : List (List Key × V)} {kvs : List (D × D)} {bs : List Addr}, Rpt K Hf ps kvs → IsKeys H ps bs → Rps K H (bs.map V.ref) (kvs.map (·.1))
  | _, _, _, .nil, .nil => .nil
  | _, _, _, .cons h1 h2 r, .cons q1 q2 => .cons (keyT_rp h1 q1) (Rpt.keys hp r q2)
/-- the tuples of the heap, frozen -/
def allT (Hf H : Hp) : Hp := fun a => match Hf a with
  | some o => some o
  | none => match H a with
    | some (.tup xs) => some (.tup xs)
    | _ => none
theorem allT_of {a : Addr} {xs : List V} (s : Same Hf H) (h : H a = some (.tup xs)) : allT Hf H a = some (.tup xs) := by
  unfold allT
  cases q : Hf a with
  | some o =>
    have := s _ _ q
    rw [h] at this
    cases this
    rfl
  | none => simp only [h]
theorem grow_allT (s : Same Hf H) : Grow Hf H (allT Hf H) H := by
  refine ⟨fun a o e => ?_, Same.refl _, fun a o e => ?_, fun h a o e => ?_⟩
  · unfold allT
    rw [e]
  · unfold allT at e
    cases q : Hf a with
    | some u => rw [q] at e; exact .inl e
    | none =>
      rw [q] at e
      simp only at e
      cases q2 : H a with
      | none => rw [q2] at e; cases e
      | some u =>
        rw [q2] at e
        cases u with
        | tup xs => cases e; exact .inr (.inr ⟨xs, rfl, rfl⟩)
        | _ => cases e
  · unfold allT at e
    cases q : Hf a with
    | some u => rw [q] at e; cases e; exact h a _ q
    | none =>
      rw [q] at e
      simp only at e
      cases q2 : H a with
      | none => rw [q2] at e; cases e
      | some u =>
        rw [q2] at e
        cases u with
        | tup xs => cases e; exact fun h => h
        | _ => cases e
theorem isKeys_allT (s : Same Hf H) : ∀ {ps : List (List Key × V)} {bs : List Addr}, IsKeys H ps bs → IsKeys (allT Hf H) ps bs
  | _, _, .nil => .nil
  | _, _, .cons q1 q2 => .cons (allT_of s q1) (isKeys_allT s q2)
theorem Rpt.keysT (s : Same Hf H) {ps : List (List Key × V)} {kvs : List (D × D)} {bs : List Addr} (r : Rpt K Hf ps kvs) (h : IsKeys H ps bs) : Rps K (allT Hf H) (bs.map V.ref) (kvs.map (·.1)) :=
  Rpt.keys (grow_allT s).f r (isKeys_allT s h)
end
/-! ### a dict, a key -/
theorem isKey_k {d : D} (h : isKey false d = true) : ∃ k, keyK d = some k := by
  have h : (keyK d).isSome = true := h
  exact Option.isSome_iff_exists.mp h
theorem isKey_t {d : D} (h : isKey true d = true) : ∃ k, keyT d = some k := by
  have h : (keyT d).isSome = true := h
  exact Option.isSome_iff_exists.mp h
section
variable {K : PySem.W.Frag} {Hf H : Hp}
/-- the dict at v, looked at the key w -/
theorem rp_dget {t : Bool} {kvs : List (D × D)} {v w : V} {y : D} (s : Same Hf H) (rv : Rp K Hf v (.dct t kvs)) (ry : Rp K H w y) (hk : isKey t y = true) :
    ∃ a o, v = .ref a ∧ DGet H a w o ∧ match dGet kvs y with
      | none => o = none
      | some e => ∃ u, o = some u ∧ Rp K Hf u e := by
  cases rv with
  | dk ha ra =>
    obtain ⟨k, hk⟩ := isKey_k hk
    have e := keyK_v hk ry
    subst e
    refine ⟨_, _, rfl, .inl ⟨_, k, Same.rd' s ha, rfl, rfl⟩, ?_⟩
    have g := ra.get hk
    cases q : dGet kvs y with
    | none => rw [q] at g; exact g
    | some e => rw [q] at g; obtain ⟨u, h1, h2⟩ := g; exact ⟨u, h1, h2⟩
  | dt ha ra =>
    obtain ⟨k, hk⟩ := isKey_t hk
    obtain ⟨b, rfl, hb⟩ := keyT_v hk ry
    refine ⟨_, _, rfl, .inr ⟨_, k, b, Same.rd' s ha, rfl, hb, rfl⟩, ?_⟩
    have g := ra.get hk
    cases q : dGet kvs y with
    | none => rw [q] at g; exact g
    | some e => rw [q] at g; obtain ⟨u, h1, h2⟩ := g; exact ⟨u, h1, h2⟩
/-- .. one's own -/
theorem rpO_dget {t : Bool} {kvs : List (D × D)} {a : Addr} {u : HO} {w : V} {y : D} (ha : H a = some u) (rv : RpO K Hf u (.dct t kvs)) (ry : Rp K H w y) (hk : isKey t y = true) :
    ∃ o, DGet H a w o ∧ match dGet kvs y with
      | none => o = none
      | some e => ∃ z, o = some z ∧ Rp K Hf z e := by
  cases t with
  | false =>
    obtain ⟨ps, rfl, ra⟩ := rv
    obtain ⟨k, hk⟩ := isKey_k hk
    have e := keyK_v hk ry
    subst e
    refine ⟨_, .inl ⟨_, k, .inl ha, rfl, rfl⟩, ?_⟩
    have g := ra.get hk
    cases q : dGet kvs y with
    | none => rw [q] at g; exact g
    | some e => rw [q] at g; obtain ⟨z, h1, h2⟩ := g; exact ⟨z, h1, h2⟩
  | true =>
    obtain ⟨ps, rfl, ra⟩ := rv
    obtain ⟨k, hk⟩ := isKey_t hk
    obtain ⟨b, rfl, hb⟩ := keyT_v hk ry
    refine ⟨_, .inr ⟨_, k, b, .inl ha, rfl, hb, rfl⟩, ?_⟩
    have g := ra.get hk
    cases q : dGet kvs y with
    | none => rw [q] at g; exact g
    | some e => rw [q] at g; obtain ⟨z, h1, h2⟩ := g; exact ⟨z, h1, h2⟩
/-- .. stored into -/
theorem rpO_dput {t : Bool} {kvs : List (D × D)} {a : Addr} {u : HO} {w v : V} {y e : D} (ha : H a = some u) (rv : RpO K Hf u (.dct t kvs)) (ry : Rp K H w y) (re : Rp K Hf v e) (hk : isKey t y = true) (hl : kvs.length < sizeLine) :
    ∃ u', DPut H a w v (upd H a u') ∧ RpO K Hf u' (.dct t (dPut kvs y e)) := by
  cases t with
  | false =>
    obtain ⟨ps, rfl, ra⟩ := rv
    obtain ⟨k, hk⟩ := isKey_k hk
    have e := keyK_v hk ry
    subst e
    exact ⟨_, .inl ⟨ps, k, ha, rfl, by rw [ra.length]; exact hl, rfl⟩, _, rfl, ra.put hk re⟩
  | true =>
    obtain ⟨ps, rfl, ra⟩ := rv
    obtain ⟨k, hk⟩ := isKey_t hk
    obtain ⟨b, rfl, hb⟩ := keyT_v hk ry
    exact ⟨_, .inr ⟨ps, k, b, ha, rfl, hb, by rw [ra.length]; exact hl, rfl⟩, _, rfl, ra.put hk re⟩
end
/-! ### the rules by values -/
section
variable {X : Cx}
def rIxD : R2 := fun x y H Q => ∃ a v, x = .ref a ∧ DGet H a y (some v) ∧ Q v H
theorem ix_dict (hu : X.A.units + 1 < cLine) : IxR X rIxD := by
  intro value slice pins s σ H x y v u Q I rx ry ⟨a, o, ex, g, q⟩ hs
  subst ex
  obtain rfl : v = Value.ref a := rx
  have hT := dict_typeIs I g
  unfold subscriptTail
  refine wpAny_bind ?_
  rw [getitemInPython_of_ne hT.not_modules]
  refine wpAny_bind (wpAny_specialOf hT PySem.F.slot_dict_getitem.lookup ?_)
  have fin : wpAny (model X.prog X.w) X.A (subscripted slice false (.ref a) u) (fun r s₃ => wpAny (model X.prog X.w) X.A (letTemporaryGo value (.ref a) r >>= fun _ => pure r) (EP X pins σ Q) X.xe s₃) X.xe s := by
    rw [hs]
    exact wpAny_operating (d_getItem hu I g ry fun w' s3 I3 rw' => wpAny_bind (wpAny_letTemporaryGo (wpAny_pure ⟨o, H, I3, rw', q⟩)))
  first
    | exact wpAny_pure (wpAny_bind fin)
    | exact wpAny_bind (wpAny_pure (wpAny_bind fin))
    | exact wpAny_bind fin
def rInD (neg : Bool) : R2 := fun y x H Q => ∃ a o, x = .ref a ∧ DGet H a y o ∧ Q (.bl (if neg then !o.isSome else o.isSome)) H
theorem op_inDict (hu : X.A.units + 1 < cLine) : OpR X (compareOp .In) (rInD false) := by
  intro pins s σ H y x v u Q I ry rx ⟨a, o, ex, g, q⟩
  subst ex
  obtain rfl : u = Value.ref a := rx
  exact d_in hu I g ry fun s3 I3 => ⟨.bl o.isSome, H, I3, rfl, q⟩
theorem op_notInDict (hu : X.A.units + 1 < cLine) : OpR X (compareOp .NotIn) (rInD true) := by
  intro pins s σ H y x v u Q I ry rx ⟨a, o, ex, g, q⟩
  subst ex
  obtain rfl : u = Value.ref a := rx
  exact d_notIn hu I g ry fun s3 I3 => ⟨.bl (!o.isSome), H, I3, rfl, q⟩
end
end DL
set_option Elab.async false
set_option linter.all false
set_option maxRecDepth 100000
set_option maxHeartbeats 4000000
/-! DLd: the operators' rules. -/
namespace DL
open PySem PySem.Spec PyProof.Rows L2

/-! ### t * 1: the same tuple -/
theorem tuple_mul1 (l : Addr) (items : Array Value) (n : Nat) (dd : Option Addr) (sl : Array (Option Value)) (x : Int) (u : Tok) (c0 : (decide (x < -(2 ^ 63)) || decide (x ≥ 2 ^ 63)) = false) (c1 : (items.isEmpty || x == 1) = true) :
    Meets (Builtin.«tuple.__mul__» ⟨[.ref l, .int x u], []⟩) (fun _ Rr s => s.heap.get? l = some { cls := .type "tuple", dict := dd, data := .seq items n, slots := sl } ∧
      Rr (.ok (.ret (Value.ref l))) s) :=
  .of_wp fun prog w A Rr s h => by
    obtain ⟨hp, g, d, tk, os⟩ := s
    obtain ⟨hl, h⟩ := h
    have f1 := AutoSeq1.idx_int
    wp_walk using wpAny_loadPart' hl
    repeat (first
      | (refine wpAny_ite_false (decide_eq_false (by rw [c0]; exact Bool.false_ne_true)) ?_; wp_walk using wpAny_loadPart' hl)
      | (refine wpAny_ite_true (decide_eq_true (by rw [c1])) ?_; wp_walk using wpAny_loadPart' hl))
    exact ⟨_, rfl, h⟩
def rRep1 (K : PySem.W.Frag) : R2 := fun x y H Q => ∃ l k xs, x = .ref l ∧ y = .int k ∧ SqT K H l xs ∧ 1 ≤ k ∧ k ≤ 1000 ∧ (xs = [] ∨ k = 1) ∧ Q (.ref l) H
theorem op_rep1 {X : Cx} : OpR X (binaryOp .Mult) (rRep1 X.K) := by
  intro pins s σ H x y v u Q I rx ry h
  obtain ⟨l, k, xs, rfl, rfl, hT, h1, h2, hz, q⟩ := h
  cases rx
  obtain ⟨t, rfl⟩ := ry
  obtain ⟨its, r, ⟨⟨cls, dd, data, sl⟩, ho, hc, n, hd⟩, hs⟩ := I.tuple hT
  simp only at hc hd
  subst hc hd
  have c0 : (decide (k < -(2 ^ 63)) || decide (k ≥ 2 ^ 63)) = false := by
    rw [decide_eq_false (by omega), decide_eq_false (by omega)] <;> rfl
  have c1 : (its.toArray.isEmpty || k == 1) = true := by
    rcases hz with rfl | rfl
    · cases r
      rfl
    · simp
  refine wpAny_binaryOp_repeat_ref (T := "tuple") (U := "int") (by decide) ⟨_, ho, rfl⟩ (fun s' => typeIs_int s' k t) noFill_tuple_mul F.fills_int_mul F.slot_int_rmul repeat_tuple F.slot_int_index.lookup
    (call_meets F.slot_int_rmul (typeIs_int s k t) F.entry_int_rmul (F.args_int_rmul_2 _ _) (int_rmul_tuple k t l its.toArray n dd sl)
      ⟨ho, rfl, ⟨_, ho, rfl⟩, call_meets F.slot_tuple_mul ⟨_, ho, rfl⟩ F.entry_tuple_mul (F.args_tuple_mul_2 _ _) (tuple_mul1 l its.toArray n dd sl k t c0 c1) ⟨ho, ?_⟩⟩)
  exact ⟨.ref l, H, I, rfl, q⟩

def Bop.py : Bop → Operator
  | .add => .Add | .sub => .Sub | .mul => .Mult | .fdiv => .FloorDiv | .mod => .Mod | .pow => .Pow
def Cop.py : Cop → CmpOp
  | .eq => .Eq | .ne => .NotEq | .lt => .Lt | .le => .LtE | .gt => .Gt | .ge => .GtE | .is => .Is | .isnot => .IsNot | .inn => .In | .notin => .NotIn
section
variable {X : Cx}
theorem small64_ok {i : Int} (h : small64 i = true) : -(2 ^ 64) < i ∧ i < 2 ^ 64 := by
  unfold small64 at h
  obtain ⟨h1, h2⟩ := Bool.and_eq_true_iff.mp h
  exact ⟨of_decide_eq_true h1, of_decide_eq_true h2⟩
/-- tuples' + over grown heaps -/
theorem catA_ok {K : PySem.W.Frag} {Hf H : Hp} {a b : Addr} {xs ys : List V} {ds es : List D} {Q : VK} (s : Same Hf H) (ha : Hf a = some (.tup xs)) (hb : Hf b = some (.tup ys)) (ra : Rps K Hf xs ds) (rb : Rps K Hf ys es) (hz : ds.length + es.length ≤ sizeL)
    (q : ∀ u Hf' H', Grow Hf H Hf' H' → Rp K Hf' u (.tup (ds ++ es)) → Q u H') : rCatA K (.ref a) (.ref b) H Q := by
  refine ⟨a, b, xs, ys, rfl, rfl, SqT.of (s _ _ ha), SqT.of (s _ _ hb), by rw [ra.length, rb.length]; exact size_ok.mp hz, fun e => ?_, fun _ e => ?_, fun _ _ p hp => ?_⟩
  · subst e
    cases ra
    exact q _ Hf H Grow.refl (.tup hb rb)
  · subst e
    cases rb
    rw [List.append_nil] at q
    exact q _ Hf H Grow.refl (.tup ha ra)
  · have g := Grow.new (o := .tup (xs ++ ys)) s hp
    exact q _ _ _ g (.tup upd_same ((ra.append rb).mono g.f))
theorem bop_add : ∃ r, OpR X (binaryOp .Add) r ∧ OpD X.K r (bopD .add) := by
  refine ⟨_, (op_add).or ((op_add_str).or op_catA), fun Hf H v w d e z Q s rv rw_ hz q => ?_⟩
  cases rv with
  | int i =>
    cases rw_ with
    | int j => cases hz; exact .inl ⟨i, j, rfl, rfl, q _ Hf H Grow.refl (.int _)⟩
    | _ => cases hz
  | str x =>
    cases rw_ with
    | str y =>
      have hz' : (if x.length + y.length ≤ sizeL then some (D.str (x ++ y)) else none) = some z := hz
      by_cases hl : x.length + y.length ≤ sizeL
      · rw [if_pos hl] at hz'
        cases hz'
        exact .inr (.inl ⟨x, y, rfl, rfl, size_ok.mp hl, q _ Hf H Grow.refl (.str _)⟩)
      · rw [if_neg hl] at hz'; cases hz'
    | _ => cases hz
  | tup ha ra =>
    cases rw_ with
    | tup hb rb =>
      rename_i ds _ _ es
      have hz' : (if ds.length + es.length ≤ sizeL then some (D.tup (ds ++ es)) else none) = some z := hz
      by_cases hl : ds.length + es.length ≤ sizeL
      · rw [if_pos hl] at hz'
        cases hz'
        exact .inr (.inr (catA_ok s ha hb ra rb hl q))
      · rw [if_neg hl] at hz'; cases hz'
    | _ => cases hz
  | _ => cases hz
theorem wide_abs {i : Int} (h1 : -wideB < i) (h2 : i < wideB) : i.natAbs < 2 ^ 6000 := by
  have h3 : -((2 ^ 6000 : Nat) : Int) < i := by
    have e : ((2 ^ 6000 : Nat) : Int) = wideB := by rw [Int.natCast_pow]; rfl
    rw [e]
    exact h1
  have h4 : i < ((2 ^ 6000 : Nat) : Int) := by
    have e : ((2 ^ 6000 : Nat) : Int) = wideB := by rw [Int.natCast_pow]; rfl
    rw [e]
    exact h2
  generalize (2 ^ 6000 : Nat) = n at h3 h4
  omega
theorem rep_size (x : Array Nat) : ∀ (k : Nat) (acc : Array Nat), ((List.replicate k x).foldl (· ++ ·) acc).size = acc.size + k * x.size
  | 0, acc => by simp
  | k + 1, acc => by
    rw [List.replicate_succ, List.foldl_cons, rep_size x k, Array.size_append, Nat.add_mul]
    omega
/-- a text times a number -/
def rRepS : R2 := fun x y H Q => ∃ z k, x = .str z ∧ y = .int k ∧ 2 ≤ k ∧ k ≤ 1000 ∧ 1 ≤ z.length ∧ z.length ≤ 1000 ∧ Q (.str (strRep z k.toNat)) H
theorem op_repS {X : Cx} : OpR X (binaryOp .Mult) rRepS := by
  intro pins s σ H x y v u Q I rx ry h
  obtain ⟨z, k, rfl, rfl, h1, h2, h3, h4, q⟩ := h
  obtain ⟨t, rfl⟩ := rx
  obtain ⟨t', rfl⟩ := ry
  have nb : (k == 1 || z.length == 0) = false := by
    have a : (k == 1) = false := by rw [beq_eq_false_iff_ne]; omega
    have b : (z.length == 0) = false := by rw [beq_eq_false_iff_ne]; omega
    rw [a, b]; rfl
  have hm : z.length * k.toNat ≤ 1000 * 1000 := Nat.mul_le_mul h4 (by omega)
  have hd : ¬ ((z.length : Int) > (2 ^ 63 - 1) / k) := by
    have : (1000 : Int) ≤ (2 ^ 63 - 1) / k := (Int.le_ediv_iff_mul_le (by omega)).mpr (by omega)
    omega
  refine PySem.P.mul_str (by rw [decide_eq_false (by omega), decide_eq_false (by omega)]; rfl) (fun _ _ => hd) (fun _ _ => ?_) ?_
  · have e := sizeLine_eq
    exact decide_eq_false (by omega)
  · rw [if_neg (by omega), if_neg (by rw [nb]; exact Bool.false_ne_true)]
    refine ⟨?_, .str (strRep z k.toNat), H, I.tok _, ⟨_, rfl⟩, q⟩
    have e := sizeLine_eq
    show (((List.replicate k.toNat z.cps).foldl (· ++ ·) #[])).size ≤ _
    rw [rep_size]
    have hz : z.cps.size = z.length := rfl
    rw [hz, Nat.mul_comm]
    simp only [List.size_toArray, List.length_nil]
    omega
theorem bop_sub : ∃ r, OpR X (binaryOp .Sub) r ∧ OpD X.K r (bopD .sub) := by
  refine ⟨_, op_sub, fun Hf H v w d e z Q s rv rw_ hz q => ?_⟩
  cases rv with
  | int i =>
    cases rw_ with
    | int j => cases hz; exact ⟨i, j, rfl, rfl, q _ Hf H Grow.refl (.int _)⟩
    | _ => cases hz
  | _ => cases hz
theorem bop_mul : ∃ r, OpR X (binaryOp .Mult) r ∧ OpD X.K r (bopD .mul) := by
  refine ⟨_, (((op_mul).or op_mulW).or ((op_repT).or op_rep1)).or op_repS, fun Hf H v w d e z Q s rv rw_ hz q => ?_⟩
  cases rv with
  | int i =>
    cases rw_ with
    | int j =>
      have hz' : (if (small64 i || small64 j) = true then some (D.int (i * j)) else mulW i j) = some z := hz
      by_cases hl : (small64 i || small64 j) = true
      · rw [if_pos hl] at hz'
        cases hz'
        refine .inl (.inl (.inl ⟨i, j, rfl, rfl, ?_, q _ Hf H Grow.refl (.int _)⟩))
        rcases Bool.or_eq_true_iff.mp hl with h | h
        · exact .inl (small64_ok h)
        · exact .inr (small64_ok h)
      · rw [if_neg hl] at hz'
        unfold mulW at hz'
        split at hz'
        · rename_i hw
          cases hz'
          have w1 := wide_abs hw.1 hw.2.1
          have w2 := wide_abs hw.2.2.1 hw.2.2.2
          exact .inl (.inl (.inr ⟨i, j, rfl, rfl, wide_mul w1 w2 (by decide) (by decide) (by decide), q _ Hf H Grow.refl (.int _)⟩))
        · cases hz'
    | _ => cases hz
  | tup ha ra =>
    cases rw_ with
    | int k =>
      rename_i a xs ds
      have hz' : (if ds.length ≤ 1000 ∧ 1 ≤ k ∧ k ≤ 1000 then some (D.tup (List.replicate k.toNat ds).flatten) else none) = some z := hz
      by_cases hl : ds.length ≤ 1000 ∧ 1 ≤ k ∧ k ≤ 1000
      · rw [if_pos hl] at hz'
        cases hz'
        obtain ⟨h1, h2, h3⟩ := hl
        have hx : xs.length ≤ 1000 := by rw [ra.length]; exact h1
        by_cases hk : xs = [] ∨ k = 1
        · refine .inl (.inr (.inr ⟨a, k, xs, rfl, rfl, SqT.of (s _ _ ha), h2, h3, hk, q _ Hf H Grow.refl (.tup ha ?_)⟩))
          rcases hk with rfl | rfl
          · cases ra
            rw [show (List.replicate k.toNat ([] : List D)).flatten = [] by simp]
            exact .nil
          · rw [show (List.replicate (1 : Int).toNat ds).flatten = ds by simp]
            exact ra
        · refine .inl (.inr (.inl ⟨a, k, xs, rfl, rfl, SqT.of (s _ _ ha), fun e => hk (.inl e), ?_, h3, hx, fun p hp => ?_⟩))
          · have : k ≠ 1 := fun e => hk (.inr e)
            omega
          · have g := Grow.new (o := .tup (List.replicate k.toNat xs).flatten) s hp
            exact q _ _ _ g (.tup upd_same ((ra.rep k.toNat).mono g.f))
      · rw [if_neg hl] at hz'; cases hz'
    | _ => cases hz
  | str x =>
    cases rw_ with
    | int k =>
      have hz' : mulS x k = some z := hz
      unfold mulS at hz'
      split at hz'
      · rename_i hl
        cases hz'
        exact .inr ⟨x, k, rfl, rfl, hl.1, hl.2.1, hl.2.2.1, hl.2.2.2, q _ Hf H Grow.refl (.str _)⟩
      · cases hz'
    | _ => cases hz
  | _ => cases hz
def CDivZ (_ j : Int) : Prop := j ≠ 0 ∧ j.natAbs.log2 < 9000
theorem op_fdivZ {X : Cx} : OpR X (binaryOp .FloorDiv) (rI CDivZ fun i j => .int (i.fdiv j)) := opI fun i j _ _ _ _ _ hc q => floordiv_int hc.1 q (.inl (PyProof.noPylong_of_log2 hc.2))
theorem bop_fdiv : ∃ r, OpR X (binaryOp .FloorDiv) r ∧ OpD X.K r (bopD .fdiv) := by
  refine ⟨_, (op_fdiv).or ((op_fdivW).or op_fdivZ), fun Hf H v w d e z Q s rv rw_ hz q => ?_⟩
  cases rv with
  | int i =>
    cases rw_ with
    | int j =>
      have hz' : (if 0 < j ∧ j < 1073741824 then some (D.int (i / j)) else fdivW i j) = some z := hz
      by_cases hl : 0 < j ∧ j < 1073741824
      · rw [if_pos hl] at hz'
        cases hz'
        exact .inl ⟨i, j, rfl, rfl, hl, q _ Hf H Grow.refl (.int _)⟩
      · rw [if_neg hl] at hz'
        unfold fdivW at hz'
        split at hz'
        · rename_i hw
          cases hz'
          have h0 : (0 : Int) ≤ wideB := by decide +kernel
          have w1 : -wideB < j := by have := hw.1; omega
          exact .inr (.inl ⟨i, j, rfl, rfl, wide_div hw.1 (wide_abs w1 hw.2) (by decide) (by decide), q _ Hf H Grow.refl (.int _)⟩)
        · split at hz'
          · rename_i hw
            cases hz'
            have h0 : (0 : Int) ≤ wideB := by decide +kernel
            have w1 : j < wideB := by have := hw.1; omega
            exact .inr (.inr ⟨i, j, rfl, rfl, ⟨by omega, Nat.lt_of_lt_of_le (PySem.Flt.log2_lt_of (by decide) (wide_abs hw.2 w1)) (by decide)⟩, q _ Hf H Grow.refl (.int _)⟩)
          · cases hz'
    | _ => cases hz
  | _ => cases hz
theorem bop_mod : ∃ r, OpR X (binaryOp .Mod) r ∧ OpD X.K r (bopD .mod) := by
  refine ⟨_, op_mod, fun Hf H v w d e z Q s rv rw_ hz q => ?_⟩
  cases rv with
  | int i =>
    cases rw_ with
    | int j =>
      have hz' : (if 0 < j then some (D.int (i % j)) else none) = some z := hz
      by_cases hl : 0 < j
      · rw [if_pos hl] at hz'
        cases hz'
        exact ⟨i, j, rfl, rfl, hl, q _ Hf H Grow.refl (.int _)⟩
      · rw [if_neg hl] at hz'; cases hz'
    | _ => cases hz
  | _ => cases hz
theorem bop_pow : ∃ r, OpR X (binaryOp .Pow) r ∧ OpD X.K r (bopD .pow) := by
  refine ⟨_, op_pow, fun Hf H v w d e z Q s rv rw_ hz q => ?_⟩
  cases rv with
  | int i =>
    cases rw_ with
    | int j =>
      have hz' : (if 0 ≤ j ∧ j ≤ 1000 ∧ i.natAbs < 2 ^ 64 then some (D.int (i ^ j.toNat)) else none) = some z := hz
      by_cases hl : 0 ≤ j ∧ j ≤ 1000 ∧ i.natAbs < 2 ^ 64
      · rw [if_pos hl] at hz'
        cases hz'
        exact ⟨i, j, rfl, rfl, ⟨hl.1, by omega, hl.2.2⟩, q _ Hf H Grow.refl (.int _)⟩
      · rw [if_neg hl] at hz'; cases hz'
    | _ => cases hz
  | _ => cases hz
theorem bop_ok (o : Bop) : ∃ r, OpR X (binaryOp o.py) r ∧ OpD X.K r (bopD o) := by
  cases o
  · exact bop_add
  · exact bop_sub
  · exact bop_mul
  · exact bop_fdiv
  · exact bop_mod
  · exact bop_pow

/-! ### comparisons -/
abbrev OpB (K : PySem.W.Frag) (r : R2) (f : D → D → Option Bool) : Prop := OpD K r fun d e => (f d e).map .bl
theorem any_py (d : D) : ∀ ds : List D, ((D.pys ds).any fun z => PyData.eqv z d.py) = ds.any fun z => D.eqv z d
  | [] => rfl
  | e :: ds => by
    rw [D.pys, List.any_cons, List.any_cons, any_py d ds, eqv_py]
theorem okN_lst {n : Nat} {ds : List D} (h : D.okN (n + 1) (.lst ds) = true) : D.okNs n ds = true := by simpa [D.okN] using h
theorem okN_tup {n : Nat} {ds : List D} (h : D.okN (n + 1) (.tup ds) = true) : D.okNs n ds = true := by simpa [D.okN] using h
/-- x in a tuple, items data of any depth -/
def rInT (K : PySem.W.Frag) (neg : Bool) : R2 := fun x y H Q => ∃ d ds, Dp K H x d ∧ Dp K H y (.tuple ds) ∧ SeqAt.shaped d = true ∧ SeqAt.shaped (.tuple ds) = true ∧ Q (.bl (if neg then !(ds.any fun z => PyData.eqv z d) else (ds.any fun z => PyData.eqv z d))) H
theorem op_inT (hu : X.A.units + 65 < cLine) : OpR X (compareOp .In) (rInT X.K false) := by
  intro pins s σ H x y v u Q I rx ry h
  obtain ⟨d, ds, hd, he, sd, se, q⟩ := h
  obtain ⟨as, r1⟩ := Dp.reads I d x v hd rx
  obtain ⟨bs, r2⟩ := Dp.reads I (.tuple ds) y u he ry
  exact SeqAt.in_tuple_reads r2 r1 (SeqAt.canLay_of_shaped se) (SeqAt.canLay_of_shaped sd) (room_in_shaped sd hu) ⟨.bl _, H, I, rfl, q⟩
theorem op_notInT (hu : X.A.units + 65 < cLine) : OpR X (compareOp .NotIn) (rInT X.K true) := by
  intro pins s σ H x y v u Q I rx ry h
  obtain ⟨d, ds, hd, he, sd, se, q⟩ := h
  obtain ⟨as, r1⟩ := Dp.reads I d x v hd rx
  obtain ⟨bs, r2⟩ := Dp.reads I (.tuple ds) y u he ry
  exact SeqAt.notIn_tuple_reads r2 r1 (SeqAt.canLay_of_shaped se) (SeqAt.canLay_of_shaped sd) (room_in_shaped sd hu) ⟨.bl _, H, I, rfl, q⟩
theorem map_bl {o : Option Bool} {z : D} (h : o.map D.bl = some z) : ∃ b, o = some b ∧ z = .bl b := by
  cases o with
  | none => cases h
  | some b => cases h; exact ⟨b, rfl, rfl⟩
theorem eqD_some {d e : D} {b : Bool} (h : eqD d e = some b) : D.okN 60 d = true ∧ D.okN 60 e = true ∧ D.eqv d e = b := by
  unfold eqD at h
  by_cases q : (D.okN 60 d && D.okN 60 e) = true
  · rw [if_pos q] at h
    obtain ⟨h1, h2⟩ := Bool.and_eq_true_iff.mp q
    exact ⟨h1, h2, Option.some.inj h⟩
  · rw [if_neg q] at h; cases h
theorem cop_eq (hu : X.A.units + 65 < cLine) : ∃ r, OpR X (compareOp .Eq) r ∧ OpB X.K r (copD .eq) := by
  refine ⟨_, op_eqD (by omega), fun Hf H v w d e z Q s rv rw_ hz q => ?_⟩
  obtain ⟨b, hb, rfl⟩ := map_bl hz
  obtain ⟨h1, h2, h3⟩ := eqD_some hb
  refine ⟨d.py, e.py, (rv.mono s).dp h1, (rw_.mono s).dp h2, ok_shaped h1, ok_shaped h2, ?_⟩
  rw [eqv_py, h3]
  exact q _ Hf H Grow.refl (.bl _)
theorem cop_ne (hu : X.A.units + 65 < cLine) : ∃ r, OpR X (compareOp .NotEq) r ∧ OpB X.K r (copD .ne) := by
  refine ⟨_, op_neD (by omega), fun Hf H v w d e z Q s rv rw_ hz q => ?_⟩
  obtain ⟨b, hb, rfl⟩ := map_bl hz
  have hb : (eqD d e).map (!·) = some b := hb
  cases hc : eqD d e with
  | none => rw [hc] at hb; cases hb
  | some c =>
    rw [hc] at hb
    cases hb
    obtain ⟨h1, h2, h3⟩ := eqD_some hc
    refine ⟨d.py, e.py, (rv.mono s).dp h1, (rw_.mono s).dp h2, ok_shaped h1, ok_shaped h2, ?_⟩
    rw [eqv_py, h3]
    exact q _ Hf H Grow.refl (.bl _)
theorem cop_int {op : CmpOp} {o : Cop} {p : Int → Int → Bool} (ho : OpR X (compareOp op) (rI0 fun i j => .bl (p i j))) (hf : ∀ d e b, copD o d e = some b → ∃ i j, d = .int i ∧ e = .int j ∧ b = p i j) : ∃ r, OpR X (compareOp op) r ∧ OpB X.K r (copD o) := by
  refine ⟨_, ho, fun Hf H v w d e z Q s rv rw_ hz q => ?_⟩
  obtain ⟨b, hb, rfl⟩ := map_bl hz
  obtain ⟨i, j, rfl, rfl, rfl⟩ := hf d e b hb
  cases rv
  cases rw_
  exact ⟨i, j, rfl, rfl, q _ Hf H Grow.refl (.bl _)⟩
theorem isD_cases {d e : D} {b : Bool} (h : isD d e = some b) : (e = .non ∧ b = isNon d) ∨ ∃ a c, d = .bl a ∧ e = .bl c ∧ b = decide (a = c) := by
  cases e with
  | non => exact .inl ⟨rfl, (Option.some.inj h).symm⟩
  | bl c => cases d with
    | bl a => exact .inr ⟨a, c, rfl, rfl, (Option.some.inj h).symm⟩
    | _ => cases h
  | _ => cases d <;> cases h
theorem rp_non {K : PySem.W.Frag} {Hf : Hp} {v : V} {d : D} (r : Rp K Hf v d) : decide (v = .non) = isNon d := by
  cases r <;> rfl
theorem cop_is : ∃ r, OpR X (compareOp .Is) r ∧ OpB X.K r (copD .is) := by
  refine ⟨_, (op_isN).or op_isBl, fun Hf H v w d e z Q s rv rw_ hz q => ?_⟩
  obtain ⟨b, hb, rfl⟩ := map_bl hz
  rcases isD_cases hb with ⟨rfl, rfl⟩ | ⟨a, c, rfl, rfl, rfl⟩
  · cases rw_
    refine .inl ⟨rfl, ?_⟩
    rw [rp_non rv]
    exact q _ Hf H Grow.refl (.bl _)
  · cases rv
    cases rw_
    exact .inr ⟨a, c, rfl, rfl, q _ Hf H Grow.refl (.bl _)⟩
theorem cop_isnot : ∃ r, OpR X (compareOp .IsNot) r ∧ OpB X.K r (copD .isnot) := by
  refine ⟨_, (op_notN).or op_notBl, fun Hf H v w d e z Q s rv rw_ hz q => ?_⟩
  obtain ⟨b, hb, rfl⟩ := map_bl hz
  have hb : (isD d e).map (!·) = some b := hb
  cases hc : isD d e with
  | none => rw [hc] at hb; cases hb
  | some c =>
    rw [hc] at hb
    cases hb
    rcases isD_cases hc with ⟨rfl, rfl⟩ | ⟨a, c, rfl, rfl, rfl⟩
    · cases rw_
      refine .inl ⟨rfl, ?_⟩
      rw [rp_non rv]
      exact q _ Hf H Grow.refl (.bl _)
    · cases rv
      cases rw_
      exact .inr ⟨a, c, rfl, rfl, q _ Hf H Grow.refl (.bl _)⟩
theorem memD_cases {d e : D} {b : Bool} (h : memD d e = some b) : (D.okN 60 d = true ∧ D.okN 60 e = true ∧ ((∃ xs, e = .lst xs ∧ b = xs.any fun z => D.eqv z d) ∨ ∃ xs, e = .tup xs ∧ b = xs.any fun z => D.eqv z d)) ∨ (∃ t kvs, e = .dct t kvs ∧ isKey t d = true ∧ b = (dGet kvs d).isSome) ∨ (∃ x y, d = .str x ∧ e = .str y ∧ b = occB x y) ∨ ∃ xs, e = .ro xs ∧ D.okN 60 d = true ∧ D.okNs 59 xs = true ∧ b = xs.any fun z => D.eqv z d := by
  cases e with
  | lst xs =>
    have h : (if (D.okN 60 d && D.okN 60 (.lst xs)) = true then some (xs.any fun z => D.eqv z d) else none) = some b := h
    by_cases q : (D.okN 60 d && D.okN 60 (.lst xs)) = true
    · rw [if_pos q] at h
      obtain ⟨h1, h2⟩ := Bool.and_eq_true_iff.mp q
      exact .inl ⟨h1, h2, .inl ⟨xs, rfl, (Option.some.inj h).symm⟩⟩
    · rw [if_neg q] at h; cases h
  | tup xs =>
    have h : (if (D.okN 60 d && D.okN 60 (.tup xs)) = true then some (xs.any fun z => D.eqv z d) else none) = some b := h
    by_cases q : (D.okN 60 d && D.okN 60 (.tup xs)) = true
    · rw [if_pos q] at h
      obtain ⟨h1, h2⟩ := Bool.and_eq_true_iff.mp q
      exact .inl ⟨h1, h2, .inr ⟨xs, rfl, (Option.some.inj h).symm⟩⟩
    · rw [if_neg q] at h; cases h
  | dct t kvs =>
    have h : (if isKey t d = true then some (dGet kvs d).isSome else none) = some b := h
    by_cases q : isKey t d = true
    · rw [if_pos q] at h
      exact .inr (.inl ⟨t, kvs, rfl, q, (Option.some.inj h).symm⟩)
    · rw [if_neg q] at h; cases h
  | str y => cases d with
    | str x => exact .inr (.inr (.inl ⟨x, y, rfl, rfl, (Option.some.inj h).symm⟩))
    | _ => cases h
  | ro xs =>
    have h : (if (D.okN 60 d && D.okNs 59 xs) = true then some (xs.any fun z => D.eqv z d) else none) = some b := h
    by_cases q : (D.okN 60 d && D.okNs 59 xs) = true
    · rw [if_pos q] at h
      obtain ⟨h1, h2⟩ := Bool.and_eq_true_iff.mp q
      exact .inr (.inr (.inr ⟨xs, rfl, h1, h2, (Option.some.inj h).symm⟩))
    · rw [if_neg q] at h; cases h
  | _ => cases h
theorem dget_some {K : PySem.W.Frag} {Hf : Hp} {kvs : List (D × D)} {d : D} {o : Option V} (h : match dGet kvs d with
      | none => o = none
      | some e => ∃ u, o = some u ∧ Rp K Hf u e) : o.isSome = (dGet kvs d).isSome := by
  cases q : dGet kvs d with
  | none => rw [q] at h; subst h; rfl
  | some e => rw [q] at h; obtain ⟨u, rfl, _⟩ := h; rfl
theorem ro_shaped {xs : List D} (h : D.okNs 59 xs = true) : SeqAt.shaped (.list (D.pys xs)) = true ∧ SeqAt.shaped (.tuple (D.pys xs)) = true :=
  ⟨ok_shaped (d := .lst xs) (show D.okN (59 + 1) (.lst xs) = true by simpa [D.okN] using h), ok_shaped (d := .tup xs) (show D.okN (59 + 1) (.tup xs) = true by simpa [D.okN] using h)⟩
theorem cop_in (hu : X.A.units + 65 < cLine) : ∃ r, OpR X (compareOp .In) r ∧ OpB X.K r (copD .inn) := by
  refine ⟨_, (op_inD hu).or ((op_inT hu).or ((op_inDict (by omega)).or op_in_str)), fun Hf H v w d e z Q s rv rw_ hz q => ?_⟩
  obtain ⟨b, hb, rfl⟩ := map_bl hz
  rcases memD_cases hb with ⟨h1, h2, h3⟩ | ⟨t, kvs, rfl, h1, rfl⟩ | ⟨x, y, rfl, rfl, rfl⟩ | ⟨xs, rfl, h1, h2, rfl⟩
  · rcases h3 with ⟨xs, rfl, rfl⟩ | ⟨xs, rfl, rfl⟩
    · have p2 := (rw_.mono s).dp h2
      refine .inl ⟨d.py, D.pys xs, (rv.mono s).dp h1, p2, ok_shaped h1, ok_shaped h2, ?_⟩
      rw [any_py]
      exact q _ Hf H Grow.refl (.bl _)
    · have p2 := (rw_.mono s).dp h2
      refine .inr (.inl ⟨d.py, D.pys xs, (rv.mono s).dp h1, p2, ok_shaped h1, ok_shaped h2, ?_⟩)
      rw [any_py]
      exact q _ Hf H Grow.refl (.bl _)
  · obtain ⟨a, o, rfl, g, m⟩ := rp_dget s rw_ (rv.mono s) h1
    refine .inr (.inr (.inl ⟨a, o, rfl, g, ?_⟩))
    rw [dget_some m]
    exact q _ Hf H Grow.refl (.bl _)
  · cases rv
    cases rw_
    exact .inr (.inr (.inr ⟨x, y, rfl, rfl, q _ Hf H Grow.refl (.bl _)⟩))
  · obtain ⟨k1, k2⟩ := ro_shaped h2
    cases rw_ with
    | ro ha ra =>
      have rr := (ra.mono s).dp (n := 59) h2
      rcases ha with ha | ha
      · refine .inl ⟨d.py, D.pys xs, (rv.mono s).dp h1, .lst (s.seq ha) rr, ok_shaped h1, k1, ?_⟩
        rw [any_py]
        exact q _ Hf H Grow.refl (.bl _)
      · refine .inr (.inl ⟨d.py, D.pys xs, (rv.mono s).dp h1, .tup (Same.seqT s ha) rr, ok_shaped h1, k2, ?_⟩)
        rw [any_py]
        exact q _ Hf H Grow.refl (.bl _)
theorem cop_notin (hu : X.A.units + 65 < cLine) : ∃ r, OpR X (compareOp .NotIn) r ∧ OpB X.K r (copD .notin) := by
  refine ⟨_, (op_notInD hu).or ((op_notInT hu).or ((op_notInDict (by omega)).or op_notIn_str)), fun Hf H v w d e z Q s rv rw_ hz q => ?_⟩
  obtain ⟨b, hb, rfl⟩ := map_bl hz
  have hb : (memD d e).map (!·) = some b := hb
  cases hc : memD d e with
  | none => rw [hc] at hb; cases hb
  | some c =>
    rw [hc] at hb
    cases hb
    rcases memD_cases hc with ⟨h1, h2, h3⟩ | ⟨t, kvs, rfl, h1, rfl⟩ | ⟨x, y, rfl, rfl, rfl⟩ | ⟨xs, rfl, h1, h2, rfl⟩
    · rcases h3 with ⟨xs, rfl, rfl⟩ | ⟨xs, rfl, rfl⟩
      · have p2 := (rw_.mono s).dp h2
        refine .inl ⟨d.py, D.pys xs, (rv.mono s).dp h1, p2, ok_shaped h1, ok_shaped h2, ?_⟩
        rw [any_py]
        exact q _ Hf H Grow.refl (.bl _)
      · have p2 := (rw_.mono s).dp h2
        refine .inr (.inl ⟨d.py, D.pys xs, (rv.mono s).dp h1, p2, ok_shaped h1, ok_shaped h2, ?_⟩)
        rw [any_py]
        exact q _ Hf H Grow.refl (.bl _)
    · obtain ⟨a, o, rfl, g, m⟩ := rp_dget s rw_ (rv.mono s) h1
      refine .inr (.inr (.inl ⟨a, o, rfl, g, ?_⟩))
      show Q (.bl (!o.isSome)) H
      rw [dget_some m]
      exact q _ Hf H Grow.refl (.bl _)
    · cases rv
      cases rw_
      exact .inr (.inr (.inr ⟨x, y, rfl, rfl, q _ Hf H Grow.refl (.bl _)⟩))
    · obtain ⟨k1, k2⟩ := ro_shaped h2
      cases rw_ with
      | ro ha ra =>
        have rr := (ra.mono s).dp (n := 59) h2
        rcases ha with ha | ha
        · refine .inl ⟨d.py, D.pys xs, (rv.mono s).dp h1, .lst (s.seq ha) rr, ok_shaped h1, k1, ?_⟩
          rw [any_py]
          exact q _ Hf H Grow.refl (.bl _)
        · refine .inr (.inl ⟨d.py, D.pys xs, (rv.mono s).dp h1, .tup (Same.seqT s ha) rr, ok_shaped h1, k2, ?_⟩)
          rw [any_py]
          exact q _ Hf H Grow.refl (.bl _)
theorem lt_cases {d e : D} {b : Bool} (h : copD .lt d e = some b) : (∃ i j, d = .int i ∧ e = .int j ∧ b = decide (i < j)) ∨ ∃ xs ys ns ms, d = .tup xs ∧ e = .tup ys ∧ intsOf xs = some ns ∧ intsOf ys = some ms ∧ b = HT.lexLt ns ms := by
  cases d <;> cases e <;> first
    | (cases h; exact .inl ⟨_, _, rfl, rfl, rfl⟩)
    | (rename_i xs ys
       have h : (match intsOf xs, intsOf ys with
         | some ns, some ms => some (HT.lexLt ns ms)
         | _, _ => none) = some b := h
       cases h1 : intsOf xs with
       | none => rw [h1] at h; cases h
       | some ns =>
         cases h2 : intsOf ys with
         | none => rw [h1, h2] at h; cases h
         | some ms =>
           rw [h1, h2] at h
           cases h
           exact .inr ⟨xs, ys, ns, ms, rfl, rfl, h1, h2, rfl⟩)
    | cases h
theorem cop_lt_ok (hu : X.A.units + 65 < cLine) : ∃ r, OpR X (compareOp .Lt) r ∧ OpB X.K r (copD .lt) := by
  refine ⟨_, (op_lt).or (op_ltT (by omega)), fun Hf H v w d e z Q s rv rw_ hz q => ?_⟩
  obtain ⟨b, hb, rfl⟩ := map_bl hz
  rcases lt_cases hb with ⟨i, j, rfl, rfl, rfl⟩ | ⟨xs, ys, ns, ms, rfl, rfl, h1, h2, rfl⟩
  · cases rv
    cases rw_
    exact .inl ⟨i, j, rfl, rfl, q _ Hf H Grow.refl (.bl _)⟩
  · cases rv with
    | tup ha ra =>
      cases rw_ with
      | tup hb rb =>
        have e1 := ra.intsV h1
        have e2 := rb.intsV h2
        subst e1 e2
        exact .inr ⟨_, _, ns, ms, rfl, rfl, SqT.of (s _ _ ha), SqT.of (s _ _ hb), q _ Hf H Grow.refl (.bl _)⟩
theorem cop_ok (hu : X.A.units + 65 < cLine) (o : Cop) : ∃ r, OpR X (compareOp o.py) r ∧ OpB X.K r (copD o) := by
  cases o
  · exact cop_eq hu
  · exact cop_ne hu
  · exact cop_lt_ok hu
  · exact cop_int op_le fun d e b h => by cases d <;> cases e <;> first | (cases h; exact ⟨_, _, rfl, rfl, rfl⟩) | cases h
  · exact cop_int op_gt fun d e b h => by cases d <;> cases e <;> first | (cases h; exact ⟨_, _, rfl, rfl, rfl⟩) | cases h
  · exact cop_int op_ge fun d e b h => by cases d <;> cases e <;> first | (cases h; exact ⟨_, _, rfl, rfl, rfl⟩) | cases h
  · exact cop_is
  · exact cop_isnot
  · exact cop_in hu
  · exact cop_notin hu
/-! ### new lists by operators -/
theorem opn_cat : ∃ r, OpR X (binaryOp .Add) r ∧ OpN X.K r catD := by
  refine ⟨_, op_cat, fun Hf H v w d e z Q s rv rw_ hz q => ?_⟩
  cases rv with
  | lst ha ra =>
    cases rw_ with
    | lst hb rb =>
      rename_i ds _ _ es
      have hz' : (if ds.length + es.length ≤ sizeL then some (D.lst (ds ++ es)) else none) = some z := hz
      by_cases hl : ds.length + es.length ≤ sizeL
      · rw [if_pos hl] at hz'
        cases hz'
        exact ⟨_, _, _, _, rfl, rfl, s _ _ ha, s _ _ hb, by rw [ra.length, rb.length]; exact size_ok.mp hl, fun p hp => q p _ hp ⟨_, rfl, ra.append rb⟩⟩
      · rw [if_neg hl] at hz'; cases hz'
    | _ => cases hz
  | _ => cases hz
theorem opn_rep : ∃ r, OpR X (binaryOp .Mult) r ∧ OpN X.K r repD := by
  refine ⟨_, op_rep, fun Hf H v w d e z Q s rv rw_ hz q => ?_⟩
  cases rv with
  | lst ha ra =>
    cases rw_ with
    | int k =>
      rename_i ds
      have hz' : (if -(2 ^ 63) ≤ k ∧ k < 2 ^ 63 ∧ ds.length * k.toNat ≤ sizeL then some (D.lst (List.replicate k.toNat ds).flatten) else none) = some z := hz
      by_cases hl : -(2 ^ 63) ≤ k ∧ k < 2 ^ 63 ∧ ds.length * k.toNat ≤ sizeL
      · rw [if_pos hl] at hz'
        cases hz'
        exact ⟨_, _, _, rfl, rfl, s _ _ ha, hl.1, hl.2.1, by rw [ra.length]; exact size_ok.mp hl.2.2, fun p hp => q p _ hp ⟨_, rfl, ra.rep k.toNat⟩⟩
      · rw [if_neg hl] at hz'; cases hz'
    | _ => cases hz
  | _ => cases hz

/-! ### slices -/
theorem Rps.cut {K : PySem.W.Frag} {Hf : Hp} {xs : List V} {ds : List D} (r : Rps K Hf xs ds) (lo hi : Option Int) : Rps K Hf (cutV xs lo hi) (cutL ds lo hi) := by
  unfold cutV cutL
  rw [r.length]
  exact (r.drop _).take _
theorem cut_whole {xs : List D} {lo hi : Option Int} (h1 : HT.sIx xs.length 0 lo = 0) (h2 : HT.sIx xs.length xs.length hi = xs.length) : cutL xs lo hi = xs := by
  unfold cutL
  rw [h1, h2]
  simp
def SlD (K : PySem.W.Frag) (r : V → Option Int → Option Int → Hp → VK → Prop) (f : D → Option Int → Option Int → Option D) : Prop := ∀ (Hf H : Hp) (v : V) (d z : D) (lo hi : Option Int) (Q : VK), Same Hf H → Rp K Hf v d → f d lo hi = some z → (∀ u Hf' H', Grow Hf H Hf' H' → Rp K Hf' u z → Q u H') → r v lo hi H Q
/-- slices of tuples and texts -/
theorem size_okD {n : Nat} : n ≤ sizeL ↔ n ≤ sizeLine := by
  rw [sizeLine_eq]
  exact Iff.rfl
def rSlAS (K : PySem.W.Frag) : V → Option Int → Option Int → Hp → VK → Prop := fun x lo hi H Q => rSlA K x lo hi H Q ∨ rSlS x lo hi H Q
theorem sl_all : SlR X (rSlAS X.K) := (sl_tupA).or sl_str
theorem sl_ok : SlD X.K (rSlAS X.K) slD := by
  intro Hf H v d z lo hi Q s rv hz q
  cases rv with
  | tup ha ra =>
    rename_i a xs ds
    cases hz
    refine .inl ⟨a, xs, rfl, SqT.of (s _ _ ha), fun ⟨h1, h2⟩ => ?_, fun _ p hp => ?_⟩
    · rw [ra.length] at h1 h2
      refine q _ Hf H Grow.refl ?_
      rw [cut_whole h1 h2]
      exact .tup ha ra
    · have g := Grow.new (o := .tup (cutV xs lo hi)) s hp
      exact q _ _ _ g (.tup upd_same ((ra.cut lo hi).mono g.f))
  | str x =>
    have hz : (if x.length ≤ sizeL then some (D.str (cutS x lo hi)) else none) = some z := hz
    split at hz
    · rename_i hl
      cases hz
      exact .inr ⟨x, rfl, size_okD.mp hl, q _ Hf H Grow.refl (.str _)⟩
    · cases hz
  | _ => cases hz
def SlNw (K : PySem.W.Frag) (r : V → Option Int → Option Int → Hp → VK → Prop) (f : D → Option Int → Option Int → Option D) : Prop := ∀ (Hf H : Hp) (v : V) (d : D) (z : D) (lo hi : Option Int) (Q : VK), Same Hf H → Rp K Hf v d → f d lo hi = some z → (∀ p u, H p = none → RpO K Hf u z → Q (.ref p) (upd H p u)) → r v lo hi H Q
theorem slN_ok : SlNw X.K (rSlL X.K) slN := by
  intro Hf H v d z lo hi Q s rv hz q
  cases rv with
  | lst ha ra =>
    rename_i a xs ds
    cases hz
    exact ⟨a, xs, rfl, SqL.of (s _ _ ha), fun p hp => q p _ hp ⟨_, rfl, ra.cut lo hi⟩⟩
  | _ => cases hz
end
end DL
set_option Elab.async false
set_option linter.all false
set_option maxRecDepth 100000
set_option maxHeartbeats 4000000
/-! DLe: built-ins, items, calls, what is walked, comprehensions. -/
namespace DL
open PySem PySem.Spec PyProof.Rows L2

section
variable {X : Cx} {W : WX} {pos p : Pos} {a b c : Expr} {ma mb mc : Env → R D}
/-! ### built-ins of one argument -/
def CallD (K : PySem.W.Frag) (r : List V → Hp → VK → Prop) (f : D → Option D) : Prop := ∀ (Hf H : Hp) (v : V) (d z : D) (Q : VK), Same Hf H → Rp K Hf v d → f d = some z → (∀ u Hf' H', Grow Hf H Hf' H' → Rp K Hf' u z → Q u H') → r [v] H Q
theorem pd_b1 {r : List V → Hp → VK → Prop} {f : D → Option D} {e : Expr} (hf : CallD X.K r f) (ha : PE X e (tCB r (tCons (rd X.K W ma) tNil))) : PE X e (rd X.K W fun ρ => (ma ρ).bind fun x ρ1 => R.of (f x) ρ1) := by
  refine PEweak ha fun σ H Q ⟨Fr, Hf, ρ, e, g⟩ => ⟨Fr, Hf, ρ, e, (Go.bind g).imp fun v H1 ⟨d1, Hf1, ρ1, s1, e1, r1, g1⟩ => ?_⟩
  cases q : f d1 with
  | none => rw [q] at g1; exact g1.elim
  | some z =>
    rw [q] at g1
    exact hf Hf1 H1 v d1 z Q e1.hp.hf r1 q fun u Hf' H' gr ru => g1 u Hf' H' gr.f (e1.grow gr) ru
/-- the length of a dict -/
def rLenD : List V → Hp → VK → Prop := fun xs H Q => ∃ (p : Addr) (n : Nat), xs = [.ref p] ∧ ((∃ kvs : List (Key × V), Rd H p (.dK kvs) ∧ n = kvs.length) ∨ ∃ kvs : List (List Key × V), Rd H p (.dT kvs) ∧ n = kvs.length) ∧ Q (.int n) H
theorem call_lenD : CallR X (.builtin "len") rLenD := by
  intro pins s σ H xs us Q I r ⟨p, n, e, h, q⟩
  subst e
  obtain ⟨u, rfl, rx⟩ := vals1 r
  obtain rfl : u = .ref p := rx
  rcases h with ⟨kvs, h, rfl⟩ | ⟨kvs, h, rfl⟩
  · exact d_len I h fun t s' I' => ⟨.int ((kvs.length : Nat) : Int), H, I', ⟨t, rfl⟩, q⟩
  · obtain ⟨z, hd, ys, rel, dd⟩ := dt_rd I.hok h
    have hl : kvs.length = ys.length := Paired.length rel
    refine call_len_dictH hd dd (by rw [← hl]; rw [sizeLine_eq] at z; omega) ?_
    rw [← hl]
    exact ⟨.int ((kvs.length : Nat) : Int), H, I.tok _, ⟨_, rfl⟩, q⟩
theorem cd_len : ∃ r, CallR X (.builtin "len") r ∧ CallD X.K r (b1D .len) := by
  refine ⟨_, (call_len).or call_lenD, fun Hf H v d z Q s rv hz q => ?_⟩
  cases rv with
  | tup ha ra => cases hz; exact .inl ⟨_, _, rfl, .inr ⟨_, SqT.of (s _ _ ha), ra.length.symm⟩, q _ Hf H Grow.refl (.int _)⟩
  | lst ha ra => cases hz; exact .inl ⟨_, _, rfl, .inl ⟨_, SqL.of (s _ _ ha), ra.length.symm⟩, q _ Hf H Grow.refl (.int _)⟩
  | ro ha ra =>
    cases hz
    rcases ha with ha | ha
    · exact .inl ⟨_, _, rfl, .inl ⟨_, s.seq ha, ra.length.symm⟩, q _ Hf H Grow.refl (.int _)⟩
    · exact .inl ⟨_, _, rfl, .inr ⟨_, Same.seqT s ha, ra.length.symm⟩, q _ Hf H Grow.refl (.int _)⟩
  | dk ha ra => cases hz; exact .inr ⟨_, _, rfl, .inl ⟨_, Same.rd' s ha, ra.length.symm⟩, q _ Hf H Grow.refl (.int _)⟩
  | dt ha ra => cases hz; exact .inr ⟨_, _, rfl, .inr ⟨_, Same.rd' s ha, ra.length.symm⟩, q _ Hf H Grow.refl (.int _)⟩
  | str x =>
    have hz' : (if x.length ≤ sizeL then some (D.int x.length) else none) = some z := hz
    by_cases hl : x.length ≤ sizeL
    · rw [if_pos hl] at hz'
      cases hz'
      exact .inl ⟨_, _, rfl, ⟨size_ok.mp hl, rfl⟩, q _ Hf H Grow.refl (.int _)⟩
    · rw [if_neg hl] at hz'; cases hz'
  | _ => cases hz
theorem call_int2 : CallR X (.type "int") (fun xs H Q => ((∃ i, xs = [.int i] ∧ Q (.int i) H) ∨ ∃ k, xs = [.bl k] ∧ Q (.int (if k then 1 else 0)) H) ∨ ∃ a n, xs = [.str a] ∧ PySem.intText? a = some n ∧ a.length ≤ 640 ∧ Q (.int n) H) := by
  intro pins s σ H xs us Q I r h
  rcases h with h | h
  · exact call_int1 pins s σ H xs us Q I r h
  · exact call_int_str pins s σ H xs us Q I r h
theorem cd_int : ∃ r, CallR X (.type "int") r ∧ CallD X.K r (b1D .int) := by
  refine ⟨_, call_int2, fun Hf H v d z Q s rv hz q => ?_⟩
  cases rv with
  | int i => cases hz; exact .inl (.inl ⟨i, rfl, q _ Hf H Grow.refl (.int _)⟩)
  | bl k => cases hz; exact .inl (.inr ⟨k, rfl, q _ Hf H Grow.refl (.int _)⟩)
  | str a =>
    have hz' : (if a.length ≤ 640 then (PySem.intText? a).map D.int else none) = some z := hz
    by_cases hl : a.length ≤ 640
    · rw [if_pos hl] at hz'
      cases hn : PySem.intText? a with
      | none => rw [hn] at hz'; cases hz'
      | some n =>
        rw [hn] at hz'
        cases hz'
        exact .inr ⟨a, n, rfl, hn, hl, q _ Hf H Grow.refl (.int _)⟩
    · rw [if_neg hl] at hz'; cases hz'
  | _ => cases hz
theorem cd_tuple : ∃ r, CallR X (.type "tuple") r ∧ CallD X.K r (b1D .tuple) := by
  refine ⟨_, call_tuple_of, fun Hf H v d z Q s rv hz q => ?_⟩
  cases rv with
  | tup ha ra => cases hz; exact ⟨_, _, rfl, .inr ⟨SqT.of (s _ _ ha), q _ Hf H Grow.refl (.tup ha ra)⟩⟩
  | lst ha ra =>
    cases hz
    refine ⟨_, _, rfl, .inl ⟨SqL.of (s _ _ ha), fun p hp => ?_⟩⟩
    rename_i xs ds
    have g := Grow.new (o := .tup xs) s hp
    exact q _ _ _ g (.tup upd_same (ra.mono g.f))
  | _ => cases hz
theorem cd_abs : ∃ r, CallR X (.builtin "abs") r ∧ CallD X.K r (b1D .abs) := by
  refine ⟨_, call_abs, fun Hf H v d z Q s rv hz q => ?_⟩
  cases rv with
  | int i => cases hz; exact ⟨i, rfl, q _ Hf H Grow.refl (.int _)⟩
  | _ => cases hz
def rSumT (K : PySem.W.Frag) : List V → Hp → VK → Prop := fun vs H Q => ∃ (a : Addr) (ns : List Int), vs = [V.ref a] ∧ SqT K H a (ns.map V.int) ∧ Q (.int ns.sum) H
theorem call_sumT (hc : X.calm = true) : CallR X (.builtin "sum") (rSumT X.K) := by
  intro pins s σ H vs us Q I r h
  obtain ⟨a, ns, rfl, hs, q⟩ := h
  obtain ⟨its, rv, ht, _⟩ := I.tuple hs
  rw [Vals.ref1 r]
  have hi := rv.ints
  obtain ⟨xs, hx⟩ := hi.allInts.items
  have hn : numsOf its = ns := hi.numsOf
  have ht2 : s.heap.IsTuple a its.toArray := by
    obtain ⟨o, e, c, n, d⟩ := ht
    exact ⟨o, e, c, n, d⟩
  have hn2 : numsOf its.toArray.toList = ns := hn
  rw [hx] at ht2 hn2
  rw [nums_intItems] at hn2
  refine PySem.W.ktm_sumG (I.ok.hd hc) ht2 fun h' tk t' hk => ?_
  rw [preSum_eq, List.take_of_length_le (by simp), hn2]
  exact ⟨.int _, H, I.kept hk, ⟨_, rfl⟩, q⟩
theorem cd_sum (hc : X.calm = true) : ∃ r, CallR X (.builtin "sum") r ∧ CallD X.K r (b1D .sum) := by
  refine ⟨_, (cr_sum hc).or (call_sumT hc), fun Hf H v d z Q s rv hz q => ?_⟩
  cases rv with
  | lst ha ra =>
    rename_i ds
    have hz' : (intsOf ds).map (fun ns => D.int ns.sum) = some z := hz
    cases h : intsOf ds with
    | none => rw [h] at hz'; cases hz'
    | some ns =>
      rw [h] at hz'
      cases hz'
      have e := ra.intsV h
      subst e
      exact .inl ⟨_, ns, rfl, SqL.of (s _ _ ha), q _ Hf H Grow.refl (.int _)⟩
  | tup ha ra =>
    rename_i ds
    have hz' : (intsOf ds).map (fun ns => D.int ns.sum) = some z := hz
    cases h : intsOf ds with
    | none => rw [h] at hz'; cases hz'
    | some ns =>
      rw [h] at hz'
      cases hz'
      have e := ra.intsV h
      subst e
      exact .inr ⟨_, ns, rfl, SqT.of (s _ _ ha), q _ Hf H Grow.refl (.int _)⟩
  | _ => cases hz
/-! ### isinstance -/
theorem rp_ty {K : PySem.W.Frag} {H : Hp} {v : V} {d : D} (r : Rp K H v d) {t : Ty} {k : Bool} (h : isiD t d = some k) : ∃ n, TyX K H v (.type n) ∧ kitB n t.name = some k := by
  cases r with
  | non => cases h; exact ⟨_, .base .non, by cases t <;> decide +kernel⟩
  | bl b => cases h; exact ⟨_, .base (.bl b), by cases t <;> decide +kernel⟩
  | int i => cases h; exact ⟨_, .base (.int i), by cases t <;> decide +kernel⟩
  | str x => cases h; exact ⟨_, .base (.str x), by cases t <;> decide +kernel⟩
  | lst ha ra => cases h; exact ⟨_, .base (.lst ha), by cases t <;> decide +kernel⟩
  | tup ha ra => cases h; exact ⟨_, .base (.tup ha), by cases t <;> decide +kernel⟩
  | ro ha ra => cases h
  | dk ha ra => cases h
  | dt ha ra => cases h
theorem pd_isi {t : Ty} {x : Str} (hg : Gl X "isinstance") (hm : X.mg "isinstance" = none) (hx : x = Str.ofString t.name) (hgx : Gl X x) (hmx : X.mg x = none) (ha : PE X a (rd X.K W ma)) {p2 : Pos}
    (h1 : starEach [a, .Name x p2] X.env = (false, eval a X.env) :: starEach [.Name x p2] X.env) :
    PE X (.Call (.Name "isinstance" p) [a, .Name x p2] [] pos) (rd X.K W fun ρ => (ma ρ).bind fun d ρ1 => R.of (b1D (.isi t) d) ρ1) := by
  have hv : bootBuiltins x = some (.type t.name) := by subst hx; cases t <;> decide +kernel
  have hn : x ≠ "__name__" := by subst hx; cases t <;> decide
  have hd : (x == ("__debug__" : Str)) = false := by subst hx; cases t <;> decide
  have hb : PE X (.Name x p2) (tC (.ty t.name)) := pe_bltn hgx hmx hv rfl hn hd
  refine PEweak (pe_callB call_isi hg hm boot_isinstance (pa_cons ha (pa_cons hb pa_nil) h1) (by decide) (by decide) h1 (by rfl)) fun σ H Q ⟨Fr, Hf, ρ, e, g⟩ => ?_
  refine ⟨Fr, Hf, ρ, e, (Go.bind g).imp fun v H1 ⟨d1, Hf1, ρ1, s1, e1, r1, g1⟩ => ?_⟩
  cases q : isiD t d1 with
  | none =>
    have g2 : Go X.K W Fr Hf1 σ (PV X.K) (R.of ((isiD t d1).map .bl) ρ1) Q := g1
    rw [q] at g2; exact g2.elim
  | some k =>
    have g2 : Go X.K W Fr Hf1 σ (PV X.K) (R.of ((isiD t d1).map .bl) ρ1) Q := g1
    rw [q] at g2
    obtain ⟨n, ty, hk⟩ := rp_ty (r1.mono e1.hp.hf) q
    exact ⟨v, .ty t.name, .type n, .type t.name, k, rfl, .ty _, ty, kit_ty hk, g2 _ Hf1 H1 (Same.refl _) e1 (.bl k)⟩
/-! ### two arguments -/
def CallD2 (K : PySem.W.Frag) (r : List V → Hp → VK → Prop) (f : D → D → Option D) : Prop := ∀ (Hf H : Hp) (v w : V) (d e z : D) (Q : VK), Same Hf H → Rp K Hf v d → Rp K Hf w e → f d e = some z → (∀ u Hf' H', Grow Hf H Hf' H' → Rp K Hf' u z → Q u H') → r [v, w] H Q
theorem pd_b2 {r : List V → Hp → VK → Prop} {f : D → D → Option D} {e : Expr} (hf : CallD2 X.K r f) (ha : PE X e (tCB r (tCons (rd X.K W ma) (tCons (rd X.K W mb) tNil)))) : PE X e (rd X.K W fun ρ => (ma ρ).bind fun x ρ1 => (mb ρ1).bind fun y ρ2 => R.of (f x y) ρ2) := by
  refine PEweak ha fun σ H Q ⟨Fr, Hf, ρ, e, g⟩ => ⟨Fr, Hf, ρ, e, (Go.bind g).imp fun v H1 ⟨d1, Hf1, ρ1, s1, e1, r1, g1⟩ => ⟨Fr, Hf1, ρ1, e1, (Go.bind g1).imp fun w H2 ⟨d2, Hf2, ρ2, s2, e2, r2, g2⟩ => ?_⟩⟩
  cases q : f d1 d2 with
  | none => rw [q] at g2; exact g2.elim
  | some z =>
    rw [q] at g2
    exact hf Hf2 H2 v w d1 d2 z Q e2.hp.hf (r1.mono s2) r2 q fun u Hf' H' gr ru => g2 u Hf' H' gr.f (e2.grow gr) ru
theorem cd_min (hc : X.calm = true) : ∃ r, CallR X (.builtin "min") r ∧ CallD2 X.K r (b2D .min) := by
  refine ⟨_, call_min2 hc, fun Hf H v w d e z Q s rv rw_ hz q => ?_⟩
  cases rv with
  | int i =>
    cases rw_ with
    | int j => cases hz; exact ⟨i, j, rfl, q _ Hf H Grow.refl (.int _)⟩
    | _ => cases hz
  | _ => cases hz
theorem cd_max (hc : X.calm = true) : ∃ r, CallR X (.builtin "max") r ∧ CallD2 X.K r (b2D .max) := by
  refine ⟨_, call_max2 hc, fun Hf H v w d e z Q s rv rw_ hz q => ?_⟩
  cases rv with
  | int i =>
    cases rw_ with
    | int j => cases hz; exact ⟨i, j, rfl, q _ Hf H Grow.refl (.int _)⟩
    | _ => cases hz
  | _ => cases hz
/-! ### items, slices -/
theorem pd_ix {r : R2} (hr : IxR X r) (hf : OpD X.K r ixD) (ha : PE X a (rd X.K W ma)) (hb : PE X b (rd X.K W mb)) (hs : PlainIx b) :
    PE X (.Subscript a b pos) (rd X.K W fun ρ => (ma ρ).bind fun x ρ1 => (mb ρ1).bind fun y ρ2 => R.of (ixD x y) ρ2) := by
  refine PEweak (pe_ix hr ha hb hs) fun σ H Q ⟨Fr, Hf, ρ, e, g⟩ => ?_
  refine ⟨Fr, Hf, ρ, e, (Go.bind g).imp fun v H1 ⟨d1, Hf1, ρ1, s1, e1, r1, g1⟩ => ⟨Fr, Hf1, ρ1, e1, (Go.bind g1).imp fun w H2 ⟨d2, Hf2, ρ2, s2, e2, r2, g2⟩ => ?_⟩⟩
  exact hf.run e2 (r1.mono s2) r2 g2
/-- what a slot holds is looked at -/
theorem go_peek {K : PySem.W.Frag} {Fr : Fm} {Hf H : Hp} {σ : SSt} {ρ : Env} {i : Nat} {α β : Type} {P : Hp → Hp → Env → β → α → Prop} {f : D → Env → R α} {Q : β → Hp → Prop} (e : EnvAt K Fr Hf ρ σ H) (g : Go K W Fr Hf σ P ((R.of (peekV i ρ) ρ).bind f) Q) :
    ∃ d v, peekV i ρ = some d ∧ σ[i]? = some (some v) ∧ Go K W Fr Hf σ P (f d ρ) Q := by
  cases q : peekV i ρ with
  | none => rw [q] at g; exact g.elim
  | some d =>
    rw [q] at g
    obtain ⟨v, h1, _⟩ := e.look q
    exact ⟨d, v, rfl, h1, g⟩
theorem atI_rel {K : PySem.W.Frag} {Hf : Hp} {xs : List V} {ds : List D} {i : Int} {z : D} (ra : Rps K Hf xs ds) (hz : atI ds i = some z) : ∃ u, atI xs i = some u ∧ Rp K Hf u z := by
  unfold atI at hz ⊢
  rw [ra.length]
  cases h : ixN ds.length i with
  | none => rw [h] at hz; cases hz
  | some j =>
    rw [h] at hz
    exact ra.get hz
def rIxA (K : PySem.W.Frag) : R2 := fun x y H Q => rIx K x y H Q ∨ rIxD x y H Q
theorem ix_all (hu : X.A.units + 65 < cLine) : IxR X (rIxA X.K) := ix_seq.or (ix_dict (by omega))
theorem dict_ix {t : Bool} {kvs : List (D × D)} {y z : D} (hz : ixD (.dct t kvs) y = some z) : isKey t y = true ∧ dGet kvs y = some z := by
  have hz : (if isKey t y = true then dGet kvs y else none) = some z := by cases y <;> exact hz
  by_cases q : isKey t y = true
  · rw [if_pos q] at hz; exact ⟨q, hz⟩
  · rw [if_neg q] at hz; cases hz
theorem rIx_ok : OpD X.K (rIxA X.K) ixD := by
  intro Hf H v w d e z Q s rv rw_ hz q
  cases d with
  | dct t kvs =>
    obtain ⟨h1, h2⟩ := dict_ix hz
    obtain ⟨a, o, rfl, g, m⟩ := rp_dget s rv (rw_.mono s) h1
    rw [h2] at m
    obtain ⟨u, rfl, ru⟩ := m
    exact .inr ⟨a, u, rfl, g, q _ Hf H Grow.refl ru⟩
  | tup ds =>
    cases rv with
    | tup ha ra =>
      cases rw_ with
      | int i =>
        obtain ⟨u, hu, ru⟩ := atI_rel (i := i) ra hz
        exact .inl (.inr (.inl ⟨_, _, i, u, rfl, rfl, SqT.of (s _ _ ha), hu, q _ Hf H Grow.refl ru⟩))
      | _ => cases hz
  | lst ds =>
    cases rv with
    | lst ha ra =>
      cases rw_ with
      | int i =>
        obtain ⟨u, hu, ru⟩ := atI_rel (i := i) ra hz
        exact .inl (.inl ⟨_, _, i, u, rfl, rfl, SqL.of (s _ _ ha), hu, q _ Hf H Grow.refl ru⟩)
      | _ => cases hz
  | ro ds =>
    cases rv with
    | ro ha ra =>
      cases rw_ with
      | int i =>
        obtain ⟨u, hu, ru⟩ := atI_rel (i := i) ra hz
        rcases ha with ha | ha
        · exact .inl (.inl ⟨_, _, i, u, rfl, rfl, s.seq ha, hu, q _ Hf H Grow.refl ru⟩)
        · exact .inl (.inr (.inl ⟨_, _, i, u, rfl, rfl, Same.seqT s ha, hu, q _ Hf H Grow.refl ru⟩))
      | _ => cases hz
  | str x =>
    cases rv
    cases rw_ with
    | int i =>
      have hz : (if x.length ≤ sizeL then (atI x.cps.toList i).map fun c => D.str ⟨#[c]⟩ else none) = some z := hz
      split at hz
      · rename_i hl
        obtain ⟨c, hc, rfl⟩ := Option.map_eq_some_iff.mp hz
        exact .inl (.inr (.inr ⟨x, i, c, rfl, rfl, size_okD.mp hl, hc, q _ Hf H Grow.refl (.str _)⟩))
      · cases hz
    | _ => cases hz
  | _ => cases e <;> cases hz
/-- the slot's value: a frozen one, or the slot's own thing -/
theorem EnvAt.two {K : PySem.W.Frag} {Fr : Fm} {Hf H : Hp} {ρ : Env} {σ : SSt} (e : EnvAt K Fr Hf ρ σ H) {i : Nat} {d : D} (h : peekV i ρ = some d) :
    (∃ v, σ[i]? = some (some v) ∧ Rp K Hf v d) ∨ ∃ a u, σ[i]? = some (some (.ref a)) ∧ H a = some u ∧ RpO K Hf u d := by
  unfold peekV at h
  cases q : ρ[i]? with
  | none => rw [q] at h; cases h
  | some s =>
    have z := e.sl i s q
    rw [q] at h
    cases s with
    | un => cases h
    | fz d' => cases h; exact .inl z
    | ow' tg ds =>
      cases h
      obtain ⟨a, xs, e1, f, n, q2, r, _⟩ := z
      exact .inr ⟨a, xs, e1, q2, r⟩
/-- an item of one's own thing -/
theorem own_ix {K : PySem.W.Frag} {Hf H : Hp} {a : Addr} {u : HO} {d y z : D} {w : V} {Q : VK} (ha : H a = some u) (ro : RpO K Hf u d) (ry : Rp K Hf w y) (sm : Same Hf H) (hz : ixD d y = some z) (q : ∀ v, Rp K Hf v z → Q v H) : rIxA K (.ref a) w H Q := by
  cases d with
  | lst ds =>
    obtain ⟨xs, rfl, ra⟩ := ro
    cases ry with
    | int k =>
      obtain ⟨v, hv, rv⟩ := atI_rel (i := k) ra hz
      exact .inl (.inl ⟨a, xs, k, v, rfl, rfl, SqL.of ha, hv, q v rv⟩)
    | _ => cases hz
  | dct t kvs =>
    obtain ⟨h1, h2⟩ := dict_ix hz
    obtain ⟨o, g, m⟩ := rpO_dget ha ro (ry.mono sm) h1
    rw [h2] at m
    obtain ⟨v, rfl, rv⟩ := m
    exact .inr ⟨a, v, rfl, g, q v rv⟩
  | _ => cases ro
/-- an item of what a slot holds: the slot keeps it -/
theorem pd_ixv {i : Nat} {x : Str} {p' : Pos} (hu : X.A.units + 65 < cLine) (hv : PE X (.Name x p') (tVar i)) (hb : PE X b (rd X.K W mb)) (hs : PlainIx b) :
    PE X (.Subscript (.Name x p') b pos) (rd X.K W fun ρ => (R.of (peekV i ρ) ρ).bind fun _ ρ0 => (mb ρ0).bind fun y ρ1 => R.of ((peekV i ρ1).bind fun d => ixD d y) ρ1) := by
  refine PEweak (pe_ix (ix_all hu) hv hb hs) fun σ H Q ⟨Fr, Hf, ρ, e, g⟩ => ?_
  obtain ⟨d0, v, h0, h1, g0⟩ := go_peek e g
  refine ⟨v, h1, Fr, Hf, ρ, e, (Go.bind g0).imp fun w H1 ⟨d1, Hf1, ρ1, s1, e1, r1, g1⟩ => ?_⟩
  cases q : peekV i ρ1 with
  | none => rw [q] at g1; exact g1.elim
  | some d2 =>
    rw [q] at g1
    have g1 : Go X.K W Fr Hf1 σ (PV X.K) (R.of (ixD d2 d1) ρ1) Q := g1
    rcases e1.two q with ⟨u, hu, ru⟩ | ⟨a, u, hu, ha, ra⟩
    · rw [h1] at hu
      cases hu
      exact rIx_ok.run e1 ru r1 g1
    · rw [h1] at hu
      cases hu
      cases z : ixD d2 d1 with
      | none => rw [z] at g1; exact g1.elim
      | some y =>
        rw [z] at g1
        exact own_ix ha ra r1 e1.hp.hf z fun v rv => g1 _ Hf1 H1 (Same.refl _) e1 rv
/-- a scalar read off what a slot holds -/
theorem EnvAt.same {K : PySem.W.Frag} {Fr : Fm} {Hf H H' : Hp} {ρ : Env} {σ : SSt} (e : EnvAt K Fr Hf ρ σ H) (s : Same H H') : EnvAt K Fr Hf ρ σ H' := e.grow ⟨Same.refl _, s, fun _ _ h => .inl h, fun h => h⟩
theorem pd_lenv {i : Nat} {x e : Expr} {r : List V → Hp → VK → Prop} (hf : CallD X.K r (b1D .len)) (ha : PE X e (tCB r (tCons (tVar i) tNil))) : PE X e (rd X.K W fun ρ => R.of ((peekV i ρ).bind fun d => b1D .len d) ρ) := by
  refine PEweak ha fun σ H Q ⟨Fr, Hf, ρ, e, g⟩ => ?_
  dsimp only at g
  cases q : peekV i ρ with
  | none => rw [q] at g; exact g.elim
  | some d =>
    rw [q] at g
    have g : Go X.K W Fr Hf σ (PV X.K) (R.of (b1D .len d) ρ) Q := g
    obtain ⟨v, h1, Hp', s1, s2, rv⟩ := e.look q
    refine ⟨v, h1, ?_⟩
    cases z : b1D .len d with
    | none => rw [z] at g; exact g.elim
    | some y =>
      rw [z] at g
      refine hf Hp' H v d y Q s2 rv z fun u Hf' H' gr ru => ?_
      have hy : ∃ k, y = .int k := by
        cases rv with
        | tup _ _ => cases z; exact ⟨_, rfl⟩
        | lst _ _ => cases z; exact ⟨_, rfl⟩
        | ro _ _ => cases z; exact ⟨_, rfl⟩
        | dk _ _ => cases z; exact ⟨_, rfl⟩
        | dt _ _ => cases z; exact ⟨_, rfl⟩
        | str x =>
          have z' : (if x.length ≤ sizeL then some (D.int x.length) else none) = some y := z
          by_cases hl : x.length ≤ sizeL
          · rw [if_pos hl] at z'; cases z'; exact ⟨_, rfl⟩
          · rw [if_neg hl] at z'; cases z'
        | _ => cases z
      obtain ⟨k, rfl⟩ := hy
      cases ru
      exact g _ Hf H' (Same.refl _) (e.same gr.h) (.int k)
theorem pd_inv {i : Nat} {x : Str} {p' : Pos} {op : CmpOp} {r : R2} {neg : Bool} (ho : OpR X (compareOp op) r) (hf : OpB X.K r fun d e => (memD d e).map fun b => if neg then !b else b) (ha : PE X a (rd X.K W ma)) (hv : PE X (.Name x p') (tVar i)) (hm : behindInMarks op (.Name x p') = false) :
    PE X (.Compare a [op] [.Name x p'] pos) (rd X.K W fun ρ => (ma ρ).bind fun y ρ1 => R.of ((peekV i ρ1).bind fun d => (memD y d).map fun b => .bl (if neg then !b else b)) ρ1) := by
  refine PEweak (pe_cmpR ho ha hv hm) fun σ H Q ⟨Fr, Hf, ρ, e, g⟩ => ?_
  refine ⟨Fr, Hf, ρ, e, (Go.bind g).imp fun w H1 ⟨d1, Hf1, ρ1, s1, e1, r1, g1⟩ => ?_⟩
  cases q : peekV i ρ1 with
  | none => rw [q] at g1; exact g1.elim
  | some d =>
    rw [q] at g1
    have g1 : Go X.K W Fr Hf1 σ (PV X.K) (R.of ((memD d1 d).map fun b => D.bl (if neg then !b else b)) ρ1) Q := g1
    obtain ⟨v, h1, Hp', s2, s3, rv⟩ := e1.look q
    refine ⟨v, h1, ?_⟩
    cases z : memD d1 d with
    | none => rw [z] at g1; exact g1.elim
    | some k =>
      rw [z] at g1
      refine hf Hp' H1 w v d1 d (.bl (if neg then !k else k)) Q s3 (r1.mono s2) rv (by show ((memD d1 d).map _).map D.bl = _; rw [z]; rfl) fun u Hf' H' gr ru => ?_
      cases ru
      exact g1 _ Hf1 H' (Same.refl _) (e1.same gr.h) (.bl _)
theorem pd_invT {i : Nat} {x : Str} {p' : Pos} {op : CmpOp} {r : R2} {neg : Bool} (ho : OpR X (compareOp op) r) (hf : OpB X.K r fun d e => (memD d e).map fun b => if neg then !b else b) (ha : PE X a (rd X.K W ma)) (hv : PE X (.Name x p') (tVar i)) (hm : behindInMarks op (.Name x p') = false) :
    PT X (.Compare a [op] [.Name x p'] pos) (rdB X.K W fun ρ => (ma ρ).bind fun y ρ1 => R.of ((peekV i ρ1).bind fun d => (memD y d).map fun b => .bl (if neg then !b else b)) ρ1) := by
  refine PTweak (pt_cmpR ho ha hv hm) fun σ H Q ⟨Fr, Hf, ρ, e, g⟩ => ?_
  have g := g.ofB
  refine ⟨Fr, Hf, ρ, e, (Go.bind g).imp fun w H1 ⟨d1, Hf1, ρ1, s1, e1, r1, g1⟩ => ?_⟩
  cases q : peekV i ρ1 with
  | none => rw [q] at g1; exact g1.elim
  | some d =>
    rw [q] at g1
    have g1 : Go X.K W Fr Hf1 σ (PV X.K) (R.of ((memD d1 d).map fun b => D.bl (if neg then !b else b)) ρ1) _ := g1
    obtain ⟨v, h1, Hp', s2, s3, rv⟩ := e1.look q
    refine ⟨v, h1, ?_⟩
    cases z : memD d1 d with
    | none => rw [z] at g1; exact g1.elim
    | some k =>
      rw [z] at g1
      refine hf Hp' H1 w v d1 d (.bl (if neg then !k else k)) _ s3 (r1.mono s2) rv (by show ((memD d1 d).map _).map D.bl = _; rw [z]; rfl) fun u Hf' H' gr ru => ?_
      cases ru
      exact g1 _ Hf1 H' (Same.refl _) (e1.same gr.h) (.bl _)
theorem mem_ok (hu : X.A.units + 65 < cLine) (neg : Bool) : ∃ r, OpR X (compareOp (if neg then .NotIn else .In)) r ∧ OpB X.K r fun d e => (memD d e).map fun b => if neg then !b else b := by
  cases neg with
  | false =>
    obtain ⟨r, h1, h2⟩ := cop_in (X := X) hu
    exact ⟨r, h1, fun Hf H v w d e z Q s rv rw_ hz q => h2 Hf H v w d e z Q s rv rw_ (by rw [← hz]; show (memD d e).map D.bl = ((memD d e).map _).map D.bl; cases memD d e <;> rfl) q⟩
  | true =>
    obtain ⟨r, h1, h2⟩ := cop_notin (X := X) hu
    exact ⟨r, h1, fun Hf H v w d e z Q s rv rw_ hz q => h2 Hf H v w d e z Q s rv rw_ (by rw [← hz]; show ((memD d e).map _).map D.bl = ((memD d e).map _).map D.bl; cases memD d e <;> rfl) q⟩
/-! ### slices -/
theorem po_noneD : PO X none (rdO X.K W fun ρ => .ok none ρ) := POweak po_none fun σ H Q ⟨Fr, Hf, ρ, e, g⟩ => g none Hf H (Same.refl _) e rfl
def optD (x : D) (ρ : Env) : R (Option Int) := match x with
  | .int i => .ok (some i) ρ
  | _ => .no
theorem po_someD (ha : PE X a (rd X.K W ma)) : PO X (some a) (rdO X.K W fun ρ => (ma ρ).bind optD) := by
  refine POweak (po_some ha) fun σ H Q ⟨Fr, Hf, ρ, e, g⟩ => ⟨Fr, Hf, ρ, e, (Go.bind g).imp fun v H1 ⟨d1, Hf1, ρ1, s1, e1, r1, g1⟩ => ?_⟩
  cases r1 with
  | int i => exact ⟨i, rfl, g1 _ Hf1 H1 (Same.refl _) e1 rfl⟩
  | _ => exact g1.elim
variable {lo hi : Option Expr} {ml mh : Env → R (Option Int)} {p2 : Pos}
theorem pd_sl (ha : PE X a (rd X.K W ma)) (hl : PO X lo (rdO X.K W ml)) (hh : PO X hi (rdO X.K W mh)) :
    PE X (.Subscript a (.Slice lo hi none p2) pos) (rd X.K W fun ρ => (ma ρ).bind fun x ρ1 => (ml ρ1).bind fun l ρ2 => (mh ρ2).bind fun h ρ3 => R.of (slD x l h) ρ3) := by
  refine PEweak (pe_slice sl_all ha hl hh) fun σ H Q ⟨Fr, Hf, ρ, e, g⟩ => ?_
  refine ⟨Fr, Hf, ρ, e, (Go.bind g).imp fun v H1 ⟨d1, Hf1, ρ1, s1, e1, r1, g1⟩ => ⟨Fr, Hf1, ρ1, e1, (Go.bind g1).imp fun l H2 ⟨l', Hf2, ρ2, s2, e2, r2, g2⟩ => ⟨Fr, Hf2, ρ2, e2, (Go.bind g2).imp fun h H3 ⟨h', Hf3, ρ3, s3, e3, r3, g3⟩ => ?_⟩⟩⟩
  subst r2 r3
  cases q : slD d1 l h with
  | none => rw [q] at g3; exact g3.elim
  | some z =>
    rw [q] at g3
    exact sl_ok Hf3 H3 v d1 z l h Q e3.hp.hf ((r1.mono s2).mono s3) q fun u Hf' H' gr ru => g3 u Hf' H' gr.f (e3.grow gr) ru
theorem pn_sl (ha : PE X a (rd X.K W ma)) (hl : PO X lo (rdO X.K W ml)) (hh : PO X hi (rdO X.K W mh)) :
    PE X (.Subscript a (.Slice lo hi none p2) pos) (rdN X.K W fun ρ => (ma ρ).bind fun x ρ1 => (ml ρ1).bind fun l ρ2 => (mh ρ2).bind fun h ρ3 => R.of (slN x l h) ρ3) := by
  refine PEweak (pe_slice sl_list ha hl hh) fun σ H Q ⟨Fr, Hf, ρ, e, g⟩ => ?_
  refine ⟨Fr, Hf, ρ, e, (Go.bind g).imp fun v H1 ⟨d1, Hf1, ρ1, s1, e1, r1, g1⟩ => ⟨Fr, Hf1, ρ1, e1, (Go.bind g1).imp fun l H2 ⟨l', Hf2, ρ2, s2, e2, r2, g2⟩ => ⟨Fr, Hf2, ρ2, e2, (Go.bind g2).imp fun h H3 ⟨h', Hf3, ρ3, s3, e3, r3, g3⟩ => ?_⟩⟩⟩
  subst r2 r3
  cases q : slN d1 l h with
  | none => rw [q] at g3; exact g3.elim
  | some z =>
    rw [q] at g3
    exact slN_ok Hf3 H3 v d1 z l h Q e3.hp.hf ((r1.mono s2).mono s3) q fun p xs hp rx => g3 _ Hf3 _ (Same.refl _) (e3.grow (Grow.extra hp)) ⟨p, xs, rfl, NewAt.of e3 hp, rx⟩
/-! ### list(x) -/
def rListOf (K : PySem.W.Frag) : List V → Hp → VK → Prop := fun xs H Q => (∃ p ys, xs = [.ref p] ∧ (SqL K H p ys ∨ SqT K H p ys) ∧ ∀ l, H l = none → Q (.ref l) (upd H l (.lst ys))) ∨ (∃ (a : Addr) (kvs : List (Key × V)), xs = [.ref a] ∧ Rd H a (.dK kvs) ∧ ∀ p, H p = none → Q (.ref p) (upd H p (.lst (kvs.map fun kv => kV kv.1)))) ∨
  ∃ d kvs, xs = [V.ref d] ∧ Rd H d (.dT kvs) ∧ ∀ p bs, H p = none → IsKeys H kvs bs → Q (.ref p) (upd H p (.lst (bs.map V.ref)))
theorem call_listof (hc : X.calm = true) : CallR X (.type "list") (rListOf X.K) := (call_list_of).or ((call_listD hc).or (call_list_dT hc))
theorem listof_go {K : PySem.W.Frag} {Hf H : Hp} {v : V} {d z : D} {Q : VK} (s : Same Hf H) (r : Rp K H v d ∧ (Rp K Hf v d ∨ ∃ a u, v = .ref a ∧ H a = some u ∧ RpO K Hf u d)) (hz : seqD d = some z) (q : ∀ p u Hf', Grow Hf H Hf' H → H p = none → RpO K Hf' u z → Q (.ref p) (upd H p u)) : rListOf K [v] H Q := by
  obtain ⟨_, r⟩ := r
  cases d with
  | tup ds =>
    cases hz
    rcases r with r | ⟨a, u, _, _, r⟩
    · cases r with
      | tup h rr => exact .inl ⟨_, _, rfl, .inr (SqT.of (s _ _ h)), fun p hp => q p _ Hf Grow.refl hp ⟨_, rfl, rr⟩⟩
    · cases r
  | lst ds =>
    cases hz
    rcases r with r | ⟨a, u, rfl, ha, r⟩
    · cases r with
      | lst h rr => exact .inl ⟨_, _, rfl, .inl (SqL.of (s _ _ h)), fun p hp => q p _ Hf Grow.refl hp ⟨_, rfl, rr⟩⟩
    · obtain ⟨xs, rfl, rr⟩ := r
      exact .inl ⟨_, _, rfl, .inl (SqL.of ha), fun p hp => q p _ Hf Grow.refl hp ⟨_, rfl, rr⟩⟩
  | ro ds =>
    cases hz
    rcases r with r | ⟨a, u, _, _, r⟩
    · cases r with
      | ro h rr => exact .inl ⟨_, _, rfl, h.imp s.seq (Same.seqT s), fun p hp => q p _ Hf Grow.refl hp ⟨_, rfl, rr⟩⟩
    · cases r
  | dct t kvs =>
    cases hz
    rcases r with r | ⟨a, u, rfl, ha, r⟩
    · cases r with
      | dk h rr =>
        refine .inr (.inl ⟨_, _, rfl, Same.rd' s h, fun p hp => q p _ Hf Grow.refl hp ⟨_, rfl, rr.keys⟩⟩)
      | dt h rr =>
        refine .inr (.inr ⟨_, _, rfl, Same.rd' s h, fun p bs hp hk => q p _ _ (grow_allT s) hp ⟨_, rfl, rr.keysT s hk⟩⟩)
    · cases t with
      | false =>
        obtain ⟨ps, rfl, rr⟩ := r
        exact .inr (.inl ⟨_, _, rfl, .inl ha, fun p hp => q p _ Hf Grow.refl hp ⟨_, rfl, rr.keys⟩⟩)
      | true =>
        obtain ⟨ps, rfl, rr⟩ := r
        exact .inr (.inr ⟨_, _, rfl, .inl ha, fun p bs hp hk => q p _ _ (grow_allT s) hp ⟨_, rfl, rr.keysT s hk⟩⟩)
  | _ => cases hz
/-- a new thing behind a grown frozen part -/
theorem new_grow {K : PySem.W.Frag} {Fr : Fm} {Hf Hf' H : Hp} {ρ : Env} {σ : SSt} {p : Addr} {u : HO} (e : EnvAt K Fr Hf ρ σ H) (g : Grow Hf H Hf' H) (hp : H p = none) : EnvAt K Fr Hf' ρ σ (upd H p u) ∧ NewAt K Fr Hf' ρ σ (upd H p u) p u := by
  have e1 := e.grow g
  exact ⟨e1.grow (Grow.extra hp), NewAt.of e1 hp⟩
theorem pn_listof {e : Expr} (ha : PE X e (tCB (rListOf X.K) (tCons (rd X.K W ma) tNil))) : PE X e (rdN X.K W fun ρ => (ma ρ).bind fun x ρ1 => R.of (seqD x) ρ1) := by
  refine PEweak ha fun σ H Q ⟨Fr, Hf, ρ, e, g⟩ => ⟨Fr, Hf, ρ, e, (Go.bind g).imp fun v H1 ⟨d1, Hf1, ρ1, s1, e1, r1, g1⟩ => ?_⟩
  cases z : seqD d1 with
  | none => rw [z] at g1; exact g1.elim
  | some y =>
    rw [z] at g1
    refine listof_go e1.hp.hf ⟨r1.mono e1.hp.hf, .inl r1⟩ z fun p u Hf' gr hp ru => ?_
    obtain ⟨e2, n2⟩ := new_grow e1 gr hp
    exact g1 _ Hf' _ gr.f e2 ⟨p, u, rfl, n2, ru⟩
/-- list(x) of what a slot holds: the slot keeps it -/
theorem pn_listv {i : Nat} {e : Expr} (ha : PE X e (tCB (rListOf X.K) (tCons (tVar i) tNil))) : PE X e (rdN X.K W fun ρ => R.of ((peekV i ρ).bind seqD) ρ) := by
  refine PEweak ha fun σ H Q ⟨Fr, Hf, ρ, e1, g1⟩ => ?_
  dsimp only at g1
  cases q : peekV i ρ with
  | none => rw [q] at g1; exact g1.elim
  | some d =>
    rw [q] at g1
    have g1 : Go X.K W Fr Hf σ (PN X.K Fr σ) (R.of (seqD d) ρ) Q := g1
    cases z : seqD d with
    | none => rw [z] at g1; exact g1.elim
    | some y =>
      rw [z] at g1
      have fin : ∀ v, σ[i]? = some (some v) → (Rp X.K H v d ∧ (Rp X.K Hf v d ∨ ∃ a u, v = .ref a ∧ H a = some u ∧ RpO X.K Hf u d)) → tCB (rListOf X.K) (tCons (tVar i) tNil) σ H Q := fun v hv hr => by
        refine ⟨v, hv, listof_go e1.hp.hf hr z fun p u Hf' gr hp ru => ?_⟩
        obtain ⟨e2, n2⟩ := new_grow e1 gr hp
        exact g1 _ Hf' _ gr.f e2 ⟨p, u, rfl, n2, ru⟩
      rcases e1.two q with ⟨v, hv, rv⟩ | ⟨a, u, hv, ha, ra⟩
      · exact fin v hv ⟨rv.mono e1.hp.hf, .inl rv⟩
      · exact fin _ hv ⟨(ra.mono e1.hp.hf).rp ha, .inr ⟨a, u, rfl, ha, ra⟩⟩
/-- {} -/
theorem pn_dnew {t : Bool} : PE X (.Dict [] [] pos) (rdN X.K W fun ρ => .ok (.dct t []) ρ) := by
  cases t with
  | false => exact PEweak pe_dnewK fun σ H Q ⟨Fr, Hf, ρ, e, g⟩ p hp => g _ Hf _ (Same.refl _) (e.grow (Grow.extra hp)) ⟨p, _, rfl, NewAt.of e hp, [], rfl, .nil⟩
  | true => exact PEweak pe_dnewT fun σ H Q ⟨Fr, Hf, ρ, e, g⟩ p hp => g _ Hf _ (Same.refl _) (e.grow (Grow.extra hp)) ⟨p, _, rfl, NewAt.of e hp, [], rfl, .nil⟩
/-! ### calls -/
/-- a def's promise: its denotation -/
def spD (K : PySem.W.Frag) (n : Nat) (den : List D → DR) : Sp := fun vs H Q E => ∃ Hf ds, Same Hf H ∧ NoD Hf ∧ Rps K Hf vs ds ∧ ds.length = n ∧ (match den ds with
  | .no => False
  | .ok d => ∀ v Hf' H', Grow Hf H Hf' H' → Rp K Hf' v d → Q v H'
  | .ex x => ∀ cls od Hf' H', Grow Hf H Hf' H' → ExAt K Hf' x cls od → E cls od H')
theorem pd_call {k n : Nat} {f : Addr} {fd : FuncData} {ps : List Str} {den : List D → DR} {x : Str} {e : Expr} {es : List Expr} {ms : Env → R (List D)} (F : FnOk X.prog X.w X.K X.mg X.base (L2.CX X.prog X.w) k f fd ps (spD X.K n den)) (hr : Room k X.A) (hg : Gl X x) (hm : X.mg x = some (.ref f)) (hk : PySem.W.keepIn X.K (.ref f) = true) (hb : Binds X.K fd ps [])
    (tk : Takes X W) (ha : PA X (e :: es) (rdA X.K W ms)) (hn : ∀ ρ xs ρ', ms ρ = .ok xs ρ' → xs.length = n) (hdb : (x == ("__debug__" : Str)) = false) (he : starEach (e :: es) X.env = (false, eval e X.env) :: starEach es X.env) (hpl : (backTo pos (starEach es X.env)).any (·.1) = false) :
    PE X (.Call (.Name x p) (e :: es) [] pos) (rd X.K W fun ρ => (ms ρ).bind fun xs ρ1 => (den xs).r ρ1) := by
  refine PEweak (pe_callS (E := WE W) F hr hg hm hk hb (fun σ => passAt tk σ) ha hdb he hpl) fun σ H Q ⟨Fr, Hf, ρ, e, g⟩ => ⟨Fr, Hf, ρ, e, ?_⟩
  dsimp only at g
  cases q : ms ρ with
  | no => rw [q] at g; exact g
  | ex y ρ' => rw [q] at g; exact g
  | ok xs ρ1 =>
    rw [q] at g
    have g : Go X.K W Fr Hf σ (PV X.K) ((den xs).r ρ1) Q := g
    intro vs Hf1 H1 s1 e1 r1
    refine ⟨Hf1, xs, e1.hp.hf, e1.hp.nd, r1, hn ρ xs ρ1 q, ?_⟩
    cases z : den xs with
    | no => rw [z] at g; exact g
    | ok d => rw [z] at g; exact fun v Hf' H' gr rv => g v Hf' H' (s1.trans gr.f) (e1.grow gr) rv
    | ex y => rw [z] at g; exact fun cls od Hf' H' gr ry => g Hf' H' cls od (s1.trans gr.f) (e1.grow gr) ry
end
end DL
set_option Elab.async false
set_option linter.all false
set_option maxRecDepth 100000
set_option maxHeartbeats 4000000
/-! DLz: results of calls that are new things (for Nw.callN; under way) -/
namespace DL
open PySem PySem.Spec PyProof.Rows L2
mutual
theorem sm_refl : ∀ {d : D}, d.pl = true → D.sm d d = true
  | .non, _ => rfl
  | .bl a, _ => by simp [D.sm]
  | .int a, _ => by simp [D.sm]
  | .str a, _ => by simp [D.sm]
  | .tup xs, h => by
    have h : D.pls xs = true := h
    show D.sms xs xs = true
    exact sms_refl h
  | .lst xs, h => by
    have h : D.pls xs = true := h
    show D.sms xs xs = true
    exact sms_refl h
  | .ro _, h => by cases h
  | .dct _ _, h => by cases h
  | .obj _ _, h => by cases h
theorem sms_refl : ∀ {ds : List D}, D.pls ds = true → D.sms ds ds = true
  | [], _ => rfl
  | x :: xs, h => by
    have h : (D.pl x && D.pls xs) = true := h
    rw [Bool.and_eq_true] at h
    show (D.sm x x && D.sms xs xs) = true
    rw [sm_refl h.1, sms_refl h.2]
    rfl
end
def AgreeH (H H' : Hp) : Prop := ∀ a o o', H a = some o → H' a = some o' → o = o'
section
variable {K : PySem.W.Frag} {H H' : Hp}
mutual
theorem rp_fun (g : AgreeH H H') : ∀ {v : V} {d d' : D}, Rp K H v d → Rp K H' v d' → d.pl = true → d'.pl = true → d = d'
  | _, _, _, .non, h, _, _ => by cases h; rfl
  | _, _, _, .bl b, h, _, _ => by cases h; rfl
  | _, _, _, .int i, h, _, _ => by cases h; rfl
  | _, _, _, .str x, h, _, _ => by cases h; rfl
  | _, .tup ds, _, .tup e r, h, p, q => by
    cases h with
    | tup e2 r2 =>
      have := g _ _ _ e e2
      cases this
      rw [rps_fun g r r2 p q]
    | lst e2 r2 =>
      have := g _ _ _ e e2
      cases this
    | ro _ _ => cases q
    | dk _ _ => cases q
    | dt _ _ => cases q
  | _, .lst ds, _, .lst e r, h, p, q => by
    cases h with
    | tup e2 r2 =>
      have := g _ _ _ e e2
      cases this
    | lst e2 r2 =>
      have := g _ _ _ e e2
      cases this
      rw [rps_fun g r r2 p q]
    | ro _ _ => cases q
    | dk _ _ => cases q
    | dt _ _ => cases q
  | _, _, _, .ro _ _, _, p, _ => by cases p
  | _, _, _, .dk _ _, _, p, _ => by cases p
  | _, _, _, .dt _ _, _, p, _ => by cases p
theorem rps_fun (g : AgreeH H H') : ∀ {vs : List V} {ds ds' : List D}, Rps K H vs ds → Rps K H' vs ds' → D.pls ds = true → D.pls ds' = true → ds = ds'
  | _, _, _, .nil, h, _, _ => by cases h; rfl
  | _, x :: xs, _, .cons a r, h, p, q => by
    cases h with
    | cons a2 r2 =>
      have p : (D.pl x && D.pls xs) = true := p
      rw [Bool.and_eq_true] at p
      have q := (Bool.and_eq_true _ _).mp q
      rw [rp_fun g a a2 p.1 q.1, rps_fun g r r2 p.2 q.2]
end
open Classical in
/-- the heap where it holds things in which d does not stand -/
noncomputable def keepS (K : PySem.W.Frag) (Hf : Hp) (d : D) : Hp := fun a => if ∃ e, e.pl = true ∧ D.out d e = true ∧ Rp K Hf (.ref a) e then Hf a else none
theorem keepS_at {d e : D} {a : Addr} {Hf : Hp} (p : e.pl = true) (o : D.out d e = true) (r : Rp K Hf (.ref a) e) : keepS K Hf d a = Hf a := by
  unfold keepS
  rw [if_pos ⟨e, p, o, r⟩]
theorem keepS_same {Hf : Hp} {d : D} : Same (keepS K Hf d) Hf := fun a o h => by
  unfold keepS at h
  split at h
  · exact h
  · cases h
mutual
theorem rp_keep {Hf : Hp} {d : D} : ∀ {v : V} {e : D}, Rp K Hf v e → e.pl = true → D.out d e = true → Rp K (keepS K Hf d) v e
  | _, _, .non, _, _ => .non
  | _, _, .bl b, _, _ => .bl b
  | _, _, .int i, _, _ => .int i
  | _, _, .str x, _, _ => .str x
  | _, .tup ds, .tup h r, p, o => by
    have o2 : (!D.sm (.tup ds) d && D.outs d ds) = true := o
    rw [Bool.and_eq_true] at o2
    exact .tup (by rw [keepS_at p o (.tup h r)]; exact h) (rps_keep r p o2.2)
  | _, .lst ds, .lst h r, p, o => by
    have o2 : (!D.sm (.lst ds) d && D.outs d ds) = true := o
    rw [Bool.and_eq_true] at o2
    exact .lst (by rw [keepS_at p o (.lst h r)]; exact h) (rps_keep r p o2.2)
  | _, _, .ro _ _, p, _ => by cases p
  | _, _, .dk _ _, p, _ => by cases p
  | _, _, .dt _ _, p, _ => by cases p
theorem rps_keep {Hf : Hp} {d : D} : ∀ {vs : List V} {es : List D}, Rps K Hf vs es → D.pls es = true → D.outs d es = true → Rps K (keepS K Hf d) vs es
  | _, _, .nil, _, _ => .nil
  | _, x :: xs, .cons a r, p, o => by
    have p : (D.pl x && D.pls xs) = true := p
    have o : (D.out d x && D.outs d xs) = true := o
    rw [Bool.and_eq_true] at p o
    exact .cons (rp_keep a p.1 o.1) (rps_keep r p.2 o.2)
end
mutual
theorem rp_less {Hf Hg : Hp} {d : D} {q : Addr} (hd : d.pl = true) (rd : Rp K Hf (.ref q) d) (hg : ∀ a o, a ≠ q → Hf a = some o → Hg a = some o) : ∀ {v : V} {e : D}, Rp K Hf v e → e.pl = true → sizeOf e < sizeOf d → Rp K Hg v e
  | _, _, .non, _, _ => .non
  | _, _, .bl b, _, _ => .bl b
  | _, _, .int i, _, _ => .int i
  | _, _, .str x, _, _ => .str x
  | .ref a, .tup ds, .tup h r, p, z => by
    refine .tup (hg _ _ (fun e => ?_) h) (rps_less hd rd hg r p (by simp at z; omega))
    subst e
    have := rp_fun (fun _ _ _ x y => by rw [x] at y; exact Option.some.inj y) (.tup h r) rd p hd
    rw [this] at z
    omega
  | .ref a, .lst ds, .lst h r, p, z => by
    refine .lst (hg _ _ (fun e => ?_) h) (rps_less hd rd hg r p (by simp at z; omega))
    subst e
    have := rp_fun (fun _ _ _ x y => by rw [x] at y; exact Option.some.inj y) (.lst h r) rd p hd
    rw [this] at z
    omega
  | _, _, .ro _ _, p, _ => by cases p
  | _, _, .dk _ _, p, _ => by cases p
  | _, _, .dt _ _, p, _ => by cases p
theorem rps_less {Hf Hg : Hp} {d : D} {q : Addr} (hd : d.pl = true) (rd : Rp K Hf (.ref q) d) (hg : ∀ a o, a ≠ q → Hf a = some o → Hg a = some o) : ∀ {vs : List V} {es : List D}, Rps K Hf vs es → D.pls es = true → sizeOf es < sizeOf d → Rps K Hg vs es
  | _, _, .nil, _, _ => .nil
  | _, x :: xs, .cons a r, p, z => by
    have p : (D.pl x && D.pls xs) = true := p
    rw [Bool.and_eq_true] at p
    simp at z
    exact .cons (rp_less hd rd hg a p.1 (by omega)) (rps_less hd rd hg r p.2 (by omega))
end
theorem out_self {d : D} (p : d.pl = true) : D.out d d = false := by
  have h := sm_refl p
  cases d with
  | tup xs => show (!D.sm (.tup xs) (.tup xs) && _) = false; rw [h]; rfl
  | lst xs => show (!D.sm (.lst xs) (.lst xs) && _) = false; rw [h]; rfl
  | non => rfl
  | bl b => show (!D.sm _ _) = false; rw [h]; rfl
  | int b => show (!D.sm _ _) = false; rw [h]; rfl
  | str b => show (!D.sm _ _) = false; rw [h]; rfl
  | ro xs => cases p
  | dct t xs => cases p
  | obj t xs => cases p
open Classical in
noncomputable def joinH (Hf Hf' : Hp) (q : Addr) : Hp := fun a => if a = q then none else match Hf a with
  | some o => some o
  | none => Hf' a
/-- the list that a call gives is new -/
theorem call_new {Hf H Hf' H' : Hp} {ds : List D} {v : V} (hs : Same Hf H) (hnd : NoD Hf) (p : D.pls ds = true) (g : Grow (keepS K Hf (.lst ds)) H Hf' H') (r : Rp K Hf' v (.lst ds)) :
    ∃ q xs, v = .ref q ∧ H q = none ∧ H' q = some (.lst xs) ∧ Rps K (joinH Hf Hf' q) xs ds ∧ Grow Hf H (joinH Hf Hf' q) H' := by
  have hp : (D.lst ds).pl = true := p
  have inH' : Same Hf' H' := fun a o e => by
    rcases g.n a o e with h | ⟨_, h⟩ | ⟨_, _, h⟩
    · exact g.h _ _ (hs _ _ (keepS_same _ _ h))
    · exact h
    · exact h
  have ag : AgreeH Hf Hf' := fun a o o' h h' => by
    have h1 := g.h _ _ (hs _ _ h)
    rw [inH' _ _ h'] at h1
    exact (Option.some.inj h1).symm
  cases r with
  | @lst q xs _ e r =>
    have hq : H q = none := by
      rcases g.n q _ e with h | ⟨h, _⟩ | ⟨_, h, _⟩
      · exfalso
        have h2 : keepS K Hf (.lst ds) q ≠ none := by rw [h]; simp
        unfold keepS at h2
        split at h2
        · rename_i hx
          obtain ⟨y, y1, y2, y3⟩ := hx
          have := rp_fun ag y3 (.lst e r) y1 hp
          subst this
          rw [out_self hp] at y2
          cases y2
        · exact h2 rfl
      · exact h
      · cases h
    have jn : ∀ a o, a ≠ q → Hf' a = some o → joinH Hf Hf' q a = some o := fun a o n h => by
      unfold joinH
      rw [if_neg n]
      cases z : Hf a with
      | none => exact h
      | some u => rw [ag _ _ _ z h]
    refine ⟨q, xs, rfl, hq, inH' _ _ e, rps_less hp (.lst e r) jn r p (by simp), fun a o h => ?_, g.h, fun a o h => ?_, fun _ a o h => ?_⟩
    · unfold joinH
      have n : a ≠ q := fun z => by
        have := hs _ _ h
        rw [z, hq] at this
        cases this
      rw [if_neg n, h]
    · unfold joinH at h
      split at h
      · cases h
      · cases z : Hf a with
        | some u => rw [z] at h; exact .inl h
        | none =>
          rw [z] at h
          rcases g.n a o h with y | y
          · rw [keepS_same _ _ y] at z; cases z
          · exact .inr y
    · unfold joinH at h
      split at h
      · cases h
      · cases z : Hf a with
        | some u =>
          rw [z] at h
          cases h
          exact hnd _ _ z
        | none =>
          rw [z] at h
          exact g.d (fun a o y => hnd _ _ (keepS_same _ _ y)) _ _ h
end
section
variable {X : Cx} {W : WX}
theorem pd_callN {k n : Nat} {f : Addr} {fd : FuncData} {ps : List Str} {den : List D → DR} {x : Str} {e : Expr} {es : List Expr} {ms : Env → R (List D)} (F : FnOk X.prog X.w X.K X.mg X.base (L2.CX X.prog X.w) k f fd ps (spD X.K n den)) (hr : Room k X.A) (hg : Gl X x) (hm : X.mg x = some (.ref f)) (hk : PySem.W.keepIn X.K (.ref f) = true) (hb : Binds X.K fd ps [])
    (tk : Takes X W) (ha : PA X (e :: es) (rdA X.K W ms)) (hn : ∀ ρ xs ρ', ms ρ = .ok xs ρ' → xs.length = n) (hdb : (x == ("__debug__" : Str)) = false) (he : starEach (e :: es) X.env = (false, eval e X.env) :: starEach es X.env) (hpl : (backTo pos (starEach es X.env)).any (·.1) = false) :
    PE X (.Call (.Name x p) (e :: es) [] pos) (rdN X.K W fun ρ => (ms ρ).bind fun xs ρ1 => (newD den xs).r ρ1) := by
  refine PEweak (pe_callS (E := WE W) F hr hg hm hk hb (fun σ => passAt tk σ) ha hdb he hpl) fun σ H Q ⟨Fr, Hf, ρ, e, g⟩ => ⟨Fr, Hf, ρ, e, ?_⟩
  dsimp only at g
  cases q : ms ρ with
  | no => rw [q] at g; exact g
  | ex y ρ' => rw [q] at g; exact g
  | ok xs ρ1 =>
    rw [q] at g
    have g : Go X.K W Fr Hf σ (PN X.K Fr σ) ((newD den xs).r ρ1) Q := g
    intro vs Hf1 H1 s1 e1 r1
    have hl := hn ρ xs ρ1 q
    unfold newD at g
    cases z : den xs with
    | no => rw [z] at g; exact g.elim
    | ex y =>
      rw [z] at g
      refine ⟨Hf1, xs, e1.hp.hf, e1.hp.nd, r1, hl, ?_⟩
      rw [z]
      exact fun cls od Hf' H' gr ry => g Hf' H' cls od (s1.trans gr.f) (e1.grow gr) ry
    | ok d =>
      rw [z] at g
      cases d with
      | lst ys =>
        dsimp only at g
        split at g
        · rename_i hc
          obtain ⟨c1, c2, c3⟩ := hc
          refine ⟨keepS X.K Hf1 (.lst ys), xs, fun a o h => e1.hp.hf _ _ (keepS_same _ _ h), fun a o h => e1.hp.nd _ _ (keepS_same _ _ h), rps_keep r1 c2 c3, hl, ?_⟩
          rw [z]
          intro v Hf' H' gr rv
          obtain ⟨q, us, rfl, h1, h2, h3, g2⟩ := call_new e1.hp.hf e1.hp.nd c1 gr rv
          have ne : NewAt X.K Fr (joinH Hf1 Hf' q) ρ1 σ H' q (.lst us) := by
            refine ⟨?_, by unfold joinH; rw [if_pos rfl], h2, fun i ow => ?_⟩
            · cases y : Fr q with
              | none => rfl
              | some o => rw [e1.hp.fr _ _ y] at h1; cases h1
            · obtain ⟨_, _, o, y, _⟩ := e1.own ow
              rw [y] at h1
              cases h1
          exact g (.ref q) _ H' (s1.trans g2.f) (e1.grow g2) ⟨q, .lst us, rfl, ne, us, rfl, h3⟩
        · exact g.elim
      | _ => exact g.elim
end
end DL
set_option Elab.async false
set_option linter.all false
set_option maxRecDepth 100000
set_option maxHeartbeats 4000000
/-! DLsx: slices with a step. -/
namespace HT
open PySem PySem.Spec PyProof.Rows
section
variable {prog : Program} {w : World} {A : Around} {E : Value → Shared → Prop} {s : Shared}
theorem sliceApplied_st {sl : Addr} {vl vu vs : Value} {lo hi : Option Int} {st : Int} {n : Nat} {Q : Int × Int × Nat → Shared → Prop} (hs : s.heap.IsSliceOf sl vl vu vs) (pl : IsPart vl lo) (pu : IsPart vu hi) (ps : IsPart vs (some st)) (h0 : st ≠ 0)
    (h : Q ((Builtin.Slice.sliceAdjust lo hi st n).1, st, Builtin.Slice.slicePlaces (Builtin.Slice.sliceAdjust lo hi st n).1 (Builtin.Slice.sliceAdjust lo hi st n).2 st) s) : wpAny (model prog w) A (Builtin.Slice.sliceApplied (.ref sl) (pure (n : Int))) Q E s := by
  obtain ⟨os, hos, hcs, hds⟩ := id hs
  unfold Builtin.Slice.sliceApplied Builtin.Slice.sliceFields
  refine wpAny_bind (wpAny_bind (wpAny_field hos hds (x := vl) rfl (wpAny_bind (wpAny_field hos hds (x := vu) rfl (wpAny_bind (wpAny_field hos hds (x := vs) rfl (wpAny_pure ?_)))))))
  refine wpAny_bind (slicePart_ ps ?_)
  show wpAny _ _ (if (st == 0) = true then _ else _) _ _ s
  rw [if_neg (by simpa using h0)]
  refine wpAny_bind (slicePart_ pl (wpAny_bind (slicePart_ pu (wpAny_bind (wpAny_pure ?_)))))
  exact wpAny_pure h
theorem getItem_tuple_st {t sl : Addr} {items : Array Value} {vl vu vs : Value} {lo hi : Option Int} {st : Int} {Q : Value → Shared → Prop} (ht : IsTup s.heap t items) (hs : s.heap.IsSliceOf sl vl vu vs) (pl : IsPart vl lo) (pu : IsPart vu hi) (ps : IsPart vs (some st)) (h0 : st ≠ 0) (h1 : st ≠ 1)
    (h : Q (.ref s.heap.objs.size) { s with heap := s.heap.push { cls := .type "tuple", data := .seq (DL.stepT items.toList lo hi st).toArray } })
    (hsz : (DL.stepT items.toList lo hi st).length ≤ sizeLine) : wpAny (model prog w) A (getItem (.ref t) (.ref sl)) Q E s := by
  have htake : sizeOk (.seq (DL.stepT items.toList lo hi st).toArray) := by
    show (DL.stepT items.toList lo hi st).toArray.size ≤ sizeLine
    rw [List.size_toArray]
    exact hsz
  obtain ⟨os, hos, hcs, hds⟩ := id hs
  have hTs : s.TypeIs (.ref sl) "slice" := ⟨os, hos, hcs⟩
  unfold getItem
  try with_reducible refine wpAny_holding ?_
  first | refine wpAny_bind (wpAny_pure ?_) | skip
  refine wpAny_bind (wpAny_sequenceKey ht.typeIs (by decide) ?_)
  refine wpAny_bind (wpAny_callSpecial?_slot (name := Str.ofString "__getitem__") ht.typeIs PyProof.Rows.slot_tuple_getitem
    (wpAny_call_entry PyProof.Rows.slot_tuple_getitem ht.typeIs entry_tuple_getitem ?_ (args_tuple_getitem _ _)))
  show wpAny _ _ (Builtin.Tuple.tupleItemsOf (.ref t) >>= _) _ _ s
  refine wpAny_bind (tupleItemsOf_ ht ?_)
  refine wpAny_bind (wpAny_typeOf hTs ?_)
  rw [if_pos (by decide)]
  refine wpAny_bind (sliceApplied_st hs pl pu ps h0 ?_)
  have hno : ∀ (a : Int) (k : Nat), ¬ ((a == 0 && st == 1 && k == items.size) = true) := fun a k q => by
    rw [Bool.and_eq_true, Bool.and_eq_true] at q
    exact h1 (eq_of_beq q.1.2)
  show wpAny _ _ (if (_ == 0 && st == 1 && _ == items.size) = true then _ else _) _ _ s
  rw [if_neg (hno _ _)]
  have e : ((List.range (Builtin.Slice.slicePlaces (Builtin.Slice.sliceAdjust lo hi st items.size).1 (Builtin.Slice.sliceAdjust lo hi st items.size).2 st)).filterMap fun m : Nat => items[((Builtin.Slice.sliceAdjust lo hi st items.size).1 + (m : Int) * st).toNat]?).toArray = (DL.stepT items.toList lo hi st).toArray := by
    unfold DL.stepT
    rw [Array.length_toList]
    congr 2
    funext m
    rw [Array.getElem?_toList]
  rw [e]
  first
    | exact wpAny_bind (m := Builtin.Tuple.tupleExact _) (wpAny_newObj_type (wpAny_pure ⟨_, rfl, wpAny_pure h⟩) htake)
    | exact wpAny_bind (m := Builtin.Tuple.tupleExact _) (wpAny_newObj_type (wpAny_bind (wpAny_pure (wpAny_pure ⟨_, rfl, wpAny_pure h⟩))) htake)
    | exact wpAny_bind (wpAny_bind (m := Builtin.Tuple.tupleExact _) (wpAny_newObj_type (wpAny_pure (wpAny_pure ⟨_, rfl, wpAny_pure h⟩)) htake))
    | exact wpAny_bind (wpAny_bind (m := Builtin.Tuple.tupleExact _) (wpAny_newObj_type (wpAny_pure ⟨_, rfl, wpAny_pure h⟩) htake))
end
end HT
namespace L2
open PySem PySem.Spec PyProof.Rows
section
variable {X : Cx} {e se : Expr} {te : TE} {lo hi : Option Expr} {tl th ts : TO} {pos p2 : Pos}
def tSlx (K : PySem.W.Frag) (te : TE) (tl th ts : TO) (r : Addr → List V → Option Int → Option Int → Int → Hp → VK → Prop) : TE := fun σ H Q => te σ H fun x H1 => tl σ H1 fun l H2 => th σ H2 fun u H3 => ts σ H3 fun k H4 => ∃ a xs st, x = .ref a ∧ k = some st ∧ st ≠ 0 ∧ r a xs l u st H4 Q
def rSlxT (K : PySem.W.Frag) : Addr → List V → Option Int → Option Int → Int → Hp → VK → Prop := fun a xs l u st H Q => SqT K H a xs ∧ st ≠ 1 ∧ (DL.stepT xs l u st).length ≤ sizeLine ∧ ∀ p, H p = none → Q (.ref p) (upd H p (.tup (DL.stepT xs l u st)))
def rSlxL (K : PySem.W.Frag) : Addr → List V → Option Int → Option Int → Int → Hp → VK → Prop := fun a xs l u st H Q => SqL K H a xs ∧ ∀ p, H p = none → Q (.ref p) (upd H p (.lst (DL.stepL xs l u st)))
theorem vals_pick {f : Nat → Nat} : ∀ {ks : List Nat} {xs : List V} {us : List Value}, Vals xs us → Vals (ks.filterMap fun k => xs[f k]?) (ks.filterMap fun k => us[f k]?)
  | [], xs, us, r => .nil
  | k :: ks, xs, us, r => by
    rw [List.filterMap_cons, List.filterMap_cons]
    have ih := vals_pick (f := f) (ks := ks) r
    cases q : xs[f k]? with
    | none =>
      have : us[f k]? = none := by rw [List.getElem?_eq_none_iff] at q ⊢; rw [← r.length]; exact q
      rw [this]
      exact ih
    | some x =>
      obtain ⟨u, hu, ru⟩ := r.get q
      rw [hu]
      exact .cons ru ih
theorem pe_slxT (he : PE X e te) (hl : PO X lo tl) (hu : PO X hi th) (hs : PO X (some se) ts) : PE X (.Subscript e (.Slice lo hi (some se) p2) pos) (tSlx X.K te tl th ts (rSlxT X.K)) := by
  refine ⟨fun pins s σ H Q I h => ?_⟩
  refine Subscript_ (thn (he.run pins s σ H _ I h) fun v s1 ⟨x, H1, I1, r1, q1⟩ => ?_)
  refine wpAny_Slice (thn (hl.run pins s1 σ H1 _ I1 q1) fun vl s2 ⟨l, H2, I2, pl, q2⟩ => thn (hu.run pins s2 σ H2 _ I2 q2) fun vu s3 ⟨u, H3, I3, pu, q3⟩ => thn (hs.run pins s3 σ H3 _ I3 q3) fun vs s4 ⟨k, H4, I4, pk, q4⟩ => ?_)
  obtain ⟨a, xs, st, rfl, rfl, h0, hx, h1, hz, q⟩ := q4
  cases r1
  have I5 : Inv X pins σ H4 { s4 with heap := s4.heap.push { cls := .type "slice", data := .fields #[vl, vu, vs] } } := I4.kept (t' := s4.toks) fun b ob q => Heap.get?_push_of_some _ q
  obtain ⟨its, r, ht, _⟩ := I5.tuple hx
  have e1 : (DL.stepT xs l u st).length = (DL.stepT its l u st).length := by
    unfold DL.stepT
    rw [r.length]
    exact (vals_pick (f := fun m => ((Builtin.Slice.sliceAdjust l u st its.length).1 + (m : Int) * st).toNat) r).length
  show wpAny (model X.prog X.w) X.A (subscriptTail e (.Slice lo hi (some se) p2) (.ref a) (.ref s4.heap.objs.size)) (EP X pins σ Q) X.xe { s4 with heap := s4.heap.push { cls := .type "slice", data := .fields #[vl, vu, vs] } }
  refine tail_any (ops := [.ref a, .ref s4.heap.objs.size]) ht.typeIs (PyProof.Rows.slot_tuple_getitem.lookup) ?_ (by with_unfolding_all rfl)
  refine HT.getItem_tuple_st ht (Heap.IsSliceOf.new _ vl vu vs) pl pu pk h0 h1 ?_ (by rw [← e1]; exact hz)
  refine ⟨.ref _, _, I5.laid (t' := s4.toks) (o := .tup (DL.stepT xs l u st)) (fun b ob q => Heap.get?_push_of_some _ q) (Nat.le_refl _) ?_, rfl, q _ (I5.hok.fresh (Nat.le_refl _))⟩
  refine ⟨hz, _, ?_, IsTup.new _ _⟩
  unfold DL.stepT
  rw [r.length]
  exact vals_pick (f := fun m => ((Builtin.Slice.sliceAdjust l u st its.length).1 + (m : Int) * st).toNat) r
theorem pe_slxL (he : PE X e te) (hl : PO X lo tl) (hu : PO X hi th) (hs : PO X (some se) ts) : PE X (.Subscript e (.Slice lo hi (some se) p2) pos) (tSlx X.K te tl th ts (rSlxL X.K)) := by
  refine ⟨fun pins s σ H Q I h => ?_⟩
  refine Subscript_ (thn (he.run pins s σ H _ I h) fun v s1 ⟨x, H1, I1, r1, q1⟩ => ?_)
  refine wpAny_Slice (thn (hl.run pins s1 σ H1 _ I1 q1) fun vl s2 ⟨l, H2, I2, pl, q2⟩ => thn (hu.run pins s2 σ H2 _ I2 q2) fun vu s3 ⟨u, H3, I3, pu, q3⟩ => thn (hs.run pins s3 σ H3 _ I3 q3) fun vs s4 ⟨k, H4, I4, pk, q4⟩ => ?_)
  obtain ⟨a, xs, st, rfl, rfl, h0, hx, q⟩ := q4
  cases r1
  have I5 : Inv X pins σ H4 { s4 with heap := s4.heap.push { cls := .type "slice", data := .fields #[vl, vu, vs] } } := I4.kept (t' := s4.toks) fun b ob q => Heap.get?_push_of_some _ q
  obtain ⟨its, r, ht, hz⟩ := I5.list hx
  have hlen := r.length
  show wpAny (model X.prog X.w) X.A (subscriptTail e (.Slice lo hi (some se) p2) (.ref a) (.ref s4.heap.objs.size)) (EP X pins σ Q) X.xe { s4 with heap := s4.heap.push { cls := .type "slice", data := .fields #[vl, vu, vs] } }
  refine tail_any (ops := [.ref a, .ref s4.heap.objs.size]) ht.isList.typeIs (PySem.slot_list_getitem.lookup) ?_ (by with_unfolding_all rfl)
  refine wpAny_getItem_list_slice ht.isList (Heap.IsSliceOf.new _ vl vu vs) pl pu pk (by intro z; cases z; exact h0 rfl) ?_ (by rw [List.size_toArray]; omega)
  have hle := slicePick_size_le its.toArray l u (some st)
  have e2 : slicePick its.toArray l u (some st) = (DL.stepL its l u st).toArray := by
    unfold slicePick DL.stepL
    rw [List.size_toArray]
    congr 2
    funext m
    rw [List.getElem?_toArray]
  rw [e2, List.size_toArray, List.size_toArray] at hle
  rw [e2]
  have rv : Vals (DL.stepL xs l u st) (DL.stepL its l u st) := by
    unfold DL.stepL
    rw [hlen]
    exact vals_pick (f := fun m => m) r
  refine ⟨.ref _, _, I5.laid (t' := s4.toks) (o := .lst (DL.stepL xs l u st)) (fun b ob q => Heap.get?_push_of_some _ q) (Nat.le_refl _) ?_, rfl, q _ (I5.hok.fresh (Nat.le_refl _))⟩
  exact ⟨by rw [rv.length]; omega, _, 0, rv, Heap.get?_push_size _ rfl⟩
end
end L2
namespace DL
open PySem PySem.Spec PyProof.Rows L2
theorem Rps.pick {K : PySem.W.Frag} {Hf : Hp} {f : Nat → Nat} : ∀ {ks : List Nat} {xs : List V} {ds : List D}, Rps K Hf xs ds → Rps K Hf (ks.filterMap fun k => xs[f k]?) (ks.filterMap fun k => ds[f k]?)
  | [], xs, ds, r => .nil
  | k :: ks, xs, ds, r => by
    rw [List.filterMap_cons, List.filterMap_cons]
    have ih := Rps.pick (f := f) (ks := ks) r
    cases q : ds[f k]? with
    | none =>
      have : xs[f k]? = none := by rw [List.getElem?_eq_none_iff] at q ⊢; rw [r.length]; exact q
      rw [this]
      exact ih
    | some d =>
      obtain ⟨v, hv, rv⟩ := r.get q
      rw [hv]
      exact .cons rv ih
section
variable {X : Cx} {W : WX} {a se : Expr} {ma : Env → R D} {pos p2 : Pos} {lo hi : Option Expr} {ml mh ms : Env → R (Option Int)}
theorem stepT_len {α : Type} (xs : List α) (lo hi : Option Int) (st : Int) : (stepT xs lo hi st).length ≤ Builtin.Slice.slicePlaces (Builtin.Slice.sliceAdjust lo hi st xs.length).1 (Builtin.Slice.sliceAdjust lo hi st xs.length).2 st := by
  unfold stepT
  exact Nat.le_trans (List.length_filterMap_le _ _) (by rw [List.length_range]; exact Nat.le_refl _)
theorem pd_slx (ha : PE X a (rd X.K W ma)) (hl : PO X lo (rdO X.K W ml)) (hh : PO X hi (rdO X.K W mh)) (hs : PO X (some se) (rdO X.K W ms)) :
    PE X (.Subscript a (.Slice lo hi (some se) p2) pos) (rd X.K W fun ρ => (ma ρ).bind fun x ρ1 => (ml ρ1).bind fun l ρ2 => (mh ρ2).bind fun h ρ3 => (ms ρ3).bind fun k ρ4 => R.of (slxD x l h k) ρ4) := by
  refine PEweak (pe_slxT ha hl hh hs) fun σ H Q ⟨Fr, Hf, ρ, e, g⟩ => ?_
  refine ⟨Fr, Hf, ρ, e, (Go.bind g).imp fun v H1 ⟨d1, Hf1, ρ1, s1, e1, r1, g1⟩ => ⟨Fr, Hf1, ρ1, e1, (Go.bind g1).imp fun l H2 ⟨l', Hf2, ρ2, s2, e2, r2, g2⟩ => ⟨Fr, Hf2, ρ2, e2, (Go.bind g2).imp fun h H3 ⟨h', Hf3, ρ3, s3, e3, r3, g3⟩ => ⟨Fr, Hf3, ρ3, e3, (Go.bind g3).imp fun k H4 ⟨k', Hf4, ρ4, s4, e4, r4, g4⟩ => ?_⟩⟩⟩⟩
  subst r2 r3 r4
  cases q : slxD d1 l h k with
  | none => rw [q] at g4; exact g4.elim
  | some z =>
    rw [q] at g4
    have rv := ((r1.mono s2).mono s3).mono s4
    obtain ⟨xs, st, rfl, rfl, hst, rfl⟩ : ∃ xs st, d1 = .tup xs ∧ k = some st ∧ (st ≠ 0 ∧ st ≠ 1 ∧ (stepT xs l h st).length ≤ sizeL) ∧ z = .tup (stepT xs l h st) := by
      unfold slxD at q
      split at q
      · split at q
        · exact ⟨_, _, rfl, rfl, by assumption, (Option.some.inj q).symm⟩
        · cases q
      · cases q
    cases rv with
    | @tup _ ys _ hx rr =>
      have rs : Rps X.K Hf4 (stepT ys l h st) (stepT xs l h st) := by
        unfold stepT
        rw [rr.length]
        exact Rps.pick (f := fun m => ((Builtin.Slice.sliceAdjust l h st xs.length).1 + (m : Int) * st).toNat) rr
      refine ⟨_, _, st, rfl, rfl, hst.1, SqT.of (e4.hp.hf _ _ hx), hst.2.1, by rw [rs.length]; exact hst.2.2, fun p hp => ?_⟩
      have gr := Grow.new (o := .tup (stepT ys l h st)) e4.hp.hf hp
      exact g4 _ _ _ gr.f (e4.grow gr) (.tup upd_same (rs.mono gr.f))
theorem pn_slx (ha : PE X a (rd X.K W ma)) (hl : PO X lo (rdO X.K W ml)) (hh : PO X hi (rdO X.K W mh)) (hs : PO X (some se) (rdO X.K W ms)) :
    PE X (.Subscript a (.Slice lo hi (some se) p2) pos) (rdN X.K W fun ρ => (ma ρ).bind fun x ρ1 => (ml ρ1).bind fun l ρ2 => (mh ρ2).bind fun h ρ3 => (ms ρ3).bind fun k ρ4 => R.of (slxN x l h k) ρ4) := by
  refine PEweak (pe_slxL ha hl hh hs) fun σ H Q ⟨Fr, Hf, ρ, e, g⟩ => ?_
  refine ⟨Fr, Hf, ρ, e, (Go.bind g).imp fun v H1 ⟨d1, Hf1, ρ1, s1, e1, r1, g1⟩ => ⟨Fr, Hf1, ρ1, e1, (Go.bind g1).imp fun l H2 ⟨l', Hf2, ρ2, s2, e2, r2, g2⟩ => ⟨Fr, Hf2, ρ2, e2, (Go.bind g2).imp fun h H3 ⟨h', Hf3, ρ3, s3, e3, r3, g3⟩ => ⟨Fr, Hf3, ρ3, e3, (Go.bind g3).imp fun k H4 ⟨k', Hf4, ρ4, s4, e4, r4, g4⟩ => ?_⟩⟩⟩⟩
  subst r2 r3 r4
  cases q : slxN d1 l h k with
  | none => rw [q] at g4; exact g4.elim
  | some z =>
    rw [q] at g4
    have rv := ((r1.mono s2).mono s3).mono s4
    obtain ⟨xs, st, rfl, rfl, hst, rfl⟩ : ∃ xs st, d1 = .lst xs ∧ k = some st ∧ st ≠ 0 ∧ z = .lst (stepL xs l h st) := by
      unfold slxN at q
      split at q
      · split at q
        · exact ⟨_, _, rfl, rfl, by assumption, (Option.some.inj q).symm⟩
        · cases q
      · cases q
    cases rv with
    | lst hx rr =>
      refine ⟨_, _, st, rfl, rfl, hst, SqL.of (e4.hp.hf _ _ hx), fun p hp => ?_⟩
      refine g4 _ Hf4 _ (Same.refl _) (e4.grow (Grow.extra hp)) ⟨p, _, rfl, NewAt.of e4 hp, _, rfl, ?_⟩
      unfold stepL
      rw [rr.length]
      exact Rps.pick (f := fun m => m) rr
end
end DL
set_option Elab.async false
set_option linter.all false
set_option maxRecDepth 100000
set_option maxHeartbeats 4000000
/-! DLvl: list(d.values()). -/
namespace HT
open PySem PySem.Spec PyProof.Rows
open L2
/-- what the values of the dict at an address are -/
def ValsAt (H : Hp) (a : Addr) (ys : List V) : Prop := (∃ kvs, Rd H a (.dK kvs) ∧ ys = kvs.map (·.2)) ∨ ∃ kvs, Rd H a (.dT kvs) ∧ ys = kvs.map (·.2)
theorem ValsAt.raw {X : Cx} {H : Hp} {s : Shared} {a : Addr} {ys : List V} (h : ValsAt H a ys) (I : HOk X.prog X.w H s.heap) :
    (a == sysModules) = false ∧ ∃ es ep, s.heap.DictRaw a es ep ∧ es.size = ys.length ∧ ys.length ≤ sizeLine ∧ ∀ (i : Nat) (hi : i < es.size) (y : V), ys[i]? = some y → RelV y es[i].val := by
  rcases h with ⟨kvs, hd, rfl⟩ | ⟨kvs, hd, rfl⟩
  · obtain ⟨z, lo, vs, rk, hdd⟩ := (show ObjOk X.prog X.w H s.heap a (.dK kvs) from hd.ok I)
    obtain ⟨ep, hat⟩ := hdd.dictAt
    obtain ⟨es, hr, hs, he⟩ := hat.raw
    have hl : kvs.length = vs.length := Paired.length rk
    refine ⟨lo, es, ep, hr, by rw [hs, List.length_map, hl], by rw [List.length_map]; exact z, fun i hi y hy => ?_⟩
    have hv : vs[i]? = some vs[i] := List.getElem?_eq_getElem (by omega)
    obtain ⟨x, h1, h2⟩ := KV.at' rk (i := i) (k := vs[i].1) (v := vs[i].2) hv
    rw [List.getElem?_map, h1] at hy
    obtain rfl : x = y := Option.some.inj hy
    rw [(he i hi vs[i].1 vs[i].2 hv).2]
    exact h2
  · obtain ⟨z, hs, ks, pr, o, es, ep, ho, hx, hdt, he, hn⟩ := (show ObjOk X.prog X.w H s.heap a (.dT kvs) from hd.ok I)
    have l1 : es.size = ks.length := size_of_entries he
    have l2 : kvs.length = ks.length := Paired.length pr
    refine ⟨hs, es, ep, ⟨o, ho, hx, hdt⟩, by rw [l1, List.length_map, l2], by rw [List.length_map]; exact z, fun i hi y hy => ?_⟩
    have hk : ks[i]? = some ks[i] := List.getElem?_eq_getElem (by omega)
    have qe := entry_at he i
    rw [hk, Array.getElem?_eq_getElem hi] at qe
    have e2 := Option.some.inj qe
    rw [e2]
    have pp : ∀ {kvs : List (List Key × V)} {ks : List (List Key × Addr × Value)}, KT H kvs ks → ∀ {i : Nat} {y : V} {k}, (kvs.map (·.2))[i]? = some y → ks[i]? = some k → RelV y k.2.2 := fun {kvs ks} r => by
      induction r with
      | nil => intro i y k h; simp at h
      | cons h t ih =>
        intro i y k h1 h2
        cases i with
        | zero =>
          cases h1
          cases h2
          exact h.2.2
        | succ i => exact ih (i := i) (by simpa using h1) (by simpa using h2)
    exact pp pr hy hk
variable {X : Cx}
/-- d.values() -/
theorem pe_valuesV {e : Expr} {t : TE} {apos pos : Pos} (he : PE X e t) (hbase : attributeBase e "values" X.env (eval e X.env) = eval e X.env := by rfl) (hline : (apos.endLine == pos.line) = true := by rfl) :
    PE X (.Call (.Attribute e "values" apos) [] [] pos) (fun σ H Q => t σ H fun x H1 => ∃ a ys, x = .ref a ∧ ValsAt H1 a ys ∧ ∀ p, H1 p = none → Q (.ref p) (upd H1 p (viewO "dict_values" p a))) := by
  refine ⟨fun pins s σ H Q I h => ?_⟩
  refine wpAny_Call_method (T := "dict") (id := "dict.values") hbase rfl hline F.plainAttrs_dict F.slot_dict_values F.type_dict_values (thn (he.run pins s σ H _ I h) fun u s1 ⟨x, H1, I1, rx, a, ys, ex, hd, q⟩ => ?_)
  subst ex
  obtain rfl : u = Value.ref a := rx
  obtain ⟨lo, es, ep, hr, _, _, _⟩ := hd.raw I1.hok
  refine ⟨hr.typeIs, ?_, ?_⟩
  · intro b hb
    cases hb
    obtain ⟨o, ho, hx, _⟩ := hr
    exact ⟨o, ho, hx.2.1⟩
  show wpAny _ _ (callWith pos (.builtin "dict.values") [.ref a] [] []) _ X.xe s1
  refine method_meetsIn F.slot_dict_values F.entry_dict_values rfl (PySem.evalArgs_none ⟨rfl, hr.typeIs, F.args_dict_values_1 _, _, meets_dict_values_raw a lo, ⟨es, ep, hr⟩, ?_⟩)
  exact ⟨.ref s1.heap.objs.size, _, I1.laid (t' := s1.toks) (fun b o q => Heap.get?_push_of_some _ q) (Nat.le_refl _) (viewO_ok (Heap.get?_push_size _ rfl)), rfl, q _ (I1.hok.fresh (Nat.le_refl _))⟩
/-- list of such a view -/
def rListVals : List V → Hp → VK → Prop := fun xs H Q => ∃ v a ys, xs = [.ref v] ∧ H v = some (viewO "dict_values" v a) ∧ ValsAt H a ys ∧ ∀ p, H p = none → Q (.ref p) (upd H p (.lst ys))
theorem call_list_vals (hc : X.calm = true) : CallR X (.type "list") rListVals := by
  intro pins s σ H xs us Q I r h
  obtain ⟨v, a, ys, rfl, hv, hd, q⟩ := h
  obtain ⟨u, rfl, rx⟩ := r.one
  cases rx
  obtain ⟨lo, es, ep, hr, hl, hz, he⟩ := hd.raw I.hok
  have hv : s.heap.get? v = some (DSub.viewOb "dict_values" a) := (show ObjOk X.prog X.w H s.heap v (viewO "dict_values" v a) from I.hok v _ hv).1
  refine PySem.W.kdl_call (PySem.KdlSrc.rawValues (r := v) (d := a) (es := es) (ep := ep)) (I.ok.hd hc) ⟨⟨_, hv, rfl, rfl⟩, hr⟩ (by omega) fun h' tk acc' c' kp e it => ?_
  have rv : Vals ys acc'.toList := by
    have el : acc'.toList.length = acc'.size := by simp
    refine vals_of_at (by rw [el, it.1, hl]) fun j x w h1 h2 => ?_
    obtain ⟨hi, e2⟩ := it.2 j w (by rw [← Array.getElem?_toList]; exact h2)
    rw [e2]
    exact he j hi x h1
  refine ⟨.ref s.heap.objs.size, _, I.laid (t' := tk) (o := .lst ys) kp (Nat.le_refl _) ?_, rfl, q _ (I.hok.fresh (Nat.le_refl _))⟩
  exact ⟨hz, acc'.toList, c', rv, by rw [Array.toArray_toList]; exact e⟩
end HT
namespace DL
open PySem PySem.Spec PyProof.Rows L2
theorem Rpk.vals {K : PySem.W.Frag} {H : Hp} : ∀ {ps : List (Key × V)} {kvs : List (D × D)}, Rpk K H ps kvs → Rps K H (ps.map (·.2)) (kvs.map (·.2))
  | _, _, .nil => .nil
  | _, _, .cons _ r t => .cons r (Rpk.vals t)
theorem Rpt.vals {K : PySem.W.Frag} {H : Hp} : ∀ {ps : List (List Key × V)} {kvs : List (D × D)}, Rpt K H ps kvs → Rps K H (ps.map (·.2)) (kvs.map (·.2))
  | _, _, .nil => .nil
  | _, _, .cons _ r t => .cons r (Rpt.vals t)
section
variable {X : Cx} {W : WX} {o : Expr} {ma : Env → R D}
/-- list(d.values()) -/
theorem pn_vals {p pos apos mpos : Pos} (hc : X.calm = true) (hg : Gl X "list") (hm : X.mg "list" = none) (ha : PE X o (rd X.K W ma)) (hbase : attributeBase o "values" X.env (eval o X.env) = eval o X.env) (hline : (apos.endLine == mpos.line) = true)
    (hse : starEach [Expr.Call (.Attribute o "values" apos) [] [] mpos] X.env = [(false, eval (Expr.Call (.Attribute o "values" apos) [] [] mpos) X.env)]) :
    PE X (.Call (.Name "list" p) [.Call (.Attribute o "values" apos) [] [] mpos] [] pos) (rdN X.K W fun ρ => (ma ρ).bind fun x ρ1 => R.of (valsD x) ρ1) := by
  refine PEweak (pe_callTy (HT.call_list_vals hc) hg hm boot_list (pa_cons (HT.pe_valuesV ha hbase hline) pa_nil hse) (by decide) (by decide) hse (by rfl)) fun σ H Q ⟨Fr, Hf, ρ, e, g⟩ => ?_
  refine ⟨Fr, Hf, ρ, e, (Go.bind g).imp fun v H1 ⟨d1, Hf1, ρ1, s1, e1, r1, g1⟩ => ?_⟩
  have fin : ∀ {a : Addr} {ys : List V} {ds : List D}, v = .ref a → HT.ValsAt H1 a ys → Rps X.K Hf1 ys ds → Go X.K W Fr Hf1 σ (PN X.K Fr σ) (R.of (some (.lst ds)) ρ1) Q →
      ∃ a ys, v = .ref a ∧ HT.ValsAt H1 a ys ∧ ∀ p, H1 p = none → HT.rListVals [.ref p] (upd H1 p (viewO "dict_values" p a)) Q := fun {a ys ds} hv hd rr g => by
    refine ⟨a, ys, hv, hd, fun p hp => ⟨p, a, ys, rfl, upd_same, ?_, fun q hq => ?_⟩⟩
    · rcases hd with ⟨kvs, h, e⟩ | ⟨kvs, h, e⟩
      · exact .inl ⟨kvs, Same.rd' (same_upd hp) h, e⟩
      · exact .inr ⟨kvs, Same.rd' (same_upd hp) h, e⟩
    · obtain ⟨e2, n2⟩ := new_grow (u := .lst ys) (e1.grow (Grow.extra (o := viewO "dict_values" p a) hp)) Grow.refl hq
      exact g _ Hf1 _ (Same.refl _) e2 ⟨q, _, rfl, n2, ⟨_, rfl, rr⟩⟩
  cases r1 with
  | dk h rr => exact fin rfl (.inl ⟨_, Same.rd' e1.hp.hf h, rfl⟩) rr.vals g1
  | dt h rr => exact fin rfl (.inr ⟨_, Same.rd' e1.hp.hf h, rfl⟩) rr.vals g1
  | _ => exact g1.elim
end
end DL
set_option Elab.async false
set_option linter.all false
set_option maxRecDepth 100000
set_option maxHeartbeats 4000000
/-! DLso: sorted of a tuple. -/
namespace DL
open PySem PySem.Spec PyProof.Rows L2
section
variable {prog : Program} {w : World} {A : Around} {E : Value → Shared → Prop} {s : Shared}
theorem collect_tup {l : Addr} {vs : List Value} {Q : List Value → Shared → Prop} (hl : s.heap.IsTuple l vs.toArray)
    (h : Q vs { s with heap := (s.heap.push (seqObj "list" #[] 0)).update s.heap.objs.size (Obj.mapSeq (· ++ vs.toArray)) }) (hsz : vs.length ≤ sizeLine) :
    wpAny (model prog w) A (collect (.ref l)) Q E s := by
  obtain ⟨o, ho, hc, n, hd⟩ := id hl
  unfold collect
  refine wpAny_bind (wpAny_runValue (codeAny_builtin entry_proto_collect' ?_))
  show wpAny _ _ (do again (.builtin "list.__iadd__" ⟨[← newList [], .ref l], []⟩)) _ _ s
  refine wpAny_bind (wpAny_newList (wpAny_pure ⟨Code.quiet_builtin _ (by decide +kernel), codeAny_builtin entry_list_iadd' ?_⟩))
  show wpAny _ _ (Builtin.List.listExtendWith (.ref s.heap.objs.size) (.ref l) (.ref s.heap.objs.size)) _ _ { s with heap := s.heap.push (seqObj "list" #[] 0) }
  unfold Builtin.List.listExtendWith
  have ho' : (s.heap.push (seqObj "list" #[] 0)).get? l = some o := Heap.get?_push_of_some _ ho
  refine wpAny_bind (wpAny_typeOf (T := "tuple") ⟨o, ho', hc⟩ ?_)
  have ht : (Value.type "tuple" == Value.type "tuple") = true := by rfl
  rw [if_pos (by rw [ht]; simp)]
  refine wpAny_bind (listItems_at ho' hd ?_)
  refine wpAny_bind (listItems_at (xs := #[]) (n := 0) (Heap.get?_push_size _ rfl) rfl ?_)
  rw [if_neg (by simp)]
  refine wpAny_bind (listUpdate_at (xs := #[]) (n := 0) (Heap.get?_push_size _ rfl) rfl ?_ (Nat.zero_le _) (by show (#[] ++ vs.toArray).size ≤ sizeLine + 1; simp only [Array.size_append, List.size_toArray, List.length_nil]; omega))
  refine wpAny_pure ?_
  show wpAny (model prog w) A (do
      let o ← load s.heap.objs.size
      match o.data with
      | .seq xs _ => pure xs.toList
      | _ => unsupported "internal:collect") Q E { s with heap := (s.heap.push (seqObj "list" #[] 0)).update s.heap.objs.size (Obj.mapSeq (· ++ vs.toArray)) }
  refine wpAny_bind (wpAny_load (get?_update_seq (Heap.get?_push_size _ rfl) _) ?_)
  show wpAny _ _ (pure ((#[] : Array Value) ++ vs.toArray).toList) Q E _
  rw [show ((#[] : Array Value) ++ vs.toArray).toList = vs by simp]
  exact wpAny_pure h
theorem sorted_of_sortT {l : Addr} {vs : List Value} {kw : List (Str × Value)} {Q : Value → Shared → Prop} (hl : s.heap.IsTuple l vs.toArray) (hL : vs.length ≤ sizeLine) (ha1 : argsOk "sorted" ⟨[.ref l], kw⟩) (ha2 : ∀ x, argsOk "list.sort" ⟨[.ref x], kw⟩)
    (body : ∀ E' : Value → Shared → Prop, wpAny (model prog w) A.in1.in1 (Builtin.«list.sort» ⟨[.ref (s.heap.objs.size + 1)], kw⟩) (fun f s' => f = .done (.ret .none) ∧ Q (.ref (s.heap.objs.size + 1)) s') E' { s with heap := PySem.W.copyHeap s.heap vs }) :
    wpAny (model prog w) A (call (.builtin "sorted") [.ref l] kw) Q E s := by
  refine PyProof.Rows.call_function_entry_kw kind_sorted plain_sorted entry_sorted ha1 ?_
  unfold Builtin.«sorted»
  refine wpAny_bind (m := checkCount "sorted" 1 1 _) (wpAny_pure ?_)
  refine wpAny_bind (collect_tup hl ?_ hL)
  refine wpAny_bind (wpAny_newList ?_ hL)
  have hsz : ((s.heap.push (seqObj "list" #[] 0)).update s.heap.objs.size (Obj.mapSeq (· ++ vs.toArray))).objs.size = s.heap.objs.size + 1 := by
    rw [Heap.size_update, size_push']
  show wpAny _ _ _ _ _ { s with heap := PySem.W.copyHeap s.heap vs }
  rw [hsz]
  refine wpAny_bind (wpAny_holding (wpAny_call_entry_kw slot_list_sort ⟨_, PySem.W.copyHeap_at s.heap vs, rfl⟩ entry_list_sort ?body (ha2 _)))
  case body =>
    show wpAny (model prog w) A.in1.in1 (Builtin.«list.sort» ⟨[.ref (s.heap.objs.size + 1)], kw⟩) _ _ _
    refine wpAny_mono (body _) (fun f s' hf => ?_) fun _ _ e => e
    obtain ⟨rfl, hq⟩ := hf
    exact ⟨_, rfl, wpAny_pure ⟨_, rfl, hq⟩⟩
open PySem.W in
theorem sorted_dataT {β : Type} {vs : List Value} {bs : List β} {R : Value → β → Prop} {enc : β → PyData} {l : Addr} {Q : Value → Shared → Prop} (hl : s.heap.IsTuple l vs.toArray) (e : EachIs R vs bs) (er : EachIs (fun v b => ∃ as, Reads s.heap v (enc b) as) vs bs) (hal : AllAlike (bs.map enc)) (hk : PySem.W.Sortable (bs.map enc)) (hL : bs.length ≤ sizeLine)
    (hu : ∀ b, b ∈ bs → A.units + 2 + (enc b).depth < cLine) (h : ∀ out, out.length = bs.length → EachIs R out (bs.mergeSort (dataLe false enc)) → Q (.ref (s.heap.objs.size + 1)) { s with heap := sortedAll s.heap vs (List.toArray out) }) :
    wpAny (model prog w) A (call (.builtin "sorted") [.ref l]) Q E s := by
  have er' : EachIs (fun v b => ∃ as, Reads (sortingHeap (copyHeap s.heap vs) (s.heap.objs.size + 1) vs) v (enc b) as) vs bs := er.mono fun _ _ ⟨as, r⟩ => ⟨as, PyProof.Rows.Reads.keeps (fun _ _ => sorting_copy_old) r⟩
  have S := SortsAt.data (prog := prog) (w := w) (A := A.in1.in1) (s := { s with heap := sortingHeap (copyHeap s.heap vs) (s.heap.objs.size + 1) vs }) (each_map (R := fun v d => ∃ as, Reads (sortingHeap (copyHeap s.heap vs) (s.heap.objs.size + 1) vs) v d as) enc er') hal hk (bound_map hu)
  exact sorted_of_sortT hl (by rw [e.length]; exact hL) (args_sorted1 _) (fun _ => args_list_sort _) fun _ => list_sort_vals (s := { s with heap := copyHeap s.heap vs }) (copyHeap_at s.heap vs) S (by rw [e.length]; exact hL) ⟨rfl, h _ (by rw [sortVals_length false rfl]; exact e.length) (sortVals_data false e er' hal)⟩
end
end DL
set_option Elab.async false
set_option linter.all false
set_option maxRecDepth 100000
set_option maxHeartbeats 4000000
/-! DLs: sorted(xs), sorted(xs, key=f). -/
namespace DL
open PySem PySem.Spec PyProof.Rows L2

section
variable {K : PySem.W.Frag} {H Hf : Hp}
theorem each_of : ∀ {ws : List V} {vs : List Value} {ds : List D}, Vals ws vs → Rps K H ws ds → PySem.W.EachIs (fun v d => ∃ w, RelV w v ∧ Rp K H w d) vs ds
  | _, _, _, .nil, .nil => .nil
  | _, _, _, .cons r1 r2, .cons q1 q2 => .cons ⟨_, r1, q1⟩ (each_of r2 q2)
theorem each_back : ∀ {vs : List Value} {ds : List D}, PySem.W.EachIs (fun v d => ∃ w, RelV w v ∧ Rp K H w d) vs ds → ∃ ws, Vals ws vs ∧ Rps K H ws ds
  | _, _, .nil => ⟨[], .nil, .nil⟩
  | _, _, .cons ⟨w, r1, q1⟩ t => by
    obtain ⟨ws, r2, q2⟩ := each_back t
    exact ⟨w :: ws, .cons r1 r2, .cons q1 q2⟩
theorem keysOk_of {ks : List D} (h : keysOk ks = true) : (∀ k ∈ ks, D.okN 60 k = true) ∧ PySem.W.AllAlike (ks.map D.py) ∧ PySem.W.Sortable (ks.map D.py) := by
  unfold keysOk at h
  rw [Bool.and_eq_true, Bool.and_eq_true] at h
  obtain ⟨⟨h1, h2⟩, h3⟩ := h
  refine ⟨fun k hk => List.all_eq_true.mp h1 k hk, fun d hd d' hd' => ?_, ?_⟩
  · obtain ⟨a, ha, rfl⟩ := List.mem_map.mp hd
    obtain ⟨b, hb, rfl⟩ := List.mem_map.mp hd'
    exact List.all_eq_true.mp (List.all_eq_true.mp h2 a ha) b hb
  · rcases Bool.or_eq_true_iff.mp h3 with h3 | h3
    · refine .inl fun d hd => ?_
      obtain ⟨a, ha, rfl⟩ := List.mem_map.mp hd
      have z := List.all_eq_true.mp h3 a ha
      cases a with
      | tup xs =>
        cases xs with
        | nil => cases z
        | cons x r => exact ⟨x.py, D.pys r, rfl⟩
      | _ => cases z
    · refine .inr fun d hd => ?_
      obtain ⟨a, ha, rfl⟩ := List.mem_map.mp hd
      have z := List.all_eq_true.mp h3 a ha
      cases a <;> first | (cases z; done) | exact ⟨fun q => (nomatch q), fun xs q => (nomatch q)⟩
theorem Grow.same {Hf' H' : Hp} (g : Grow Hf H Hf' H') (s : Same Hf H) : Same Hf' H' := fun a o e => by
  rcases g.n a o e with r | ⟨_, r⟩ | ⟨_, _, r⟩
  · exact g.h _ _ (s _ _ r)
  · exact r
  · exact r
end
section
variable {X : Cx} {pins : List (Addr × Obj)} {σ : SSt} {H : Hp} {s : Shared}
theorem reads_each (I : Inv X pins σ H s) {ws : List V} {vs : List Value} {ds : List D} (r : Vals ws vs) (q : Rps X.K H ws ds) (ho : ∀ d ∈ ds, D.okN 60 d = true) : PySem.W.EachIs (fun v (d : D) => ∃ as, Reads s.heap v d.py as) vs ds := by
  have e := each_of r q
  have e2 := PySem.W.each_mem e
  exact e2.mono fun v d ⟨⟨w, r1, q1⟩, hd⟩ => Dp.reads I d.py w v (q1.dp (ho d hd)) r1
theorem depth_ok {d : D} {n : Nat} (h : D.okN 60 d = true) (hu : n + 65 < cLine) : n + 2 + d.py.depth < cLine := by
  have := (okN_lay 60 d h).2
  omega
def rSortD (K : PySem.W.Frag) : List V → Hp → VK → Prop := fun xs H Q => ∃ p ys Hf ds, xs = [.ref p] ∧ (SqL K H p ys ∨ SqT K H p ys) ∧ Same Hf H ∧ Rps K Hf ys ds ∧ keysOk ds = true ∧ ∀ l ws, H l = none → Rps K Hf ws (ds.mergeSort (PySem.W.dataLe false D.py)) → Q (.ref l) (upd H l (.lst ws))
theorem call_sortD (hu : X.A.units + 65 < cLine) : CallR X (.builtin "sorted") (rSortD X.K) := by
  intro pins s σ H xs us Q I r ⟨p, ys, Hf, ds, exs, hq, sm, rp, hk, q⟩
  subst exs
  obtain rfl := Vals.ref1 r
  obtain ⟨its, rv, hl, hz⟩ : ∃ its : List Value, Vals ys its ∧ (s.heap.IsList p its.toArray ∨ s.heap.IsTuple p its.toArray) ∧ ys.length ≤ sizeLine := by
    rcases hq with hq | hq
    · obtain ⟨its, rv, hl, hz⟩ := I.list hq
      exact ⟨its, rv, .inl hl.isList, hz⟩
    · obtain ⟨its, rv, hl, hz⟩ := I.tuple hq
      exact ⟨its, rv, .inr hl, hz⟩
  obtain ⟨k1, k2, k3⟩ := keysOk_of hk
  have hlen : ys.length = its.length := Paired.length rv
  have fin : ∀ out : List Value, out.length = ds.length → PySem.W.EachIs (fun v d => ∃ w, RelV w v ∧ Rp X.K Hf w d) out (ds.mergeSort (PySem.W.dataLe false D.py)) → EP X pins σ Q (.ref (s.heap.objs.size + 1)) { s with heap := sortedAll s.heap its (List.toArray out) } := fun out ho he => by
    obtain ⟨ws, w1, w2⟩ := each_back he
    obtain ⟨ep, he'⟩ := PyProof.Rows.sortedAll_at s.heap its out.toArray
    have hwl : ws.length ≤ sizeLine := by
      rw [Paired.length w1, ho, ← rp.length]
      exact hz
    exact ⟨.ref _, upd H (s.heap.objs.size + 1) (.lst ws), I.laid (t' := s.toks) (fun _ _ => PyProof.Rows.sortedAll_old) (Nat.le_succ _) ⟨hwl, out, ep, w1, he'⟩, rfl, q _ _ (I.hok.fresh (Nat.le_succ _)) w2⟩
  rcases hl with hl | hl
  · exact PySem.W.sorted_data (enc := D.py) (R := fun v d => ∃ w, RelV w v ∧ Rp X.K Hf w d) hl (each_of rv rp) (reads_each I rv (Rps.mono sm rp) k1) k2 k3 (by rw [← rp.length]; exact hz) (fun d hd => depth_ok (k1 d hd) hu) fin
  · exact sorted_dataT (enc := D.py) (R := fun v d => ∃ w, RelV w v ∧ Rp X.K Hf w d) hl (each_of rv rp) (reads_each I rv (Rps.mono sm rp) k1) k2 k3 (by rw [← rp.length]; exact hz) (fun d hd => depth_ok (k1 d hd) hu) fin
end
/-! ### sorted(xs, key=f) -/
section
variable {X : Cx} {pins : List (Addr × Obj)} {σ : SSt} {H : Hp} {s : Shared} {h' : Heap}
/-- records of ours have turned, one of them is tracked from now on -/
theorem inv_adopt {t' : Nat} {ch : List Addr} {T : Addr} {ob : HO} (I : Inv X pins σ H s) (k : ∀ b o, b ∉ ch → s.heap.get? b = some o → h'.get? b = some o) (hf : ∀ b ∈ ch, FpOk X pins H b) (hT : T ∈ ch)
    (new : ObjOk X.prog X.w (upd H T ob) h' T ob) : Inv X pins σ (upd H T ob) { s with heap := h', toks := t' } := by
  have hn : H T = none := (hf T hT).1
  have nit : ∀ b u, H b = some u → b ∉ ch := fun b u e z => by
    have q := (hf b z).1
    rw [q] at e; cases e
  have un : ∀ b u, H b = some u → upd H T ob b = some u := fun b u e => by
    rw [upd_ne (fun z => by rw [z, hn] at e; cases e)]
    exact e
  refine I.step (g' := s.gens) (d' := s.drawn) (ch := ch) (fun b hb => ?_) (fun b o _ _ hc e _ => k b o hc e) (fun b o _ _ hc e _ => ⟨_, k b o hc e⟩) (fun b o hc e n => ?_) (fun b o hc e => ⟨_, k b o hc e⟩) (fun b xs e => un _ _ e) (fun b o u e => un _ _ e) (fun b ps e => ⟨#[], ?_⟩) (fun m hm => ?_) (fun b u e => ?_) I.bare
  · obtain ⟨_, q2, _, q4, q5, q6⟩ := hf b hb
    exact ⟨q4, q2, q5, q6⟩
  · rw [upd_ne (fun z => hc (by rw [z]; exact hT))]
    exact n
  · rw [un _ _ e]
    simp
  · obtain ⟨o, es, ep, ho, r⟩ := hm
    exact ⟨o, es, ep, k _ o (fun z => (hf _ z).2.1 rfl) ho, r⟩
  · by_cases hb : b = T
    · rw [hb, upd_same] at e
      cases e
      rw [hb]
      exact new
    · rw [upd_ne hb] at e
      refine (I.hok b u e).stay (fun c v hc q => k c v (fun z => ?_) q) (fun c q => un _ _ q) fun c xs q => un _ _ q
      rcases hc with y | y
      · exact nit b u e (by rw [← y]; exact z)
      · exact nit c _ y z
end
theorem keysD_cons {den : List D → DR} {x : D} {xs ks : List D} (h : keysD den (x :: xs) = some ks) : ∃ k r, den [x] = .ok k ∧ keysD den xs = some r ∧ ks = k :: r := by
  unfold keysD at h
  cases h1 : den [x] with
  | no => rw [h1] at h; cases h
  | ex e => rw [h1] at h; cases h
  | ok k =>
    cases h2 : keysD den xs with
    | none => rw [h1, h2] at h; cases h
    | some r =>
      rw [h1, h2] at h
      cases h
      exact ⟨k, r, rfl, rfl, rfl⟩
theorem keysD_at {den : List D → DR} : ∀ {xs ks : List D}, keysD den xs = some ks → ks.length = xs.length ∧ ks.map D.py = xs.map (keyP den) ∧ ∀ (j : Nat) (x : D), xs[j]? = some x → ∃ k, ks[j]? = some k ∧ den [x] = .ok k
  | [], ks, h => by
    cases h
    exact ⟨rfl, rfl, fun j x e => by simp at e⟩
  | x :: xs, ks, h => by
    obtain ⟨k, r, h1, h2, rfl⟩ := keysD_cons h
    obtain ⟨l1, l2, l3⟩ := keysD_at h2
    refine ⟨congrArg (· + 1) l1, ?_, fun j y e => ?_⟩
    · rw [List.map_cons, List.map_cons, l2]
      unfold keyP
      rw [h1]
    · cases j with
      | zero =>
        have e : x = y := by simpa using e
        subst e
        exact ⟨k, rfl, h1⟩
      | succ j =>
        obtain ⟨z, e1, e2⟩ := l3 j y (by simpa using e)
        exact ⟨z, by simpa using e1, e2⟩
theorem list_ne {c : Addr} {xs : Array Value} {n : Nat} : ∀ v, (seqObj "list" xs n).data ≠ .cell v := fun v q => by cases q
section
variable {X : Cx} {pins : List (Addr × Obj)} {σ : SSt} {H : Hp} {s : Shared}
theorem sorted_key {k : Nat} {f : Addr} {fd : FuncData} {ps : List Str} {den : List D → DR} (F : FnOk X.prog X.w X.K X.mg X.base (L2.CX X.prog X.w) k f fd ps (spD X.K 1 den)) (hr : Room (k + 2) X.A) (hb : Binds X.K fd ps [])
    {p : Addr} {xs : List V} {Hf : Hp} {ds ks : List D} {Q : VK} (I : Inv X pins σ H s) (hs : SqL X.K H p xs) (sm : Same Hf H) (nd : NoD Hf) (rx : Rps X.K Hf xs ds) (hk : keysD den ds = some ks) (ho : keysOk ks = true)
    (q : ∀ l ws Hf' H', Grow Hf H Hf' H' → H l = none → Hf' l = none → H' l = some (.lst ws) → Rps X.K Hf' ws (ds.mergeSort (PySem.W.dataLe false (keyP den))) → Q (.ref l) H') :
    wpAny (model X.prog X.w) X.A (call (.builtin "sorted") [.ref p] [(Str.ofString "key", .ref f)]) (EP X pins σ Q) X.xe s := by
  obtain ⟨its, rv, hl, hzl⟩ := I.list hs
  obtain ⟨k1, k2, k3⟩ := keysOk_of ho
  obtain ⟨l1, l2, l3⟩ := keysD_at hk
  have hxl : xs.length = its.length := Paired.length rv
  have hn : its.length ≤ sizeLine := by rw [← hxl]; exact hzl
  have hdl : ds.length = its.length := by rw [← rx.length]; exact hxl
  refine PySem.W.sorted_of_sort (vs := its) hl.isList hn (PyProof.Rows.ksk_s1 _ _) (fun _ => PyProof.Rows.ksk_l1 _ _) fun E' => ?_
  rw [PyProof.Rows.ksk_t1]
  have hA := PySem.W.copyHeap_at s.heap its
  obtain ⟨e1, hA1⟩ : ∃ e1, ((PySem.W.copyHeap s.heap its).update (s.heap.objs.size + 1) (Obj.mapSeq fun _ => (#[] : Array Value))).get? (s.heap.objs.size + 1) = some (seqObj "list" #[] e1) := ⟨_, get?_update_seq hA fun _ => #[]⟩
  generalize ha : s.heap.objs.size + 1 = a at hA hA1 ⊢
  have han : s.heap.objs.size ≤ a := by omega
  have hal : a < (PySem.W.copyHeap s.heap its).objs.size := Heap.lt_size hA
  unfold PyProof.Rows.ksk_tree
  refine wpAny_bind (listItems_at hA rfl ?_)
  refine wpAny_bind (listUpdate_at hA rfl ?_ (by rw [List.size_toArray]; exact hn) (Nat.zero_le _))
  refine wpAny_bind (seqEpoch_at hA1 rfl ?_)
  refine wpAny_bind (wpAny_newTuple ?_ (show its.length ≤ sizeLine from hn))
  refine wpAny_bind (wpAny_newList ?_ (Nat.zero_le _))
  refine wpAny_holding ?_
  -- the state behind
  generalize hG : (PySem.W.copyHeap s.heap its).update a (Obj.mapSeq fun _ => (#[] : Array Value)) = G at hA1 ⊢
  have hGs : G.objs.size = (PySem.W.copyHeap s.heap its).objs.size := by rw [← hG]; exact Heap.size_update ..
  have hGk : ∀ b o, s.heap.get? b = some o → G.get? b = some o := fun b o e => by
    have hb : b ≠ a := Nat.ne_of_lt (Nat.lt_of_lt_of_le (Heap.lt_size e) han)
    rw [← hG, Heap.get?_update_ne _ _ _ _ hb]
    exact PySem.W.copyHeap_old e
  generalize hT : (G.push { cls := .type "tuple", data := .seq its.toArray }) = T
  have hTs : T.objs.size = G.objs.size + 1 := by rw [← hT]; exact size_push' ..
  have hTk : ∀ b o, G.get? b = some o → T.get? b = some o := fun b o e => by rw [← hT]; exact Heap.get?_push_of_some _ e
  generalize hc : T.objs.size = c
  have hca : a < c := by omega
  have hcs : s.heap.objs.size ≤ c := by omega
  have fa : FpOk X pins H a := I.fpOk han (I.hok.fresh han)
  have fc : FpOk X pins H c := I.fpOk hcs (I.hok.fresh hcs)
  have hL2 : (T.push { cls := .type "list", data := .seq ([] : List Value).toArray }).get? c = some (seqObj "list" #[] 0) := by rw [← hc]; exact Heap.get?_push_size _ rfl
  have hA2 : (T.push { cls := .type "list", data := .seq ([] : List Value).toArray }).get? a = some (seqObj "list" #[] e1) := Heap.get?_push_of_some _ (hTk _ _ hA1)
  have I2 : L2.Inv X pins σ H { s with heap := T.push { cls := .type "list", data := .seq ([] : List Value).toArray } } := I.kept (t' := s.toks) fun b o e => Heap.get?_push_of_some _ (hTk _ _ (hGk _ _ e))
  unfold PyProof.Rows.ksk_rest
  refine wpAny_bind (wpAny_rule ?_)
  first
    | rw [List.forIn_toArray]
    | (rw [← Array.forIn_toList]; simp only [List.toList_toArray])
    | rw [← Array.forIn_toList]
  -- the turns' word
  let J : Nat → Shared → Prop := fun i s' => ∃ Hf' H' ws kA n, L2.Inv X ((a, seqObj "list" #[] e1) :: (c, seqObj "list" kA n) :: pins) σ H' s' ∧ Grow Hf H Hf' H' ∧ Vals ws kA.toList ∧ Rps X.K Hf' ws (ks.take i)
  have pinned : ∀ {H' : Hp} {s' : Shared} {kA : Array Value} {n : Nat}, L2.Inv X pins σ H' s' → H' a = none → H' c = none → s'.heap.get? a = some (seqObj "list" #[] e1) → s'.heap.get? c = some (seqObj "list" kA n) →
      L2.Inv X ((a, seqObj "list" #[] e1) :: (c, seqObj "list" kA n) :: pins) σ H' s' := fun I' na nc ea ec => I'.pins_of fun p hp => by
    rcases List.mem_cons.mp hp with rfl | hp
    · exact ⟨ea, na, fa.2.1, fa.2.2.1, fun v z => nomatch z⟩
    · rcases List.mem_cons.mp hp with rfl | hp
      · exact ⟨ec, nc, fc.2.1, fc.2.2.1, fun v z => nomatch z⟩
      · exact I'.pin p (List.mem_append_right _ hp)
  refine wpAny_bind (PyProof.Rows.ksk_fold J its 0 _ ⟨Hf, H, [], #[], 0, pinned I2 fa.1 fc.1 hA2 hL2, Grow.refl, .nil, by rw [List.take_zero]; exact .nil⟩ ?step ?done)
  case step =>
    rintro j x s' hx ⟨Hf', H', ws, kA, n, I', gr, rw_, rk⟩
    simp only [Nat.zero_add] at rk ⊢
    have hj : j < its.length := (List.getElem?_eq_some_iff.mp hx).1
    obtain ⟨w, hw, rwx⟩ : ∃ w, xs[j]? = some w ∧ RelV w x := by
      obtain ⟨w, hw⟩ : ∃ w, xs[j]? = some w := ⟨_, List.getElem?_eq_getElem (by omega)⟩
      obtain ⟨u, hu, ru⟩ := Vals.get rv hw
      rw [hx] at hu
      cases hu
      exact ⟨w, hw, ru⟩
    obtain ⟨d, hd, rwd⟩ := rx.getV hw
    obtain ⟨kd, hkd, hden⟩ := l3 j d hd
    have sm' : Same Hf' H' := gr.same sm
    have sp : spD X.K 1 den [w] H' (fun v H2 => ∃ Hf2, Grow Hf' H' Hf2 H2 ∧ Rp X.K Hf2 v kd) (fun _ _ _ => False) := by
      refine ⟨Hf', [d], sm', gr.d nd, .cons (rwd.mono gr.f) .nil, rfl, ?_⟩
      rw [hden]
      exact fun v Hf2 H2 g2 r2 => ⟨Hf2, g2, r2⟩
    have hlen := F.len _ _ _ _ sp
    refine wpAny_bind (wpAny_attempt (wpAny_mono (Q := fun u s2 => EP X ((a, seqObj "list" #[] e1) :: (c, seqObj "list" kA n) :: pins) σ (fun v H2 => ∃ Hf2, Grow Hf' H' Hf2 H2 ∧ Rp X.K Hf2 v kd) u s2) (E := fun _ _ => False)
      (wpAny_call (codeAny_mono (F.run X.A.in1.in1 X.stack s' H' ⟨[x], []⟩ [x] [w] _ _ (Room.in1 (Room.in1 hr)) I'.env0.in1.in1 (hb s' [x] I'.kIn hlen) (.cons rwx .nil) sp) fun r s2 hq => ?_)) (fun v s2 he => ?_) fun _ _ hF => hF.elim))
    · cases r with
      | error e =>
        obtain ⟨_, _, _, _, _, _, _, _, _, _, _, _, z⟩ := hq
        exact z
      | ok fl =>
        cases fl with
        | ret u => exact I'.after hq
        | next => exact hq
        | brk => exact hq
        | cont => exact hq
    · obtain ⟨kv, H2, I3, rkv, Hf2, g2, r2⟩ := he
      have pa := I3.pin (a, seqObj "list" #[] e1) (List.mem_append_right _ List.mem_cons_self)
      have pc := I3.pin (c, seqObj "list" kA n) (List.mem_append_right _ (List.mem_cons_of_mem _ List.mem_cons_self))
      have hks : kA.size = j := by
        have q1 := Paired.length rw_
        have q2 := rk.length
        rw [List.length_take, l1, hdl] at q2
        have q3 : kA.size = ws.length := q1.symm
        rw [q3, q2]
        exact Nat.min_eq_left (Nat.le_of_lt hj)
      dsimp only
      have sb := Heap.SameBut.update s2.heap c (Obj.mapSeq (·.push v))
      obtain ⟨m, hm⟩ : ∃ m, (s2.heap.update c (Obj.mapSeq (·.push v))).get? c = some (seqObj "list" (kA.push v) m) := ⟨_, get?_update_seq pc.1 (·.push v)⟩
      refine wpAny_bind (listUpdate_at pc.1 rfl ?_ (by omega) (by rw [Array.size_push]; omega))
      have I4 : L2.Inv X ((a, seqObj "list" #[] e1) :: pins) σ H2 s2 := I3.pins_of fun p hp => I3.pin p (List.mem_append_right _ (by
        rcases List.mem_cons.mp hp with rfl | hp
        · exact List.mem_cons_self
        · exact List.mem_cons_of_mem _ (List.mem_cons_of_mem _ hp)))
      have I5 : L2.Inv X ((a, seqObj "list" #[] e1) :: pins) σ H2 { s2 with heap := s2.heap.update c (Obj.mapSeq (·.push v)) } := I4.turned (t' := s2.toks) (fun b o hb e => (sb.2 b hb).trans e) pc.2.1 fc.2.1 fc.2.2.2.1 fc.2.2.2.2.1 fun p hp => by
        rcases List.mem_append.mp hp with hp | hp
        · exact fc.2.2.2.2.2 p (List.mem_append_left _ hp)
        · rcases List.mem_cons.mp hp with rfl | hp
          · exact Nat.ne_of_lt hca
          · exact fc.2.2.2.2.2 p (List.mem_append_right _ hp)
      have I6 : L2.Inv X pins σ H2 { s2 with heap := s2.heap.update c (Obj.mapSeq (·.push v)) } := I5.pins_of fun p hp => I5.pin p (List.mem_append_right _ (List.mem_cons_of_mem _ hp))
      have ha6 : (s2.heap.update c (Obj.mapSeq (·.push v))).get? a = some (seqObj "list" #[] e1) := (sb.2 a (Nat.ne_of_lt hca)).trans pa.1
      refine wpAny_pure ⟨rfl, Hf2, H2, ws ++ [kv], kA.push v, m, pinned I6 pa.2.1 pc.2.1 ha6 hm, gr.trans g2, ?_, ?_⟩
      · rw [Array.toList_push]
        exact Vals.append rw_ (.cons rkv .nil)
      · rw [List.take_add_one, hkd]
        exact Rps.append (rk.mono g2.f) (.cons r2 .nil)
  case done =>
    rintro s' ⟨Hf', H', ws, kA, n, I', gr, rw_, rk⟩
    simp only [Nat.zero_add] at rk
    rw [List.take_of_length_le (by omega)] at rk
    have sm' : Same Hf' H' := gr.same sm
    have pa := I'.pin (a, seqObj "list" #[] e1) (List.mem_append_right _ List.mem_cons_self)
    have pc := I'.pin (c, seqObj "list" kA n) (List.mem_append_right _ (List.mem_cons_of_mem _ List.mem_cons_self))
    have hks : kA.size = its.length := by
      have q1 := Paired.length rw_
      have q2 := rk.length
      have q3 : kA.size = ws.length := q1.symm
      rw [q3, q2, l1, hdl]
    have Ip : L2.Inv X pins σ H' s' := I'.pins_of fun p hp => I'.pin p (List.mem_append_right _ (List.mem_cons_of_mem _ (List.mem_cons_of_mem _ hp)))
    have er := PySem.W.each_map (R := fun v d => ∃ as, Reads s'.heap v d as) D.py (reads_each I' rw_ (rk.mono sm') k1)
    refine wpAny_bind (listItems_at pc.1 rfl ?_)
    obtain ⟨B, b1, b2⟩ := L2.restrict s'.heap fun b => decide (b ≠ c)
    have bc : B.get? c = none := b2 c (decide_eq_false fun z => z rfl)
    have bk : ∀ b o, b ≠ c → s'.heap.get? b = some o → B.get? b = some o := fun b o hb e => (b1 b (decide_eq_true hb)).trans e
    refine PySem.W.keyH_end (κ := PySem.W.dataKind s'.heap (ks.map D.py)) (h₁ := B) (fun b o hb e => ?_) bc pc.1 pa.1 (Nat.ne_of_gt hca) (PySem.W.SortsAt.data (s := s') er k2 k3 fun d hd => ?_) hks hn fun h2 tk m kp ho2 => ⟨rfl, ?_⟩
    · by_cases hb2 : b = c
      · rw [hb2, bc] at e; cases e
      · exact (b1 b (decide_eq_true hb2)).symm.trans e
    · obtain ⟨y, hy, rfl⟩ := List.mem_map.mp hd
      have q1 := (okN_lay 60 y (k1 y hy)).2
      have q2 := hr.un
      show X.A.units + 1 + 1 + _ < _
      omega
    · have ko : PySem.W.KeyedOut false (ds.map (keyP den)) its (PySem.W.sortVals (PySem.W.dataKind s'.heap (ks.map D.py)) false kA.toList its) := by
        rw [← l2]
        exact ⟨s'.heap, kA.toList, k2, rfl, er⟩
      have eo := PySem.W.keyedOut_each (keyP den) ko (each_of rv rx)
      obtain ⟨zs, z1, z2⟩ := each_back eo
      have hzl2 : zs.length ≤ sizeLine := by
        rw [z2.length, List.length_mergeSort, hdl]
        exact hn
      have fa' : FpOk X pins H' a := ⟨pa.2.1, fa.2⟩
      have fc' : FpOk X pins H' c := ⟨pc.2.1, fc.2⟩
      have I7 : L2.Inv X pins σ (upd H' a (.lst zs)) { s' with heap := h2, toks := tk } := inv_adopt (ch := [a, c]) Ip (fun b o hb e => ?_) (fun b hb => ?_) List.mem_cons_self ⟨hzl2, _, m, z1, ho2⟩
      · refine ⟨.ref a, _, I7, rfl, q a zs Hf' (upd H' a (.lst zs)) ⟨gr.f, fun b o e => ?_, fun b o e => ?_, gr.d⟩ fa.1 ?_ upd_same (z2.mono gr.f)⟩
        · rw [upd_ne (fun z => by rw [z, fa.1] at e; cases e)]
          exact gr.h _ _ e
        · rcases gr.n b o e with y | ⟨y1, y2⟩ | ⟨us, y1, y2⟩
          · exact .inl y
          · exact .inr (.inl ⟨y1, by rw [upd_ne (fun z => by rw [z, pa.2.1] at y2; cases y2)]; exact y2⟩)
          · exact .inr (.inr ⟨us, y1, by rw [upd_ne (fun z => by rw [z, pa.2.1] at y2; cases y2)]; exact y2⟩)
        · exact sm'.free pa.2.1
      · have hb1 : b ≠ a := fun z => hb (by rw [z]; exact List.mem_cons_self)
        have hb2 : b ≠ c := fun z => hb (by rw [z]; exact List.mem_cons_of_mem _ List.mem_cons_self)
        exact kp b o hb1 (bk b o hb2 e)
      · rcases List.mem_cons.mp hb with rfl | hb
        · exact fa'
        · obtain rfl := List.mem_singleton.mp hb
          exact fc'
end
section
variable {X : Cx} {W : WX} {ma : Env → R D}
theorem pn_sort {e : Expr} (ha : PE X e (tCB (rSortD X.K) (tCons (rd X.K W ma) tNil))) : PE X e (rdN X.K W fun ρ => (ma ρ).bind fun x ρ1 => R.of (sortD x) ρ1) := by
  refine PEweak ha fun σ H Q ⟨Fr, Hf, ρ, e, g⟩ => ⟨Fr, Hf, ρ, e, (Go.bind g).imp fun v H1 ⟨d1, Hf1, ρ1, s1, e1, r1, g1⟩ => ?_⟩
  cases r1 with
  | @lst a xs ds h rr =>
    have g1 : Go X.K W Fr Hf1 σ (PN X.K Fr σ) (R.of (if keysOk ds ∧ ds.length ≤ sizeL then some (.lst (ds.mergeSort (PySem.W.dataLe false D.py))) else none) ρ1) Q := g1
    by_cases hz : keysOk ds = true ∧ ds.length ≤ sizeL
    · rw [if_pos hz] at g1
      refine ⟨_, xs, Hf1, ds, rfl, .inl (SqL.of (e1.hp.hf _ _ h)), e1.hp.hf, rr, hz.1, fun l ws hl rw_ => ?_⟩
      obtain ⟨e2, n2⟩ := new_grow (u := .lst ws) e1 Grow.refl hl
      exact g1 _ Hf1 _ (Same.refl _) e2 ⟨l, _, rfl, n2, ws, rfl, rw_⟩
    · rw [if_neg hz] at g1; exact g1.elim
  | @tup a xs ds h rr =>
    have g1 : Go X.K W Fr Hf1 σ (PN X.K Fr σ) (R.of (if keysOk ds ∧ ds.length ≤ sizeL then some (.lst (ds.mergeSort (PySem.W.dataLe false D.py))) else none) ρ1) Q := g1
    by_cases hz : keysOk ds = true ∧ ds.length ≤ sizeL
    · rw [if_pos hz] at g1
      refine ⟨_, xs, Hf1, ds, rfl, .inr (SqT.of (e1.hp.hf _ _ h)), e1.hp.hf, rr, hz.1, fun l ws hl rw_ => ?_⟩
      obtain ⟨e2, n2⟩ := new_grow (u := .lst ws) e1 Grow.refl hl
      exact g1 _ Hf1 _ (Same.refl _) e2 ⟨l, _, rfl, n2, ws, rfl, rw_⟩
    · rw [if_neg hz] at g1; exact g1.elim
  | _ => exact g1.elim
/-- the rule by values: sorted(xs, key=f) -/
def rSortK (K : PySem.W.Frag) (f : Addr) (den : List D → DR) : List V → List V → Hp → VK → Prop := fun vs zs H Q => zs = [.ref f] ∧ ∃ (p : Addr) (xs : List V) (Hf : Hp) (ds ks : List D), vs = [.ref p] ∧ SqL K H p xs ∧ Same Hf H ∧ NoD Hf ∧ Rps K Hf xs ds ∧ keysD den ds = some ks ∧ keysOk ks = true ∧
  ∀ l ws Hf' H', Grow Hf H Hf' H' → H l = none → Hf' l = none → H' l = some (.lst ws) → Rps K Hf' ws (ds.mergeSort (PySem.W.dataLe false (keyP den))) → Q (.ref l) H'
theorem call_sortK {k : Nat} {f : Addr} {fd : FuncData} {ps : List Str} {den : List D → DR} (F : FnOk X.prog X.w X.K X.mg X.base (L2.CX X.prog X.w) k f fd ps (spD X.K 1 den)) (hr : Room (k + 2) X.A) (hb : Binds X.K fd ps []) : CallRK X (.builtin "sorted") [Str.ofString "key"] (rSortK X.K f den) := by
  intro pins s σ H vs zs us ws Q I r rz ⟨ez, p, xs, Hf, ds, ks, ev, hs, sm, nd, rp, hk, ho, q⟩
  subst ez ev
  obtain rfl := Vals.ref1 r
  obtain rfl := Vals.ref1 rz
  exact sorted_key F hr hb I hs sm nd rp hk ho q
theorem pn_sortk {e : Expr} {f : Addr} {den : List D → DR} (ha : PE X e (tCKw (rSortK X.K f den) (tCons (rd X.K W ma) tNil) (tCons (tC (.ref f)) tNil))) : PE X e (rdN X.K W fun ρ => (ma ρ).bind fun x ρ1 => R.of (sortKD den x) ρ1) := by
  refine PEweak ha fun σ H Q ⟨Fr, Hf, ρ, e, g⟩ => ⟨Fr, Hf, ρ, e, (Go.bind g).imp fun v H1 ⟨d1, Hf1, ρ1, s1, e1, r1, g1⟩ => ?_⟩
  cases r1 with
  | @lst a xs ds h rr =>
    cases hk : keysD den ds with
    | none =>
      have g1 : Go X.K W Fr Hf1 σ (PN X.K Fr σ) (R.of (match keysD den ds with
        | some ks => if keysOk ks ∧ ds.length ≤ sizeL then some (.lst (ds.mergeSort (PySem.W.dataLe false (keyP den)))) else none
        | none => none) ρ1) Q := g1
      rw [hk] at g1; exact g1.elim
    | some ks =>
      have g1 : Go X.K W Fr Hf1 σ (PN X.K Fr σ) (R.of (match keysD den ds with
        | some ks => if keysOk ks ∧ ds.length ≤ sizeL then some (.lst (ds.mergeSort (PySem.W.dataLe false (keyP den)))) else none
        | none => none) ρ1) Q := g1
      rw [hk] at g1
      have g1 : Go X.K W Fr Hf1 σ (PN X.K Fr σ) (R.of (if keysOk ks ∧ ds.length ≤ sizeL then some (.lst (ds.mergeSort (PySem.W.dataLe false (keyP den)))) else none) ρ1) Q := g1
      by_cases hz : keysOk ks = true ∧ ds.length ≤ sizeL
      · rw [if_pos hz] at g1
        refine ⟨rfl, _, xs, Hf1, ds, ks, rfl, SqL.of (e1.hp.hf _ _ h), e1.hp.hf, e1.hp.nd, rr, hk, hz.1, fun l ws Hf2 H2 gr hl hl2 hl3 rw_ => ?_⟩
        have e2 := e1.grow gr
        refine g1 _ Hf2 _ gr.f e2 ⟨l, .lst ws, rfl, ⟨e1.hp.fr.free hl, hl2, hl3, fun i o => ?_⟩, ws, rfl, rw_⟩
        obtain ⟨_, _, u, q, _⟩ := e1.own o
        rw [hl] at q
        cases q
      · rw [if_neg hz] at g1; exact g1.elim
  | _ => exact g1.elim
end
end DL
set_option Elab.async false
set_option linter.all false
set_option maxRecDepth 100000
set_option maxHeartbeats 4000000
/-! DLf: targets, what is walked, comprehensions. -/
namespace DL
open PySem PySem.Spec PyProof.Rows L2

/-! ### targets -/
/-- the slots outside are as they were -/
def Agree (σ σ' : SSt) (is : List Nat) : Prop := σ'.length = σ.length ∧ ∀ j, j ∉ is → σ'[j]? = σ[j]?
def gD (K : PySem.W.Frag) (tg : Tg) : TG := fun v σ H Q => ∃ Fr Hf ρ d ρ', EnvAt K Fr Hf ρ σ H ∧ Rp K Hf v d ∧ asg tg d ρ = some ρ' ∧ ∀ σ', Agree σ σ' tg.slots → EnvAt K Fr Hf ρ' σ' H → Q σ' H
section
variable {X : Cx}
theorem pg_nameD {i : Nat} {x : Str} {pos : Pos} (hN : X.N.Nodup) (hi : X.N[i]? = some x) (hx : Loc X.env.scope x) (hf : X.fn x = true ∨ X.env.scope.names.lookup x = some .local) : PG X (.Name x pos) (gD X.K (.name i)) := by
  refine ⟨fun pins s σ H v u Q I r ⟨Fr, Hf, ρ, d, ρ', e, rv, ha, q⟩ => (pg_name hN hi hx hf).run pins s σ H v u Q I r ?_⟩
  have ha' : (if i < ρ.length then some (ρ.set i (.fz d)) else none) = some ρ' := ha
  by_cases hl : i < ρ.length
  · rw [if_pos hl] at ha'
    cases ha'
    exact q _ ⟨List.length_set, fun j hj => List.getElem?_set_ne (fun z => hj (by simp [Tg.slots, z]))⟩ (e.store hl rv)
  · rw [if_neg hl] at ha'; cases ha'
/-- names one after another -/
def gsD (K : PySem.W.Frag) (is : List Nat) : TGs := fun vs σ H Q => ∃ Fr Hf ρ ds, EnvAt K Fr Hf ρ σ H ∧ Rps K Hf vs ds ∧ is.length = ds.length ∧ is.all (· < ρ.length) = true ∧
  ∀ σ', Agree σ σ' is → EnvAt K Fr Hf ((is.zip ds).foldl (fun ρ p => ρ.set p.1 (.fz p.2)) ρ) σ' H → Q σ' H
theorem pgs_nilD : PGs X [] (gsD X.K []) := by
  refine ⟨fun pins s σ H vs us Q I r ⟨Fr, Hf, ρ, ds, e, rv, hl, _, q⟩ => pgs_nil.run pins s σ H vs us Q I r ?_⟩
  cases ds with
  | nil =>
    cases rv
    exact ⟨rfl, q σ ⟨rfl, fun _ _ => rfl⟩ e⟩
  | cons d ds => cases hl
theorem pgs_consD {i : Nat} {is : List Nat} {x : Str} {pos : Pos} {es : List Expr} (hN : X.N.Nodup) (hi : X.N[i]? = some x) (hx : Loc X.env.scope x) (hf : X.fn x = true ∨ X.env.scope.names.lookup x = some .local) (h2 : PGs X es (gsD X.K is))
    (hs : (assignEach (.Name x pos :: es) X.env).map (·.2) = assign (.Name x pos) X.env :: (assignEach es X.env).map (·.2)) : PGs X (.Name x pos :: es) (gsD X.K (i :: is)) := by
  refine ⟨fun pins s σ H vs us Q I r ⟨Fr, Hf, ρ, ds, e, rv, hl, ha, q⟩ => (pgs_cons (pg_name hN hi hx hf) h2 hs).run pins s σ H vs us Q I r ?_⟩
  cases rv with
  | nil => cases hl
  | @cons v vs d ds r1 rr =>
    obtain ⟨ha1, ha2⟩ := Bool.and_eq_true_iff.mp (show (decide (i < ρ.length) && is.all (· < ρ.length)) = true from ha)
    have hil : i < ρ.length := of_decide_eq_true ha1
    refine ⟨v, vs, rfl, Fr, Hf, ρ.set i (.fz d), ds, e.store hil r1, rr, Nat.succ.inj hl, by simpa [List.length_set] using ha2, fun σ' ag e' => q σ' ⟨ag.1.trans List.length_set, fun j hj => ?_⟩ e'⟩
    rw [ag.2 j (fun z => hj (List.mem_cons_of_mem _ z)), List.getElem?_set_ne (fun z => hj (by rw [z]; exact List.mem_cons_self))]
theorem pg_tupD {es : List Expr} {k : Nat} {is : List Nat} {pos : Pos} (hc : X.calm = true) (h : PGs X es (gsD X.K is)) (hn : (assignEach es X.env).length = is.length) (hst : (assignEach es X.env).findIdx? (·.1) = none) : PG X (.Tuple es k pos) (gD X.K (.tup is)) := by
  refine ⟨fun pins s σ H v u Q I r ⟨Fr, Hf, ρ, d, ρ', e, rv, ha, q⟩ => (pg_tup hc h hn hst).run pins s σ H v u Q I r ?_⟩
  cases rv with
  | @tup a xs ds h1 r1 =>
    have ha' : (if is.length = ds.length ∧ is.all (· < ρ.length) then some ((is.zip ds).foldl (fun ρ p => ρ.set p.1 (.fz p.2)) ρ) else none) = some ρ' := ha
    by_cases hl : is.length = ds.length ∧ is.all (· < ρ.length)
    · rw [if_pos hl] at ha'
      cases ha'
      exact ⟨a, xs, rfl, SqT.of (e.hp.hf _ _ h1), by rw [r1.length, hl.1], Fr, Hf, ρ, ds, e, r1, hl.1, hl.2, q⟩
    · rw [if_neg hl] at ha'; cases ha'
  | _ => cases ha
end

/-! ### what is walked -/
/-- the iterator yields these, whatever the heap does meanwhile -/
def Iter (K : PySem.W.Frag) (J : L2.It) (ds : List D) (Hf : Hp) : Prop := ∀ Fr Hf2 H2 (i : Nat), Same Hf Hf2 → HeapAt Fr Hf2 H2 →
  (∀ d, ds[i]? = some d → J.go i H2 ∧ ∀ x H3, J.yld i H2 x H3 → ∃ Hf3, Grow Hf2 H2 Hf3 H3 ∧ Rp K Hf3 x d) ∧ (ds.length ≤ i → J.stop i H2)
abbrev PIt (K : PySem.W.Frag) : Hp → Hp → Env → L2.It → List D → Prop := fun Hf _ _ J ds => Iter K J ds Hf
def rdI (K : PySem.W.Frag) (W : WX) (m : Env → R (List D)) : TI := fun σ H Rr => ∃ Fr Hf ρ, EnvAt K Fr Hf ρ σ H ∧ Go K W Fr Hf σ (PIt K) (m ρ) Rr
section
variable {X : Cx} {W : WX} {tg a b : Expr} {ma mb : Env → R D} {pos p : Pos}
theorem iter_listA {K : PySem.W.Frag} {Hf : Hp} {c : Addr} {xs : List V} {ds : List D} (h : SqL K Hf c xs) (r : Rps K Hf xs ds) : Iter K (Itl K c) ds Hf := by
  intro Fr Hf2 H2 i s hp
  have sH := s.trans hp.hf
  have h2 : SqL K H2 c xs := sH.seq h
  refine ⟨fun d hd => ?_, fun hl => ⟨xs, h2, by rw [r.length]; exact hl⟩⟩
  obtain ⟨v, hv, rv⟩ := r.get hd
  refine ⟨⟨xs, v, h2, hv⟩, fun x H3 ⟨e, y⟩ => ?_⟩
  subst e
  have hx := y xs h2
  rw [hv] at hx
  cases hx
  exact ⟨Hf2, Grow.refl, rv.mono s⟩
theorem iter_tupA {K : PySem.W.Frag} {Hf : Hp} {c : Addr} {xs : List V} {ds : List D} (h : Hf c = some (.tup xs)) (r : Rps K Hf xs ds) : Iter K (Itt K c) ds Hf := by
  intro Fr Hf2 H2 i s hp
  have sH := s.trans hp.hf
  have h2 : SqT K H2 c xs := SqT.of (sH _ _ h)
  refine ⟨fun d hd => ?_, fun hl => ⟨xs, h2, by rw [r.length]; exact hl⟩⟩
  obtain ⟨v, hv, rv⟩ := r.get hd
  refine ⟨⟨xs, v, h2, hv⟩, fun x H3 ⟨e, y⟩ => ?_⟩
  subst e
  have hx := y xs h2
  rw [hv] at hx
  cases hx
  exact ⟨Hf2, Grow.refl, rv.mono s⟩
theorem iter_tupB {K : PySem.W.Frag} {Hf : Hp} {c : Addr} {xs : List V} {ds : List D} (h : SqT K Hf c xs) (r : Rps K Hf xs ds) : Iter K (Itt K c) ds Hf := by
  intro Fr Hf2 H2 i s hp
  have h2 : SqT K H2 c xs := Same.seqT (s.trans hp.hf) h
  refine ⟨fun d hd => ?_, fun hl => ⟨xs, h2, by rw [r.length]; exact hl⟩⟩
  obtain ⟨v, hv, rv⟩ := r.get hd
  refine ⟨⟨xs, v, h2, hv⟩, fun x H3 ⟨e, y⟩ => ?_⟩
  subst e
  have hx := y xs h2
  rw [hv] at hx
  cases hx
  exact ⟨Hf2, Grow.refl, rv.mono s⟩
theorem iter_signs {K : PySem.W.Frag} {Hf : Hp} {x : Str} : Iter K (Its x) (signsD x) Hf := by
  intro Fr Hf2 H2 i s hp
  have hl : (signsD x).length = x.cps.size := by simp [signsD]
  refine ⟨fun d hd => ?_, fun h => by rw [hl] at h; exact h⟩
  have hi : i < x.cps.size := by
    rw [← hl]
    exact (List.getElem?_eq_some_iff.mp hd).1
  refine ⟨hi, fun y H3 ⟨e, c, hc, ey⟩ => ?_⟩
  subst e ey
  have : d = .str ⟨#[c]⟩ := by
    unfold signsD at hd
    rw [List.getElem?_map, Array.getElem?_toList, hc] at hd
    exact (Option.some.inj hd).symm
  rw [this]
  exact ⟨Hf2, Grow.refl, .str _⟩
theorem range_get {i j : Int} {k : Nat} {d : D} (h : (rangeD i j)[k]? = some d) : k < (j - i).toNat ∧ d = .int (i + (k : Nat)) := by
  unfold rangeD at h
  rw [List.getElem?_map] at h
  cases q : (List.range (j - i).toNat)[k]? with
  | none => rw [q] at h; cases h
  | some m =>
    rw [q] at h
    have hm := List.getElem?_eq_some_iff.mp q
    obtain ⟨h1, h2⟩ := hm
    rw [List.getElem_range] at h2
    subst h2
    cases h
    exact ⟨by simpa using h1, rfl⟩
theorem iter_range {K : PySem.W.Frag} {Hf : Hp} {i j : Int} : Iter K (Itr i (j - i).toNat) (rangeD i j) Hf := by
  intro Fr Hf2 H2 k s hp
  refine ⟨fun d hd => ?_, fun hl => ?_⟩
  · obtain ⟨h1, rfl⟩ := range_get hd
    refine ⟨h1, fun x H3 ⟨e, y⟩ => ?_⟩
    subst e y
    exact ⟨Hf2, Grow.refl, .int _⟩
  · show (j - i).toNat ≤ k
    rw [show (rangeD i j).length = (j - i).toNat by simp [rangeD]] at hl
    exact hl
theorem PIweak0 {it tg : Expr} {t t' : TI} (h : PI X tg it t) (w : ∀ σ H Q, t' σ H Q → t σ H Q) : PI X tg it t' := ⟨fun pins s σ H Q I h' => h.run pins s σ H Q I (w σ H Q h')⟩
/-- over a list or a tuple, as the value has it -/
theorem pi_seqD (ha : PE X a (rd X.K W ma)) : PI X tg a (rdI X.K W fun ρ => (ma ρ).bind fun x ρ1 => R.of (listD x) ρ1) := by
  refine ⟨fun pins s σ H Rr I ⟨Fr, Hf, ρ, e, g⟩ => ?_⟩
  refine thn (ha.run pins s σ H _ I ⟨Fr, Hf, ρ, e, Go.bind g⟩) fun v s1 ⟨x, H1, I1, r1, d1, Hf1, ρ1, t1, e1, p1, g1⟩ => ?_
  have fp : ∀ b, b ∈ [s1.heap.objs.size] → FpOk X pins H1 b := fun b hb => by
    rw [List.mem_singleton] at hb
    rw [hb]
    exact I1.fpOk (Nat.le_refl _) (I1.hok.fresh (Nat.le_refl _))
  cases p1 with
  | @tup c xs ds h rr =>
    cases r1
    obtain ⟨its, rv, ht, hz⟩ := I1.tuple (SqT.of (e1.hp.hf _ _ h))
    refine wpAny_pyIter_tuple (items := its.toArray) ht ?_
    exact ⟨s1.heap.objs.size, [s1.heap.objs.size], _, Itt X.K c, H1, rfl, I1.kept (t' := s1.toks) (fun b o q => Heap.get?_push_of_some _ q), turn_tuple c _, ⟨_, Heap.get?_push_size _ rfl, rfl, rfl⟩, fp, g1 _ Hf1 H1 (Same.refl _) e1 (iter_tupA h rr)⟩
  | @lst c xs ds h rr =>
    cases r1
    obtain ⟨its, rv, ht, hz⟩ := I1.list (SqL.of (e1.hp.hf _ _ h))
    refine wpAny_pyIter_list ht.isList ?_
    exact ⟨s1.heap.objs.size, [s1.heap.objs.size], _, Itl X.K c, H1, rfl, I1.kept (t' := s1.toks) (fun b o q => Heap.get?_push_of_some _ q), turn_list c _, ⟨_, Heap.get?_push_size _ rfl, rfl, rfl⟩, fp, g1 _ Hf1 H1 (Same.refl _) e1 (iter_listA (SqL.of h) rr)⟩
  | @str x =>
    obtain ⟨t, rfl⟩ := r1
    have it : Iter X.K (Its x) (signsD x) Hf1 := iter_signs
    cases ha : x.cps.all (· < 128)
    · exact wpAny_pyIter_wide ha (pi_one (tk := s1.toks) I1 _ (turn_str _ x t "str_iterator" (.inr rfl)) ⟨_, Heap.get?_push_size _ rfl, rfl, rfl⟩ (g1 _ Hf1 H1 (Same.refl _) e1 it))
    · exact wpAny_pyIter_ascii ha (pi_one (tk := s1.toks) I1 _ (turn_str _ x t "str_ascii_iterator" (.inl rfl)) ⟨_, Heap.get?_push_size _ rfl, rfl, rfl⟩ (g1 _ Hf1 H1 (Same.refl _) e1 it))
  | @ro c xs ds h rr =>
    cases r1
    rcases h with h | h
    rotate_left
    · obtain ⟨its, rv, ht, hz⟩ := I1.tuple (Same.seqT e1.hp.hf h)
      refine wpAny_pyIter_tuple (items := its.toArray) ht ?_
      exact ⟨s1.heap.objs.size, [s1.heap.objs.size], _, Itt X.K c, H1, rfl, I1.kept (t' := s1.toks) (fun b o q => Heap.get?_push_of_some _ q), turn_tuple c _, ⟨_, Heap.get?_push_size _ rfl, rfl, rfl⟩, fp, g1 _ Hf1 H1 (Same.refl _) e1 (iter_tupB h rr)⟩
    obtain ⟨its, rv, ht, hz⟩ := I1.list (e1.hp.hf.seq h)
    refine wpAny_pyIter_list ht.isList ?_
    exact ⟨s1.heap.objs.size, [s1.heap.objs.size], _, Itl X.K c, H1, rfl, I1.kept (t' := s1.toks) (fun b o q => Heap.get?_push_of_some _ q), turn_list c _, ⟨_, Heap.get?_push_size _ rfl, rfl, rfl⟩, fp, g1 _ Hf1 H1 (Same.refl _) e1 (iter_listA h rr)⟩
  | _ => exact g1.elim
/-! ### over a dict's keys -/
theorem keys_get : ∀ {ps : List (Key × V)} {kvs : List (D × D)} {K : PySem.W.Frag} {H : Hp}, Rpk K H ps kvs → ∀ {i : Nat} {d : D}, (kvs.map (·.1))[i]? = some d → ∃ k v, ps[i]? = some (k, v) ∧ keyK d = some k
  | _, _, _, _, .nil, i, d, h => by simp at h
  | _, _, _, _, .cons hk _ _, 0, d, h => by cases h; exact ⟨_, _, rfl, hk⟩
  | _, _, _, _, .cons _ _ r, i + 1, d, h => keys_get r (i := i) (by simpa using h)
theorem keysT_get : ∀ {ps : List (List Key × V)} {kvs : List (D × D)} {K : PySem.W.Frag} {H : Hp}, Rpt K H ps kvs → ∀ {i : Nat} {d : D}, (kvs.map (·.1))[i]? = some d → ∃ k v, ps[i]? = some (k, v) ∧ keyT d = some k
  | _, _, _, _, .nil, i, d, h => by simp at h
  | _, _, _, _, .cons hk _ _, 0, d, h => by cases h; exact ⟨_, _, rfl, hk⟩
  | _, _, _, _, .cons _ _ r, i + 1, d, h => keysT_get r (i := i) (by simpa using h)
theorem iter_keys {K : PySem.W.Frag} {Hf : Hp} {c : Addr} {o : Obj} {ps : List (Key × V)} {kvs : List (D × D)} (h : Hf c = some (.frz o (.dK ps))) (r : Rpk K Hf ps kvs) : Iter K (Itk c o ps) (kvs.map (·.1)) Hf := by
  intro Fr Hf2 H2 i s hp
  have h2 : H2 c = some (.frz o (.dK ps)) := hp.hf _ _ (s _ _ h)
  refine ⟨fun d hd => ?_, fun hl => ⟨h2, by rw [r.length]; simpa using hl⟩⟩
  obtain ⟨k, v, h3, h4⟩ := keys_get r hd
  refine ⟨⟨h2, (List.getElem?_eq_some_iff.mp h3).1⟩, fun x H3 ⟨e, k2, v2, y1, y2⟩ => ?_⟩
  subst e y2
  rw [h3] at y1
  cases y1
  exact ⟨Hf2, Grow.refl, keyK_rp h4⟩
theorem iter_keysT {K : PySem.W.Frag} {Hf : Hp} {c : Addr} {o : Obj} {ps : List (List Key × V)} {kvs : List (D × D)} (h : Hf c = some (.frz o (.dT ps))) (r : Rpt K Hf ps kvs) : Iter K (Itkt c o ps) (kvs.map (·.1)) Hf := by
  intro Fr Hf2 H2 i s hp
  have h2 : H2 c = some (.frz o (.dT ps)) := hp.hf _ _ (s _ _ h)
  refine ⟨fun d hd => ?_, fun hl => ⟨h2, by rw [r.length]; simpa using hl⟩⟩
  obtain ⟨k, v, h3, h4⟩ := keysT_get r hd
  refine ⟨⟨h2, (List.getElem?_eq_some_iff.mp h3).1⟩, fun x H3 ⟨e, k2, v2, q, y1, y2, y3⟩ => ?_⟩
  subst e y2
  rw [h3] at y1
  cases y1
  exact ⟨allT Hf2 H3, grow_allT hp.hf, keyT_rp h4 (allT_of hp.hf y3)⟩
theorem pi_keysD (ha : PE X a (rd X.K W ma)) : PI X tg a (rdI X.K W fun ρ => (ma ρ).bind fun x ρ1 => R.of (keysDD x) ρ1) := by
  refine PIweak0 (pi_keys ha) fun σ H Rr ⟨Fr, Hf, ρ, e, g⟩ => ⟨Fr, Hf, ρ, e, (Go.bind g).imp fun v H1 ⟨d1, Hf1, ρ1, s1, e1, r1, g1⟩ => ?_⟩
  cases r1 with
  | @dk ad ps kvs h rr =>
    rcases h with h | ⟨o, h⟩
    · exact absurd trivial (e1.hp.nd _ _ h)
    · exact ⟨ad, o, rfl, .inl ⟨ps, e1.hp.hf _ _ h, g1 _ Hf1 H1 (Same.refl _) e1 (iter_keys h rr)⟩⟩
  | @dt ad ps kvs h rr =>
    rcases h with h | ⟨o, h⟩
    · exact absurd trivial (e1.hp.nd _ _ h)
    · exact ⟨ad, o, rfl, .inr ⟨ps, e1.hp.hf _ _ h, g1 _ Hf1 H1 (Same.refl _) e1 (iter_keysT h rr)⟩⟩
  | _ => exact g1.elim
theorem PIweak {it : Expr} {t t' : TI} (h : PI X tg it t) (w : ∀ σ H Q, t' σ H Q → t σ H Q) : PI X tg it t' := ⟨fun pins s σ H Q I h' => h.run pins s σ H Q I (w σ H Q h')⟩
theorem ints62_ok {i : Int} (h : ints62 i = true) : -(2 ^ 62) ≤ i ∧ i < 2 ^ 62 := by
  unfold ints62 at h
  obtain ⟨h1, h2⟩ := Bool.and_eq_true_iff.mp h
  exact ⟨of_decide_eq_true h1, of_decide_eq_true h2⟩
def rng1D (x : D) (ρ : Env) : R (List D) := match x with
  | .int j => if ints62 j then .ok (rangeD 0 j) ρ else .no
  | _ => .no
def rng2D (x y : D) (ρ : Env) : R (List D) := match x, y with
  | .int i, .int j => if ints62 i && ints62 j then .ok (rangeD i j) ρ else .no
  | _, _ => .no
theorem pi_rng1 (hg : Gl X "range") (hm : X.mg "range" = none) (ha : PE X a (rd X.K W ma)) (h1 : starEach [a] X.env = [(false, eval a X.env)]) : PI X tg (.Call (.Name "range" p) [a] [] pos) (rdI X.K W fun ρ => (ma ρ).bind rng1D) := by
  refine PIweak (pi_range1 hg hm (pa_cons ha pa_nil h1) h1) fun σ H Q ⟨Fr, Hf, ρ, e, g⟩ => ⟨Fr, Hf, ρ, e, (Go.bind g).imp fun v H1 ⟨d1, Hf1, ρ1, s1, e1, r1, g1⟩ => ?_⟩
  cases r1 with
  | int j =>
    have g1 : Go X.K W Fr Hf1 σ (PIt X.K) (if ints62 j then .ok (rangeD 0 j) ρ1 else .no) Q := g1
    by_cases h : ints62 j = true
    · rw [if_pos h] at g1
      obtain ⟨q1, q2⟩ := ints62_ok h
      refine ⟨j, rfl, q1, q2, ?_⟩
      have z := iter_range (K := X.K) (Hf := Hf1) (i := 0) (j := j)
      rw [Int.sub_zero] at z
      exact g1 _ Hf1 H1 (Same.refl _) e1 z
    · rw [if_neg h] at g1; exact g1.elim
  | _ => exact g1.elim
theorem pi_rng2 (hg : Gl X "range") (hm : X.mg "range" = none) (ha : PE X a (rd X.K W ma)) (hb : PE X b (rd X.K W mb)) (h1 : starEach [a, b] X.env = [(false, eval a X.env), (false, eval b X.env)]) (h2 : starEach [b] X.env = [(false, eval b X.env)]) :
    PI X tg (.Call (.Name "range" p) [a, b] [] pos) (rdI X.K W fun ρ => (ma ρ).bind fun x ρ1 => (mb ρ1).bind (rng2D x)) := by
  refine PIweak (pi_range2 hg hm (pa_cons ha (pa_cons hb pa_nil h2) (by rw [h1, h2])) h1 h2) fun σ H Q ⟨Fr, Hf, ρ, e, g⟩ => ⟨Fr, Hf, ρ, e, (Go.bind g).imp fun v H1 ⟨d1, Hf1, ρ1, s1, e1, r1, g1⟩ => ⟨Fr, Hf1, ρ1, e1, (Go.bind g1).imp fun w H2 ⟨d2, Hf2, ρ2, s2, e2, r2, g2⟩ => ?_⟩⟩
  cases r1 with
  | int i =>
    cases r2 with
    | int j =>
      have g2 : Go X.K W Fr Hf2 σ (PIt X.K) (if (ints62 i && ints62 j) = true then .ok (rangeD i j) ρ2 else .no) Q := g2
      by_cases h : (ints62 i && ints62 j) = true
      · rw [if_pos h] at g2
        obtain ⟨k1, k2⟩ := Bool.and_eq_true_iff.mp h
        obtain ⟨q1, q2⟩ := ints62_ok k1
        obtain ⟨q3, q4⟩ := ints62_ok k2
        exact ⟨i, j, rfl, ⟨q1, q2, q3, q4⟩, g2 _ Hf2 H2 (Same.refl _) e2 iter_range⟩
      · rw [if_neg h] at g2; exact g2.elim
    | _ => exact g2.elim
  | _ =>
    have g2' := g2
    revert g2'
    cases r2 <;> exact fun g => g.elim
theorem rsz_ok {i j c : Int} (hc : 0 < c) (hc' : c < 1073741824) (hi : -(2 ^ 62) ≤ i) (hi' : i < 2 ^ 62) (hj : -(2 ^ 62) ≤ j) (hj' : j < 2 ^ 62) : RgC i j c (rsz i j c) := by
  have e : Builtin.Range.rangeSize i j c = if i < j then (j - i - 1) / c + 1 else 0 := by
    unfold Builtin.Range.rangeSize
    rw [if_pos hc]
  have h0 : 0 ≤ (if i < j then (j - i - 1) / c + 1 else 0) ∧ (if i < j then (j - i - 1) / c + 1 else 0) ≤ 2 ^ 63 - 1 := by
    split
    · have h1 : 0 ≤ (j - i - 1) / c := Int.ediv_nonneg (by omega) (by omega)
      have h2 : (j - i - 1) / c ≤ j - i - 1 := Int.ediv_le_self _ (by omega)
      omega
    · omega
  refine ⟨by omega, by omega, ?_, ?_⟩
  · unfold Builtin.Range.small
    rw [e]
    generalize (if i < j then (j - i - 1) / c + 1 else 0) = z at h0
    simp only [Builtin.Range.rangeFitsLong, Bool.and_eq_true, Bool.or_eq_true, decide_eq_true_eq, beq_iff_eq, if_pos (show c > 0 from hc)]
    omega
  · rw [e]
    unfold rsz
    omega
theorem iter_rangeS {K : PySem.W.Frag} {Hf : Hp} {i j c : Int} : Iter K (Itc i c (rsz i j c)) (rangeS i j c) Hf := by
  intro Fr Hf2 H2 k s hp
  refine ⟨fun d hd => ?_, fun hl => ?_⟩
  · unfold rangeS at hd
    rw [List.getElem?_map] at hd
    cases q : (List.range (rsz i j c))[k]? with
    | none => rw [q] at hd; cases hd
    | some m =>
      rw [q] at hd
      obtain ⟨h1, h2⟩ := List.getElem?_eq_some_iff.mp q
      rw [List.length_range] at h1
      rw [List.getElem_range] at h2
      subst h2
      cases hd
      refine ⟨h1, fun x H3 ⟨e, y⟩ => ?_⟩
      subst e y
      exact ⟨Hf2, Grow.refl, .int _⟩
  · show rsz i j c ≤ k
    rw [show (rangeS i j c).length = rsz i j c by simp [rangeS]] at hl
    exact hl
theorem pi_rng3 {d : Expr} {md : Env → R D} (hg : Gl X "range") (hm : X.mg "range" = none) (ha : PE X a (rd X.K W ma)) (hb : PE X b (rd X.K W mb)) (hd : PE X d (rd X.K W md)) (h1 : starEach [a, b, d] X.env = [(false, eval a X.env), (false, eval b X.env), (false, eval d X.env)]) (h2 : starEach [b, d] X.env = [(false, eval b X.env), (false, eval d X.env)]) (h3 : starEach [d] X.env = [(false, eval d X.env)]) :
    PI X tg (.Call (.Name "range" p) [a, b, d] [] pos) (rdI X.K W fun ρ => (ma ρ).bind fun x ρ1 => (mb ρ1).bind fun y ρ2 => (md ρ2).bind fun z ρ3 => rng3D x y z ρ3) := by
  refine PIweak (pi_range3 hg hm (pa_cons ha (pa_cons hb (pa_cons hd pa_nil h3) (by rw [h2, h3])) (by rw [h1, h2])) (by rw [h1, h2]) (by rw [h2]; rfl)) fun σ H Q ⟨Fr, Hf, ρ, e, g⟩ => ⟨Fr, Hf, ρ, e, (Go.bind g).imp fun v H1 ⟨d1, Hf1, ρ1, s1, e1, r1, g1⟩ => ⟨Fr, Hf1, ρ1, e1, (Go.bind g1).imp fun w H2 ⟨d2, Hf2, ρ2, s2, e2, r2, g2⟩ => ⟨Fr, Hf2, ρ2, e2, (Go.bind g2).imp fun u H3 ⟨d3, Hf3, ρ3, s3, e3, r3, g3⟩ => ?_⟩⟩⟩
  have ns : (∀ i j k, ¬ (d1 = .int i ∧ d2 = .int j ∧ d3 = .int k)) → False := fun hn => by
    unfold rng3D at g3
    revert g3
    split
    · exact fun _ => hn _ _ _ ⟨rfl, rfl, rfl⟩
    · exact fun g => g.elim
  cases d1 with
  | int i =>
    cases d2 with
    | int j =>
      cases d3 with
      | int c =>
        cases r1
        cases r2
        cases r3
        have g3 : Go X.K W Fr Hf3 σ (PIt X.K) (if (ints62 i && ints62 j && decide (0 < c) && decide (c < 1073741824)) = true then .ok (rangeS i j c) ρ3 else .no) Q := g3
        by_cases h : (ints62 i && ints62 j && decide (0 < c) && decide (c < 1073741824)) = true
        · rw [if_pos h] at g3
          obtain ⟨k, k4⟩ := Bool.and_eq_true_iff.mp h
          obtain ⟨k, k3⟩ := Bool.and_eq_true_iff.mp k
          obtain ⟨k1, k2⟩ := Bool.and_eq_true_iff.mp k
          obtain ⟨q1, q2⟩ := ints62_ok k1
          obtain ⟨q3, q4⟩ := ints62_ok k2
          exact ⟨i, j, c, _, rfl, rsz_ok (of_decide_eq_true k3) (of_decide_eq_true k4) q1 q2 q3 q4, g3 _ Hf3 H3 (Same.refl _) e3 iter_rangeS⟩
        · rw [if_neg h] at g3; exact g3.elim
      | _ => exact (ns fun _ _ _ h => by cases h.2.2).elim
    | _ => exact (ns fun _ _ _ h => by cases h.2.1).elim
  | _ => exact (ns fun _ _ _ h => by cases h.1).elim
end

/-! ### the frame grows by a list under construction -/
section
variable {K : PySem.W.Frag} {Fr : Fm} {Hf H : Hp} {ρ : Env} {σ : SSt} {p : Addr} {xs : List V} {u : HO}
theorem EnvAt.into (e : EnvAt K Fr Hf ρ σ H) (n : NewAt K Fr Hf ρ σ H p u) : EnvAt K (Fr.upd p u) Hf ρ σ H := by
  refine ⟨⟨fun b o y => ?_, e.hp.hf, fun b y => ?_, e.hp.nd⟩, e.len, fun j s y => ?_, e.ne⟩
  · by_cases hb : b = p
    · subst hb
      rw [Fm.upd_same] at y
      cases y
      exact n.at_
    · rw [Fm.upd_ne hb] at y
      exact e.hp.fr _ _ y
  · by_cases hb : b = p
    · rw [hb]; exact .inl n.hf
    · rw [Fm.upd_ne hb] at y
      exact e.hp.dj b y
  · have z := e.sl j s y
    cases s with
    | un => trivial
    | fz d => exact z
    | ow' tg d2 =>
      obtain ⟨b, ys, e2, f2, n2, q2, r2, w2⟩ := z
      refine ⟨b, ys, e2, ?_, n2, q2, r2, w2⟩
      rw [Fm.upd_ne fun w => n.no j ⟨by rw [y]; rfl, by rw [← w]; exact e2⟩]
      exact f2
theorem EnvAt.out (e : EnvAt K (Fr.upd p u) Hf ρ σ H) (hp : Fr p = none) (hu : OwnHO u) : EnvAt K Fr Hf ρ σ H ∧ NewAt K Fr Hf ρ σ H p u := by
  have hat : H p = some u := e.hp.fr _ _ Fm.upd_same
  have hhf : Hf p = none := by
    rcases e.hp.dj p (by rw [Fm.upd_same]; simp) with z | ⟨xs, z⟩
    · exact z
    · have := e.hp.hf _ _ z
      rw [hat] at this
      cases this
      exact hu.elim
  have hfr : ∀ b, Fr b ≠ none → Fr.upd p u b = Fr b := fun b y => Fm.upd_ne fun w => y (by rw [w]; exact hp)
  refine ⟨⟨⟨fun b o y => e.hp.fr _ _ (by rw [hfr b (by rw [y]; simp)]; exact y), e.hp.hf, fun b y => e.hp.dj b (by rw [hfr b y]; exact y), e.hp.nd⟩, e.len, fun j s y => ?_, e.ne⟩, ⟨hp, hhf, hat, fun i o => ?_⟩⟩
  · have z := e.sl j s y
    cases s with
    | un => trivial
    | fz d => exact z
    | ow' tg d2 =>
      obtain ⟨b, ys, e2, f2, n2, q2, r2, w2⟩ := z
      refine ⟨b, ys, e2, ?_, n2, q2, r2, w2⟩
      by_cases hb : b = p
      · rw [hb, Fm.upd_same] at f2; cases f2
      · rw [Fm.upd_ne hb] at f2; exact f2
  · have z := (e.own o).1
    rw [Fm.upd_same] at z
    cases z
theorem EnvAt.newChange (e : EnvAt K Fr Hf ρ σ H) (n : NewAt K Fr Hf ρ σ H p u) (u' : HO) : EnvAt K Fr Hf ρ σ (upd H p u') ∧ NewAt K Fr Hf ρ σ (upd H p u') p u' := by
  refine ⟨⟨⟨fun b o y => ?_, fun b o y => ?_, e.hp.dj, e.hp.nd⟩, e.len, fun j s y => ?_, e.ne⟩, ⟨n.fr, n.hf, upd_same, n.no⟩⟩
  · rw [upd_ne fun z => by rw [z, n.fr] at y; cases y]
    exact e.hp.fr _ _ y
  · rw [upd_ne fun z => by rw [z, n.hf] at y; cases y]
    exact e.hp.hf _ _ y
  · have z := e.sl j s y
    cases s with
    | un => trivial
    | fz d => exact z
    | ow' tg d2 =>
      obtain ⟨b, ys', e2, f2, n2, q2, r2, w2⟩ := z
      refine ⟨b, ys', e2, f2, n2, ?_, r2, w2⟩
      rw [upd_ne fun w => n.no j ⟨by rw [y]; rfl, by rw [← w]; exact e2⟩]
      exact q2
theorem NewAt.grow {Hf' H' : Hp} (n : NewAt K Fr Hf ρ σ H p u) (hu : OwnHO u) (gr : Grow Hf H Hf' H') : NewAt K Fr Hf' ρ σ H' p u :=
  ⟨n.fr, keep_out gr n.hf n.at_ hu, gr.h _ _ n.at_, n.no⟩
/-! ### slots forgotten, and taken back -/
theorem wipe_get : ∀ (vs : List Nat) (j : Nat), (wipe σ vs)[j]? = if j ∈ vs then (if j < σ.length then some none else none) else σ[j]?
  | [], j => by simp [wipe]
  | v :: vs, j => by
    have ih := wipe_get vs j
    unfold wipe
    by_cases hv : v = j
    · subst hv
      by_cases hl : v < σ.length
      · rw [List.getElem?_set_self (by rw [wipe_length]; exact hl)]
        simp [hl]
      · rw [List.getElem?_eq_none (by rw [List.length_set, wipe_length]; omega)]
        simp [hl]
    · rw [List.getElem?_set_ne hv, ih]
      have : (j ∈ v :: vs) ↔ j ∈ vs := by
        rw [List.mem_cons]
        exact ⟨fun h => h.elim (fun z => absurd z.symm hv) id, .inr⟩
      simp only [this]
theorem wipe_agree {σ' : SSt} {is vs : List Nat} (h : Agree (wipe σ vs) σ' is) (hs : ∀ i ∈ is, i ∈ vs) : wipe σ' vs = wipe σ vs := by
  have hl : σ'.length = σ.length := h.1.trans (wipe_length σ vs)
  apply List.ext_getElem?
  intro j
  rw [wipe_get (σ := σ') vs j, wipe_get (σ := σ) vs j, hl]
  by_cases hj : j ∈ vs
  · rw [if_pos hj, if_pos hj]
  · rw [if_neg hj, if_neg hj, h.2 j (fun z => hj (hs j z)), wipe_get (σ := σ) vs j, if_neg hj]
theorem wipeE_length : ∀ (vs : List Nat) (ρ : Env), (wipeE ρ vs).length = ρ.length
  | [], ρ => rfl
  | v :: vs, ρ => by
    show (wipeE (ρ.set v .un) vs).length = _
    rw [wipeE_length vs, List.length_set]
theorem wipeE_get : ∀ (vs : List Nat) (ρ : Env) (j : Nat), (wipeE ρ vs)[j]? = if j ∈ vs then (if j < ρ.length then some .un else none) else ρ[j]?
  | [], ρ, j => by simp [wipeE]
  | v :: vs, ρ, j => by
    show (wipeE (ρ.set v .un) vs)[j]? = _
    rw [wipeE_get vs, List.length_set]
    by_cases hj : j ∈ vs
    · rw [if_pos hj, if_pos (List.mem_cons_of_mem _ hj)]
    · rw [if_neg hj]
      by_cases hv : v = j
      · subst hv
        rw [if_pos List.mem_cons_self]
        by_cases hl : v < ρ.length
        · rw [List.getElem?_set_self hl, if_pos hl]
        · rw [List.getElem?_eq_none (by rw [List.length_set]; omega), if_neg hl]
      · rw [List.getElem?_set_ne hv, if_neg (by rw [List.mem_cons]; exact fun h => h.elim (fun z => hv z.symm) hj)]
theorem EnvAt.wipe (e : EnvAt K Fr Hf ρ σ H) (vs : List Nat) : EnvAt K Fr Hf (wipeE ρ vs) (L2.wipe σ vs) H := by
  have ow : ∀ {j : Nat} {a : Addr}, Own (wipeE ρ vs) (L2.wipe σ vs) j a → Own ρ σ j a := fun {j a} ⟨h1, h2⟩ => by
    rw [wipeE_get] at h1
    rw [wipe_get] at h2
    by_cases hj : j ∈ vs
    · rw [if_pos hj] at h1
      by_cases hl : j < ρ.length
      · rw [if_pos hl] at h1; cases h1
      · rw [if_neg hl] at h1; cases h1
    · rw [if_neg hj] at h1 h2
      exact ⟨h1, h2⟩
  refine ⟨e.hp, by rw [wipeE_length, wipe_length]; exact e.len, fun j s y => ?_, fun j k b y1 y2 => e.ne j k b (ow y1) (ow y2)⟩
  rw [wipeE_get] at y
  rw [wipe_get]
  by_cases hj : j ∈ vs
  · rw [if_pos hj] at y
    by_cases hl : j < ρ.length
    · rw [if_pos hl] at y; cases y; trivial
    · rw [if_neg hl] at y; cases y
  · rw [if_neg hj] at y ⊢
    exact e.sl j s y
theorem backE_length (old new : Env) : ∀ vs : List Nat, (backE old new vs).length = new.length
  | [] => rfl
  | v :: vs => by
    unfold backE
    split
    · rw [List.length_set, backE_length old new vs]
    · exact backE_length old new vs
theorem backE_get (old new : Env) (hl : old.length = new.length) : ∀ (vs : List Nat) (j : Nat), (backE old new vs)[j]? = if j ∈ vs then old[j]? else new[j]?
  | [], j => by simp [backE]
  | v :: vs, j => by
    have ih := backE_get old new hl vs j
    unfold backE
    by_cases hv : v = j
    · subst hv
      rw [if_pos List.mem_cons_self]
      cases q : old[v]? with
      | none =>
        have hn : new[v]? = none := by
          rw [List.getElem?_eq_none_iff] at q ⊢
          omega
        show (backE old new vs)[v]? = none
        rw [ih, q, hn]
        split <;> rfl
      | some s =>
        show ((backE old new vs).set v s)[v]? = some s
        have h1 := (List.getElem?_eq_some_iff.mp q).1
        rw [List.getElem?_set_self (by rw [backE_length]; omega)]
    · have : (j ∈ v :: vs) ↔ j ∈ vs := by
        rw [List.mem_cons]
        exact ⟨fun h => h.elim (fun z => absurd z.symm hv) id, .inr⟩
      simp only [this]
      cases q : old[v]? with
      | none => exact ih
      | some s =>
        show ((backE old new vs).set v s)[j]? = _
        rw [List.getElem?_set_ne hv]
        exact ih
/-- behind a block -/
theorem EnvAt.back {Hf1 H1 : Hp} {ρ1 ρ2 : Env} {vs : List Nat} (e1 : EnvAt K Fr Hf1 ρ1 σ H1) (e2 : EnvAt K Fr Hf ρ2 (L2.wipe σ vs) H) (s : Same Hf1 Hf) (ho : (vs.any fun v => isOw ρ1[v]?) = false) : EnvAt K Fr Hf (backE ρ1 ρ2 vs) σ H := by
  have hl : ρ1.length = ρ2.length := by rw [e1.len, e2.len, wipe_length]
  have no : ∀ j, j ∈ vs → isOw ρ1[j]? = false := fun j hj => by
    rw [List.any_eq_false] at ho
    cases h : isOw ρ1[j]? with
    | false => rfl
    | true => exact absurd h (ho j hj)
  have ow : ∀ {j : Nat} {a : Addr}, Own (backE ρ1 ρ2 vs) σ j a → Own ρ2 (L2.wipe σ vs) j a := fun {j a} ⟨h1, h2⟩ => by
    rw [backE_get ρ1 ρ2 hl] at h1
    by_cases hj : j ∈ vs
    · rw [if_pos hj, no j hj] at h1; cases h1
    · rw [if_neg hj] at h1
      exact ⟨h1, by rw [wipe_get, if_neg hj]; exact h2⟩
  refine ⟨e2.hp, by rw [backE_length, e2.len, wipe_length], fun j x y => ?_, fun j k b y1 y2 => e2.ne j k b (ow y1) (ow y2)⟩
  rw [backE_get ρ1 ρ2 hl] at y
  by_cases hj : j ∈ vs
  · rw [if_pos hj] at y
    have z := e1.sl j x y
    cases x with
    | un => trivial
    | fz d =>
      obtain ⟨v, e3, r3⟩ := z
      exact ⟨v, e3, r3.mono s⟩
    | ow' tg ds =>
      have := no j hj
      rw [y] at this
      cases this
  · rw [if_neg hj] at y
    have z := e2.sl j x y
    rw [wipe_get, if_neg hj] at z
    exact z
theorem NewAt.back {ρ1 ρ2 : Env} {vs : List Nat} (hl : ρ1.length = ρ2.length) (ho : (vs.any fun v => isOw ρ1[v]?) = false) (n : NewAt K Fr Hf ρ2 (L2.wipe σ vs) H p u) : NewAt K Fr Hf (backE ρ1 ρ2 vs) σ H p u := by
  refine ⟨n.fr, n.hf, n.at_, fun j ⟨h1, h2⟩ => ?_⟩
  rw [backE_get ρ1 ρ2 hl] at h1
  by_cases hj : j ∈ vs
  · rw [if_pos hj] at h1
    rw [List.any_eq_false] at ho
    exact ho j hj h1
  · rw [if_neg hj] at h1
    exact n.no j ⟨h1, by rw [wipe_get, if_neg hj]; exact h2⟩
theorem NewAt.wipe {vs : List Nat} (n : NewAt K Fr Hf ρ σ H p u) : NewAt K Fr Hf (wipeE ρ vs) (L2.wipe σ vs) H p u := by
  refine ⟨n.fr, n.hf, n.at_, fun j ⟨h1, h2⟩ => ?_⟩
  rw [wipeE_get] at h1
  rw [wipe_get] at h2
  by_cases hj : j ∈ vs
  · rw [if_pos hj] at h1
    by_cases hl : j < ρ.length
    · rw [if_pos hl] at h1; cases h1
    · rw [if_neg hl] at h1; cases h1
  · rw [if_neg hj] at h1 h2
    exact n.no j ⟨h1, h2⟩
end
/-! ### a comprehension's turns -/
abbrev Wf : WX := fun _ _ _ _ => False
theorem Go.nox {K : PySem.W.Frag} {W : WX} {Fr : Fm} {Hf : Hp} {σ : SSt} {α β : Type} {P : Hp → Hp → Env → β → α → Prop} {r : R α} {Q : β → Hp → Prop} (g : Go K W Fr Hf σ P r.nox Q) : Go K Wf Fr Hf σ P r Q := by
  cases r with
  | no => exact g
  | ex x ρ => exact g.elim
  | ok a ρ => exact g
section
variable {X : Cx} {W : WX} {tg : Tg} {mt me : Env → R D} {mi : Env → R (List D)} {own : List Nat}
theorem lc_ok {K : PySem.W.Frag} (hs : ∀ i ∈ tg.slots, i ∈ own) {σ : SSt} {H : Hp} {Q : VK}
    (h : rdN K W (fun ρ => (mi ρ).bind fun xs ρ1 => if own.any (fun v => isOw ρ1[v]?) then .no else (lcD own tg mt me xs [] ρ1).bind fun ys ρ2 => .ok (.lst ys) (backE ρ1 ρ2 own)) σ H Q) :
    tLc (rdI K W mi) (gD K tg) (rdB K Wf mt) (rd K Wf me) own σ H Q := by
  obtain ⟨Fr, Hf, ρ, e, g⟩ := h
  refine ⟨Fr, Hf, ρ, e, (Go.bind g).imp fun J H1 ⟨ds, Hf1, ρ1, s1, e1, it, g1⟩ => ?_⟩
  intro Dn hD
  cases ho : own.any (fun v => isOw ρ1[v]?) with
  | true => rw [ho] at g1; exact g1.elim
  | false =>
    rw [ho] at g1
    have g1 : Go K W Fr Hf1 σ (PN K Fr σ) ((lcD own tg mt me ds [] ρ1).bind fun ys ρ2 => .ok (.lst ys) (backE ρ1 ρ2 own)) Q := g1
    -- the word: behind i turns
    refine ⟨fun i m H => ∃ Hf2 ρ2 acc xs, Same Hf1 Hf2 ∧ EnvAt K Fr Hf2 (wipeE ρ2 own) (wipe σ own) H ∧ NewAt K Fr Hf2 (wipeE ρ2 own) (wipe σ own) H Dn (.lst xs) ∧ Rps K Hf2 xs acc ∧ m = ds.length - i ∧ i ≤ ds.length ∧
      ρ2.length = ρ1.length ∧ (∃ σ2, wipe σ2 own = wipe σ own ∧ EnvAt K Fr Hf2 ρ2 σ2 H ∧ NewAt K Fr Hf2 ρ2 σ2 H Dn (.lst xs)) ∧
      Go K W Fr Hf2 σ (PN K Fr σ) ((lcD own tg mt me (ds.drop i) acc ρ2).bind fun ys ρ2 => .ok (.lst ys) (backE ρ1 ρ2 own)) Q, ⟨ds.length, ?_⟩, ?_⟩
    · have gr : Grow Hf1 H1 Hf1 (upd H1 Dn (.lst [])) := Grow.extra hD
      have e2 := e1.grow gr
      have n2 := NewAt.of (u := .lst []) e1 hD
      exact ⟨Hf1, ρ1, [], [], Same.refl _, e2.wipe own, n2.wipe, .nil, by simp, Nat.zero_le _, rfl, ⟨σ, rfl, e2, n2⟩, by rw [List.drop_zero]; exact g1⟩
    · rintro i m H2 ⟨Hf2, ρ2, acc, xs, s2, e2, n2, r2, rfl, hi, hl2, ⟨σ2, hw2, e2', n2'⟩, g2⟩
      obtain ⟨it1, it2⟩ := it Fr Hf2 H2 i s2 e2.hp
      by_cases hlt : i < ds.length
      · -- a turn
        obtain ⟨d, hd⟩ : ∃ d, ds[i]? = some d := ⟨ds[i], List.getElem?_eq_getElem hlt⟩
        obtain ⟨jgo, jy⟩ := it1 d hd
        have hdrop : ds.drop i = d :: ds.drop (i + 1) := by
          rw [List.drop_eq_getElem_cons hlt]
          have : ds[i] = d := by
            rw [List.getElem?_eq_getElem hlt] at hd
            exact Option.some.inj hd
          rw [this]
        rw [hdrop] at g2
        refine .inr ⟨jgo, fun H' => ∃ m', m' < ds.length - i ∧ ∃ Hf2 ρ2 acc xs, Same Hf1 Hf2 ∧ EnvAt K Fr Hf2 (wipeE ρ2 own) (wipe σ own) H' ∧ NewAt K Fr Hf2 (wipeE ρ2 own) (wipe σ own) H' Dn (.lst xs) ∧ Rps K Hf2 xs acc ∧ m' = ds.length - (i + 1) ∧ i + 1 ≤ ds.length ∧
          ρ2.length = ρ1.length ∧ (∃ σ2, wipe σ2 own = wipe σ own ∧ EnvAt K Fr Hf2 ρ2 σ2 H' ∧ NewAt K Fr Hf2 ρ2 σ2 H' Dn (.lst xs)) ∧
          Go K W Fr Hf2 σ (PN K Fr σ) ((lcD own tg mt me (ds.drop (i + 1)) acc ρ2).bind fun ys ρ2 => .ok (.lst ys) (backE ρ1 ρ2 own)) Q, fun H' ⟨m', hm, q⟩ => ⟨m', hm, q⟩, fun x H3 hy => ?_⟩
        obtain ⟨Hf3, gr3, rx⟩ := jy x H3 hy
        have e3 := e2.grow gr3
        have n3 := n2.grow trivial gr3
        have e3 := e3.into n3
        -- the target
        have g3 : Go K W Fr Hf2 σ (PN K Fr σ) ((match asg tg d (wipeE ρ2 own) with
          | none => R.no
          | some ρ3 => (mt ρ3).nox.bind fun c ρ4 => match c with
            | .bl true => (me ρ4).nox.bind fun y ρ5 => if acc.length < sizeL then lcD own tg mt me (ds.drop (i + 1)) (acc ++ [y]) ρ5 else .no
            | .bl false => lcD own tg mt me (ds.drop (i + 1)) acc ρ4
            | _ => .no).bind fun ys ρ2 => .ok (.lst ys) (backE ρ1 ρ2 own)) Q := g2
        cases ha : asg tg d (wipeE ρ2 own) with
        | none => rw [ha] at g3; exact g3.elim
        | some ρ3 =>
          rw [ha] at g3
          dsimp only at g3
          refine ⟨Fr.upd Dn (.lst xs), Hf3, wipeE ρ2 own, d, ρ3, e3, rx, ha, fun σ3 ag e4 => ⟨wipe_agree ag hs, ?_⟩⟩
          have hw3 := wipe_agree ag hs
          refine ⟨Fr.upd Dn (.lst xs), Hf3, ρ3, e4, ?_⟩
          show Go K Wf (Fr.upd Dn (.lst xs)) Hf3 σ3 PB (mt ρ3).b _
          cases q : mt ρ3 with
          | no => rw [q] at g3; exact g3.elim
          | ex y ρ4 => rw [q] at g3; exact g3.elim
          | ok c ρ4 =>
            rw [q] at g3
            cases c with
            | bl k =>
              intro b Hf4 H4 s4 e5 hb
              cases hb
              have rx4 : Same Hf2 Hf4 := gr3.f.trans s4
              cases k with
              | false =>
                have g3 : Go K W Fr Hf2 σ (PN K Fr σ) ((lcD own tg mt me (ds.drop (i + 1)) acc ρ4).bind fun ys ρ2 => .ok (.lst ys) (backE ρ1 ρ2 own)) Q := g3
                refine iteF ?_
                obtain ⟨e6, n6⟩ := e5.out n2.fr trivial
                have l6 : ρ4.length = ρ1.length := by rw [e6.len, ag.1, wipe_length, e1.len]
                refine ⟨ds.length - (i + 1), by omega, Hf4, ρ4, acc, xs, s2.trans rx4, ?_, ?_, r2.mono rx4, rfl, hlt, l6, ⟨σ3, hw3, e6, n6⟩, g3.weak rx4⟩
                · rw [← hw3]; exact e6.wipe own
                · rw [← hw3]; exact n6.wipe
              | true =>
                have g3 : Go K W Fr Hf2 σ (PN K Fr σ) (((me ρ4).nox.bind fun y ρ5 => if acc.length < sizeL then lcD own tg mt me (ds.drop (i + 1)) (acc ++ [y]) ρ5 else .no).bind fun ys ρ2 => .ok (.lst ys) (backE ρ1 ρ2 own)) Q := g3
                refine iteT ⟨Fr.upd Dn (.lst xs), Hf4, ρ4, e5, ?_⟩
                cases q5 : me ρ4 with
                | no => rw [q5] at g3; exact g3.elim
                | ex y ρ5 => rw [q5] at g3; exact g3.elim
                | ok y ρ5 =>
                  rw [q5] at g3
                  intro v Hf5 H5 s5 e7 rv
                  have g3 : Go K W Fr Hf2 σ (PN K Fr σ) ((if acc.length < sizeL then lcD own tg mt me (ds.drop (i + 1)) (acc ++ [y]) ρ5 else .no).bind fun ys ρ2 => .ok (.lst ys) (backE ρ1 ρ2 own)) Q := g3
                  by_cases hz : acc.length < sizeL
                  · rw [if_pos hz] at g3
                    obtain ⟨e8, n8⟩ := e7.out n2.fr trivial
                    have rx5 : Same Hf2 Hf5 := rx4.trans s5
                    have l8 : ρ5.length = ρ1.length := by rw [e8.len, ag.1, wipe_length, e1.len]
                    obtain ⟨e9, n9⟩ := e8.newChange n8 (.lst (xs ++ [v]))
                    refine ⟨xs, n8.at_, ?_, ds.length - (i + 1), by omega, Hf5, ρ5, acc ++ [y], xs ++ [v], s2.trans rx5, ?_, ?_, (r2.mono rx5).append (.cons rv .nil), rfl, hlt, l8, ⟨σ3, hw3, e9, n9⟩, g3.weak rx5⟩
                    · rw [r2.length]
                      rw [sizeLine_eq]
                      exact hz
                    · rw [← hw3]; exact e9.wipe own
                    · rw [← hw3]; exact n9.wipe
                  · rw [if_neg hz] at g3; exact g3.elim
            | _ => exact g3.elim
      · -- the end
        have hie : i = ds.length := by omega
        subst hie
        refine .inl ⟨it2 (Nat.le_refl _), ?_⟩
        rw [List.drop_length] at g2
        have g2 : ∀ b Hf' H', Same Hf2 Hf' → EnvAt K Fr Hf' (backE ρ1 ρ2 own) σ H' → (PN K Fr σ) Hf' H' (backE ρ1 ρ2 own) b (.lst acc) → Q b H' := g2
        have e3 : EnvAt K Fr Hf2 (backE ρ1 (wipeE ρ2 own) own) σ H2 := EnvAt.back e1 e2 s2 ho
        have eb : backE ρ1 (wipeE ρ2 own) own = backE ρ1 ρ2 own := by
          apply List.ext_getElem?
          intro j
          rw [backE_get _ _ (by rw [wipeE_length, hl2]), backE_get _ _ hl2.symm]
          by_cases hj : j ∈ own
          · rw [if_pos hj, if_pos hj]
          · rw [if_neg hj, if_neg hj, wipeE_get, if_neg hj]
        have n3 := NewAt.back (ρ1 := ρ1) (by rw [wipeE_length, hl2]) ho n2
        rw [eb] at e3 n3
        exact g2 _ Hf2 H2 (Same.refl _) e3 ⟨Dn, .lst xs, rfl, n3, xs, rfl, r2⟩
end
end DL
set_option Elab.async false
set_option linter.all false
set_option maxRecDepth 100000
set_option maxHeartbeats 4000000
/-! DLg: statements. -/
namespace DL
open PySem PySem.Spec PyProof.Rows L2

/-- a statement's end, as what is wanted behind -/
def GoS (K : PySem.W.Frag) (W : WX) (Fr : Fm) (Hf : Hp) (r : SR) (E : Ends) : Prop := match r with
  | .no => False
  | .ex x ρ => ∀ σ' Hf' H' cls od, Same Hf Hf' → EnvAt K Fr Hf' ρ σ' H' → ExAt K Hf' x cls od → W cls od σ' H'
  | .nx ρ => ∀ σ' Hf' H', Same Hf Hf' → EnvAt K Fr Hf' ρ σ' H' → E.nx σ' H'
  | .bk ρ => ∀ σ' Hf' H', Same Hf Hf' → EnvAt K Fr Hf' ρ σ' H' → E.bk σ' H'
  | .ct ρ => ∀ σ' Hf' H', Same Hf Hf' → EnvAt K Fr Hf' ρ σ' H' → E.ct σ' H'
  | .rt d ρ => ∀ v σ' Hf' H', Same Hf Hf' → EnvAt K Fr Hf' ρ σ' H' → Rp K Hf' v d → E.rt v H'
def rdS (K : PySem.W.Frag) (W : WX) (m : Env → SR) : TS := fun E σ H => ∃ Fr Hf ρ, EnvAt K Fr Hf ρ σ H ∧ GoS K W Fr Hf (m ρ) E
section
variable {K : PySem.W.Frag} {W : WX} {Fr : Fm} {Hf Hf1 H : Hp} {σ : SSt} {α β : Type}
theorem GoS.weak {r : SR} {E : Ends} (g : GoS K W Fr Hf r E) (s : Same Hf Hf1) : GoS K W Fr Hf1 r E := by
  cases r with
  | no => exact g
  | ex x ρ => exact fun σ' Hf' H' cls od s' => g σ' Hf' H' cls od (s.trans s')
  | nx ρ => exact fun σ' Hf' H' s' => g σ' Hf' H' (s.trans s')
  | bk ρ => exact fun σ' Hf' H' s' => g σ' Hf' H' (s.trans s')
  | ct ρ => exact fun σ' Hf' H' s' => g σ' Hf' H' (s.trans s')
  | rt d ρ => exact fun v σ' Hf' H' s' => g v σ' Hf' H' (s.trans s')
/-- ahead of a statement's end an expression -/
theorem GoS.st {P : Hp → Hp → Env → β → α → Prop} {r : R α} {f : α → Env → SR} {E : Ends} (g : GoS K W Fr Hf (r.st f) E) :
    Go K W Fr Hf σ P r (fun c H1 => ∃ a Hf1 ρ1, Same Hf Hf1 ∧ EnvAt K Fr Hf1 ρ1 σ H1 ∧ P Hf1 H1 ρ1 c a ∧ GoS K W Fr Hf1 (f a ρ1) E) := by
  cases r with
  | no => exact g
  | ex x ρ => exact fun Hf' H' cls od s e x => g σ Hf' H' cls od s e x
  | ok a ρ => exact fun b Hf' H' s' e p => ⟨a, Hf', ρ, s', e, p, GoS.weak g s'⟩
theorem GoS.stB {r : R D} {f : D → Env → SR} {E : Ends} (g : GoS K W Fr Hf (r.st f) E) (hf : ∀ d ρ, (∀ k, d ≠ .bl k) → f d ρ = .no) :
    Go K W Fr Hf σ PB r.b (fun c H1 => ∃ Hf1 ρ1, Same Hf Hf1 ∧ EnvAt K Fr Hf1 ρ1 σ H1 ∧ GoS K W Fr Hf1 (f (.bl c) ρ1) E) := by
  cases r with
  | no => exact g
  | ex x ρ => exact fun Hf' H' cls od s e x => g σ Hf' H' cls od s e x
  | ok a ρ =>
    have g : GoS K W Fr Hf (f a ρ) E := g
    cases a with
    | bl k =>
      intro b Hf' H' s' e p
      cases p
      exact ⟨Hf', ρ, s', e, GoS.weak g s'⟩
    | _ =>
      rw [hf _ _ (fun k z => by cases z)] at g
      exact g.elim
/-- another next -/
theorem GoS.mapE {r : SR} {E E' : Ends} (g : GoS K W Fr Hf r E) (h1 : ∀ σ H, E.nx σ H → E'.nx σ H) (h2 : ∀ v H, E.rt v H → E'.rt v H) (h3 : ∀ σ H, E.bk σ H → E'.bk σ H) (h4 : ∀ σ H, E.ct σ H → E'.ct σ H) : GoS K W Fr Hf r E' := by
  cases r with
  | no => exact g
  | ex x ρ => exact g
  | nx ρ => exact fun σ' Hf' H' s' e => h1 _ _ (g σ' Hf' H' s' e)
  | bk ρ => exact fun σ' Hf' H' s' e => h3 _ _ (g σ' Hf' H' s' e)
  | ct ρ => exact fun σ' Hf' H' s' e => h4 _ _ (g σ' Hf' H' s' e)
  | rt d ρ => exact fun v σ' Hf' H' s' e r => h2 _ _ (g v σ' Hf' H' s' e r)
end
section
variable {X : Cx} {W : WX} {pos p : Pos} {e c : Expr} {me mc : Env → R D}
theorem PSweak {st : Stmt} {t t' : TS} (h : PS X st t) (w : ∀ E σ H, t' E σ H → t E σ H) : PS X st t' := ⟨fun pins s σ H E I h' => h.run pins s σ H E I (w E σ H h')⟩
theorem PSsweak {st : List Stmt} {t t' : TS} (h : PSs X st t) (w : ∀ E σ H, t' E σ H → t E σ H) : PSs X st t' := ⟨fun pins s σ H E I h' => h.run pins s σ H E I (w E σ H h')⟩
/-! ### blocks -/
theorem ss_nil : PSs X [] (rdS X.K W fun ρ => .nx ρ) := PSsweak pss_nil fun E σ H ⟨Fr, Hf, ρ, e, g⟩ => g σ Hf H (Same.refl _) e
def seqS (m : Env → SR) (r : SR) : SR := match r with
  | .nx ρ1 => m ρ1
  | r => r
theorem ss_cons {st : Stmt} {rest : List Stmt} {m ms : Env → SR} (h1 : PS X st (rdS X.K W m)) (h2 : PSs X rest (rdS X.K W ms)) : PSs X (st :: rest) (rdS X.K W fun ρ => seqS ms (m ρ)) := by
  refine PSsweak (pss_cons h1 h2) fun E σ H ⟨Fr, Hf, ρ, e, g⟩ => ⟨Fr, Hf, ρ, e, ?_⟩
  dsimp only at g
  cases q : m ρ with
  | no => rw [q] at g; exact g
  | ex x ρ => rw [q] at g; exact g
  | nx ρ1 => rw [q] at g; exact fun σ' Hf' H' s' e' => ⟨Fr, Hf', ρ1, e', GoS.weak g s'⟩
  | bk ρ1 => rw [q] at g; exact g
  | ct ρ1 => rw [q] at g; exact g
  | rt d ρ => rw [q] at g; exact g
/-! ### small statements -/
theorem ps_passD : PS X (.Pass pos) (rdS X.K W fun ρ => .nx ρ) := PSweak ps_pass fun E σ H ⟨Fr, Hf, ρ, e, g⟩ => g σ Hf H (Same.refl _) e
theorem ps_breakD : PS X (.Break pos) (rdS X.K W fun ρ => .bk ρ) := PSweak ps_break fun E σ H ⟨Fr, Hf, ρ, e, g⟩ => g σ Hf H (Same.refl _) e
theorem ps_contD : PS X (.Continue pos) (rdS X.K W fun ρ => .ct ρ) := PSweak ps_continue fun E σ H ⟨Fr, Hf, ρ, e, g⟩ => g σ Hf H (Same.refl _) e
theorem ps_exprD (he : PE X e (rd X.K W me)) (hs : swapsWith e none pos.line X.env = pure false) : PS X (.Expr e pos) (rdS X.K W fun ρ => (me ρ).st fun _ ρ1 => .nx ρ1) :=
  PSweak (ps_expr he hs) fun E σ H ⟨Fr, Hf, ρ, e, g⟩ => ⟨Fr, Hf, ρ, e, (GoS.st g).imp fun v H1 ⟨d, Hf1, ρ1, s1, e1, r1, g1⟩ => g1 σ Hf1 H1 (Same.refl _) e1⟩
theorem ps_retD (he : PE X e (rd X.K W me)) : PS X (.Return (some e) pos) (rdS X.K W fun ρ => (me ρ).st fun d ρ1 => .rt d ρ1) :=
  PSweak (ps_ret he) fun E σ H ⟨Fr, Hf, ρ, e, g⟩ => ⟨Fr, Hf, ρ, e, (GoS.st g).imp fun v H1 ⟨d, Hf1, ρ1, s1, e1, r1, g1⟩ => g1 v σ Hf1 H1 (Same.refl _) e1 r1⟩
def setS (i : Nat) (d : D) (ρ : Env) : SR := if i < ρ.length then .nx (ρ.set i (.fz d)) else .no
theorem ps_setD {i : Nat} {x : Str} {p' : Pos} (hN : X.N.Nodup) (hi : X.N[i]? = some x) (hx : Loc X.env.scope x) (he : PE X e (rd X.K W me)) (hs : swapsWith e (some (.Name x p')) pos.line X.env = pure false) (hf : X.fn x = true ∨ X.env.scope.names.lookup x = some .local) :
    PS X (.Assign [.Name x p'] e pos) (rdS X.K W fun ρ => (me ρ).st (setS i)) := by
  refine PSweak (ps_set hN hi hx he hs hf) fun E σ H ⟨Fr, Hf, ρ, e, g⟩ => ⟨Fr, Hf, ρ, e, (GoS.st g).imp fun v H1 ⟨d, Hf1, ρ1, s1, e1, r1, g1⟩ => ?_⟩
  unfold setS at g1
  by_cases h : i < ρ1.length
  · rw [if_pos h] at g1
    exact g1 _ Hf1 H1 (Same.refl _) (e1.store h r1)
  · rw [if_neg h] at g1; exact g1.elim
def setNS (i : Nat) (d : D) (ρ : Env) : SR := if i < ρ.length then .nx (ρ.set i (.ow d)) else .no
theorem setN_go {K : PySem.W.Frag} {Fr : Fm} {Hf H1 : Hp} {σ : SSt} {i : Nat} {v : V} {ds : D} {ρ1 : Env} {E : Ends} (e1 : EnvAt K Fr Hf ρ1 σ H1) (r1 : PN K Fr σ Hf H1 ρ1 v ds) (g1 : GoS K W Fr Hf (setNS i ds ρ1) E) : E.nx (σ.set i (some v)) H1 := by
  obtain ⟨q, xs, rfl, n, rx⟩ := r1
  unfold setNS at g1
  by_cases h : i < ρ1.length
  · rw [if_pos h] at g1
    exact g1 _ Hf H1 (Same.refl _) (e1.storeN h n rx)
  · rw [if_neg h] at g1; exact g1.elim
theorem ps_setND {i : Nat} {x : Str} {p' : Pos} {mn : Env → R D} (hN : X.N.Nodup) (hi : X.N[i]? = some x) (hx : Loc X.env.scope x) (he : PE X e (rdN X.K W mn)) (hs : swapsWith e (some (.Name x p')) pos.line X.env = pure false) (hf : X.fn x = true ∨ X.env.scope.names.lookup x = some .local) :
    PS X (.Assign [.Name x p'] e pos) (rdS X.K W fun ρ => (mn ρ).st (setNS i)) := by
  refine PSweak (ps_set hN hi hx he hs hf) fun E σ H ⟨Fr, Hf, ρ, e, g⟩ => ⟨Fr, Hf, ρ, e, (GoS.st g).imp fun v H1 ⟨d, Hf1, ρ1, s1, e1, r1, g1⟩ => ?_⟩
  exact setN_go e1 r1 g1
def ifS (a b : Env → SR) (d : D) (ρ : Env) : SR := match d with
  | .bl true => a ρ
  | .bl false => b ρ
  | _ => .no
theorem ps_ifD {sa sb : List Stmt} {a b : Env → SR} (hc : PT X c (rdB X.K W mc)) (ha : PSs X sa (rdS X.K W a)) (hb : PSs X sb (rdS X.K W b)) : PS X (.If c sa sb pos) (rdS X.K W fun ρ => (mc ρ).st (ifS a b)) := by
  refine PSweak (ps_if hc ha hb) fun E σ H ⟨Fr, Hf, ρ, e, g⟩ => ⟨Fr, Hf, ρ, e, (GoS.stB g fun d ρ h => ?_).imp fun k H1 ⟨Hf1, ρ1, s1, e1, g1⟩ => ?_⟩
  · cases d with
    | bl k => exact absurd rfl (h k)
    | _ => rfl
  · cases k with
    | true => exact iteT ⟨Fr, Hf1, ρ1, e1, g1⟩
    | false => exact iteF ⟨Fr, Hf1, ρ1, e1, g1⟩
/-! ### a list's own changes -/
def appS (i : Nat) (me : Env → R D) (ρ : Env) : SR := match ρ[i]? with
  | some (.ow' _ (.lst _)) => (me ρ).st fun d ρ1 => match ρ1[i]? with
    | some (.ow' t (.lst xs)) => if xs.length < sizeL then .nx (ρ1.set i (.ow' t (.lst (xs ++ [d])))) else .no
    | _ => .no
  | _ => .no
theorem ow_of {s : Option Sl} {f : Option Nat → List D → SR} {K : PySem.W.Frag} {Fr : Fm} {Hf : Hp} {E : Ends} (g : GoS K W Fr Hf (match s with
  | some (.ow' t (.lst xs)) => f t xs
  | _ => .no) E) : ∃ t xs, s = some (.ow' t (.lst xs)) ∧ GoS K W Fr Hf (f t xs) E := by
  cases s with
  | none => exact g.elim
  | some s =>
    cases s with
    | ow' t d =>
      cases d with
      | lst xs => exact ⟨t, xs, rfl, g⟩
      | _ => exact g.elim
    | _ => exact g.elim
theorem ow_ofD {s : Option Sl} {f : Option Nat → D → SR} {K : PySem.W.Frag} {Fr : Fm} {Hf : Hp} {E : Ends} (g : GoS K W Fr Hf (match s with
  | some (.ow' t d) => f t d
  | _ => .no) E) : ∃ t d, s = some (.ow' t d) ∧ GoS K W Fr Hf (f t d) E := by
  cases s with
  | none => exact g.elim
  | some s =>
    cases s with
    | ow' t d => exact ⟨t, d, rfl, g⟩
    | _ => exact g.elim
theorem ps_appD {i : Nat} {x : Str} {p1 p2 : Pos} (hv : PE X (.Name x p1) (tVar i)) (he : PE X e (rd X.K W me)) (h1 : starEach [e] X.env = (false, eval e X.env) :: starEach [] X.env)
    (hx : PE X (.Call (.Attribute (.Name x p1) "append" p2) [e] [] p) (tBM X.K "list" rAppend (tVar i) (tCons (rd X.K W me) tNil))) (hs : swapsWith (.Call (.Attribute (.Name x p1) "append" p2) [e] [] p) none pos.line X.env = pure false) :
    PS X (.Expr (.Call (.Attribute (.Name x p1) "append" p2) [e] [] p) pos) (rdS X.K W (appS i me)) := by
  refine PSweak (ps_expr hx hs) fun E σ H ⟨Fr, Hf, ρ, ev, g⟩ => ?_
  obtain ⟨tg, ys, h0, g0⟩ := ow_of (f := fun _ _ => (me ρ).st fun d ρ1 => match ρ1[i]? with
    | some (.ow' t (.lst xs)) => if xs.length < sizeL then .nx (ρ1.set i (.ow' t (.lst (xs ++ [d])))) else .no
    | _ => .no) g
  obtain ⟨a, _, q1, q2, q3, q4, ⟨xs, rfl, q5⟩, _⟩ := ev.sl i _ h0
  refine ⟨_, q1, .inl ⟨rfl, xs, SqL.of q4⟩, Fr, Hf, ρ, ev, (GoS.st g0).imp fun v H1 ⟨d, Hf1, ρ1, s1, e1, r1, g1⟩ => ?_⟩
  obtain ⟨tg, zs, h2, g2⟩ := ow_of (f := fun t xs => if xs.length < sizeL then .nx (ρ1.set i (.ow' t (.lst (xs ++ [d])))) else .no) g1
  by_cases hz : zs.length < sizeL
  · rw [if_pos hz] at g2
    obtain ⟨b, _, k1, k2, ⟨ws, rfl, k3⟩, k4⟩ := e1.change (d' := .lst (zs ++ [d])) h2
    rw [q1] at k1
    cases k1
    exact ⟨a, ws, v, rfl, rfl, k2, by rw [k3.length, sizeLine_eq]; exact hz, g2 _ Hf1 _ (Same.refl _) (k4 (.lst (ws ++ [v])) ⟨_, rfl, k3.append (.cons r1 .nil)⟩)⟩
  · rw [if_neg hz] at g2; exact g2.elim
def setiS (i : Nat) (mk me : Env → R D) (ρ : Env) : SR := (me ρ).st fun d ρ1 => match ρ1[i]? with
  | some (.ow' _ _) => (mk ρ1).st fun y ρ2 => match ρ2[i]? with
    | some (.ow' t c) => putI c y d fun c' => .nx (ρ2.set i (.ow' t c'))
    | _ => .no
  | _ => .no
def rSetA : TSet := fun o i v H Q => rSetL o i v H Q ∨ rSetD o i v H Q
theorem set_all (hu : X.A.units + 65 < cLine) : PSet X rSetA := by
  intro pins s σ H o i v ov iv u Q I ro ri rv h
  rcases h with h | h
  · exact set_list pins s σ H o i v ov iv u Q I ro ri rv h
  · exact set_dict (by omega) pins s σ H o i v ov iv u Q I ro ri rv h
theorem ps_setiD {i : Nat} {x : Str} {p1 p2 : Pos} {k : Expr} {mk : Env → R D} (hv : PE X (.Name x p1) (tVar i)) (he : PE X e (rd X.K W me)) (hk : PE X k (rd X.K W mk))
    (hx : PS X (.Assign [.Subscript (.Name x p1) k p2] e pos) (tAsg (rd X.K W me) (gSub (tVar i) (rd X.K W mk) rSetA))) :
    PS X (.Assign [.Subscript (.Name x p1) k p2] e pos) (rdS X.K W (setiS i mk me)) := by
  refine PSweak hx fun E σ H ⟨Fr, Hf, ρ, ev, g⟩ => ⟨Fr, Hf, ρ, ev, (GoS.st g).imp fun v H1 ⟨d, Hf1, ρ1, s1, e1, r1, g1⟩ => ?_⟩
  obtain ⟨tg, ys, h0, g0⟩ := ow_ofD (f := fun _ _ => (mk ρ1).st fun y ρ2 => match ρ2[i]? with
    | some (.ow' t c) => putI c y d fun c' => .nx (ρ2.set i (.ow' t c'))
    | _ => .no) g1
  obtain ⟨a, u, q1, q2, q3, q4, q5, _⟩ := e1.sl i _ h0
  refine ⟨_, q1, Fr, Hf1, ρ1, e1, (GoS.st g0).imp fun w H2 ⟨y, Hf2, ρ2, s2, e2, r2, g2⟩ => ?_⟩
  obtain ⟨tg, c, h2, g3⟩ := ow_ofD (f := fun t c => putI c y d fun c' => .nx (ρ2.set i (.ow' t c'))) g2
  cases c with
  | lst zs =>
    cases r2 with
    | int j =>
      have g3 : GoS X.K W Fr Hf2 (match ixN zs.length j with
        | some n => .nx (ρ2.set i (.ow' tg (.lst (zs.set n d))))
        | none => .no) E := g3
      cases hj : ixN zs.length j with
      | none => rw [hj] at g3; exact g3.elim
      | some n =>
        rw [hj] at g3
        obtain ⟨b, _, k1, k2, ⟨ws, rfl, k3⟩, k4⟩ := e2.change (d' := .lst (zs.set n d)) h2
        rw [q1] at k1
        cases k1
        exact .inl ⟨a, ws, j, n, rfl, rfl, k2, by rw [k3.length]; exact hj, g3 _ Hf2 _ (Same.refl _) (k4 (.lst (ws.set n v)) ⟨_, rfl, k3.set (r1.mono s2) n⟩)⟩
    | _ => exact g3.elim
  | dct t kvs =>
    have g3 : GoS X.K W Fr Hf2 (if isKey t y ∧ kvs.length < sizeL then .nx (ρ2.set i (.ow' tg (.dct t (dPut kvs y d)))) else .no) E := g3
    by_cases hz : isKey t y = true ∧ kvs.length < sizeL
    · rw [if_pos hz] at g3
      obtain ⟨b, u2, k1, k2, k3, k4⟩ := e2.change (d' := .dct t (dPut kvs y d)) h2
      rw [q1] at k1
      cases k1
      obtain ⟨u', hp, ru⟩ := rpO_dput k2 k3 (r2.mono e2.hp.hf) (r1.mono s2) hz.1 (by rw [sizeLine_eq]; exact hz.2)
      exact .inr ⟨a, _, rfl, hp, g3 _ Hf2 _ (Same.refl _) (k4 u' ru)⟩
    · rw [if_neg hz] at g3; exact g3.elim
  | _ => exact g3.elim
/-! ### for -/
theorem ps_forD {tge : Expr} {iter : Expr} {body : List Stmt} {tg : Tg} {mi : Env → R (List D)} {mb : Env → SR} (hp : PassesOwn (model X.prog X.w) X.A X.env X.xe) (hc : X.calm = true) (hi : PI X tge iter (rdI X.K W mi)) (hg : PG X tge (gD X.K tg)) (hb : PSs X body (rdS X.K W mb))
    (hs : ∀ x, foldedSetIterable iter X.env x = pure x) : PS X (.For tge iter body [] pos) (rdS X.K W fun ρ => (mi ρ).st (forD tg mb)) := by
  refine PSweak (ps_for hp hc hi hg hb hs) fun E σ H ⟨Fr, Hf, ρ, ev, g⟩ => ⟨Fr, Hf, ρ, ev, (GoS.st g).imp fun J H1 ⟨ds, Hf1, ρ1, s1, e1, it, g1⟩ => ?_⟩
  refine ⟨fun i m σ H => ∃ Hf2 ρ2, Same Hf1 Hf2 ∧ EnvAt X.K Fr Hf2 ρ2 σ H ∧ m = ds.length - i ∧ i ≤ ds.length ∧ GoS X.K W Fr Hf2 (forD tg mb (ds.drop i) ρ2) E, ⟨ds.length, Hf1, ρ1, Same.refl _, e1, by simp, Nat.zero_le _, by rw [List.drop_zero]; exact g1⟩, ?_⟩
  rintro i m σ2 H2 ⟨Hf2, ρ2, s2, e2, rfl, hi2, g2⟩
  obtain ⟨it1, it2⟩ := it Fr Hf2 H2 i s2 e2.hp
  by_cases hlt : i < ds.length
  · obtain ⟨d, hd⟩ : ∃ d, ds[i]? = some d := ⟨ds[i], List.getElem?_eq_getElem hlt⟩
    obtain ⟨jgo, jy⟩ := it1 d hd
    have hdrop : ds.drop i = d :: ds.drop (i + 1) := by
      rw [List.drop_eq_getElem_cons hlt]
      have : ds[i] = d := by
        rw [List.getElem?_eq_getElem hlt] at hd
        exact Option.some.inj hd
      rw [this]
    rw [hdrop] at g2
    refine .inr ⟨jgo, fun σ' H' => ∃ m', m' < ds.length - i ∧ ∃ Hf3 ρ3, Same Hf1 Hf3 ∧ EnvAt X.K Fr Hf3 ρ3 σ' H' ∧ m' = ds.length - (i + 1) ∧ i + 1 ≤ ds.length ∧ GoS X.K W Fr Hf3 (forD tg mb (ds.drop (i + 1)) ρ3) E, fun σ' H' ⟨m', hm, q⟩ => ⟨m', hm, q⟩, fun x H3 hy => ?_⟩
    obtain ⟨Hf3, gr3, rx⟩ := jy x H3 hy
    have e3 := e2.grow gr3
    have g3 : GoS X.K W Fr Hf2 (match asg tg d ρ2 with
      | none => .no
      | some ρ1 => match mb ρ1 with
        | .nx ρ2 => forD tg mb (ds.drop (i + 1)) ρ2
        | .ct ρ2 => forD tg mb (ds.drop (i + 1)) ρ2
        | .bk ρ2 => .nx ρ2
        | .rt d ρ2 => .rt d ρ2
        | .ex x ρ2 => .ex x ρ2
        | .no => .no) E := g2
    cases ha : asg tg d ρ2 with
    | none => rw [ha] at g3; exact g3.elim
    | some ρ3 =>
      rw [ha] at g3
      dsimp only at g3
      refine ⟨Fr, Hf3, ρ2, d, ρ3, e3, rx, ha, fun σ3 ag e4 => ⟨Fr, Hf3, ρ3, e4, ?_⟩⟩
      have more : ∀ {ρ4 : Env}, GoS X.K W Fr Hf2 (forD tg mb (ds.drop (i + 1)) ρ4) E → ∀ σ' Hf' H', Same Hf3 Hf' → EnvAt X.K Fr Hf' ρ4 σ' H' →
          ∃ m', m' < ds.length - i ∧ ∃ Hf3 ρ3, Same Hf1 Hf3 ∧ EnvAt X.K Fr Hf3 ρ3 σ' H' ∧ m' = ds.length - (i + 1) ∧ i + 1 ≤ ds.length ∧ GoS X.K W Fr Hf3 (forD tg mb (ds.drop (i + 1)) ρ3) E :=
        fun {ρ4} g4 σ' Hf' H' s' e' => ⟨ds.length - (i + 1), by omega, Hf', ρ4, (s2.trans gr3.f).trans s', e', rfl, hlt, g4.weak (gr3.f.trans s')⟩
      cases q : mb ρ3 with
      | no => rw [q] at g3; exact g3
      | ex y ρ4 => rw [q] at g3; exact fun σ' Hf' H' cls od s' => g3 σ' Hf' H' cls od (gr3.f.trans s')
      | nx ρ4 => rw [q] at g3; exact more g3
      | ct ρ4 => rw [q] at g3; exact more g3
      | bk ρ4 => rw [q] at g3; exact fun σ' Hf' H' s' => g3 σ' Hf' H' (gr3.f.trans s')
      | rt d ρ4 => rw [q] at g3; exact fun v σ' Hf' H' s' => g3 v σ' Hf' H' (gr3.f.trans s')
  · have hie : i = ds.length := by omega
    subst hie
    rw [List.drop_length] at g2
    exact .inl ⟨it2 (Nat.le_refl _), g2 σ2 Hf2 H2 (Same.refl _) e2⟩
/-! ### while -/
theorem ps_whileD {body : List Stmt} {mb : Env → SR} {fuel : Nat} (hp : PassesOwn (model X.prog X.w) X.A X.env X.xe) (hc : PT X c (rdB X.K W mc)) (hb : PSs X body (rdS X.K W mb)) : PS X (.While c body [] pos) (rdS X.K W (whileD mc mb fuel)) := by
  refine PSweak (ps_while hp hc hb) fun E σ H ⟨Fr, Hf, ρ, ev, g⟩ => ?_
  refine ⟨fun m σ H => ∃ Hf2 ρ2, Same Hf Hf2 ∧ EnvAt X.K Fr Hf2 ρ2 σ H ∧ GoS X.K W Fr Hf2 (whileD mc mb m ρ2) E, ⟨fuel, Hf, ρ, Same.refl _, ev, g⟩, ?_⟩
  rintro m σ2 H2 ⟨Hf2, ρ2, s2, e2, g2⟩
  cases m with
  | zero => exact g2.elim
  | succ n =>
    have g3 : GoS X.K W Fr Hf2 ((mc ρ2).st fun b ρ1 => match b with
      | .bl true => match mb ρ1 with
        | .nx ρ2 => whileD mc mb n ρ2
        | .ct ρ2 => whileD mc mb n ρ2
        | .bk ρ2 => .nx ρ2
        | .rt d ρ2 => .rt d ρ2
        | .ex x ρ2 => .ex x ρ2
        | .no => .no
      | .bl false => .nx ρ1
      | _ => .no) E := g2
    refine ⟨Fr, Hf2, ρ2, e2, (GoS.stB g3 fun d ρ h => ?_).imp fun k H3 ⟨Hf3, ρ3, s3, e3, g4⟩ => ?_⟩
    · cases d with
      | bl k => exact absurd rfl (h k)
      | _ => rfl
    · cases k with
      | false => exact iteF (g4 σ2 Hf3 H3 (Same.refl _) e3)
      | true =>
        refine iteT ⟨fun σ' H' => ∃ m', m' < n + 1 ∧ ∃ Hf2 ρ2, Same Hf Hf2 ∧ EnvAt X.K Fr Hf2 ρ2 σ' H' ∧ GoS X.K W Fr Hf2 (whileD mc mb m' ρ2) E, fun σ' H' ⟨m', hm, q⟩ => ⟨m', hm, q⟩, Fr, Hf3, ρ3, e3, ?_⟩
        dsimp only at g4
        have more : ∀ {ρ4 : Env}, GoS X.K W Fr Hf3 (whileD mc mb n ρ4) E → ∀ σ' Hf' H', Same Hf3 Hf' → EnvAt X.K Fr Hf' ρ4 σ' H' →
            ∃ m', m' < n + 1 ∧ ∃ Hf2 ρ2, Same Hf Hf2 ∧ EnvAt X.K Fr Hf2 ρ2 σ' H' ∧ GoS X.K W Fr Hf2 (whileD mc mb m' ρ2) E :=
          fun {ρ4} g4 σ' Hf' H' s' e' => ⟨n, Nat.lt_succ_self n, Hf', ρ4, (s2.trans s3).trans s', e', g4.weak s'⟩
        cases q : mb ρ3 with
        | no => rw [q] at g4; exact g4
        | ex y ρ4 => rw [q] at g4; exact g4
        | nx ρ4 => rw [q] at g4; exact more g4
        | ct ρ4 => rw [q] at g4; exact more g4
        | bk ρ4 => rw [q] at g4; exact g4
        | rt d ρ4 => rw [q] at g4; exact g4
end
end DL
set_option Elab.async false
set_option linter.all false
set_option maxRecDepth 100000
set_option maxHeartbeats 4000000
/-! DLx: more built-ins: min, max of one, gcd, comb, factorial, len(set()), index, pop, extend, unpacking. -/
namespace PySem.AutoSeq1
open PySem PySem.Spec PyProof.Rows
theorem ext_tup (l : Addr) (items : Array Value) (n : Nat) (b : Addr) (items2 : Array Value) (n2 : Nat) (o : Obj) (hc : o.cls = .type "tuple") (hd2 : o.data = .seq items2 n2) (hs0 : ¬(!items.isEmpty && Builtin.List.listTooLong (items.size + items2.size)) = true) (hs1 : items.size ≤ sizeLine) (hs2 : items.size + items2.size ≤ sizeLine + 1) :
    Meets (Builtin.«list.extend» ⟨[.ref l, .ref b], []⟩) (fun _ R s => s.heap.get? l = some { cls := .type "list", dict := none, data := .seq items n, slots := #[] } ∧ s.heap.get? b = some o ∧ R (.ok (.ret Value.none)) { s with heap := s.heap.update l (Obj.mapSeq fun x => x ++ items2), toks := s.toks }) :=
  .of_wp fun prog w A R s h => by
    obtain ⟨oc, od, dt, os⟩ := o
    subst hc hd2
    obtain ⟨hp, g, d, tk, os⟩ := s; obtain ⟨hl, hb, h⟩ := h; have f1 := idx_int; have f2 := sub_tuple_tuple; have f3 := sub_list_list; have f4 := sub_tuple_list; have f5 := sub_list_tuple
    have hz' : (items ++ items2).size ≤ sizeLine + 1 := by rw [Array.size_append]; exact hs2
    wp_walk using (wpAny_updateSeq hl rfl (hz := hs1) (_hz' := hz')), wpAny_loadPart' hl, wpAny_loadPart' hb; exact ⟨_, rfl, h⟩
end PySem.AutoSeq1
namespace DL
open PySem PySem.Spec PyProof.Rows L2
theorem pairs_eq {α β : Type} : ∀ {a b : List (α × β)}, a.map (·.1) = b.map (·.1) → a.map (·.2) = b.map (·.2) → a = b
  | [], [], _, _ => rfl
  | [], _ :: _, h, _ => by cases h
  | _ :: _, [], h, _ => by cases h
  | (x, y) :: a, (z, w) :: b, h1, h2 => by
    rw [List.map_cons, List.map_cons] at h1 h2
    injection h1 with h1 h3
    injection h2 with h2 h4
    dsimp only at h1 h2
    rw [h1, h2, pairs_eq h3 h4]
mutual
theorem reads_eq {h : Heap} : ∀ {v : Value} {x y : PyData} {as bs : List Addr}, Reads h v x as → Reads h v y bs → x = y
  | _, _, _, _, _, .none, r => by cases r; rfl
  | _, _, _, _, _, .bool _, r => by cases r; rfl
  | _, _, _, _, _, .int _ _, r => by cases r; rfl
  | _, _, _, _, _, .str _ _, r => by cases r; rfl
  | _, _, _, _, _, .list e c d rr, r => by
    cases r with
    | list e' c' d' rr' =>
      rw [e] at e'; cases e'
      rw [d] at d'; cases d'
      rw [readsAll_eq rr rr']
    | tuple e' c' d' rr' => rw [e] at e'; cases e'; rw [c] at c'; exact absurd c' (by decide)
    | dict e' c' d' rr' => rw [e] at e'; cases e'; rw [c] at c'; exact absurd c' (by decide)
  | _, _, _, _, _, .tuple e c d rr, r => by
    cases r with
    | tuple e' c' d' rr' =>
      rw [e] at e'; cases e'
      rw [d] at d'; cases d'
      rw [readsAll_eq rr rr']
    | list e' c' d' rr' => rw [e] at e'; cases e'; rw [c] at c'; exact absurd c' (by decide)
    | dict e' c' d' rr' => rw [e] at e'; cases e'; rw [c] at c'; exact absurd c' (by decide)
  | _, _, _, _, _, .dict e c d rr rr2, r => by
    cases r with
    | dict e' c' d' r1 r2 =>
      rw [e] at e'; cases e'
      rw [d] at d'; cases d'
      rw [pairs_eq (readsAll_eq rr r1) (readsAll_eq rr2 r2)]
    | list e' c' d' rr' => rw [e] at e'; cases e'; rw [c] at c'; exact absurd c' (by decide)
    | tuple e' c' d' rr' => rw [e] at e'; cases e'; rw [c] at c'; exact absurd c' (by decide)
theorem readsAll_eq {h : Heap} : ∀ {vs : List Value} {xs ys : List PyData} {as bs : List Addr}, ReadsAll h vs xs as → ReadsAll h vs ys bs → xs = ys
  | _, _, _, _, _, .nil, r => by cases r; rfl
  | _, _, _, _, _, .cons r rs, r' => by
    cases r' with
    | cons q qs => rw [reads_eq r q, readsAll_eq rs qs]
end
mutual
theorem py_inj : ∀ (n : Nat) (d e : D), D.okN n d = true → D.okN n e = true → d.py = e.py → d = e
  | n, .non, e, _, h, q => by cases e <;> first | rfl | (cases q; done) | (cases n <;> cases h)
  | n, .bl b, e, _, h, q => by cases e <;> first | (cases q; rfl) | (cases q; done) | (cases n <;> cases h)
  | n, .int i, e, _, h, q => by cases e <;> first | (cases q; rfl) | (cases q; done) | (cases n <;> cases h)
  | n, .str s, e, _, h, q => by cases e <;> first | (cases q; rfl) | (cases q; done) | (cases n <;> cases h)
  | 0, .tup _, _, h, _, _ => by cases h
  | 0, .lst _, _, h, _, _ => by cases h
  | n + 1, .tup xs, e, h, h', q => by
    cases e <;> first | (cases q; done) | (cases h'; done) | skip
    rename_i ys
    have q : PyData.tuple (D.pys xs) = PyData.tuple (D.pys ys) := q
    injection q with q
    rw [pys_inj n xs ys h h' q]
  | n + 1, .lst xs, e, h, h', q => by
    cases e <;> first | (cases q; done) | (cases h'; done) | skip
    rename_i ys
    have q : PyData.list (D.pys xs) = PyData.list (D.pys ys) := q
    injection q with q
    rw [pys_inj n xs ys h h' q]
  | n, .ro _, _, h, _, _ => by cases n <;> cases h
  | n, .dct _ _, _, h, _, _ => by cases n <;> cases h
  | n, .obj _ _, _, h, _, _ => by cases n <;> cases h
theorem pys_inj : ∀ (n : Nat) (xs ys : List D), D.okNs n xs = true → D.okNs n ys = true → D.pys xs = D.pys ys → xs = ys
  | n, [], [], _, _, _ => rfl
  | n, [], _ :: _, _, _, q => by cases q
  | n, _ :: _, [], _, _, q => by cases q
  | n, x :: xs, y :: ys, h, h', q => by
    have h1 : (D.okN n x && D.okNs n xs) = true := by cases n <;> exact h
    have h2 : (D.okN n y && D.okNs n ys) = true := by cases n <;> exact h'
    obtain ⟨a1, a2⟩ := Bool.and_eq_true_iff.mp h1
    obtain ⟨b1, b2⟩ := Bool.and_eq_true_iff.mp h2
    have q : D.py x :: D.pys xs = D.py y :: D.pys ys := q
    injection q with q1 q2
    rw [py_inj n x y a1 b1 q1, pys_inj n xs ys a2 b2 q2]
end
theorem bestOk_of {ds : List D} (h : bestOk ds = true) : (∀ d ∈ ds, D.okN 60 d = true) ∧ PySem.W.AlikeAll (ds.map D.py) := by
  unfold bestOk at h
  obtain ⟨h, h3⟩ := Bool.and_eq_true_iff.mp h
  obtain ⟨h1, h2⟩ := Bool.and_eq_true_iff.mp h
  have k1 : ∀ d ∈ ds, D.okN 60 d = true := fun d hd => List.all_eq_true.mp h1 d hd
  refine ⟨k1, fun x hx y hy => ?_, fun x hx e => ?_⟩
  · obtain ⟨a, ha, rfl⟩ := List.mem_map.mp hx
    obtain ⟨b, hb, rfl⟩ := List.mem_map.mp hy
    exact List.all_eq_true.mp (List.all_eq_true.mp h2 a ha) b hb
  · obtain ⟨a, ha, q⟩ := List.mem_map.mp hx
    have z := List.all_eq_true.mp h3 a ha
    have : a = .non := py_inj 60 a .non (k1 a ha) rfl (q.trans e)
    subst this
    cases z
theorem minDD_py : ∀ (xs : List D) (x : D), (minDD x xs).py = PySem.W.minD x.py (xs.map D.py) ∧ minDD x xs ∈ x :: xs
  | [], x => ⟨rfl, List.mem_singleton.mpr rfl⟩
  | y :: xs, x => by
    have e1 : minDD x (y :: xs) = minDD (if PySem.W.dataLt y.py x.py then y else x) xs := rfl
    have e2 : PySem.W.minD x.py ((y :: xs).map D.py) = PySem.W.minD (if PySem.W.dataLt y.py x.py then y.py else x.py) (xs.map D.py) := rfl
    obtain ⟨h1, h2⟩ := minDD_py xs (if PySem.W.dataLt y.py x.py then y else x)
    refine ⟨?_, ?_⟩
    · rw [e1, e2, h1]
      congr 1
      split <;> rfl
    · rw [e1]
      rcases List.mem_cons.mp h2 with q | q
      · rw [q]
        split
        · exact List.mem_cons_of_mem _ List.mem_cons_self
        · exact List.mem_cons_self
      · exact List.mem_cons_of_mem _ (List.mem_cons_of_mem _ q)
theorem maxDD_py : ∀ (xs : List D) (x : D), (maxDD x xs).py = PySem.W.maxD x.py (xs.map D.py) ∧ maxDD x xs ∈ x :: xs
  | [], x => ⟨rfl, List.mem_singleton.mpr rfl⟩
  | y :: xs, x => by
    have e1 : maxDD x (y :: xs) = maxDD (if PySem.W.dataLt x.py y.py then y else x) xs := rfl
    have e2 : PySem.W.maxD x.py ((y :: xs).map D.py) = PySem.W.maxD (if PySem.W.dataLt x.py y.py then y.py else x.py) (xs.map D.py) := rfl
    obtain ⟨h1, h2⟩ := maxDD_py xs (if PySem.W.dataLt x.py y.py then y else x)
    refine ⟨?_, ?_⟩
    · rw [e1, e2, h1]
      congr 1
      split <;> rfl
    · rw [e1]
      rcases List.mem_cons.mp h2 with q | q
      · rw [q]
        split
        · exact List.mem_cons_of_mem _ List.mem_cons_self
        · exact List.mem_cons_self
      · exact List.mem_cons_of_mem _ (List.mem_cons_of_mem _ q)
section
variable {X : Cx} {W : WX} {pos p : Pos} {a b c : Expr} {ma mb mc : Env → R D}
theorem depthAll_le {n : Nat} : ∀ {ds : List D}, (∀ d ∈ ds, D.okN n d = true) → PyData.depthAll (ds.map D.py) ≤ n + 1
  | [], _ => Nat.zero_le _
  | d :: ds, h => Nat.max_le.mpr ⟨(okN_lay n d (h d List.mem_cons_self)).2, depthAll_le fun e he => h e (List.mem_cons_of_mem _ he)⟩
theorem each_at {α β : Type} {R : α → β → Prop} : ∀ {as : List α} {bs : List β}, PySem.W.EachIs R as bs → ∀ (i : Nat) (a : α), as[i]? = some a → ∃ b, bs[i]? = some b ∧ R a b
  | _, _, .nil, i, a, h => by simp at h
  | _, _, .cons r e, 0, a, h => by
    cases h
    exact ⟨_, rfl, r⟩
  | _, _, .cons r e, i + 1, a, h => each_at e i a (by simpa using h)
/-- the item found, by what it reads as -/
theorem best_item {pins : List (Addr × Obj)} {σ : SSt} {H Hf : Hp} {s : Shared} {h' : Heap} {ys : List V} {its : List Value} {ds : List D} {m : D} (I : Inv X pins σ H s) (rv : Vals ys its) (sm : Same Hf H) (rp : Rps X.K Hf ys ds) (ho : ∀ d ∈ ds, D.okN 60 d = true) (hm : m ∈ ds)
    {i : Nat} {v : Value} {bs : List Addr} (hv : its[i]? = some v) (hr : Reads h' v m.py bs) (hk : ∀ b o, s.heap.get? b = some o → h'.get? b = some o) : ∃ w, RelV w v ∧ Rp X.K Hf w m := by
  have e := each_of rv rp
  have hz := each_at e i v hv
  obtain ⟨d, hd, w, r1, r2⟩ := hz
  have hdm := List.mem_of_getElem? hd
  obtain ⟨as, q⟩ := Dp.reads I d.py w v ((r2.mono sm).dp (ho d hdm)) r1
  have : d = m := py_inj 60 d m (ho d hdm) (ho m hm) (reads_eq (PySem.W.reads_keeps hk q) hr)
  subst this
  exact ⟨w, r1, r2⟩
def rBest (K : PySem.W.Frag) (f : D → List D → D) : List V → Hp → VK → Prop := fun vs H Q => ∃ (p : Addr) (ys : List V) (Hf : Hp) (d : D) (ds : List D), vs = [.ref p] ∧ (SqL K H p ys ∨ SqT K H p ys) ∧ Same Hf H ∧ Rps K Hf ys (d :: ds) ∧ bestOk (d :: ds) = true ∧ ∀ w, Rp K Hf w (f d ds) → Q w H
theorem call_min1 (hc : X.calm = true) (hu : X.A.units + 65 < cLine) : CallR X (.builtin "min") (rBest X.K minDD) := by
  intro pins s σ H xs us Q I r ⟨p, ys, Hf, d, ds, exs, hq, sm, rp, hk, q⟩
  subst exs
  obtain rfl := Vals.ref1 r
  obtain ⟨k1, k2⟩ := bestOk_of hk
  obtain ⟨m1, m2⟩ := minDD_py ds d
  have hdp := depthAll_le k1
  rw [List.map_cons] at hdp
  rcases hq with hq | hq
  · obtain ⟨its, rv, hl, hz⟩ := I.list hq
    obtain ⟨as, hr⟩ := PySem.W.each_readsAll D.py (reads_each I rv (Rps.mono sm rp) k1)
    refine PySem.W.min_list_data (I.ok.hd hc) hl.isList hr k2 (by omega) fun i v h' tk bs hv hrd hkk => ?_
    rw [← m1] at hrd
    obtain ⟨w, w1, w2⟩ := best_item I rv sm rp k1 m2 (by simpa using hv) hrd hkk
    exact ⟨w, H, I.kept hkk, w1, q w w2⟩
  · obtain ⟨its, rv, ⟨o, e, c, n, dd⟩, hz⟩ := I.tuple hq
    obtain ⟨as, hr⟩ := PySem.W.each_readsAll D.py (reads_each I rv (Rps.mono sm rp) k1)
    refine PySem.W.min_tuple_data (vs := its.toArray) (I.ok.hd hc) ⟨o, e, c, n, dd⟩ hr k2 (by omega) fun i v h' tk bs hv hrd hkk => ?_
    rw [← m1] at hrd
    obtain ⟨w, w1, w2⟩ := best_item I rv sm rp k1 m2 (by simpa using hv) hrd hkk
    exact ⟨w, H, I.kept hkk, w1, q w w2⟩
theorem call_max1 (hc : X.calm = true) (hu : X.A.units + 65 < cLine) : CallR X (.builtin "max") (rBest X.K maxDD) := by
  intro pins s σ H xs us Q I r ⟨p, ys, Hf, d, ds, exs, hq, sm, rp, hk, q⟩
  subst exs
  obtain rfl := Vals.ref1 r
  obtain ⟨k1, k2⟩ := bestOk_of hk
  obtain ⟨m1, m2⟩ := maxDD_py ds d
  have hdp := depthAll_le k1
  rw [List.map_cons] at hdp
  rcases hq with hq | hq
  · obtain ⟨its, rv, hl, hz⟩ := I.list hq
    obtain ⟨as, hr⟩ := PySem.W.each_readsAll D.py (reads_each I rv (Rps.mono sm rp) k1)
    refine PySem.W.max_list_data (I.ok.hd hc) hl.isList hr k2 (by omega) fun i v h' tk bs hv hrd hkk => ?_
    rw [← m1] at hrd
    obtain ⟨w, w1, w2⟩ := best_item I rv sm rp k1 m2 (by simpa using hv) hrd hkk
    exact ⟨w, H, I.kept hkk, w1, q w w2⟩
  · obtain ⟨its, rv, ⟨o, e, c, n, dd⟩, hz⟩ := I.tuple hq
    obtain ⟨as, hr⟩ := PySem.W.each_readsAll D.py (reads_each I rv (Rps.mono sm rp) k1)
    refine PySem.W.max_tuple_data (vs := its.toArray) (I.ok.hd hc) ⟨o, e, c, n, dd⟩ hr k2 (by omega) fun i v h' tk bs hv hrd hkk => ?_
    rw [← m1] at hrd
    obtain ⟨w, w1, w2⟩ := best_item I rv sm rp k1 m2 (by simpa using hv) hrd hkk
    exact ⟨w, H, I.kept hkk, w1, q w w2⟩
theorem best_cd {r : D → List D → D} {b : B1} (hb : ∀ d z, b1D b d = some z → ∃ x xs, (d = .lst (x :: xs) ∨ d = .tup (x :: xs)) ∧ bestOk (x :: xs) = true ∧ z = r x xs) : CallD X.K (rBest X.K r) (b1D b) := by
  intro Hf H v d z Q s rv hz q
  obtain ⟨x, xs, hd, hk, rfl⟩ := hb d z hz
  rcases hd with rfl | rfl
  · cases rv with
    | lst ha ra => exact ⟨_, _, Hf, x, xs, rfl, .inl (SqL.of (s _ _ ha)), s, ra, hk, fun w hw => q w Hf H Grow.refl hw⟩
  · cases rv with
    | tup ha ra => exact ⟨_, _, Hf, x, xs, rfl, .inr (SqT.of (s _ _ ha)), s, ra, hk, fun w hw => q w Hf H Grow.refl hw⟩
theorem cd_min1 (hc : X.calm = true) (hu : X.A.units + 65 < cLine) : ∃ r, CallR X (.builtin "min") r ∧ CallD X.K r (b1D .min1) := by
  refine ⟨_, call_min1 hc hu, best_cd fun d z h => ?_⟩
  cases d with
  | lst xs =>
    cases xs with
    | nil => cases h
    | cons x xs =>
      have h : (if bestOk (x :: xs) then some (minDD x xs) else none) = some z := h
      split at h
      · rename_i hk; cases h; exact ⟨x, xs, .inl rfl, hk, rfl⟩
      · cases h
  | tup xs =>
    cases xs with
    | nil => cases h
    | cons x xs =>
      have h : (if bestOk (x :: xs) then some (minDD x xs) else none) = some z := h
      split at h
      · rename_i hk; cases h; exact ⟨x, xs, .inr rfl, hk, rfl⟩
      · cases h
  | _ => cases h
theorem cd_max1 (hc : X.calm = true) (hu : X.A.units + 65 < cLine) : ∃ r, CallR X (.builtin "max") r ∧ CallD X.K r (b1D .max1) := by
  refine ⟨_, call_max1 hc hu, best_cd fun d z h => ?_⟩
  cases d with
  | lst xs =>
    cases xs with
    | nil => cases h
    | cons x xs =>
      have h : (if bestOk (x :: xs) then some (maxDD x xs) else none) = some z := h
      split at h
      · rename_i hk; cases h; exact ⟨x, xs, .inl rfl, hk, rfl⟩
      · cases h
  | tup xs =>
    cases xs with
    | nil => cases h
    | cons x xs =>
      have h : (if bestOk (x :: xs) then some (maxDD x xs) else none) = some z := h
      split at h
      · rename_i hk; cases h; exact ⟨x, xs, .inr rfl, hk, rfl⟩
      · cases h
  | _ => cases h
/-! ### of math -/
theorem fac_eq : ∀ n : Nat, Builtin.Math.factorialNat n = facN n
  | 0 => rfl
  | n + 1 => by rw [PySem.W.mc_fac_succ, fac_eq n]; rfl
def rFact : List V → Hp → VK → Prop := fun vs H Q => ∃ a : Int, vs = [.int a] ∧ 0 ≤ a ∧ a ≤ 20000 ∧ Q (.int (facN a.toNat : Nat)) H
theorem call_fact : CallR X (.builtin "math.factorial") rFact := by
  intro pins s σ H vs us Q I r ⟨a, e, h1, h2, q⟩
  subst e
  obtain ⟨t, rfl⟩ : ∃ t, us = [.int a t] := by
    cases r with
    | cons h hs =>
      cases hs
      obtain ⟨t, rfl⟩ := h
      exact ⟨t, rfl⟩
  refine PySem.W.mc_factorial h1 h2 fun _ => ?_
  rw [fac_eq]
  exact ⟨.int _, H, I.tok _, ⟨_, rfl⟩, q⟩
theorem cd_fact : ∃ r, CallR X (.builtin "math.factorial") r ∧ CallD X.K r (b1D .fact) := by
  refine ⟨_, call_fact, fun Hf H v d z Q s rv hz q => ?_⟩
  cases rv with
  | int i =>
    have hz : (if 0 ≤ i ∧ i ≤ 20000 then some (D.int (facN i.toNat : Nat)) else none) = some z := hz
    split at hz
    · rename_i h; cases hz; exact ⟨i, rfl, h.1, h.2, q _ Hf H Grow.refl (.int _)⟩
    · cases hz
  | _ => cases hz
theorem cd_gcd : ∃ r, CallR X (.builtin "math.gcd") r ∧ CallD2 X.K r (b2D .gcd) := by
  refine ⟨_, cr_gcd, fun Hf H v w d e z Q s rv rw_ hz q => ?_⟩
  cases rv with
  | int i =>
    cases rw_ with
    | int j => cases hz; exact ⟨i, j, rfl, q _ Hf H Grow.refl (.int _)⟩
    | _ => cases hz
  | _ => cases hz
def rComb : List V → Hp → VK → Prop := fun vs H Q => ∃ a b : Int, vs = [.int a, .int b] ∧ 0 ≤ a ∧ 0 ≤ b ∧ a ≤ 18000 ∧ Q (.int (PySem.W.mcComb a b)) H
theorem call_comb : CallR X (.builtin "math.comb") rComb := by
  intro pins s σ H vs us Q I r ⟨a, b, e, h1, h2, h3, q⟩
  subst e
  obtain ⟨t, u, rfl⟩ := Vals.int2 r
  exact PySem.W.mc_comb h1 h2 (by omega) (.inr h3) fun _ => ⟨.int _, H, I.tok _, ⟨_, rfl⟩, q⟩
theorem cd_comb : ∃ r, CallR X (.builtin "math.comb") r ∧ CallD2 X.K r (b2D .comb) := by
  refine ⟨_, call_comb, fun Hf H v w d e z Q s rv rw_ hz q => ?_⟩
  cases rv with
  | int i =>
    cases rw_ with
    | int j =>
      have hz : (if 0 ≤ i ∧ 0 ≤ j ∧ i ≤ 18000 then some (D.int (PySem.W.mcComb i j)) else none) = some z := hz
      split at hz
      · rename_i h; cases hz; exact ⟨i, j, rfl, h.1, h.2.1, h.2.2, q _ Hf H Grow.refl (.int _)⟩
      · cases hz
    | _ => cases hz
  | _ => cases hz
/-! ### len(set(xs)) -/
theorem nodup_perm_len {a b : List Int} (ha : a.Nodup) (hb : b.Nodup) (h : ∀ x, x ∈ a ↔ x ∈ b) : a.length = b.length := ((List.perm_ext_iff_of_nodup ha hb).mpr h).length_eq
theorem eraseDups_ok : ∀ (n : Nat) (ns : List Int), ns.length ≤ n → (ns.eraseDups).Nodup ∧ ∀ x, x ∈ ns.eraseDups ↔ x ∈ ns
  | _, [], _ => ⟨by simp, by simp⟩
  | 0, _ :: _, h => by simp at h
  | n + 1, y :: ns, h => by
    have hl : (ns.filter fun b => !b == y).length ≤ n := Nat.le_trans (List.length_filter_le _ _) (by simpa using h)
    obtain ⟨h1, h2⟩ := eraseDups_ok n (ns.filter fun b => !b == y) hl
    rw [List.eraseDups_cons]
    refine ⟨List.nodup_cons.mpr ⟨fun q => ?_, h1⟩, fun x => ?_⟩
    · have := (h2 y).mp q
      simp at this
    · rw [List.mem_cons, h2, List.mem_cons]
      by_cases hx : x = y
      · simp [hx]
      · simp [hx]
theorem eraseDups_len : ∀ (n : Nat) (ns : List Int), ns.length ≤ n → ns.eraseDups.length ≤ ns.length
  | _, [], _ => by simp
  | 0, _ :: _, h => by simp at h
  | n + 1, y :: ns, h => by
    have hl : (ns.filter fun b => !b == y).length ≤ ns.length := List.length_filter_le _ _
    have := eraseDups_len n (ns.filter fun b => !b == y) (by simp at h; omega)
    rw [List.eraseDups_cons, List.length_cons, List.length_cons]
    omega
theorem setR_len {w : World} {h : Heap} {a : Addr} {ns : List Int} {n : Nat} (R : SetR w h a (fun j => decide (j ∈ ns)) n) : n = ns.eraseDups.length := by
  obtain ⟨o, es, ep, t, _, _, _, _, hn, hm, _, _, hz, _⟩ := R
  obtain ⟨e1, e2⟩ := eraseDups_ok ns.length ns (Nat.le_refl _)
  rw [← hz, ← Array.length_toList, ← List.length_map (f := keyOf)]
  exact nodup_perm_len hn e1 fun x => by rw [← hm, e2, decide_eq_true_iff]
def tLSet (K : PySem.W.Frag) (ta : TE) : TE := fun σ H Q => ta σ H fun x H1 => ∃ (l : Addr) (ns : List Int), x = V.ref l ∧ SqT K H1 l (ns.map V.int) ∧ ns.length < 1000 ∧ Q (.int (ns.eraseDups.length : Nat)) H1
theorem pe_lset {q : Pos} {p2 : Pos} {ta : TE} (hc : X.calm = true) (hg : Gl X "len") (hm : X.mg "len" = none) (hg2 : Gl X "set") (hm2 : X.mg "set" = none) (ha : PE X a ta)
    (na : starEach [a] X.env = (false, eval a X.env) :: starEach [] X.env) : PE X (.Call (.Name "len" p) [.Call (.Name "set" p2) [a] [] q] [] pos) (tLSet X.K ta) := by
  refine ⟨fun pins s σ H Q I h => ?_⟩
  refine Call_ (ld_blt I hg hm PySem.boot_len ?_)
  refine PyProof.Rows.callWith_builtin1 (PyProof.Rows.args_cons ?_ rfl) rfl rfl
  refine Call_ (ld_blt I hg2 hm2 PyProof.Rows.boot_set ?_)
  refine PyProof.Rows.callWith_type1 (PyProof.Rows.args_cons (thn (ha.run pins s σ H _ I h) fun v s1 ⟨x, H1, I1, r1, q1⟩ => PyProof.Rows.args_nil ?_) na) na rfl
  obtain ⟨l, ns, rfl, hq, h1, q1⟩ := q1
  cases r1
  obtain ⟨its, rv, ⟨o, e, cc, n, dd⟩, hz⟩ := I1.tuple hq
  refine call_set_tupI (items := its.toArray) ns (I1.ok.hd hc) ⟨o, e, cc, n, dd⟩ rv.ints (by unfold scanBound; omega) fun h' tk c hS _ hk => ?_
  have hl := setR_len hS
  refine PyProof.Rows.args_nil ?_
  obtain ⟨o2, es, ep, t, ho, hex, hd, _, _, _, _, hf, hn, _⟩ := hS
  have I2 : Inv X pins σ H1 { s1 with heap := h', toks := tk } := I1.kept hk
  refine call_len_set ho hex hd hf (by
    have := eraseDups_len ns.length ns (Nat.le_refl _)
    rw [hn, hl]
    omega) ⟨.int (ns.eraseDups.length : Nat), H1, I2.tok _, ⟨_, by rw [hn, hl]⟩, q1⟩
theorem pd_lset {q : Pos} {p2 : Pos} (hc : X.calm = true) (hg : Gl X "len") (hm : X.mg "len" = none) (hg2 : Gl X "set") (hm2 : X.mg "set" = none) (ha : PE X a (rd X.K W ma))
    (na : starEach [a] X.env = (false, eval a X.env) :: starEach [] X.env) : PE X (.Call (.Name "len" p) [.Call (.Name "set" p2) [a] [] q] [] pos) (rd X.K W fun ρ => (ma ρ).bind fun x ρ1 => R.of (lsetD x) ρ1) := by
  refine PEweak (pe_lset hc hg hm hg2 hm2 ha na) fun σ H Q ⟨Fr, Hf, ρ, e, g⟩ => ⟨Fr, Hf, ρ, e, (Go.bind g).imp fun v H1 ⟨d1, Hf1, ρ1, s1, e1, r1, g1⟩ => ?_⟩
  cases r1 with
  | @tup ad xs ds h rr =>
    have g1 : Go X.K W Fr Hf1 σ (PV X.K) (R.of (match intsOf ds with
      | some ns => if ns.length < 1000 then some (.int (ns.eraseDups.length : Nat)) else none
      | none => none) ρ1) Q := g1
    cases hk : intsOf ds with
    | none => rw [hk] at g1; exact g1.elim
    | some ns =>
      rw [hk] at g1
      dsimp only at g1
      by_cases hl : ns.length < 1000
      · rw [if_pos hl] at g1
        have e := rr.intsV hk
        subst e
        exact ⟨ad, ns, rfl, SqT.of (e1.hp.hf _ _ h), hl, g1 _ Hf1 H1 (Same.refl _) e1 (.int _)⟩
      · rw [if_neg hl] at g1; exact g1.elim
  | _ => exact g1.elim
/-! ### methods that read -/
theorem okl {xs : List D} {d : D} {j : D} (h : m1D .index (.lst xs) d = some j) : D.okN 60 d = true ∧ D.okN 60 (.lst xs) = true ∧ ∃ k : Nat, j = .int (k : Nat) ∧ ∃ z, xs[k]? = some z ∧ D.eqv z d = true ∧ ∀ m z', m < k → xs[m]? = some z' → D.eqv z' d = false := by
  have h : (if D.okN 60 d && D.okN 60 (.lst xs) then (xs.findIdx? fun z => D.eqv z d).map fun j => D.int (j : Nat) else none) = some j := h
  split at h
  · rename_i hk
    obtain ⟨h1, h2⟩ := Bool.and_eq_true_iff.mp hk
    obtain ⟨k, hk, rfl⟩ := Option.map_eq_some_iff.mp h
    obtain ⟨l, a1, a2⟩ := List.findIdx?_eq_some_iff_getElem.mp hk
    refine ⟨h1, h2, k, rfl, xs[k], List.getElem?_eq_getElem l, a1, fun m z' hm hz => ?_⟩
    have hm2 : m < xs.length := by omega
    rw [List.getElem?_eq_getElem hm2] at hz
    cases hz
    have := a2 m hm
    simpa using this
  · cases h
theorem pys_at : ∀ {xs : List D} {k : Nat} {z : D}, xs[k]? = some z → (D.pys xs)[k]? = some z.py
  | [], _, _, h => by simp at h
  | x :: xs, 0, z, h => by cases h; rfl
  | x :: xs, k + 1, z, h => pys_at (xs := xs) (k := k) (by simpa using h)
theorem pys_of : ∀ {xs : List D} {k : Nat} {z : PyData}, (D.pys xs)[k]? = some z → ∃ y, xs[k]? = some y ∧ z = y.py
  | [], _, _, h => by simp [D.pys] at h
  | x :: xs, 0, z, h => by
    have h : some x.py = some z := h
    cases h
    exact ⟨x, rfl, rfl⟩
  | x :: xs, k + 1, z, h => pys_of (xs := xs) (k := k) h
theorem pd_index {p' : Pos} (hu : X.A.units + 65 < cLine) (ha : PE X a (rd X.K W ma)) (hb : PE X b (rd X.K W mb)) (h2 : starEach [b] X.env = (false, eval b X.env) :: starEach [] X.env)
    (hbase : attributeBase a "index" X.env (eval a X.env) = eval a X.env) (hline : (p'.endLine == pos.line) = true) :
    PE X (.Call (.Attribute a "index" p') [b] [] pos) (rd X.K W fun ρ => (ma ρ).bind fun x ρ1 => if lstB x then (mb ρ1).bind fun y ρ2 => R.of (m1D .index x y) ρ2 else .no) := by
  refine PEweak (pe_bm PySem.F.plainAttrs_list PySem.F.slot_list_index PySem.F.type_list_index (mt_indexD hu) ha (pa_cons hb pa_nil h2) (hbase := hbase) (hfew := by rw [h2]; rfl) (hline := hline) (hs := h2) (hplain := by rfl)) fun σ H Q ⟨Fr, Hf, ρ, e, g⟩ => ?_
  refine ⟨Fr, Hf, ρ, e, (Go.bind g).imp fun v H1 ⟨x, Hf1, ρ1, s1, e1, r1, g⟩ => ?_⟩
  cases r1 with
  | @lst ad ws xs hl rr =>
    have g : Go X.K W Fr Hf1 σ (PV X.K) ((mb ρ1).bind fun y ρ2 => R.of (m1D .index (.lst xs) y) ρ2) Q := g
    refine ⟨.inl ⟨rfl, ws, SqL.of (e1.hp.hf _ _ hl)⟩, Fr, Hf1, ρ1, e1, (Go.bind g).imp fun w H2 ⟨d2, Hf2, ρ2, s2, e2, r2, g2⟩ => ?_⟩
    cases hz : m1D .index (.lst xs) d2 with
    | none => rw [hz] at g2; exact g2.elim
    | some j =>
      rw [hz] at g2
      obtain ⟨k1, k2, k, rfl, z, k3, k4, k5⟩ := okl hz
      have sm := s2.trans e2.hp.hf
      have dl : Dp X.K H2 (.ref ad) (.list (D.pys xs)) := ((Rp.lst hl rr).mono sm).dp k2
      refine ⟨ad, w, d2.py, D.pys xs, k, z.py, rfl, rfl, dl, (r2.mono e2.hp.hf).dp k1, ok_shaped k2, ok_shaped k1, pys_at k3, by rw [eqv_py]; exact k4, fun m z' hm hz' => ?_, g2 _ Hf2 H2 (Same.refl _) e2 (.int _)⟩
      obtain ⟨y, y1, rfl⟩ := pys_of hz'
      rw [eqv_py]
      exact k5 m y hm y1
  | _ => exact g.elim
theorem pd_count {p' : Pos} (ha : PE X a (rd X.K W ma)) (hb : PE X b (rd X.K W mb)) (h2 : starEach [b] X.env = (false, eval b X.env) :: starEach [] X.env)
    (hbase : attributeBase a "count" X.env (eval a X.env) = eval a X.env) (hline : (p'.endLine == pos.line) = true) :
    PE X (.Call (.Attribute a "count" p') [b] [] pos) (rd X.K W fun ρ => (ma ρ).bind fun x ρ1 => if lstB x then (mb ρ1).bind fun y ρ2 => R.of (m1D .count x y) ρ2 else .no) := by
  refine PEweak (pe_bm PySem.F.plainAttrs_list PySem.F.slot_list_count PySem.F.type_list_count mt_lcount ha (pa_cons hb pa_nil h2) (hbase := hbase) (hfew := by rw [h2]; rfl) (hline := hline) (hs := h2) (hplain := by rfl)) fun σ H Q ⟨Fr, Hf, ρ, e, g⟩ => ?_
  refine ⟨Fr, Hf, ρ, e, (Go.bind g).imp fun v H1 ⟨x, Hf1, ρ1, s1, e1, r1, g⟩ => ?_⟩
  cases r1 with
  | @lst ad ws xs hl rr =>
    have g : Go X.K W Fr Hf1 σ (PV X.K) ((mb ρ1).bind fun y ρ2 => R.of (m1D .count (.lst xs) y) ρ2) Q := g
    refine ⟨.inl ⟨rfl, ws, SqL.of (e1.hp.hf _ _ hl)⟩, Fr, Hf1, ρ1, e1, (Go.bind g).imp fun w H2 ⟨d2, Hf2, ρ2, s2, e2, r2, g2⟩ => ?_⟩
    cases r2 with
    | int j =>
      have g2 : Go X.K W Fr Hf2 σ (PV X.K) (R.of ((intsOf xs).map fun ns => .int (ns.count j : Nat)) ρ2) Q := g2
      cases hk : intsOf xs with
      | none => rw [hk] at g2; exact g2.elim
      | some ns =>
        rw [hk] at g2
        have e := rr.intsV hk
        subst e
        exact ⟨ad, ns, j, rfl, rfl, SqL.of ((s2.trans e2.hp.hf) _ _ hl), g2 _ Hf2 H2 (Same.refl _) e2 (.int _)⟩
    | _ => exact g2.elim
  | _ => exact g.elim
/-! ### d.get(k, e) -/
theorem peek_isD {K : PySem.W.Frag} {Fr : Fm} {Hf H : Hp} {ρ : Env} {σ : SSt} {i : Nat} {d : D} (e : EnvAt K Fr Hf ρ σ H) (h : peekV i ρ = some d) (hd : dctB d = true) : ∃ a, σ[i]? = some (some (.ref a)) ∧ IsD H a := by
  cases d with
  | dct t kvs =>
    rcases e.two h with ⟨v, hv, rv⟩ | ⟨a, u, hv, hu, ru⟩
    · cases rv with
      | dk ha ra => exact ⟨_, hv, .inl ⟨_, Same.rd' e.hp.hf ha⟩⟩
      | dt ha ra => exact ⟨_, hv, .inr ⟨_, Same.rd' e.hp.hf ha⟩⟩
    · cases t with
      | false =>
        obtain ⟨ps, rfl, _⟩ := ru
        exact ⟨a, hv, .inl ⟨_, .inl hu⟩⟩
      | true =>
        obtain ⟨ps, rfl, _⟩ := ru
        exact ⟨a, hv, .inr ⟨_, .inl hu⟩⟩
  | _ => cases hd
theorem pd_get {i : Nat} {x : Str} {p1 p' : Pos} (hu : X.A.units + 65 < cLine) (hv : PE X (.Name x p1) (tVar i)) (ha : PE X a (rd X.K W ma)) (hb : PE X b (rd X.K W mb)) (h1 : starEach [a, b] X.env = (false, eval a X.env) :: starEach [b] X.env) (h2 : starEach [b] X.env = (false, eval b X.env) :: starEach [] X.env)
    (hline : (p'.endLine == pos.line) = true) :
    PE X (.Call (.Attribute (.Name x p1) "get" p') [a, b] [] pos) (rd X.K W fun ρ => (R.of (peekV i ρ) ρ).bind fun d0 ρ0 => if dctB d0 then (ma ρ0).bind fun y ρ1 => (mb ρ1).bind fun z ρ2 => R.of ((peekV i ρ2).bind fun d => getD2 d y z) ρ2 else .no) := by
  refine PEweak (pe_dget2 (by omega) hv ha hb ⟨rfl, by rw [h1, h2]; rfl, hline, by rw [h1, h2]; rfl⟩) fun σ H Q ⟨Fr, Hf, ρ, e, g⟩ => ?_
  dsimp only at g
  cases q0 : peekV i ρ with
  | none => rw [q0] at g; exact g.elim
  | some d0 =>
    rw [q0] at g
    have g : Go X.K W Fr Hf σ (PV X.K) (if dctB d0 then (ma ρ).bind fun y ρ1 => (mb ρ1).bind fun z ρ2 => R.of ((peekV i ρ2).bind fun d => getD2 d y z) ρ2 else .no) Q := g
    cases hd : dctB d0 with
    | false => rw [hd] at g; exact g.elim
    | true =>
      rw [hd] at g
      obtain ⟨ad, hσ, hI⟩ := peek_isD e q0 hd
      refine ⟨_, hσ, ad, rfl, hI, Fr, Hf, ρ, e, (Go.bind (show Go X.K W Fr Hf σ (PV X.K) ((ma ρ).bind _) Q from g)).imp fun w H1 ⟨d1, Hf1, ρ1, s1, e1, r1, g1⟩ => ⟨Fr, Hf1, ρ1, e1, (Go.bind g1).imp fun w2 H2 ⟨d2, Hf2, ρ2, s2, e2, r2, g2⟩ => ?_⟩⟩
      cases q : peekV i ρ2 with
      | none => rw [q] at g2; exact g2.elim
      | some d3 =>
        rw [q] at g2
        cases d3 with
        | dct t kvs =>
          have g2 : Go X.K W Fr Hf2 σ (PV X.K) (R.of (if isKey t d1 = true then some ((dGet kvs d1).getD d2) else none) ρ2) Q := g2
          by_cases hk : isKey t d1 = true
          · rw [if_pos hk] at g2
            have fin : ∀ o, DGet H2 ad w o → (match dGet kvs d1 with
                | none => o = none
                | some e => ∃ z, o = some z ∧ Rp X.K Hf2 z e) → ∃ o, DGet H2 ad w o ∧ Q (o.getD w2) H2 := fun o g m => by
              refine ⟨o, g, ?_⟩
              cases h : dGet kvs d1 with
              | none =>
                rw [h] at m g2
                subst m
                exact g2 _ Hf2 H2 (Same.refl _) e2 r2
              | some z =>
                rw [h] at m g2
                obtain ⟨v, rfl, rv⟩ := m
                exact g2 _ Hf2 H2 (Same.refl _) e2 rv
            rcases e2.two q with ⟨v, hv2, rv⟩ | ⟨a2, u, hv2, hu2, ru⟩
            · rw [hσ] at hv2
              cases hv2
              obtain ⟨a3, o, ea, g, m⟩ := rp_dget e2.hp.hf rv ((r1.mono s2).mono e2.hp.hf) hk
              cases ea
              exact fin o g m
            · rw [hσ] at hv2
              cases hv2
              obtain ⟨o, g, m⟩ := rpO_dget hu2 ru ((r1.mono s2).mono e2.hp.hf) hk
              exact fin o g m
          · rw [if_neg hk] at g2; exact g2.elim
        | _ => exact g2.elim
/-! ### xs.pop(), xs.pop(i) -/
theorem Rps.erase {K : PySem.W.Frag} {H : Hp} : ∀ {vs : List V} {ds : List D} (i : Nat), Rps K H vs ds → Rps K H (vs.eraseIdx i) (ds.eraseIdx i)
  | _, _, _, .nil => by simp; exact .nil
  | _, _, 0, .cons _ r => r
  | _, _, i + 1, .cons h r => .cons h (Rps.erase i r)
theorem Rps.dropLast {K : PySem.W.Frag} {H : Hp} {vs : List V} {ds : List D} (r : Rps K H vs ds) : Rps K H vs.dropLast ds.dropLast := by
  rw [List.dropLast_eq_take, List.dropLast_eq_take, r.length]
  exact r.take _
theorem pd_pop {i : Nat} {x : Str} {p1 p' : Pos} (hv : PE X (.Name x p1) (tVar i)) (hline : (p'.endLine == pos.line) = true) : PE X (.Call (.Attribute (.Name x p1) "pop" p') [] [] pos) (rd X.K W (popS i)) := by
  refine PEweak (pe_bm0 PySem.F.plainAttrs_list PySem.F.slot_list_pop PySem.F.type_list_pop mt_pop hv (hline := hline)) fun σ H Q ⟨Fr, Hf, ρ, e, g⟩ => ?_
  unfold popS at g
  cases q : ρ[i]? with
  | none => rw [q] at g; exact g.elim
  | some s =>
    rw [q] at g
    cases s with
    | ow' tg d =>
      cases d with
      | lst xs =>
        dsimp only at g
        cases h : xs[xs.length - 1]? with
        | none => rw [h] at g; exact g.elim
        | some z =>
          rw [h] at g
          obtain ⟨a, u, k1, k2, ⟨ws, rfl, k3⟩, k4⟩ := e.change (d' := .lst xs.dropLast) q
          obtain ⟨v, v1, v2⟩ := k3.get h
          exact ⟨_, k1, .inl ⟨rfl, ws, SqL.of k2⟩, a, ws, v, rfl, rfl, k2, by rw [k3.length]; exact v1, g v Hf _ (Same.refl _) (k4 (.lst ws.dropLast) ⟨_, rfl, k3.dropLast⟩) v2⟩
      | _ => exact g.elim
    | _ => exact g.elim
theorem peek_lst {K : PySem.W.Frag} {Fr : Fm} {Hf H : Hp} {ρ : Env} {σ : SSt} {i : Nat} {d : D} (e : EnvAt K Fr Hf ρ σ H) (h : peekV i ρ = some d) (hd : lstB d = true) : ∃ v, σ[i]? = some (some v) ∧ tyV K "list" v H := by
  cases d with
  | lst xs =>
    rcases e.two h with ⟨v, hv, rv⟩ | ⟨a, u, hv, hu, ru⟩
    · cases rv with
      | lst ha ra => exact ⟨_, hv, .inl ⟨rfl, _, SqL.of (e.hp.hf _ _ ha)⟩⟩
    · obtain ⟨ws, rfl, _⟩ := ru
      exact ⟨_, hv, .inl ⟨rfl, ws, SqL.of hu⟩⟩
  | _ => cases hd
theorem pd_popi {i : Nat} {x : Str} {p1 p' : Pos} (hv : PE X (.Name x p1) (tVar i)) (ha : PE X a (rd X.K W ma)) (h2 : starEach [a] X.env = (false, eval a X.env) :: starEach [] X.env) (hline : (p'.endLine == pos.line) = true) :
    PE X (.Call (.Attribute (.Name x p1) "pop" p') [a] [] pos) (rd X.K W fun ρ => (R.of (peekV i ρ) ρ).bind fun d0 ρ0 => if lstB d0 then (ma ρ0).bind fun y ρ1 => popiS i y ρ1 else .no) := by
  refine PEweak (pe_bm PySem.F.plainAttrs_list PySem.F.slot_list_pop PySem.F.type_list_pop mt_popAt hv (pa_cons ha pa_nil h2) (hfew := by rw [h2]; rfl) (hline := hline) (hs := h2) (hplain := by rfl)) fun σ H Q ⟨Fr, Hf, ρ, e, g⟩ => ?_
  dsimp only at g
  cases q0 : peekV i ρ with
  | none => rw [q0] at g; exact g.elim
  | some d0 =>
    rw [q0] at g
    have g : Go X.K W Fr Hf σ (PV X.K) (if lstB d0 then (ma ρ).bind fun y ρ1 => popiS i y ρ1 else .no) Q := g
    cases hd : lstB d0 with
    | false => rw [hd] at g; exact g.elim
    | true =>
      rw [hd] at g
      obtain ⟨v0, hσ, ty⟩ := peek_lst e q0 hd
      refine ⟨v0, hσ, ty, Fr, Hf, ρ, e, (Go.bind (show Go X.K W Fr Hf σ (PV X.K) ((ma ρ).bind _) Q from g)).imp fun w H1 ⟨y, Hf1, ρ1, s1, e1, r1, g⟩ => ?_⟩
      unfold popiS at g
      cases q : ρ1[i]? with
      | none => rw [q] at g; exact g.elim
      | some s =>
        rw [q] at g
        cases s with
        | ow' tg d =>
          cases d with
          | lst xs =>
            dsimp only at g
            cases r1 with
            | int j =>
              dsimp only at g
              cases h : (if small64 (2 * j) then L2.ixN xs.length j else none) with
              | none => rw [h] at g; exact g.elim
              | some kk =>
                rw [h] at g
                dsimp only at g
                by_cases hs : small64 (2 * j) = true
                · rw [if_pos hs] at h
                  obtain ⟨b1, b2⟩ := small64_ok hs
                  obtain ⟨n1, n2, n3, n4⟩ := L2.ixN_seq h
                  cases hz : xs[kk]? with
                  | none => rw [hz] at g; exact g.elim
                  | some z =>
                    rw [hz] at g
                    obtain ⟨a, u, k1, k2, ⟨ws, rfl, k3⟩, k4⟩ := e1.change (d' := .lst (xs.eraseIdx kk)) q
                    obtain ⟨v, v1, v2⟩ := k3.get hz
                    rw [hσ] at k1
                    cases k1
                    exact ⟨a, ws, j, kk, v, rfl, rfl, k2, by omega, by omega, by rw [k3.length]; exact n1, v1, g v Hf1 _ (Same.refl _) (k4 (.lst (ws.eraseIdx kk)) ⟨_, rfl, k3.erase kk⟩) v2⟩
                · rw [if_neg hs] at h; cases h
            | _ => exact g.elim
          | _ => exact g.elim
        | _ => exact g.elim
/-! ### list(range(..)) -/
theorem rgV_rps {K : PySem.W.Frag} {H : Hp} (a b : Int) : Rps K H (rgV a b) (rangeD a b) := by
  unfold rgV rangeD
  generalize List.range (b - a).toNat = l
  induction l with
  | nil => exact .nil
  | cons n l ih => exact .cons (.int _) ih
theorem R.bind_assoc {α β γ : Type} (r : R α) (f : α → Env → R β) (g : β → Env → R γ) : (r.bind f).bind g = r.bind fun a ρ => (f a ρ).bind g := by cases r <;> rfl
def lrngD (xs : List D) (ρ : Env) : R D := if xs.length ≤ sizeL then .ok (.lst xs) ρ else .no
theorem range_len (a b : Int) : (rangeD a b).length = (b - a).toNat := by simp [rangeD]
theorem pn_lrng1 {p1 p2 : Pos} (hc : X.calm = true) (hl : Gl X "list") (ml : X.mg "list" = none) (hg : Gl X "range") (hm : X.mg "range" = none) (ha : PE X a (rd X.K W ma)) (h1 : starEach [a] X.env = (false, eval a X.env) :: starEach [] X.env) :
    PE X (.Call (.Name "list" p) [.Call (.Name "range" p1) [a] [] p2] [] pos) (rdN X.K W fun ρ => ((ma ρ).bind rng1D).bind lrngD) := by
  refine PEweak (pe_listRg hc hl ml (prg_1 hg hm ha h1)) fun σ H Q ⟨Fr, Hf, ρ, e, g⟩ => ?_
  dsimp only at g
  rw [R.bind_assoc] at g
  refine ⟨Fr, Hf, ρ, e, (Go.bind g).imp fun v H1 ⟨d1, Hf1, ρ1, s1, e1, r1, g⟩ => ?_⟩
  cases r1 with
  | int j =>
    unfold rng1D at g
    dsimp only at g
    cases hi : ints62 j with
    | false => rw [hi] at g; exact g.elim
    | true =>
      rw [hi] at g
      have g : Go X.K W Fr Hf1 σ (PN X.K Fr σ) (if (rangeD 0 j).length ≤ sizeL then .ok (.lst (rangeD 0 j)) ρ1 else .no) Q := g
      by_cases hz : (rangeD 0 j).length ≤ sizeL
      · rw [if_pos hz] at g
        obtain ⟨b1, b2⟩ := ints62_ok hi
        rw [range_len] at hz
        refine ⟨j, rfl, ⟨by omega, by omega, b1, b2, by unfold sizeL at hz; omega⟩, fun q hq => ?_⟩
        have gr : Grow Hf1 H1 Hf1 (upd H1 q (.lst (rgV 0 j))) := Grow.extra hq
        exact g _ Hf1 _ (Same.refl _) (e1.grow gr) ⟨q, _, rfl, NewAt.of e1 hq, _, rfl, rgV_rps 0 j⟩
      · rw [if_neg hz] at g; exact g.elim
  | _ => exact g.elim
theorem pn_lrng2 {p1 p2 : Pos} (hc : X.calm = true) (hl : Gl X "list") (ml : X.mg "list" = none) (hg : Gl X "range") (hm : X.mg "range" = none) (ha : PE X a (rd X.K W ma)) (hb : PE X b (rd X.K W mb)) (h1 : starEach [a, b] X.env = (false, eval a X.env) :: starEach [b] X.env) (h2 : starEach [b] X.env = (false, eval b X.env) :: starEach [] X.env) :
    PE X (.Call (.Name "list" p) [.Call (.Name "range" p1) [a, b] [] p2] [] pos) (rdN X.K W fun ρ => ((ma ρ).bind fun x ρ1 => (mb ρ1).bind (rng2D x)).bind lrngD) := by
  refine PEweak (pe_listRg hc hl ml (prg_2 hg hm ha hb h1 h2 (by rw [h2]; rfl))) fun σ H Q ⟨Fr, Hf, ρ, e, g⟩ => ?_
  dsimp only at g
  rw [R.bind_assoc] at g
  refine ⟨Fr, Hf, ρ, e, (Go.bind g).imp fun v H1 ⟨d1, Hf1, ρ1, s1, e1, r1, g⟩ => ?_⟩
  rw [R.bind_assoc] at g
  refine ⟨Fr, Hf1, ρ1, e1, (Go.bind g).imp fun w H2 ⟨d2, Hf2, ρ2, s2, e2, r2, g⟩ => ?_⟩
  cases r1 with
  | int i =>
    cases r2 with
    | int j =>
      unfold rng2D at g
      dsimp only at g
      cases hi : (ints62 i && ints62 j) with
      | false => rw [hi] at g; exact g.elim
      | true =>
        rw [hi] at g
        have g : Go X.K W Fr Hf2 σ (PN X.K Fr σ) (if (rangeD i j).length ≤ sizeL then .ok (.lst (rangeD i j)) ρ2 else .no) Q := g
        by_cases hz : (rangeD i j).length ≤ sizeL
        · rw [if_pos hz] at g
          obtain ⟨h1, h2⟩ := Bool.and_eq_true_iff.mp hi
          obtain ⟨a1, a2⟩ := ints62_ok h1
          obtain ⟨b1, b2⟩ := ints62_ok h2
          rw [range_len] at hz
          refine ⟨i, j, rfl, rfl, ⟨a1, a2, b1, b2, by unfold sizeL at hz; omega⟩, fun q hq => ?_⟩
          have gr : Grow Hf2 H2 Hf2 (upd H2 q (.lst (rgV i j))) := Grow.extra hq
          exact g _ Hf2 _ (Same.refl _) (e2.grow gr) ⟨q, _, rfl, NewAt.of e2 hq, _, rfl, rgV_rps i j⟩
        · rw [if_neg hz] at g; exact g.elim
    | _ => exact g.elim
  | _ => exact g.elim
/-! ### a, b = e -/
def unpS (is : List Nat) (d : D) (ρ : Env) : SR := match asg (.tup is) d ρ with
  | some ρ2 => .nx ρ2
  | none => .no
theorem ps_unpD {e : Expr} {me : Env → R D} {is : List Nat} {es : List Expr} {k : Nat} {p1 : Pos} (he : PE X e (rd X.K W me)) (hg : PG X (.Tuple es k p1) (gD X.K (.tup is)))
    (hs : swapsWithSole [.Tuple es k p1] e pos.line X.env = pure false) (hw : swappedStores [.Tuple es k p1] e X.env = pure none) : PS X (.Assign [.Tuple es k p1] e pos) (rdS X.K W fun ρ => (me ρ).st (unpS is)) := by
  refine PSweak (ps_asg he hg hs hw rfl) fun E σ H ⟨Fr, Hf, ρ, e, g⟩ => ⟨Fr, Hf, ρ, e, (GoS.st g).imp fun v H1 ⟨d, Hf1, ρ1, s1, e1, r1, g1⟩ => ?_⟩
  unfold unpS at g1
  cases q : asg (.tup is) d ρ1 with
  | none => rw [q] at g1; exact g1.elim
  | some ρ2 =>
    rw [q] at g1
    exact ⟨Fr, Hf1, ρ1, d, ρ2, e1, r1, q, fun σ' _ e' => g1 σ' Hf1 H1 (Same.refl _) e'⟩
/-! ### xs.extend(ys) -/
def rExtendS (K : PySem.W.Frag) : V → List V → Hp → VK → Prop := fun x vs H Q => ∃ l b xs zs, x = .ref l ∧ vs = [.ref b] ∧ H l = some (.lst xs) ∧ (H b = some (.lst zs) ∨ SqT K H b zs) ∧ xs.length + zs.length ≤ sizeLine ∧ Q .non (upd H l (.lst (xs ++ zs)))
theorem mt_extendS : MtR X "list.extend" (rExtendS X.K) := by
  intro pins s σ H x vs v us Q I rx rv h
  obtain ⟨l, b, xs, zs, rfl, rfl, hH, hB, hz, q⟩ := h
  cases rx
  obtain ⟨u, rfl, ru⟩ := rv.one
  cases ru
  obtain ⟨z, its, n, r, hl, e⟩ := I.lstM hH
  rcases hB with hB | hB
  · obtain ⟨z2, its2, n2, r2, hl2, e2⟩ := I.lstM hB
    have hsz : its.toArray.size + its2.toArray.size ≤ sizeLine := by rw [List.size_toArray, List.size_toArray]; omega
    have hlong : ¬ (!its.toArray.isEmpty && Builtin.List.listTooLong (its.toArray.size + its2.toArray.size)) = true := by
      rw [notLongL hsz, Bool.and_false]
      exact Bool.false_ne_true
    refine call_meets F.slot_list_extend ⟨_, e, rfl⟩ F.entry_list_extend (F.args_list_extend_2 _ _)
      (AutoSeq1.list_extend_list_list_0 l its.toArray n b its2.toArray n2 hlong (by rw [List.size_toArray]; omega) (by omega)) ⟨e, e2, ?_⟩
    refine ⟨.non, _, I.lset (its' := its ++ its2) hH e (by simp) (r.append r2) ?_, rfl, q⟩
    rw [List.length_append]
    omega
  · obtain ⟨its2, r2, ⟨o, e2, oc, n2, od⟩, hz2⟩ := I.tuple hB
    have hl2 : zs.length = its2.length := r2.length
    have hsz : its.toArray.size + its2.toArray.size ≤ sizeLine := by rw [List.size_toArray, List.size_toArray]; omega
    have hlong : ¬ (!its.toArray.isEmpty && Builtin.List.listTooLong (its.toArray.size + its2.toArray.size)) = true := by
      rw [notLongL hsz, Bool.and_false]
      exact Bool.false_ne_true
    refine call_meets F.slot_list_extend ⟨_, e, rfl⟩ F.entry_list_extend (F.args_list_extend_2 _ _)
      (AutoSeq1.ext_tup l its.toArray n b its2.toArray n2 o oc od hlong (by rw [List.size_toArray]; omega) (by omega)) ⟨e, e2, ?_⟩
    refine ⟨.non, _, I.lset (its' := its ++ its2) hH e (by simp) (r.append r2) ?_, rfl, q⟩
    rw [List.length_append]
    omega
def extS (i : Nat) (me : Env → R D) (ρ : Env) : SR := (me ρ).st fun d ρ1 => match ρ1[i]? with
  | some (.ow' t (.lst xs)) => match seqT d with
    | some ys => if xs.length + ys.length ≤ sizeL then .nx (ρ1.set i (.ow' t (.lst (xs ++ ys)))) else .no
    | none => .no
  | _ => .no
theorem ps_extD {i : Nat} {x : Str} {p1 p2 : Pos} {e : Expr} {me : Env → R D} (hv : PE X (.Name x p1) (tVar i)) (he : PE X e (rd X.K W me)) (h1 : starEach [e] X.env = (false, eval e X.env) :: starEach [] X.env) (hline : (p2.endLine == p.line) = true)
    (hs : swapsWith (.Call (.Attribute (.Name x p1) "extend" p2) [e] [] p) none pos.line X.env = pure false) :
    PS X (.Expr (.Call (.Attribute (.Name x p1) "extend" p2) [e] [] p) pos) (rdS X.K W fun ρ => if ownL ρ[i]? then extS i me ρ else .no) := by
  refine PSweak (ps_expr (pe_bm PySem.F.plainAttrs_list PySem.F.slot_list_extend PySem.F.type_list_extend mt_extendS hv (pa_cons he pa_nil h1) (hfew := by rw [h1]; rfl) (hline := hline) (hs := h1) (hplain := by rfl)) hs) fun E σ H ⟨Fr, Hf, ρ, ev, g⟩ => ?_
  dsimp only at g
  cases q0 : ownL ρ[i]? with
  | false => rw [q0] at g; exact g.elim
  | true =>
    rw [q0] at g
    have g : GoS X.K W Fr Hf ((me ρ).st fun d ρ1 => match ρ1[i]? with
      | some (.ow' t (.lst xs)) => match seqT d with
        | some ys => if xs.length + ys.length ≤ sizeL then .nx (ρ1.set i (.ow' t (.lst (xs ++ ys)))) else .no
        | none => .no
      | _ => .no) E := g
    have h0 : ∃ t ys, ρ[i]? = some (.ow' t (.lst ys)) := by
      cases q : ρ[i]? with
      | none => rw [q] at q0; cases q0
      | some s =>
        rw [q] at q0
        cases s with
        | ow' tg d =>
          cases d with
          | lst xs => exact ⟨tg, xs, rfl⟩
          | _ => cases q0
        | _ => cases q0
    obtain ⟨tg, ys, h0⟩ := h0
    obtain ⟨a, _, q1, q2, q3, q4, ⟨xs, rfl, q5⟩, _⟩ := ev.sl i _ h0
    refine ⟨_, q1, .inl ⟨rfl, xs, SqL.of q4⟩, Fr, Hf, ρ, ev, (GoS.st g).imp fun v H1 ⟨d, Hf1, ρ1, s1, e1, r1, g1⟩ => ?_⟩
    obtain ⟨tg2, zs, h2, g2⟩ := ow_of (f := fun t xs => match seqT d with
      | some ys => if xs.length + ys.length ≤ sizeL then .nx (ρ1.set i (.ow' t (.lst (xs ++ ys)))) else .no
      | none => .no) g1
    have hd : ∃ b ws ds, v = .ref b ∧ seqT d = some ds ∧ Rps X.K Hf1 ws ds ∧ (Hf1 b = some (.lst ws) ∨ Hf1 b = some (.tup ws)) := by
      cases r1 with
      | lst ha ra => exact ⟨_, _, _, rfl, rfl, ra, .inl ha⟩
      | tup ha ra => exact ⟨_, _, _, rfl, rfl, ra, .inr ha⟩
      | _ => exact g2.elim
    obtain ⟨b, ws, ds, rfl, hq, rw_, hb⟩ := hd
    rw [hq] at g2
    dsimp only at g2
    by_cases hz : zs.length + ds.length ≤ sizeL
    · rw [if_pos hz] at g2
      obtain ⟨b2, _, k1, k2, ⟨us, rfl, k3⟩, k4⟩ := e1.change (d' := .lst (zs ++ ds)) h2
      rw [q1] at k1
      cases k1
      refine ⟨a, b, us, ws, rfl, rfl, k2, ?_, by rw [k3.length, rw_.length, sizeLine_eq]; exact hz, g2 _ Hf1 _ (Same.refl _) (k4 (.lst (us ++ ws)) ⟨_, rfl, k3.append rw_⟩)⟩
      rcases hb with hb | hb
      · exact .inl (e1.hp.hf _ _ hb)
      · exact .inr (SqT.of (e1.hp.hf _ _ hb))
    · rw [if_neg hz] at g2; exact g2.elim
/-! ### f() -/
theorem fn_cx00 {P : Program} {w : World} {K : PySem.W.Frag} {mg : Str → Option Value} {base : Heap} {k : Nat} {f : Addr} {fd : FuncData} {ps : List Str} {sp : Sp} (F : FnOk P w K mg base (L2.CX P w) k f fd ps sp) : FnOk P w K mg base CX0 k f fd ps (fun vs H Q _ => sp vs H Q E0) :=
  ⟨fun vs H Q E q => F.len vs H Q E0 q, fun A outer s H args us vs Q E hr he hb hv hs => codeAny_mono (F.run A outer s H args us vs Q E0 hr he hb hv hs) fun r s' h => by
    cases r with
    | ok fl => cases fl <;> exact h
    | error e =>
      obtain ⟨_, _, _, _, _, _, _, _, _, _, _, _, z⟩ := h
      exact z⟩
theorem pd_call0 {k : Nat} {f : Addr} {fd : FuncData} {ps : List Str} {den : List D → DR} {x : Str} (F : FnOk X.prog X.w X.K X.mg X.base (L2.CX X.prog X.w) k f fd ps (spD X.K 0 den)) (hr : Room k X.A) (hg : Gl X x) (hm : X.mg x = some (.ref f)) (hk : PySem.W.keepIn X.K (.ref f) = true) (hb : Binds X.K fd ps [])
    (hdb : (x == ("__debug__" : Str)) = false) : PE X (.Call (.Name x p) [] [] pos) (rd X.K W fun ρ => ((den []).nx).r ρ) := by
  have F0 := fn_cx00 F
  refine PEweak (pe_call0 (E := E0) (dvs := []) F0 hr hg hm hk hb .nil pass0 hdb) fun σ H Q ⟨Fr, Hf, ρ, e, g⟩ => ?_
  refine ⟨Hf, [], e.hp.hf, e.hp.nd, .nil, rfl, ?_⟩
  cases z : den [] with
  | no => dsimp only at g; rw [z] at g; exact g
  | ok d => dsimp only at g; rw [z] at g; exact fun v Hf' H' gr rv => g v Hf' H' gr.f (e.grow gr) rv
  | ex y => dsimp only at g; rw [z] at g; exact g.elim
end
/-! ### a comprehension of two clauses -/
section
variable {X : Cx} {W : WX} {tg tg1 : Tg} {mt me : Env → R D} {mi mi1 : Env → R (List D)} {own : List Nat}
theorem wipe_sub {σ σ' : SSt} {vs own : List Nat} (h : wipe σ' vs = wipe σ vs) (hs : ∀ i ∈ vs, i ∈ own) : wipe σ' own = wipe σ own := by
  have hl : σ'.length = σ.length := by rw [← wipe_length σ' vs, h, wipe_length]
  apply List.ext_getElem?
  intro j
  rw [wipe_get, wipe_get, hl]
  by_cases hj : j ∈ own
  · rw [if_pos hj, if_pos hj]
  · rw [if_neg hj, if_neg hj]
    have z := congrArg (fun l => l[j]?) h
    simp only [wipe_get] at z
    rw [if_neg (fun q => hj (hs j q)), if_neg (fun q => hj (hs j q))] at z
    exact z
/-- the inner clause's turns -/
theorem inner_ok {K : PySem.W.Frag} (hs : ∀ i ∈ tg.slots, i ∈ own) {Fr : Fm} {Hf1 H1 : Hp} {σ σ' : SSt} {ρ1 : Env} {Dn : Addr} {xs0 : List V} {acc0 ds : List D} {J : L2.It} (it : Iter K J ds Hf1) (e : EnvAt K Fr Hf1 ρ1 σ H1) (n : NewAt K Fr Hf1 ρ1 σ H1 Dn (.lst xs0)) (r : Rps K Hf1 xs0 acc0)
    {α β : Type} {f : List D → Env → R α} {P : Hp → Hp → Env → β → α → Prop} {Q : β → Hp → Prop} (g : Go K W Fr Hf1 σ' P ((lcD own tg mt me ds acc0 ρ1).bind f) Q) {Nx : Hp → Prop}
    (fin : ∀ Hf2 ρ2 acc xs σ2 H2, Same Hf1 Hf2 → EnvAt K Fr Hf2 ρ2 σ2 H2 → NewAt K Fr Hf2 ρ2 σ2 H2 Dn (.lst xs) → Rps K Hf2 xs acc → wipe σ2 own = wipe σ own → Go K W Fr Hf2 σ' P (f acc ρ2) Q → Nx H2) :
    ∃ W1 : Nat → Nat → Hp → Prop, (∃ m, W1 0 m H1) ∧ ∀ j k H, W1 j k H →
      (J.stop j H ∧ Nx H) ∨ (J.go j H ∧ ∃ Nx1 : Hp → Prop, (∀ H', Nx1 H' → ∃ k', k' < k ∧ W1 (j + 1) k' H') ∧ ∀ x H', J.yld j H x H' → gD K tg x (wipe σ own) H' fun σ3 H5 => wipe σ3 own = wipe σ own ∧ rdB K Wf mt σ3 H5 fun b H6 =>
        if b = true then rd K Wf me σ3 H6 fun y H7 => ∃ acc, H7 Dn = some (.lst acc) ∧ acc.length < sizeLine ∧ Nx1 (upd H7 Dn (.lst (acc ++ [y]))) else Nx1 H6) := by
  refine ⟨fun i m H => ∃ Hf2 ρ2 acc xs σ2, Same Hf1 Hf2 ∧ EnvAt K Fr Hf2 ρ2 σ2 H ∧ NewAt K Fr Hf2 ρ2 σ2 H Dn (.lst xs) ∧ Rps K Hf2 xs acc ∧ m = ds.length - i ∧ i ≤ ds.length ∧ wipe σ2 own = wipe σ own ∧
      Go K W Fr Hf2 σ' P ((lcD own tg mt me (ds.drop i) acc ρ2).bind f) Q, ⟨ds.length, Hf1, ρ1, acc0, xs0, σ, Same.refl _, e, n, r, by simp, Nat.zero_le _, rfl, by rw [List.drop_zero]; exact g⟩, ?_⟩
  rintro i m H2 ⟨Hf2, ρ2, acc, xs, σ2, s2, e2', n2', r2, rfl, hi, hw2, g2⟩
  have e2 := e2'.wipe own
  have n2 := n2'.wipe (vs := own)
  rw [hw2] at e2 n2
  obtain ⟨it1, it2⟩ := it Fr Hf2 H2 i s2 e2.hp
  by_cases hlt : i < ds.length
  · obtain ⟨d, hd⟩ : ∃ d, ds[i]? = some d := ⟨ds[i], List.getElem?_eq_getElem hlt⟩
    obtain ⟨jgo, jy⟩ := it1 d hd
    have hdrop : ds.drop i = d :: ds.drop (i + 1) := by
      rw [List.drop_eq_getElem_cons hlt]
      have : ds[i] = d := by
        rw [List.getElem?_eq_getElem hlt] at hd
        exact Option.some.inj hd
      rw [this]
    rw [hdrop] at g2
    refine .inr ⟨jgo, fun H' => ∃ m', m' < ds.length - i ∧ ∃ Hf2 ρ2 acc xs σ2, Same Hf1 Hf2 ∧ EnvAt K Fr Hf2 ρ2 σ2 H' ∧ NewAt K Fr Hf2 ρ2 σ2 H' Dn (.lst xs) ∧ Rps K Hf2 xs acc ∧ m' = ds.length - (i + 1) ∧ i + 1 ≤ ds.length ∧ wipe σ2 own = wipe σ own ∧
      Go K W Fr Hf2 σ' P ((lcD own tg mt me (ds.drop (i + 1)) acc ρ2).bind f) Q, fun H' ⟨m', hm, q⟩ => ⟨m', hm, q⟩, fun x H3 hy => ?_⟩
    obtain ⟨Hf3, gr3, rx⟩ := jy x H3 hy
    have e3 := e2.grow gr3
    have n3 := n2.grow trivial gr3
    have e3 := e3.into n3
    have g3 : Go K W Fr Hf2 σ' P ((match asg tg d (wipeE ρ2 own) with
      | none => R.no
      | some ρ3 => (mt ρ3).nox.bind fun c ρ4 => match c with
        | .bl true => (me ρ4).nox.bind fun y ρ5 => if acc.length < sizeL then lcD own tg mt me (ds.drop (i + 1)) (acc ++ [y]) ρ5 else .no
        | .bl false => lcD own tg mt me (ds.drop (i + 1)) acc ρ4
        | _ => .no).bind f) Q := g2
    cases ha : asg tg d (wipeE ρ2 own) with
    | none => rw [ha] at g3; exact g3.elim
    | some ρ3 =>
      rw [ha] at g3
      dsimp only at g3
      refine ⟨Fr.upd Dn (.lst xs), Hf3, wipeE ρ2 own, d, ρ3, e3, rx, ha, fun σ3 ag e4 => ⟨wipe_agree ag hs, ?_⟩⟩
      have hw3 := wipe_agree ag hs
      refine ⟨Fr.upd Dn (.lst xs), Hf3, ρ3, e4, ?_⟩
      show Go K Wf (Fr.upd Dn (.lst xs)) Hf3 σ3 PB (mt ρ3).b _
      cases q : mt ρ3 with
      | no => rw [q] at g3; exact g3.elim
      | ex y ρ4 => rw [q] at g3; exact g3.elim
      | ok c ρ4 =>
        rw [q] at g3
        cases c with
        | bl k =>
          intro b Hf4 H4 s4 e5 hb
          cases hb
          have rx4 : Same Hf2 Hf4 := gr3.f.trans s4
          cases k with
          | false =>
            have g3 : Go K W Fr Hf2 σ' P ((lcD own tg mt me (ds.drop (i + 1)) acc ρ4).bind f) Q := g3
            refine iteF ?_
            obtain ⟨e6, n6⟩ := e5.out n2.fr trivial
            exact ⟨ds.length - (i + 1), by omega, Hf4, ρ4, acc, xs, σ3, s2.trans rx4, e6, n6, r2.mono rx4, rfl, hlt, hw3, g3.weak rx4⟩
          | true =>
            have g3 : Go K W Fr Hf2 σ' P (((me ρ4).nox.bind fun y ρ5 => if acc.length < sizeL then lcD own tg mt me (ds.drop (i + 1)) (acc ++ [y]) ρ5 else .no).bind f) Q := g3
            refine iteT ⟨Fr.upd Dn (.lst xs), Hf4, ρ4, e5, ?_⟩
            cases q5 : me ρ4 with
            | no => rw [q5] at g3; exact g3.elim
            | ex y ρ5 => rw [q5] at g3; exact g3.elim
            | ok y ρ5 =>
              rw [q5] at g3
              intro v Hf5 H5 s5 e7 rv
              have g3 : Go K W Fr Hf2 σ' P ((if acc.length < sizeL then lcD own tg mt me (ds.drop (i + 1)) (acc ++ [y]) ρ5 else .no).bind f) Q := g3
              by_cases hz : acc.length < sizeL
              · rw [if_pos hz] at g3
                obtain ⟨e8, n8⟩ := e7.out n2.fr trivial
                have rx5 : Same Hf2 Hf5 := rx4.trans s5
                obtain ⟨e9, n9⟩ := e8.newChange n8 (.lst (xs ++ [v]))
                refine ⟨xs, n8.at_, ?_, ds.length - (i + 1), by omega, Hf5, ρ5, acc ++ [y], xs ++ [v], σ3, s2.trans rx5, e9, n9, (r2.mono rx5).append (.cons rv .nil), rfl, hlt, hw3, g3.weak rx5⟩
                rw [r2.length]
                rw [sizeLine_eq]
                exact hz
              · rw [if_neg hz] at g3; exact g3.elim
        | _ => exact g3.elim
  · have hie : i = ds.length := by omega
    subst hie
    rw [List.drop_length] at g2
    exact .inl ⟨it2 (Nat.le_refl _), fin Hf2 ρ2 acc xs σ2 H2 s2 e2' n2' r2 hw2 g2⟩
theorem lc2_ok {K : PySem.W.Frag} (hs : ∀ i ∈ tg.slots, i ∈ own) (hs1 : ∀ i ∈ tg1.slots, i ∈ own) {σ : SSt} {H : Hp} {Q : VK}
    (h : rdN K W (fun ρ => (mi ρ).bind fun xs ρ1 => if own.any (fun v => isOw ρ1[v]?) then .no else (lcD2 own tg mi1 tg1 mt me xs [] ρ1).bind fun ys ρ2 => .ok (.lst ys) (backE ρ1 ρ2 own)) σ H Q) :
    tLc2 (rdI K W mi) (gD K tg) (rdB K Wf fun ρ => .ok (.bl true) ρ) (rdI K Wf mi1) (gD K tg1) (rdB K Wf mt) (rd K Wf me) own tg1.slots σ H Q := by
  obtain ⟨Fr, Hf, ρ, e, g⟩ := h
  refine ⟨Fr, Hf, ρ, e, (Go.bind g).imp fun J H1 ⟨ds, Hf1, ρ1, s1, e1, it, g1⟩ => ?_⟩
  intro Dn hD
  cases ho : own.any (fun v => isOw ρ1[v]?) with
  | true => rw [ho] at g1; exact g1.elim
  | false =>
    rw [ho] at g1
    have g1 : Go K W Fr Hf1 σ (PN K Fr σ) ((lcD2 own tg mi1 tg1 mt me ds [] ρ1).bind fun ys ρ2 => .ok (.lst ys) (backE ρ1 ρ2 own)) Q := g1
    have gr : Grow Hf1 H1 Hf1 (upd H1 Dn (.lst [])) := Grow.extra hD
    refine ⟨fun i m H => ∃ Hf2 ρ2 acc xs σ2, Same Hf1 Hf2 ∧ EnvAt K Fr Hf2 ρ2 σ2 H ∧ NewAt K Fr Hf2 ρ2 σ2 H Dn (.lst xs) ∧ Rps K Hf2 xs acc ∧ m = ds.length - i ∧ i ≤ ds.length ∧ wipe σ2 own = wipe σ own ∧
      Go K W Fr Hf2 σ (PN K Fr σ) ((lcD2 own tg mi1 tg1 mt me (ds.drop i) acc ρ2).bind fun ys ρ2 => .ok (.lst ys) (backE ρ1 ρ2 own)) Q, ⟨ds.length, Hf1, ρ1, [], [], σ, Same.refl _, e1.grow gr, NewAt.of (u := .lst []) e1 hD, .nil, by simp, Nat.zero_le _, rfl, by rw [List.drop_zero]; exact g1⟩, ?_⟩
    rintro i m H2 ⟨Hf2, ρ2, acc, xs, σ2, s2, e2', n2', r2, rfl, hi, hw2, g2⟩
    have e2 := e2'.wipe own
    have n2 := n2'.wipe (vs := own)
    rw [hw2] at e2 n2
    obtain ⟨it1, it2⟩ := it Fr Hf2 H2 i s2 e2.hp
    have hl2 : ρ2.length = ρ1.length := by
      have : σ2.length = σ.length := by rw [← wipe_length σ2 own, hw2, wipe_length]
      rw [e2'.len, this, e1.len]
    by_cases hlt : i < ds.length
    · obtain ⟨d, hd⟩ : ∃ d, ds[i]? = some d := ⟨ds[i], List.getElem?_eq_getElem hlt⟩
      obtain ⟨jgo, jy⟩ := it1 d hd
      have hdrop : ds.drop i = d :: ds.drop (i + 1) := by
        rw [List.drop_eq_getElem_cons hlt]
        have : ds[i] = d := by
          rw [List.getElem?_eq_getElem hlt] at hd
          exact Option.some.inj hd
        rw [this]
      rw [hdrop] at g2
      refine .inr ⟨jgo, fun H' => ∃ m', m' < ds.length - i ∧ ∃ Hf2 ρ2 acc xs σ2, Same Hf1 Hf2 ∧ EnvAt K Fr Hf2 ρ2 σ2 H' ∧ NewAt K Fr Hf2 ρ2 σ2 H' Dn (.lst xs) ∧ Rps K Hf2 xs acc ∧ m' = ds.length - (i + 1) ∧ i + 1 ≤ ds.length ∧ wipe σ2 own = wipe σ own ∧
        Go K W Fr Hf2 σ (PN K Fr σ) ((lcD2 own tg mi1 tg1 mt me (ds.drop (i + 1)) acc ρ2).bind fun ys ρ2 => .ok (.lst ys) (backE ρ1 ρ2 own)) Q, fun H' ⟨m', hm, q⟩ => ⟨m', hm, q⟩, fun x H3 hy => ?_⟩
      obtain ⟨Hf3, gr3, rx⟩ := jy x H3 hy
      have e3 := e2.grow gr3
      have n3 := n2.grow trivial gr3
      have e3 := e3.into n3
      have g3 : Go K W Fr Hf2 σ (PN K Fr σ) ((match asg tg d (wipeE ρ2 own) with
        | none => R.no
        | some ρ3 => (mi1 ρ3).nox.bind fun ys ρ4 => (lcD tg1.slots tg1 mt me ys acc ρ4).bind fun acc' ρ5 => lcD2 own tg mi1 tg1 mt me (ds.drop (i + 1)) acc' ρ5).bind fun ys ρ2 => .ok (.lst ys) (backE ρ1 ρ2 own)) Q := g2
      cases ha : asg tg d (wipeE ρ2 own) with
      | none => rw [ha] at g3; exact g3.elim
      | some ρ3 =>
        rw [ha] at g3
        dsimp only at g3
        refine ⟨Fr.upd Dn (.lst xs), Hf3, wipeE ρ2 own, d, ρ3, e3, rx, ha, fun σ3 ag e4 => ⟨wipe_agree ag hs, ?_⟩⟩
        have hw3 := wipe_agree ag hs
        refine ⟨Fr.upd Dn (.lst xs), Hf3, ρ3, e4, ?_⟩
        intro b Hf4 H4 s4 e5 hb
        cases hb
        refine iteT ⟨Fr.upd Dn (.lst xs), Hf4, ρ3, e5, ?_⟩
        cases q : mi1 ρ3 with
        | no => rw [q] at g3; exact g3.elim
        | ex y ρ4 => rw [q] at g3; exact g3.elim
        | ok ys ρ4 =>
          rw [q] at g3
          have g3 : Go K W Fr Hf2 σ (PN K Fr σ) (((lcD tg1.slots tg1 mt me ys acc ρ4).bind fun acc' ρ5 => lcD2 own tg mi1 tg1 mt me (ds.drop (i + 1)) acc' ρ5).bind fun ys ρ2 => .ok (.lst ys) (backE ρ1 ρ2 own)) Q := g3
          rw [R.bind_assoc] at g3
          intro J1 Hf5 H5 s5 e6 itj
          obtain ⟨e7, n7⟩ := e6.out n2.fr trivial
          have rx5 : Same Hf2 Hf5 := (gr3.f.trans s4).trans s5
          exact inner_ok (own := tg1.slots) (fun i hi => hi) itj e7 n7 (r2.mono rx5) (g3.weak rx5) fun Hf6 ρ6 acc6 xs6 σ6 H6 s6 e8 n8 r8 hw6 g6 =>
            ⟨ds.length - (i + 1), by omega, Hf6, ρ6, acc6, xs6, σ6, (s2.trans rx5).trans s6, e8, n8, r8, rfl, hlt, (wipe_sub hw6 hs1).trans hw3, g6⟩
    · have hie : i = ds.length := by omega
      subst hie
      refine .inl ⟨it2 (Nat.le_refl _), ?_⟩
      rw [List.drop_length] at g2
      have g2 : ∀ b Hf' H', Same Hf2 Hf' → EnvAt K Fr Hf' (backE ρ1 ρ2 own) σ H' → (PN K Fr σ) Hf' H' (backE ρ1 ρ2 own) b (.lst acc) → Q b H' := g2
      have e3 : EnvAt K Fr Hf2 (backE ρ1 (wipeE ρ2 own) own) σ H2 := EnvAt.back e1 e2 s2 ho
      have eb : backE ρ1 (wipeE ρ2 own) own = backE ρ1 ρ2 own := by
        apply List.ext_getElem?
        intro j
        rw [backE_get _ _ (by rw [wipeE_length, hl2]), backE_get _ _ hl2.symm]
        by_cases hj : j ∈ own
        · rw [if_pos hj, if_pos hj]
        · rw [if_neg hj, if_neg hj, wipeE_get, if_neg hj]
      have n3 := NewAt.back (ρ1 := ρ1) (by rw [wipeE_length, hl2]) ho n2
      rw [eb] at e3 n3
      exact g2 _ Hf2 H2 (Same.refl _) e3 ⟨Dn, .lst xs, rfl, n3, xs, rfl, r2⟩
end
end DL
set_option Elab.async false
set_option linter.all false
set_option maxRecDepth 100000
set_option maxHeartbeats 4000000
/-! DLcr: calls that hand slots on by reference. -/
namespace DL
open PySem PySem.Spec PyProof.Rows L2
theorem refX_f {bs : List Bool} {e : E} {es : Es} : refX (false :: bs) (.cons e es) = refX bs es := by cases e <;> rfl
/-- the arguments' values: data, or what stands in the slot that is handed on -/
def RpA (K : PySem.W.Frag) (σ : SSt) (Hf : Hp) : List Bool → Es → List V → List D → Prop
  | true :: bs, .cons (.v x) es, v :: vs, _ :: ds => σ[x]? = some (some v) ∧ RpA K σ Hf bs es vs ds
  | false :: bs, .cons _ es, v :: vs, d :: ds => Rp K Hf v d ∧ RpA K σ Hf bs es vs ds
  | [], .nil, [], [] => True
  | _, _, _, _ => False
/-- what the def gets -/
def RefAt (K : PySem.W.Frag) (al : Nat → Addr) (Hf H : Hp) : Nat → List Bool → List V → List D → Prop
  | _, [], [], [] => True
  | i, true :: bs, v :: vs, d :: ds => (v = .ref (al i) ∧ Hf (al i) = none ∧ ∃ u, H (al i) = some u ∧ RpO K Hf u d) ∧ RefAt K al Hf H (i + 1) bs vs ds
  | i, false :: bs, v :: vs, d :: ds => Rp K Hf v d ∧ RefAt K al Hf H (i + 1) bs vs ds
  | _, _, _, _ => False
/-- what stands there behind it -/
def OutAt (K : PySem.W.Frag) (al : Nat → Addr) (Hf H : Hp) : Nat → List Bool → List D → Prop
  | _, [], [] => True
  | i, true :: bs, d :: ds => (Hf (al i) = none ∧ ∃ u, H (al i) = some u ∧ RpO K Hf u d) ∧ OutAt K al Hf H (i + 1) bs ds
  | i, false :: bs, ds => OutAt K al Hf H (i + 1) bs ds
  | _, _, _ => False
/-- the by-reference parameters stand apart -/
def Dst (al : Nat → Addr) : Nat → List Bool → Prop
  | _, [] => True
  | i, true :: bs => (∀ j, bs[j]? = some true → al (i + 1 + j) ≠ al i) ∧ Dst al (i + 1) bs
  | i, false :: bs => Dst al (i + 1) bs
def IsRef (al : Nat → Addr) (i : Nat) (bs : List Bool) (a : Addr) : Prop := ∃ j, bs[j]? = some true ∧ al (i + j) = a
/-- the heap has grown, but for what was handed on -/
structure GrowX (al : Nat → Addr) (bs : List Bool) (Hf H Hf' H' : Hp) : Prop where
  f : Same Hf Hf'
  h : ∀ a o, H a = some o → ¬ IsRef al 0 bs a → H' a = some o
  n : ∀ a o, Hf' a = some o → Hf a = some o ∨ (H a = none ∧ H' a = some o) ∨ ∃ xs, o = .tup xs ∧ H' a = some o
  d : NoD Hf → NoD Hf'
  s : Same Hf' H'
/-- the promise of a def with by-reference parameters -/
def spR (K : PySem.W.Frag) (bs : List Bool) (den : List D → DR) : Sp := fun vs H Q E => ∃ Hf ds al, Same Hf H ∧ NoD Hf ∧ RefAt K al Hf H 0 bs vs ds ∧ Dst al 0 bs ∧ (match den ds with
  | .ok (.tup (d :: os)) => ∀ v Hf' H', GrowX al bs Hf H Hf' H' → OutAt K al Hf' H' 0 bs os → Rp K Hf' v d → Q v H'
  | _ => False)
theorem RefAt.len {K : PySem.W.Frag} {al : Nat → Addr} {Hf H : Hp} : ∀ {bs : List Bool} {i : Nat} {vs : List V} {ds : List D}, RefAt K al Hf H i bs vs ds → vs.length = bs.length ∧ ds.length = bs.length
  | [], _, [], [], _ => ⟨rfl, rfl⟩
  | true :: bs, _, _ :: _, _ :: _, h => by have := RefAt.len h.2; simp [this.1, this.2]
  | false :: bs, _, _ :: _, _ :: _, h => by have := RefAt.len h.2; simp [this.1, this.2]
  | [], _, [], _ :: _, h => h.elim
  | [], _, _ :: _, _, h => h.elim
  | true :: _, _, [], _, h => h.elim
  | true :: _, _, _ :: _, [], h => h.elim
  | false :: _, _, [], _, h => h.elim
  | false :: _, _, _ :: _, [], h => h.elim
section
variable {K : PySem.W.Frag} {σ : SSt} {Fr : Fm} {Hf H : Hp} {ρ : Env}
/-- the slots that are handed on, by their place -/
theorem rpa_at : ∀ {bs : List Bool} {es : Es} {vs : List V} {xs : List D} {ds : List D} {j : Nat}, RpA K σ Hf bs es vs xs → fillR bs es xs ρ = some ds → bs[j]? = some true → ∃ x v t d, x ∈ refX bs es ∧ vs[j]? = some v ∧ σ[x]? = some (some v) ∧ ρ[x]? = some (.ow' t d)
  | true :: bs, .cons (.v x) es, v :: vs, x0 :: xs, ds, j, h, hf, hj => by
    unfold fillR at hf
    cases q1 : ρ[x]? with
    | none => rw [q1] at hf; cases hf
    | some s =>
      rw [q1] at hf
      cases s with
      | ow' t d =>
        cases q2 : fillR bs es xs ρ with
        | none => rw [q2] at hf; cases hf
        | some r =>
          cases j with
          | zero => exact ⟨x, v, t, d, List.mem_cons_self, rfl, h.1, q1⟩
          | succ j =>
            obtain ⟨y, w, t', d', m, e1, e2, e3⟩ := rpa_at h.2 q2 (by simpa using hj)
            exact ⟨y, w, t', d', List.mem_cons_of_mem _ m, by simpa using e1, e2, e3⟩
      | _ => cases hf
  | false :: bs, .cons e es, v :: vs, x0 :: xs, ds, j, h, hf, hj => by
    unfold fillR at hf
    cases q2 : fillR bs es xs ρ with
    | none => rw [q2] at hf; cases hf
    | some r =>
      cases j with
      | zero => simp at hj
      | succ j =>
        obtain ⟨y, w, t', d', m, e1, e2, e3⟩ := rpa_at h.2 q2 (by simpa using hj)
        exact ⟨y, w, t', d', by rw [refX_f]; exact m, by simpa using e1, e2, e3⟩
  | [], es, vs, xs, ds, j, h, hf, hj => by simp at hj
  | true :: bs, .nil, vs, xs, ds, j, h, hf, hj => by cases vs <;> cases xs <;> exact h.elim
  | false :: bs, .nil, vs, xs, ds, j, h, hf, hj => by cases vs <;> cases xs <;> exact h.elim
  | true :: bs, .cons e es, [], xs, ds, j, h, hf, hj => by cases e <;> cases xs <;> exact h.elim
  | false :: bs, .cons e es, [], xs, ds, j, h, hf, hj => by cases e <;> cases xs <;> exact h.elim
  | true :: bs, .cons e es, _ :: _, [], ds, j, h, hf, hj => by cases e <;> exact h.elim
  | false :: bs, .cons e es, _ :: _, [], ds, j, h, hf, hj => by cases e <;> exact h.elim
/-- the places' addresses -/
def alV (vs : List V) (i : Nat) : Addr := match vs[i]? with
  | some (.ref a) => a
  | _ => 0
theorem refAt_of (e : EnvAt K Fr Hf ρ σ H) {al : Nat → Addr} : ∀ {bs : List Bool} {es : Es} {vs : List V} {xs : List D} {ds : List D} {i : Nat}, RpA K σ Hf bs es vs xs → fillR bs es xs ρ = some ds → (∀ j a, vs[j]? = some (.ref a) → al (i + j) = a) → RefAt K al Hf H i bs vs ds
  | true :: bs, .cons (.v x) es, v :: vs, x0 :: xs, ds, i, h, hf, ha => by
    unfold fillR at hf
    cases q1 : ρ[x]? with
    | none => rw [q1] at hf; cases hf
    | some s =>
      rw [q1] at hf
      cases s with
      | ow' t d =>
        cases q2 : fillR bs es xs ρ with
        | none => rw [q2] at hf; cases hf
        | some r =>
          rw [q2] at hf
          cases hf
          obtain ⟨a, u, e1, f1, f2, f3, f4, _⟩ := e.sl x _ q1
          rw [h.1] at e1
          cases e1
          have hal := ha 0 a rfl
          rw [Nat.add_zero] at hal
          refine ⟨⟨by rw [hal], by rw [hal]; exact f2, u, by rw [hal]; exact f3, f4⟩, refAt_of e h.2 q2 fun j b hb => ?_⟩
          rw [Nat.add_assoc, Nat.add_comm 1 j]
          exact ha (j + 1) b (by simpa using hb)
      | _ => cases hf
  | false :: bs, .cons e' es, v :: vs, x0 :: xs, ds, i, h, hf, ha => by
    unfold fillR at hf
    cases q2 : fillR bs es xs ρ with
    | none => rw [q2] at hf; cases hf
    | some r =>
      rw [q2] at hf
      cases hf
      refine ⟨h.1, refAt_of e h.2 q2 fun j b hb => ?_⟩
      rw [Nat.add_assoc, Nat.add_comm 1 j]
      exact ha (j + 1) b (by simpa using hb)
  | [], .nil, [], [], ds, i, h, hf, ha => by
    cases hf
    trivial
theorem dst_of (e : EnvAt K Fr Hf ρ σ H) {al : Nat → Addr} : ∀ {bs : List Bool} {es : Es} {vs : List V} {xs : List D} {ds : List D} {i : Nat}, RpA K σ Hf bs es vs xs → fillR bs es xs ρ = some ds → (refX bs es).Nodup → (∀ j a, vs[j]? = some (.ref a) → al (i + j) = a) → Dst al i bs
  | true :: bs, .cons (.v x) es, v :: vs, x0 :: xs, ds, i, h, hf, hn, ha => by
    have hf0 := hf
    unfold fillR at hf
    cases q1 : ρ[x]? with
    | none => rw [q1] at hf; cases hf
    | some s =>
      rw [q1] at hf
      cases s with
      | ow' t d =>
        cases q2 : fillR bs es xs ρ with
        | none => rw [q2] at hf; cases hf
        | some r =>
          obtain ⟨n1, n2⟩ := List.nodup_cons.mp (show (x :: refX bs es).Nodup from hn)
          obtain ⟨a, u, e1, _⟩ := e.sl x _ q1
          have e1' := e1
          rw [h.1] at e1
          cases e1
          have hal := ha 0 a rfl
          rw [Nat.add_zero] at hal
          have ha' : ∀ j b, vs[j]? = some (.ref b) → al (i + 1 + j) = b := fun j b hb => by
            rw [Nat.add_assoc, Nat.add_comm 1 j]
            exact ha (j + 1) b (by simpa using hb)
          refine ⟨fun j hj heq => ?_, dst_of e h.2 q2 n2 ha'⟩
          obtain ⟨y, w, t', d', m, k1, k2, k3⟩ := rpa_at h.2 q2 hj
          obtain ⟨b, u', e2, _⟩ := e.sl y _ k3
          have e2' := e2
          rw [k2] at e2
          cases e2
          have := ha' j b k1
          rw [heq, hal] at this
          subst this
          have hxy := e.ne x y a ⟨by rw [q1]; rfl, e1'⟩ ⟨by rw [k3]; rfl, e2'⟩
          subst hxy
          exact n1 m
      | _ => cases hf
  | false :: bs, .cons e' es, v :: vs, x0 :: xs, ds, i, h, hf, hn, ha => by
    unfold fillR at hf
    cases q2 : fillR bs es xs ρ with
    | none => rw [q2] at hf; cases hf
    | some r =>
      have hn' : (refX bs es).Nodup := by rw [refX_f] at hn; exact hn
      show Dst al (i + 1) bs
      refine dst_of e h.2 q2 hn' fun j b hb => ?_
      rw [Nat.add_assoc, Nat.add_comm 1 j]
      exact ha (j + 1) b (by simpa using hb)
  | [], .nil, [], [], ds, i, h, hf, hn, ha => trivial
theorem out_at {al : Nat → Addr} {Hf0 : Hp} : ∀ {bs : List Bool} {es : Es} {vs : List V} {xs os : List D} {i k x : Nat}, RpA K σ Hf0 bs es vs xs → OutAt K al Hf H i bs os → (∀ j a, vs[j]? = some (.ref a) → al (i + j) = a) → (refX bs es)[k]? = some x → ∃ v d', σ[x]? = some (some v) ∧ os[k]? = some d' ∧ ∀ a, v = .ref a → Hf a = none ∧ ∃ u, H a = some u ∧ RpO K Hf u d'
  | true :: bs, .cons (.v y) es, v :: vs, x0 :: xs, d :: os, i, k, x, h, ho, ha, hk => by
    cases k with
    | zero =>
      have : y = x := Option.some.inj hk
      subst this
      refine ⟨v, d, h.1, rfl, fun a hv => ?_⟩
      subst hv
      have := ha 0 a rfl
      rw [Nat.add_zero] at this
      rw [← this]
      exact ho.1
    | succ k =>
      exact out_at (k := k) h.2 ho.2 (fun j b hb => by rw [Nat.add_assoc, Nat.add_comm 1 j]; exact ha (j + 1) b (by simpa using hb)) (show (refX bs es)[k]? = some x from hk)
  | false :: bs, .cons e' es, v :: vs, x0 :: xs, os, i, k, x, h, ho, ha, hk => 
    out_at (k := k) h.2 ho (fun j b hb => by rw [Nat.add_assoc, Nat.add_comm 1 j]; exact ha (j + 1) b (by simpa using hb)) (by rw [refX_f] at hk; exact hk)
  | [], .nil, [], [], os, i, k, x, h, ho, ha, hk => by simp [refX] at hk
theorem isRef_at {bs : List Bool} {es : Es} {vs : List V} {xs ds : List D} {b : Addr} (h : RpA K σ Hf bs es vs xs) (hf : fillR bs es xs ρ = some ds) (hb : IsRef (alV vs) 0 bs b) (e : EnvAt K Fr Hf ρ σ H) : ∃ x ∈ refX bs es, Own ρ σ x b := by
  obtain ⟨j, hj, rfl⟩ := hb
  obtain ⟨x, v, t, d, m, k1, k2, k3⟩ := rpa_at h hf hj
  obtain ⟨a, u, e1, _⟩ := e.sl x _ k3
  have e1' := e1
  rw [k2] at e1
  cases e1
  have : alV vs (0 + j) = a := by rw [Nat.zero_add]; unfold alV; rw [k1]
  rw [this]
  exact ⟨x, m, by rw [k3]; rfl, e1'⟩
theorem putR_get : ∀ {xs : List Nat} {os : List D} {ρ ρ' : Env}, putR xs os ρ = some ρ' → xs.Nodup → ρ'.length = ρ.length ∧ (∀ j, j ∉ xs → ρ'[j]? = ρ[j]?) ∧ ∀ (k x : Nat), xs[k]? = some x → ∃ t d d', ρ[x]? = some (Sl.ow' t d) ∧ os[k]? = some d' ∧ ρ'[x]? = some (Sl.ow' t d')
  | [], [], ρ, ρ', h, _ => by
    cases h
    exact ⟨rfl, fun _ _ => rfl, fun k x hk => by simp at hk⟩
  | x :: xs, d :: os, ρ, ρ', h, hn => by
    obtain ⟨n1, n2⟩ := List.nodup_cons.mp hn
    unfold putR at h
    cases q : ρ[x]? with
    | none => rw [q] at h; cases h
    | some s =>
      rw [q] at h
      cases s with
      | ow' t c =>
        have h : putR xs os (ρ.set x (.ow' t d)) = some ρ' := h
        obtain ⟨l1, l2, l3⟩ := putR_get h n2
        have hx : x < ρ.length := (List.getElem?_eq_some_iff.mp q).1
        refine ⟨by rw [l1, List.length_set], fun j hj => ?_, fun k y hk => ?_⟩
        · rw [List.mem_cons, not_or] at hj
          obtain ⟨j1, j2⟩ := hj
          rw [l2 j j2, List.getElem?_set_ne (Ne.symm j1)]
        · cases k with
          | zero =>
            have : x = y := Option.some.inj hk
            subst this
            refine ⟨t, c, d, q, rfl, ?_⟩
            rw [l2 x n1, List.getElem?_set_self hx]
          | succ k =>
            obtain ⟨t', c', d', a1, a2, a3⟩ := l3 k y (by simpa using hk)
            have hy : y ≠ x := fun z => n1 (z ▸ List.mem_of_getElem? (show xs[k]? = some y by simpa using hk))
            rw [List.getElem?_set_ne (Ne.symm hy)] at a1
            exact ⟨t', c', d', a1, by simpa using a2, a3⟩
      | _ => cases h
/-- behind the call -/
theorem EnvAt.callX (e : EnvAt K Fr Hf ρ σ H) {bs : List Bool} {es : Es} {vs : List V} {xs ds os : List D} {ρ' : Env} {Hf' H' : Hp} (h : RpA K σ Hf bs es vs xs) (hf : fillR bs es xs ρ = some ds) (hn : (refX bs es).Nodup) (g : GrowX (alV vs) bs Hf H Hf' H') (ho : OutAt K (alV vs) Hf' H' 0 bs os) (hp : putR (refX bs es) os ρ = some ρ') (hs : Same Hf' H') : EnvAt K Fr Hf' ρ' σ H' := by
  obtain ⟨p1, p2, p3⟩ := putR_get hp hn
  have hal : ∀ j a, vs[j]? = some (.ref a) → alV vs (0 + j) = a := fun j a hj => by rw [Nat.zero_add]; unfold alV; rw [hj]
  have how : ∀ {j : Nat} {a : Addr}, Own ρ' σ j a → Own ρ σ j a := fun {j a} ⟨o1, o2⟩ => by
    by_cases hj : j ∈ refX bs es
    · obtain ⟨k, hk⟩ := List.getElem?_of_mem hj
      obtain ⟨t, d, d', a1, _, _⟩ := p3 k j hk
      exact ⟨by rw [a1]; rfl, o2⟩
    · rw [p2 j hj] at o1
      exact ⟨o1, o2⟩
  have frn : ∀ a, Fr a ≠ none → ¬ IsRef (alV vs) 0 bs a := fun a ha hr => by
    obtain ⟨x, _, hx⟩ := isRef_at h hf hr e
    exact ha (e.own hx).1
  refine ⟨⟨fun a o q => g.h a o (e.hp.fr a o q) (frn a (by rw [show Fr a = some o from q]; simp)), hs, fun a q => ?_, g.d e.hp.nd⟩, by rw [p1]; exact e.len, fun j s q => ?_, fun i j a y1 y2 => e.ne i j a (how y1) (how y2)⟩
  · cases z : Hf' a with
    | none => exact .inl rfl
    | some o =>
      rcases g.n a o z with r | ⟨r, _⟩ | ⟨ys, r, _⟩
      · rcases e.hp.dj a q with w | ⟨ys, w⟩
        · rw [w] at r; cases r
        · rw [w] at r
          cases r
          exact .inr ⟨ys, rfl⟩
      · exfalso
        cases f : Fr a with
        | none => exact q f
        | some u =>
          have := e.hp.fr a u f
          rw [r] at this
          cases this
      · exact .inr ⟨ys, by rw [r]⟩
  · by_cases hj : j ∈ refX bs es
    · obtain ⟨k, hk⟩ := List.getElem?_of_mem hj
      obtain ⟨t, d, d', a1, a2, a3⟩ := p3 k j hk
      rw [a3] at q
      cases q
      obtain ⟨a, u, e1, f1, f2, f3, f4, f5⟩ := e.sl j _ a1
      obtain ⟨v, d2, o1, o2, o3⟩ := out_at h ho hal hk
      rw [a2] at o2
      cases o2
      rw [e1] at o1
      cases o1
      obtain ⟨b1, u', b2, b3⟩ := o3 a rfl
      exact ⟨a, u', e1, f1, b1, b2, b3, f5⟩
    · rw [p2 j hj] at q
      have z := e.sl j s q
      cases s with
      | un => trivial
      | fz d =>
        obtain ⟨v, e1, r⟩ := z
        exact ⟨v, e1, r.mono g.f⟩
      | ow' t d =>
        obtain ⟨a, u, e1, f1, f2, f3, f4, f5⟩ := z
        have hnr : ¬ IsRef (alV vs) 0 bs a := fun hr => by
          obtain ⟨x, m, hx⟩ := isRef_at h hf hr e
          have := e.ne x j a hx ⟨by rw [q]; rfl, e1⟩
          subst this
          exact hj m
        refine ⟨a, u, e1, f1, ?_, g.h a u f3 hnr, f4.mono g.f, f5⟩
        cases z : Hf' a with
        | none => rfl
        | some o =>
          rcases g.n a o z with r | ⟨r, _⟩ | ⟨ys, r, r2⟩
          · rw [f2] at r; cases r
          · rw [f3] at r; cases r
          · rw [g.h a u f3 hnr] at r2
            cases r2
            subst r
            exact f4.own.elim
end
section
variable {X : Cx} {W : WX} {pos p : Pos}
/-- arguments, some handed on -/
def rdR (K : PySem.W.Frag) (W : WX) (bs : List Bool) (es : Es) (m : Env → R (List D)) : TA := fun σ H Q => ∃ Fr Hf ρ, EnvAt K Fr Hf ρ σ H ∧ Go K W Fr Hf σ (fun Hf' _ _ vs ds => RpA K σ Hf' bs es vs ds) (m ρ) Q
theorem RpA.mono {K : PySem.W.Frag} {σ : SSt} {Hf Hf' : Hp} (s : Same Hf Hf') : ∀ {bs : List Bool} {es : Es} {vs : List V} {xs : List D}, RpA K σ Hf bs es vs xs → RpA K σ Hf' bs es vs xs
  | true :: bs, .cons (.v x) es, v :: vs, _ :: xs, h => ⟨h.1, RpA.mono s h.2⟩
  | false :: bs, .cons _ es, v :: vs, _ :: xs, h => ⟨h.1.mono s, RpA.mono s h.2⟩
  | [], .nil, [], [], h => h
theorem PAweakR {es : List Expr} {t t' : TA} (h : PA X es t) (w : ∀ σ H Q, t' σ H Q → t σ H Q) : PA X es t' := ⟨fun pos pins s σ H Q I h' => h.run pos pins s σ H Q I (w σ H Q h')⟩
theorem par_nil : PA X [] (rdR X.K W [] .nil fun ρ => .ok [] ρ) := PAweakR pa_nil fun σ H Q ⟨Fr, Hf, ρ, e, g⟩ => g [] Hf H (Same.refl _) e trivial
theorem par_f {e : Expr} {es : List Expr} {a : E} {as : Es} {bs : List Bool} {m : Env → R D} {ms : Env → R (List D)} (he : PE X e (rd X.K W m)) (hr : PA X es (rdR X.K W bs as ms)) (hs : starEach (e :: es) X.env = (false, eval e X.env) :: starEach es X.env) :
    PA X (e :: es) (rdR X.K W (false :: bs) (.cons a as) fun ρ => (m ρ).bind fun x ρ1 => (ms ρ1).bind fun xs ρ2 => .ok (x :: xs) ρ2) :=
  PAweakR (pa_cons he hr hs) fun σ H Q ⟨Fr, Hf, ρ, e, g⟩ => ⟨Fr, Hf, ρ, e, (Go.bind g).imp fun v H1 ⟨d1, Hf1, ρ1, s1, e1, r1, g1⟩ => ⟨Fr, Hf1, ρ1, e1, (Go.bind g1).imp fun vs H2 ⟨ds, Hf2, ρ2, s2, e2, r2, g2⟩ => g2 (v :: vs) Hf2 H2 (Same.refl _) e2 ⟨r1.mono s2, r2⟩⟩⟩
theorem par_t {e : Expr} {es : List Expr} {x : Nat} {as : Es} {bs : List Bool} {ms : Env → R (List D)} (he : PE X e (tVar x)) (hr : PA X es (rdR X.K W bs as ms)) (hs : starEach (e :: es) X.env = (false, eval e X.env) :: starEach es X.env) :
    PA X (e :: es) (rdR X.K W (true :: bs) (.cons (.v x) as) fun ρ => (R.of (peekV x ρ) ρ).bind fun _ ρ0 => (ms ρ0).bind fun xs ρ2 => .ok (.non :: xs) ρ2) := by
  refine PAweakR (pa_cons he hr hs) fun σ H Q ⟨Fr, Hf, ρ, e, g⟩ => ?_
  dsimp only at g
  cases q : peekV x ρ with
  | none => rw [q] at g; exact g.elim
  | some d =>
    rw [q] at g
    have g : Go X.K W Fr Hf σ (fun Hf' _ _ vs ds => RpA X.K σ Hf' (true :: bs) (.cons (.v x) as) vs ds) ((ms ρ).bind fun xs ρ2 => .ok (.non :: xs) ρ2) Q := g
    obtain ⟨v, hv, _⟩ := e.look q
    exact ⟨v, hv, Fr, Hf, ρ, e, (Go.bind g).imp fun vs H2 ⟨ds, Hf2, ρ2, s2, e2, r2, g2⟩ => g2 (v :: vs) Hf2 H2 (Same.refl _) e2 ⟨hv, r2⟩⟩
theorem pd_callr {k : Nat} {f : Addr} {fd : FuncData} {ps : List Str} {bs : List Bool} {as : Es} {den : List D → DR} {x : Str} {e : Expr} {es : List Expr} {ms : Env → R (List D)} (F : FnOk X.prog X.w X.K X.mg X.base (L2.CX X.prog X.w) k f fd ps (spR X.K bs den)) (hr : Room k X.A) (hg : Gl X x) (hm : X.mg x = some (.ref f)) (hk : PySem.W.keepIn X.K (.ref f) = true) (hb : Binds X.K fd ps [])
    (tk : Takes X W) (ha : PA X (e :: es) (rdR X.K W bs as ms)) (hn : (refX bs as).Nodup) (hdb : (x == ("__debug__" : Str)) = false) (he : starEach (e :: es) X.env = (false, eval e X.env) :: starEach es X.env) (hpl : (backTo pos (starEach es X.env)).any (·.1) = false) :
    PE X (.Call (.Name x p) (e :: es) [] pos) (rd X.K W fun ρ => (ms ρ).bind fun xs ρ1 => callR den bs as xs ρ1) := by
  refine PEweak (pe_callS (E := WE W) F hr hg hm hk hb (fun σ => passAt tk σ) ha hdb he hpl) fun σ H Q ⟨Fr, Hf, ρ, e, g⟩ => ⟨Fr, Hf, ρ, e, (Go.bind g).imp fun vs H1 ⟨xs, Hf1, ρ1, s1, e1, r1, g1⟩ => ?_⟩
  unfold callR at g1
  cases q : fillR bs as xs ρ1 with
  | none => rw [q] at g1; exact g1.elim
  | some ds =>
    rw [q] at g1
    dsimp only at g1
    have hal : ∀ j a, vs[j]? = some (.ref a) → alV vs (0 + j) = a := fun j a hj => by rw [Nat.zero_add]; unfold alV; rw [hj]
    refine ⟨Hf1, ds, alV vs, e1.hp.hf, e1.hp.nd, refAt_of e1 r1 q hal, dst_of e1 r1 q hn hal, ?_⟩
    cases z : den ds with
    | no => rw [z] at g1; exact g1.elim
    | ex y => rw [z] at g1; exact g1.elim
    | ok d =>
      rw [z] at g1
      cases d with
      | tup xs' =>
        cases xs' with
        | nil => exact g1.elim
        | cons d os =>
          dsimp only at g1 ⊢
          cases w : putR (refX bs as) os ρ1 with
          | none => rw [w] at g1; exact g1.elim
          | some ρ' =>
            rw [w] at g1
            intro v Hf' H' gr ho rv
            exact g1 v Hf' H' gr.f (e1.callX r1 q hn gr ho w gr.s) rv
      | _ => exact g1.elim
end
/-! ### a def with by-reference parameters -/
section
variable {K : PySem.W.Frag} {al : Nat → Addr} {Hf H : Hp}
theorem stR_get : ∀ {bs : List Bool} {ds : List D} {i j : Nat} {s : Sl}, (stR i bs ds)[j]? = some s → ∃ b d, bs[j]? = some b ∧ ds[j]? = some d ∧ s = if b then .ow' (some (i + j)) d else .fz d
  | true :: bs, d :: ds, i, 0, s, h => ⟨true, d, rfl, rfl, (Option.some.inj h).symm⟩
  | false :: bs, d :: ds, i, 0, s, h => ⟨false, d, rfl, rfl, (Option.some.inj h).symm⟩
  | true :: bs, d :: ds, i, j + 1, s, h => by
    obtain ⟨b, e, h1, h2, h3⟩ := stR_get (j := j) (show (stR (i + 1) bs ds)[j]? = some s from h)
    exact ⟨b, e, h1, h2, by rw [h3, Nat.add_assoc, Nat.add_comm 1 j]⟩
  | false :: bs, d :: ds, i, j + 1, s, h => by
    obtain ⟨b, e, h1, h2, h3⟩ := stR_get (j := j) (show (stR (i + 1) bs ds)[j]? = some s from h)
    exact ⟨b, e, h1, h2, by rw [h3, Nat.add_assoc, Nat.add_comm 1 j]⟩
  | [], ds, i, j, s, h => by simp [stR] at h
  | true :: bs, [], i, j, s, h => by simp [stR] at h
  | false :: bs, [], i, j, s, h => by simp [stR] at h
theorem stR_len : ∀ {bs : List Bool} {ds : List D} {i : Nat}, ds.length = bs.length → (stR i bs ds).length = bs.length
  | [], [], _, _ => rfl
  | true :: bs, d :: ds, i, h => by show (stR (i + 1) bs ds).length + 1 = bs.length + 1; rw [stR_len (by simpa using h)]
  | false :: bs, d :: ds, i, h => by show (stR (i + 1) bs ds).length + 1 = bs.length + 1; rw [stR_len (by simpa using h)]
theorem refAt_get : ∀ {bs : List Bool} {vs : List V} {ds : List D} {i j : Nat} {b : Bool} {d : D}, RefAt K al Hf H i bs vs ds → bs[j]? = some b → ds[j]? = some d → ∃ v, vs[j]? = some v ∧ (b = true → v = .ref (al (i + j)) ∧ Hf (al (i + j)) = none ∧ ∃ u, H (al (i + j)) = some u ∧ RpO K Hf u d) ∧ (b = false → Rp K Hf v d)
  | true :: bs, v :: vs, d0 :: ds, i, 0, b, d, h, hb, hd => by
    cases hb
    cases hd
    exact ⟨v, rfl, fun _ => h.1, fun z => nomatch z⟩
  | false :: bs, v :: vs, d0 :: ds, i, 0, b, d, h, hb, hd => by
    cases hb
    cases hd
    exact ⟨v, rfl, fun z => (nomatch z), fun _ => h.1⟩
  | true :: bs, v :: vs, d0 :: ds, i, j + 1, b, d, h, hb, hd => by
    have := refAt_get (j := j) h.2 (by simpa using hb) (by simpa using hd)
    rw [Nat.add_assoc, Nat.add_comm 1 j] at this
    exact this
  | false :: bs, v :: vs, d0 :: ds, i, j + 1, b, d, h, hb, hd => by
    have := refAt_get (j := j) h.2 (by simpa using hb) (by simpa using hd)
    rw [Nat.add_assoc, Nat.add_comm 1 j] at this
    exact this
theorem dst_at : ∀ {bs : List Bool} {i j k : Nat}, Dst al i bs → bs[j]? = some true → bs[k]? = some true → al (i + j) = al (i + k) → j = k
  | true :: bs, i, 0, 0, _, _, _, _ => rfl
  | true :: bs, i, 0, k + 1, h, _, hk, e => by
    have := h.1 k (by simpa using hk)
    rw [Nat.add_assoc, Nat.add_comm 1 k] at this
    exact absurd e.symm this
  | true :: bs, i, j + 1, 0, h, hj, _, e => by
    have := h.1 j (by simpa using hj)
    rw [Nat.add_assoc, Nat.add_comm 1 j] at this
    exact absurd e this
  | true :: bs, i, j + 1, k + 1, h, hj, hk, e => by
    have := dst_at (j := j) (k := k) h.2 (by simpa using hj) (by simpa using hk) (by rw [Nat.add_assoc, Nat.add_comm 1 j, Nat.add_assoc, Nat.add_comm 1 k]; exact e)
    omega
  | false :: bs, i, 0, k, h, hj, _, e => by simp at hj
  | false :: bs, i, j + 1, 0, h, hj, hk, e => by simp at hk
  | false :: bs, i, j + 1, k + 1, h, hj, hk, e => by
    have := dst_at (j := j) (k := k) (show Dst al (i + 1) bs from h) (by simpa using hj) (by simpa using hk) (by rw [Nat.add_assoc, Nat.add_comm 1 j, Nat.add_assoc, Nat.add_comm 1 k]; exact e)
    omega
open Classical in
/-- the frame of such a def -/
noncomputable def frR (al : Nat → Addr) (bs : List Bool) (Hf H : Hp) : Fm := ⟨fun a => match Hf a with
  | none => if IsRef al 0 bs a then none else H a
  | some _ => none, al⟩
open Classical in
theorem frR_some {bs : List Bool} {a : Addr} {o : HO} (h : frR al bs Hf H a = some o) : Hf a = none ∧ ¬ IsRef al 0 bs a ∧ H a = some o := by
  have h : (match Hf a with
    | none => if IsRef al 0 bs a then none else H a
    | some _ => none) = some o := h
  cases q : Hf a with
  | some u => simp only [q] at h; cases h
  | none =>
    simp only [q] at h
    by_cases hr : IsRef al 0 bs a
    · rw [if_pos hr] at h; cases h
    · rw [if_neg hr] at h; exact ⟨rfl, hr, h⟩
theorem frR_ref {bs : List Bool} {a : Addr} (h : IsRef al 0 bs a) : frR al bs Hf H a = none := by
  cases q : frR al bs Hf H a with
  | none => rfl
  | some o => exact absurd h (frR_some q).2.1
open Classical in
theorem frR_of {bs : List Bool} {a : Addr} {o : HO} (h1 : Hf a = none) (h2 : ¬ IsRef al 0 bs a) (h3 : H a = some o) : frR al bs Hf H a = some o := by
  show (match Hf a with
    | none => if IsRef al 0 bs a then none else H a
    | some _ => none) = some o
  simp only [h1]
  rw [if_neg h2]
  exact h3
theorem env_startR {bs : List Bool} {N : List Str} {vs : List V} {ds : List D} (s : Same Hf H) (nd : NoD Hf) (r : RefAt K al Hf H 0 bs vs ds) (hd : Dst al 0 bs) : EnvAt K (frR al bs Hf H) Hf (stR 0 bs ds ++ List.replicate (N.length - ds.length) .un) (L2.start N vs) H := by
  obtain ⟨lv, ld⟩ := r.len
  have hsl : ∀ (i : Nat) (x : Sl), (stR 0 bs ds ++ List.replicate (N.length - ds.length) Sl.un)[i]? = some x → x = .un ∨ ∃ b d v, bs[i]? = some b ∧ ds[i]? = some d ∧ vs[i]? = some v ∧ (L2.start N vs)[i]? = some (some v) ∧ x = (if b then .ow' (some i) d else .fz d) ∧ (b = true → v = .ref (al i) ∧ Hf (al i) = none ∧ ∃ u, H (al i) = some u ∧ RpO K Hf u d) ∧ (b = false → Rp K Hf v d) := fun i x h => by
    rw [List.getElem?_append] at h
    split at h
    · rename_i hl
      rw [stR_len ld] at hl
      obtain ⟨b, d, h1, h2, h3⟩ := stR_get h
      obtain ⟨v, h4, h5, h6⟩ := refAt_get r h1 h2
      rw [Nat.zero_add] at h3 h5
      refine .inr ⟨b, d, v, h1, h2, h4, ?_, h3, h5, h6⟩
      unfold L2.start
      rw [List.getElem?_append_left (by rw [List.length_map, lv]; exact hl), List.getElem?_map, h4]
      rfl
    · rw [List.getElem?_replicate] at h
      split at h
      · cases h; exact .inl rfl
      · cases h
  refine ⟨⟨fun a o e => (frR_some e).2.2, s, fun a h => ?_, nd⟩, ?_, fun i x h => ?_, fun i j a o1 o2 => ?_⟩
  · cases q : frR al bs Hf H a with
    | none => exact absurd q h
    | some o => exact .inl (frR_some q).1
  · unfold L2.start
    simp only [List.length_append, List.length_map, List.length_replicate, stR_len ld, lv, ld]
  · rcases hsl i x h with rfl | ⟨b, d, v, h1, h2, h3, h4, rfl, h5, h6⟩
    · trivial
    · cases b with
      | false => exact ⟨v, h4, h6 rfl⟩
      | true =>
        obtain ⟨rfl, k1, u, k2, k3⟩ := h5 rfl
        exact ⟨al i, u, h4, frR_ref ⟨i, h1, by rw [Nat.zero_add]⟩, k1, k2, k3, fun k z => by cases z; rfl⟩
  · have own : ∀ i, Own (stR 0 bs ds ++ List.replicate (N.length - ds.length) .un) (L2.start N vs) i a → bs[i]? = some true ∧ al i = a := fun i ⟨k1, k2⟩ => by
      cases q : (stR 0 bs ds ++ List.replicate (N.length - ds.length) Sl.un)[i]? with
      | none => rw [q] at k1; cases k1
      | some x =>
        rw [q] at k1
        rcases hsl i x q with rfl | ⟨b, d, v, h1, h2, h3, h4, rfl, h5, h6⟩
        · cases k1
        · cases b with
          | false => cases k1
          | true =>
            obtain ⟨rfl, _⟩ := h5 rfl
            rw [k2] at h4
            cases h4
            exact ⟨h1, rfl⟩
    obtain ⟨a1, a2⟩ := own i o1
    obtain ⟨b1, b2⟩ := own j o2
    exact dst_at hd a1 b1 (by rw [Nat.zero_add, Nat.zero_add, a2, b2])
theorem outR_at {bs0 : List Bool} {σ : SSt} {ρ : Env} {Hf' H' : Hp} (e : EnvAt K (frR al bs0 Hf H) Hf' ρ σ H') : ∀ (bs : List Bool) {i : Nat} {os : List D}, outR ρ i bs = some os → OutAt K al Hf' H' i bs os := by
  intro bs
  induction bs with
  | nil => intro i os h; cases h; trivial
  | cons b bs ih =>
    intro i os h
    cases b with
    | false => exact ih h
    | true =>
    unfold outR at h
    cases q : ρ[i]? with
    | none => rw [q] at h; cases h
    | some s =>
      rw [q] at h
      cases s with
      | ow' t d =>
        cases t with
        | none => cases h
        | some j =>
          cases z : outR ρ (i + 1) bs with
          | none => rw [z] at h; cases h
          | some r =>
            rw [z] at h
            dsimp only at h
            by_cases hij : i = j
            · rw [if_pos hij] at h
              cases h
              subst hij
              obtain ⟨a, u, k1, k2, k3, k4, k5, k6⟩ := e.sl i _ q
              have ha : al i = a := k6 i rfl
              rw [← ha] at k3 k4
              exact ⟨⟨k3, u, k4, k5⟩, ih z⟩
            · rw [if_neg hij] at h; cases h
      | _ => cases h
theorem out_ref : ∀ {bs : List Bool} {i : Nat} {os : List D} {Hf' H' : Hp}, OutAt K al Hf' H' i bs os → ∀ j, bs[j]? = some true → Hf' (al (i + j)) = none
  | true :: bs, i, d :: os, Hf', H', h, 0, _ => h.1.1
  | true :: bs, i, d :: os, Hf', H', h, j + 1, hj => by
    have := out_ref h.2 j (by simpa using hj)
    rw [Nat.add_assoc, Nat.add_comm 1 j] at this
    exact this
  | false :: bs, i, os, Hf', H', h, 0, hj => by simp at hj
  | false :: bs, i, os, Hf', H', h, j + 1, hj => by
    have := out_ref (show OutAt K al Hf' H' (i + 1) bs os from h) j (by simpa using hj)
    rw [Nat.add_assoc, Nat.add_comm 1 j] at this
    exact this
theorem grow_endR {bs : List Bool} {σ : SSt} {ρ : Env} {Hf' H' : Hp} {os : List D} (s : Same Hf H) (e : EnvAt K (frR al bs Hf H) Hf' ρ σ H') (s' : Same Hf Hf') (ho : outR ρ 0 bs = some os) : GrowX al bs Hf H Hf' H' ∧ OutAt K al Hf' H' 0 bs os := by
  have oa := outR_at e bs ho
  refine ⟨⟨s', fun a o h hr => ?_, fun a o h => ?_, fun _ => e.hp.nd, e.hp.hf⟩, oa⟩
  · cases q : Hf a with
    | some u =>
      have := s a u q
      rw [h] at this
      cases this
      exact e.hp.hf _ _ (s' _ _ q)
    | none => exact e.hp.fr a o (frR_of q hr h)
  · cases q : Hf a with
    | some u =>
      have := s' _ _ q
      rw [h] at this
      cases this
      exact .inl rfl
    | none =>
      cases z : H a with
      | none => exact .inr (.inl ⟨rfl, e.hp.hf _ _ h⟩)
      | some u =>
        by_cases hr : IsRef al 0 bs a
        · obtain ⟨j, hj, rfl⟩ := hr
          have := out_ref oa j hj
          rw [h] at this
          cases this
        · rcases e.hp.dj a (by rw [frR_of q hr z]; simp) with y | ⟨xs, y⟩
          · rw [h] at y; cases y
          · rw [h] at y
            cases y
            exact .inr (.inr ⟨xs, rfl, e.hp.hf _ _ h⟩)
end
end DL
set_option Elab.async false
set_option linter.all false
set_option maxRecDepth 100000
set_option maxHeartbeats 4000000
/-! DLkw: calls of defs with keyword-only parameters. -/
namespace DL
open PySem PySem.Spec PyProof.Rows L2

/-- the values of all keyword-only parameters, ks and zs written -/
def fillK {α : Type} (dv : Cst → α) (kwd : List (Str × Cst)) (ks : List Str) (zs : List α) : List α := kwd.map fun q => match (ks.zip zs).lookup q.1 with
  | some z => z
  | none => dv q.2
/-- the denotation as a call sees it: n places, the keywords ks -/
def Cst.dk : Cst → D
  | .tups _ => .non
  | k => k.d
def kwD (n : Nat) (kwd : List (Str × Cst)) (ks : List Str) (den : List D → DR) : List D → DR := fun ds => den (ds.take n ++ fillK Cst.dk kwd ks (ds.drop n))
def cVk : Cst → V
  | .non => .non
  | .bl b => .bl b
  | .int i => .int i
  | .str s => .str s
  | .tups _ => .non
theorem look_rel {α β : Type} {R : α → β → Prop} : ∀ (ks : List Str) {zs : List α} {ws : List β} (x : Str), Paired R zs ws → (∃ z w, (ks.zip zs).lookup x = some z ∧ (ks.zip ws).lookup x = some w ∧ R z w) ∨ ((ks.zip zs).lookup x = none ∧ (ks.zip ws).lookup x = none)
  | [], _, _, x, _ => .inr ⟨by simp, by simp⟩
  | k :: ks, [], _, x, h => by cases h; exact .inr ⟨by simp, by simp⟩
  | k :: ks, z :: zs, _, x, h => by
    cases h with
    | cons h1 h2 =>
      rename_i w ws
      rw [List.zip_cons_cons, List.zip_cons_cons, List.lookup_cons, List.lookup_cons]
      cases q : x == k with
      | true => exact .inl ⟨z, w, rfl, rfl, h1⟩
      | false => exact look_rel ks x h2
theorem paired_rps {K : PySem.W.Frag} {H : Hp} : ∀ {vs : List V} {ds : List D}, Rps K H vs ds → Paired (Rp K H) vs ds
  | _, _, .nil => .nil
  | _, _, .cons h r => .cons h (paired_rps r)
theorem fill_rps {K : PySem.W.Frag} {H : Hp} {ks : List Str} {zs : List V} {ws : List D} (r : Rps K H zs ws) : ∀ kwd : List (Str × Cst), Rps K H (fillK cVk kwd ks zs) (fillK Cst.dk kwd ks ws)
  | [] => .nil
  | (x, c) :: kwd => by
    refine .cons ?_ (fill_rps r kwd)
    rcases look_rel ks x (paired_rps r) with ⟨z, w, e1, e2, h⟩ | ⟨e1, e2⟩
    · dsimp only
      rw [e1, e2]
      exact h
    · dsimp only
      rw [e1, e2]
      cases c with
      | non => exact .non
      | bl b => exact .bl b
      | int i => exact .int i
      | str s => exact .str s
      | tups xs => exact .non
theorem fill_len {α : Type} {dv : Cst → α} {kwd : List (Str × Cst)} {ks : List Str} {zs : List α} : (fillK dv kwd ks zs).length = kwd.length := List.length_map ..
/-- the same of machine values: the defaults are kv -/
def fillM : List Str → List Value → List Str → List Value → List Value
  | x :: xs, v :: vs, ks, ws => (match (ks.zip ws).lookup x with
    | some w => w
    | none => v) :: fillM xs vs ks ws
  | _, _, _, _ => []
theorem fill_vals {ks : List Str} {zs : List V} {ws : List Value} (r : Vals zs ws) : ∀ (kwd : List (Str × Cst)) {kv : List Value}, Vals (kwd.map fun q => cVk q.2) kv → Vals (fillK cVk kwd ks zs) (fillM (kwd.map (·.1)) kv ks ws)
  | [], _, h => by cases h; exact .nil
  | (x, c) :: kwd, _, h => by
    cases h with
    | cons h1 h2 =>
      refine .cons ?_ (fill_vals r kwd h2)
      rcases look_rel ks x r with ⟨z, w, e1, e2, h⟩ | ⟨e1, e2⟩
      · dsimp only
        rw [e1, e2]
        exact h
      · dsimp only
        rw [e1, e2]
        exact h1
/-- binding: the keyword-only parameters alone have defaults -/
theorem kbn0 {K : PySem.W.Frag} {x qual : Str} {params : Arguments} {body : List Stmt} {scope : Scope} {kwd : List (Str × Cst)} {f : Addr} {fd : FuncData} {ps : List Str} (F : FunD K x qual params body scope [] (kwd.map fun q => (q.1, cVk q.2)) f fd) (n : Nat) (ks : List Str) (hk : kwd ≠ [])
    (h : ∀ (A : Addr) (doc pm : Value) (an : Option Addr) (cdv ct : Value) (us kv ws : List Value), us.length = n → kv.length = kwd.length → ws.length = ks.length →
      ∃ ms : List (Str × Value), (∀ m ∈ ms, m ∈ (kwd.map (·.1)).zip kv) ∧ KwChain A ms (bindArgs (PySem.W.fnOf x qual params body scope .none (.ref A) doc pm an cdv ct) ⟨us, ks.zip ws⟩) (ps.zip (us ++ fillM (kwd.map (·.1)) kv ks ws))) :
    ∃ kv : List Value, KBn K fd ps n ks (fun us ws => us ++ fillM (kwd.map (·.1)) kv ks ws) (fun vs zs => vs ++ fillK cVk kwd ks zs) := by
  obtain ⟨oc, od, dV, kV, doc, pm, an, cdv, ct, osl, rfl, lk, hcd, hD, hK⟩ := F.ex
  have hDn : dV = .none := by
    rcases hD with ⟨_, e⟩ | ⟨e, _⟩
    · exact e
    · exact absurd rfl e
  subst hDn
  rcases hK with e | ⟨A, rfl, hq⟩
  · exact absurd (List.map_eq_nil_iff.mp e) hk
  · obtain ⟨kv, hl, rk, hks⟩ := kwd_vals hq
    have rk2 : Vals (kwd.map fun q => cVk q.2) kv := by
      have : (List.map (·.2) (kwd.map fun q => (q.1, cVk q.2))) = kwd.map fun q => cVk q.2 := by rw [List.map_map]; rfl
      rw [← this]
      exact rk
    have hn : (List.map (·.1) (kwd.map fun q => (q.1, cVk q.2))) = kwd.map (·.1) := by rw [List.map_map]; rfl
    rw [hn] at hks
    refine ⟨kv, ⟨fun s us ws X l1 l2 => ?_, fun r1 r2 => r1.append (fill_vals r2 kwd rk2)⟩⟩
    obtain ⟨ms, h1, h2⟩ := h A doc pm an cdv ct us kv ws l1 (by rw [hl, List.length_map]) l2
    exact BindsTo.of_looks fun M => KwChain.looks X (fun m hm => hks m (h1 m hm)) h2
section
variable {X : Cx} {W : WX}
theorem run_kwS {k n : Nat} {f : Addr} {fd : FuncData} {ps ks : List Str} {sp : Sp} {g : List Value → List Value → List Value} {gV : List V → List V → List V} {E : SSt → XK} {CX : CXT} {pins : List (Addr × Obj)} {σ : SSt} {H : Hp} {s : Shared} {Q : VK} {us ws : List Value} {vs zs : List V} (F : FnOk X.prog X.w X.K X.mg X.base CX k f fd ps sp) (hr : Room k X.A)
    (hb : KBn X.K fd ps n ks g gV) (hx : PassesAt CX X σ (E σ)) (I : Inv X pins σ H s) (r : Vals vs us) (rz : Vals zs ws) (l1 : vs.length = n) (l2 : zs.length = ks.length) (h : sp (gV vs zs) H Q (E σ)) : wpAny (model X.prog X.w) X.A (call (.ref f) us (ks.zip ws)) (EP X pins σ Q) X.xe s := by
  have bt := hb.to s us ws I.kIn (by rw [← r.length]; exact l1) (by rw [← rz.length]; exact l2)
  refine wpAny_call (codeAny_mono (F.run X.A X.stack s H ⟨us, ks.zip ws⟩ (g us ws) (gV vs zs) Q (E σ) hr I.env0 bt (hb.rel r rz) h) fun o s' q => ?_)
  cases o with
  | error y => exact hx pins H s y s' I q
  | ok fl => cases fl with
    | ret u => exact I.after q
    | _ => exact False.elim q
theorem pe_kwS {k n : Nat} {f : Addr} {fd : FuncData} {ps ks : List Str} {sp : Sp} {g : List Value → List Value → List Value} {gV : List V → List V → List V} {E : SSt → XK} {CX : CXT} {x : Str} {p pos : Pos} {e : Expr} {es : List Expr} {kws : List Keyword} {t tk : TA} (F : FnOk X.prog X.w X.K X.mg X.base CX k f fd ps sp) (hr : Room k X.A)
    (hg : Gl X x) (hm : X.mg x = some (.ref f)) (hk : PySem.W.keepIn X.K (.ref f) = true) (hb : KBn X.K fd ps n ks g gV) (hx : ∀ σ, PassesAt CX X σ (E σ)) (ha : PA X (e :: es) t) (hkw : PK X kws tk)
    (hall : (backToKw pos (keywordEach kws X.env)).all (·.1.isSome) = true) (hks : (backToKw pos (keywordEach kws X.env)).filterMap (·.1) = ks) (hdb : (x == ("__debug__" : Str)) = false) (he : starEach (e :: es) X.env = (false, eval e X.env) :: starEach es X.env)
    (hpl : ((backTo pos (starEach (e :: es) X.env)).any (·.1) || (backToKw pos (keywordEach kws X.env)).any (·.1.isNone)) = false) :
    PE X (.Call (.Name x p) (e :: es) kws pos) (fun σ H Q => t σ H fun vs H1 => tk σ H1 fun zs H2 => vs.length = n ∧ zs.length = ks.length ∧ sp (gV vs zs) H2 Q (E σ)) := by
  refine ⟨fun pins s σ H Q I h => wpAny_Call_Name_kw (ld_glob I hg hm (PySem.W.callWith_KW (h₀ := X.base) I.ok.mod.kin hk hall (thn (ha.run pos pins s σ H _ I h) fun us s1 h1 => ?_) hpl he) hdb)⟩
  obtain ⟨vs, H1, I1, r, q⟩ := h1
  refine thn (hkw.run pos pins s1 σ H1 _ I1 q) fun ws s2 h2 => ?_
  obtain ⟨zs, H2, I2, rz, l1, l2, q2⟩ := h2
  refine ⟨I2.kIn, ?_⟩
  rw [hks]
  exact run_kwS F hr hb (hx σ) I2 r rz l1 l2 q2
theorem PKweak {kws : List Keyword} {t t' : TA} (h : PK X kws t) (w : ∀ σ H Q, t' σ H Q → t σ H Q) : PK X kws t' := ⟨fun pos pins s σ H Q I z => h.run pos pins s σ H Q I (w σ H Q z)⟩
theorem pk_nilD : PK X [] (rdA X.K W fun ρ => .ok [] ρ) := PKweak pk_nil fun σ H Q ⟨Fr, Hf, ρ, e, g⟩ => g [] Hf H (Same.refl _) e .nil
theorem pk_consD {nm : Option Str} {kp : Pos} {e : Expr} {kws : List Keyword} {m : Env → R D} {ms : Env → R (List D)} (ha : PE X e (rd X.K W m)) (hr : PK X kws (rdA X.K W ms)) :
    PK X (⟨nm, e, kp⟩ :: kws) (rdA X.K W fun ρ => (m ρ).bind fun x ρ1 => (ms ρ1).bind fun xs ρ2 => .ok (x :: xs) ρ2) := by
  refine PKweak (pk_cons ha hr) fun σ H Q ⟨Fr, Hf, ρ, e, g⟩ => ?_
  refine ⟨Fr, Hf, ρ, e, (Go.bind g).imp fun v H1 ⟨d1, Hf1, ρ1, s1, e1, r1, g1⟩ => ⟨Fr, Hf1, ρ1, e1, (Go.bind g1).imp fun w H2 ⟨d2, Hf2, ρ2, s2, e2, r2, g2⟩ => ?_⟩⟩
  exact g2 (v :: w) Hf2 H2 (Same.refl _) e2 (.cons (r1.mono s2) r2)
/-- f(e, .., k = v, ..) -/
theorem pd_callK {k n : Nat} {f : Addr} {fd : FuncData} {ps ks : List Str} {kwd : List (Str × Cst)} {g : List Value → List Value → List Value} {den : List D → DR} {x : Str} {p pos : Pos} {e : Expr} {es : List Expr} {kws : List Keyword} {ms mz : Env → R (List D)} (F : FnOk X.prog X.w X.K X.mg X.base (L2.CX X.prog X.w) k f fd ps (spD X.K (n + kwd.length) den)) (hr : Room k X.A)
    (hg : Gl X x) (hm : X.mg x = some (.ref f)) (hk : PySem.W.keepIn X.K (.ref f) = true) (hb : KBn X.K fd ps n ks g (fun vs zs => vs ++ fillK cVk kwd ks zs)) (tk : Takes X W) (ha : PA X (e :: es) (rdA X.K W ms)) (hkw : PK X kws (rdA X.K W mz))
    (hn : ∀ ρ xs ρ', ms ρ = .ok xs ρ' → xs.length = n) (hz : ∀ ρ xs ρ', mz ρ = .ok xs ρ' → xs.length = ks.length)
    (hall : (backToKw pos (keywordEach kws X.env)).all (·.1.isSome) = true) (hks : (backToKw pos (keywordEach kws X.env)).filterMap (·.1) = ks) (hdb : (x == ("__debug__" : Str)) = false) (he : starEach (e :: es) X.env = (false, eval e X.env) :: starEach es X.env)
    (hpl : ((backTo pos (starEach (e :: es) X.env)).any (·.1) || (backToKw pos (keywordEach kws X.env)).any (·.1.isNone)) = false) :
    PE X (.Call (.Name x p) (e :: es) kws pos) (rd X.K W fun ρ => (ms ρ).bind fun xs ρ1 => (mz ρ1).bind fun zs ρ2 => (kwD n kwd ks den (xs ++ zs)).r ρ2) := by
  refine PEweak (pe_kwS (E := WE W) F hr hg hm hk hb (fun σ => passAt tk σ) ha hkw hall hks hdb he hpl) fun σ H Q ⟨Fr, Hf, ρ, e, g⟩ => ⟨Fr, Hf, ρ, e, ?_⟩
  dsimp only at g
  cases q : ms ρ with
  | no => rw [q] at g; exact g
  | ex y ρ' => rw [q] at g; exact g
  | ok xs ρ1 =>
    rw [q] at g
    intro vs Hf1 H1 s1 e1 r1
    refine ⟨Fr, Hf1, ρ1, e1, ?_⟩
    have g : Go X.K W Fr Hf σ (PV X.K) ((mz ρ1).bind fun zs ρ2 => (kwD n kwd ks den (xs ++ zs)).r ρ2) Q := g
    cases q2 : mz ρ1 with
    | no => rw [q2] at g; exact g
    | ex y ρ' => rw [q2] at g; exact Go.weak g s1
    | ok zs ρ2 =>
      rw [q2] at g
      have g : Go X.K W Fr Hf σ (PV X.K) ((kwD n kwd ks den (xs ++ zs)).r ρ2) Q := g
      intro ws Hf2 H2 s2 e2 r2
      have l1 := hn ρ xs ρ1 q
      have l2 := hz ρ1 zs ρ2 q2
      refine ⟨by rw [r1.length, l1], by rw [r2.length, l2], Hf2, xs ++ fillK Cst.dk kwd ks zs, e2.hp.hf, e2.hp.nd, (r1.mono s2).append (fill_rps r2 kwd), by rw [List.length_append, l1, fill_len], ?_⟩
      have ed : kwD n kwd ks den (xs ++ zs) = den (xs ++ fillK Cst.dk kwd ks zs) := by
        unfold kwD
        rw [List.take_left' l1, List.drop_left' l1]
      rw [ed] at g
      cases z : den (xs ++ fillK Cst.dk kwd ks zs) with
      | no => rw [z] at g; exact g
      | ok d => rw [z] at g; exact fun v Hf' H' gr rv => g v Hf' H' ((s1.trans s2).trans gr.f) (e2.grow gr) rv
      | ex y => rw [z] at g; exact fun cls od Hf' H' gr ry => g Hf' H' cls od ((s1.trans s2).trans gr.f) (e2.grow gr) ry
end
end DL
set_option Elab.async false
set_option linter.all false
set_option maxRecDepth 100000
set_option maxHeartbeats 4000000
/-! DLst: texts: str(..), their methods, split. -/
namespace DL
open PySem PySem.Spec PyProof.Rows L2
section
variable {X : Cx} {W : WX} {a b : Expr} {ma mb : Env → R D} {pos p' : Pos}
theorem cd_str : ∃ r, CallR X (.type "str") r ∧ CallD X.K r (b1D .str) := by
  refine ⟨_, call_str_int, fun Hf H v d z Q s rv hz q => ?_⟩
  cases rv with
  | int i =>
    have hz : (if i.natAbs.log2 < 1920 then some (D.str (toString i)) else none) = some z := hz
    split at hz
    · rename_i hl
      cases hz
      exact ⟨i, rfl, hl, q _ Hf H Grow.refl (.str _)⟩
    · cases hz
  | _ => cases hz
theorem pd_upper (ha : PE X a (rd X.K W ma)) (hbase : attributeBase a "upper" X.env (eval a X.env) = eval a X.env) (hline : (p'.endLine == pos.line) = true) :
    PE X (.Call (.Attribute a "upper" p') [] [] pos) (rd X.K W fun ρ => (ma ρ).bind fun x ρ1 => R.of (b1D .upper x) ρ1) := by
  refine PEweak (pe_upper ha hbase hline) fun σ H Q ⟨Fr, Hf, ρ, e, g⟩ => ⟨Fr, Hf, ρ, e, (Go.bind g).imp fun v H1 ⟨x, Hf1, ρ1, s1, e1, r1, g1⟩ => ?_⟩
  cases r1 with
  | str x =>
    have g1 : Go X.K W Fr Hf1 σ (PV X.K) (R.of (if x.length ≤ 5592405 then some (D.str (Txt.upper x)) else none) ρ1) Q := g1
    split at g1
    · rename_i hl
      exact ⟨⟨x, rfl⟩, x, rfl, rfl, hl, g1 _ Hf1 H1 (Same.refl _) e1 (.str _)⟩
    · exact g1.elim
  | _ => exact g1.elim
theorem m1D_sindex {d e z : D} (h : m1D .sindex d e = some z) : ∃ (x y : Str) (i : Nat) (r : List Nat), d = .str x ∧ e = .str y ∧ Builtin.Str.occurrences x y 0 x.length 1 = i :: r ∧ z = .int (i : Nat) := by
  cases d with
  | str x => cases e with
    | str y =>
      have h : (match Builtin.Str.occurrences x y 0 x.length 1 with
        | i :: _ => some (D.int (i : Nat))
        | [] => none) = some z := h
      split at h
      · rename_i i r q
        cases h
        exact ⟨x, y, i, r, rfl, rfl, q, rfl⟩
      · cases h
    | _ => cases h
  | _ => cases e <;> cases h
theorem pd_sindex (ha : PE X a (rd X.K W ma)) (hb : PE X b (rd X.K W mb)) (h2 : starEach [b] X.env = [(false, eval b X.env)])
    (hbase : attributeBase a "index" X.env (eval a X.env) = eval a X.env) (hline : (p'.endLine == pos.line) = true) :
    PE X (.Call (.Attribute a "index" p') [b] [] pos) (rd X.K W fun ρ => (ma ρ).bind fun x ρ1 => if strB x then (mb ρ1).bind fun y ρ2 => R.of (m1D .sindex x y) ρ2 else .no) := by
  refine PEweak (pe_m1 F.slot_str_index F.type_str_index mt_sindex ha hb h2 hbase hline) fun σ H Q ⟨Fr, Hf, ρ, e, g⟩ => ⟨Fr, Hf, ρ, e, (Go.bind g).imp fun v H1 ⟨x, Hf1, ρ1, s1, e1, r1, g1⟩ => ?_⟩
  cases r1 with
  | str x =>
    have g1 : Go X.K W Fr Hf1 σ (PV X.K) ((mb ρ1).bind fun y ρ2 => R.of (m1D .sindex (.str x) y) ρ2) Q := g1
    refine ⟨⟨x, rfl⟩, Fr, Hf1, ρ1, e1, (Go.bind g1).imp fun w H2 ⟨d2, Hf2, ρ2, s2, e2, r2, g2⟩ => ?_⟩
    cases hz : m1D .sindex (.str x) d2 with
    | none => rw [hz] at g2; exact g2.elim
    | some z =>
      rw [hz] at g2
      obtain ⟨x', y, i, r, e3, rfl, e5, rfl⟩ := m1D_sindex hz
      cases e3
      cases r2
      exact ⟨x, y, i, r, rfl, rfl, e5, g2 _ Hf2 H2 (Same.refl _) e2 (.int _)⟩
  | _ => exact g1.elim
theorem Rps.strsV {K : PySem.W.Frag} {H : Hp} : ∀ {vs : List V} {ds : List D} {ys : List Str}, Rps K H vs ds → strsOf ds = some ys → vs = ys.map V.str
  | _, _, ys, .nil, e => by
    have e : some [] = some ys := e
    cases e
    rfl
  | _, _, ys, .cons (d := d) (ds := ds) h r, e => by
    cases h with
    | str x =>
      have e : (strsOf ds).map (x :: ·) = some ys := e
      cases q : strsOf ds with
      | none => rw [q] at e; cases e
      | some zs =>
        rw [q] at e
        cases e
        rw [Rps.strsV r q]
        rfl
    | _ => cases e
theorem m1D_join {d e z : D} (h : m1D .join d e = some z) : ∃ (x : Str) (xs : List D) (ys : List Str), d = .str x ∧ e = .lst xs ∧ strsOf xs = some ys ∧ (ys.map (·.length)).sum + ys.length * x.length ≤ 16777216 ∧ z = .str (Txt.join x ys) := by
  cases d with
  | str x => cases e with
    | lst xs =>
      have h : ((strsOf xs).bind fun ys => if (ys.map (·.length)).sum + ys.length * x.length ≤ 16777216 then some (D.str (Txt.join x ys)) else none) = some z := h
      cases q : strsOf xs with
      | none => rw [q] at h; cases h
      | some ys =>
        rw [q] at h
        have h : (if (ys.map (·.length)).sum + ys.length * x.length ≤ 16777216 then some (D.str (Txt.join x ys)) else none) = some z := h
        split at h
        · rename_i hl
          cases h
          exact ⟨x, xs, ys, rfl, rfl, q, hl, rfl⟩
        · cases h
    | _ => cases h
  | _ => cases e <;> cases h
theorem pd_join (ha : PE X a (rd X.K W ma)) (hb : PE X b (rd X.K W mb)) (h2 : starEach [b] X.env = [(false, eval b X.env)])
    (hbase : attributeBase a "join" X.env (eval a X.env) = eval a X.env) (hline : (p'.endLine == pos.line) = true) :
    PE X (.Call (.Attribute a "join" p') [b] [] pos) (rd X.K W fun ρ => (ma ρ).bind fun x ρ1 => if strB x then (mb ρ1).bind fun y ρ2 => R.of (m1D .join x y) ρ2 else .no) := by
  refine PEweak (pe_join ha hb h2 hbase hline) fun σ H Q ⟨Fr, Hf, ρ, e, g⟩ => ⟨Fr, Hf, ρ, e, (Go.bind g).imp fun v H1 ⟨x, Hf1, ρ1, s1, e1, r1, g1⟩ => ?_⟩
  cases r1 with
  | str x =>
    have g1 : Go X.K W Fr Hf1 σ (PV X.K) ((mb ρ1).bind fun y ρ2 => R.of (m1D .join (.str x) y) ρ2) Q := g1
    refine ⟨⟨x, rfl⟩, Fr, Hf1, ρ1, e1, (Go.bind g1).imp fun w H2 ⟨d2, Hf2, ρ2, s2, e2, r2, g2⟩ => ?_⟩
    cases hz : m1D .join (.str x) d2 with
    | none => rw [hz] at g2; exact g2.elim
    | some z =>
      rw [hz] at g2
      obtain ⟨x', xs, ys, e3, rfl, e5, hl, rfl⟩ := m1D_join hz
      cases e3
      cases r2 with
      | @lst q ws _ hq rr =>
        have ev := rr.strsV e5
        subst ev
        exact ⟨x, q, ys, rfl, rfl, .inl (SqL.of (e2.hp.hf _ _ hq)), hl, g2 _ Hf2 H2 (Same.refl _) e2 (.str _)⟩
  | _ => exact g1.elim
theorem Rps.strs {K : PySem.W.Frag} {H : Hp} : ∀ ys : List Str, Rps K H (ys.map V.str) (ys.map D.str)
  | [] => .nil
  | y :: ys => .cons (.str y) (Rps.strs ys)
theorem splitD_some {d e z : D} (h : splitD d e = some z) : ∃ x y : Str, d = .str x ∧ e = .str y ∧ (y.length ≠ 0 ∧ x.length + 2 ≤ sizeL) ∧ z = .lst ((Txt.split x y).map .str) := by
  cases d with
  | str x => cases e with
    | str y =>
      have h : (if y.length ≠ 0 ∧ x.length + 2 ≤ sizeL then some (D.lst ((Txt.split x y).map .str)) else none) = some z := h
      split at h
      · rename_i hl
        cases h
        exact ⟨x, y, rfl, rfl, hl, rfl⟩
      · cases h
    | _ => cases h
  | _ => cases e <;> cases h
theorem pn_split (ha : PE X a (rd X.K W ma)) (hb : PE X b (rd X.K W mb)) (h2 : starEach [b] X.env = [(false, eval b X.env)])
    (hbase : attributeBase a "split" X.env (eval a X.env) = eval a X.env) (hline : (p'.endLine == pos.line) = true) :
    PE X (.Call (.Attribute a "split" p') [b] [] pos) (rdN X.K W fun ρ => (ma ρ).bind fun x ρ1 => if strB x then (mb ρ1).bind fun y ρ2 => R.of (splitD x y) ρ2 else .no) := by
  refine PEweak (pe_split ha hb h2 hbase hline) fun σ H Q ⟨Fr, Hf, ρ, e, g⟩ => ⟨Fr, Hf, ρ, e, (Go.bind g).imp fun v H1 ⟨x, Hf1, ρ1, s1, e1, r1, g1⟩ => ?_⟩
  cases r1 with
  | str x =>
    have g1 : Go X.K W Fr Hf1 σ (PN X.K Fr σ) ((mb ρ1).bind fun y ρ2 => R.of (splitD (.str x) y) ρ2) Q := g1
    refine ⟨⟨x, rfl⟩, Fr, Hf1, ρ1, e1, (Go.bind g1).imp fun w H2 ⟨d2, Hf2, ρ2, s2, e2, r2, g2⟩ => ?_⟩
    cases hz : splitD (.str x) d2 with
    | none => rw [hz] at g2; exact g2.elim
    | some z =>
      rw [hz] at g2
      obtain ⟨x', y, e3, rfl, hl, rfl⟩ := splitD_some hz
      cases e3
      cases r2
      refine ⟨x, y, rfl, rfl, beq_eq_false_iff_ne.mpr hl.1, by have := sizeLine_eq; have := hl.2; unfold sizeL at this; omega, fun p hp => ?_⟩
      exact g2 _ Hf2 _ (Same.refl _) (e2.grow (Grow.extra hp)) ⟨p, .lst _, rfl, NewAt.of e2 hp, _, rfl, Rps.strs _⟩
  | _ => exact g1.elim
end
end DL
set_option Elab.async false
set_option linter.all false
set_option maxRecDepth 100000
set_option maxHeartbeats 8000000
/-! DLh: a syntax tree checked against the IR; where it checks, it runs as the evaluator says. -/
namespace DL
open PySem PySem.Spec PyProof.Rows L2

/-- how a def is called that is not called plainly: by-reference parameters; n places, the keywords written -/
inductive Way where
  | refs (bs : List Bool)
  | kw (n : Nat) (ks : List Str)
  deriving DecidableEq
structure Ctx where
  N : List Str
  sc : Scope
  blk : Option Scope
  fns : List (Str × Nat)
  bl : List Str
  cs : List (Str × Cst) := []
  bv : List (Str × String) := []
  rfs : List (Str × Way) := []
def Ctx.fnB (c : Ctx) (x : Str) : Bool := match c.blk with
  | none => true
  | some s => s.names.lookup x == some .cell
def visB (c : Ctx) (x : Str) : Bool := match c.sc.names.lookup x with
  | some .local => true
  | some .cell => true
  | some .free => true
  | _ => false
def locB (c : Ctx) (x : Str) : Bool := match c.sc.names.lookup x with
  | some .local => true
  | some .cell => c.fnB x
  | _ => false
def gloB (c : Ctx) (x : Str) : Bool := match c.sc.names.lookup x with
  | some .globalImplicit => true
  | _ => false
/-- slot i is the name x, and it is seen here -/
def nmB (c : Ctx) (i : Nat) (x : Str) : Bool := decide (c.N[i]? = some x) && visB c x
def lcB (c : Ctx) (i : Nat) (x : Str) : Bool := decide (c.N[i]? = some x) && locB c x
/-- a built-in by its name -/
def blB (c : Ctx) (x : Str) (n : String) : Bool := decide (x = Str.ofString n) && gloB c x && c.bl.contains x
/-- a module's name for a built-in function -/
def bvB (c : Ctx) (x : Str) (n : String) : Bool := gloB c x && c.bv.contains (x, n) && !(x == ("__debug__" : Str))
/-- a module's name for a constant -/
def csB (c : Ctx) (x : Str) (k : Cst) : Bool := gloB c x && c.cs.contains (x, k) && !(x == ("__debug__" : Str)) && !(x == ("__name__" : Str))
def cstB : Cst → Const → Bool
  | .non, .none => true
  | .bl b, .bool d => b == d
  | .int i, .int j => decide (i = j)
  | .str s, .str t => decide (s = t)
  | _, _ => false
def notSl : Expr → Bool
  | .Slice _ _ _ _ => false
  | _ => true
def notLc : Expr → Bool
  | .ListComp _ _ _ _ => false
  | .SetComp _ _ _ _ => false
  | .DictComp _ _ _ _ _ => false
  | _ => true
def notSet : Expr → Bool
  | .Set _ _ _ => false
  | _ => true
/-- what may stand ahead of a method's name -/
def atB : Expr → Bool
  | .Name _ _ => true
  | .List _ _ => true
  | .ListComp _ _ _ _ => true
  | .Subscript _ _ _ => true
  | .Call (.Name _ _) (_ :: _) _ _ => true
  | .Constant _ _ _ => true
  | .BinOp _ _ _ _ => true
  | .Call (.Attribute (.Constant _ _ _) _ _) [_] [] _ => true
  | _ => false
/-- not a tuple or list display, not a comprehension, on the right of names -/
def notPar : Expr → Bool
  | .Call (.Name _ _) _ _ _ => true
  | .Subscript _ _ _ => true
  | .Name _ _ => true
  | _ => false
def rngB : It → Bool
  | .rng1 _ => true
  | .rng2 _ _ => true
  | _ => false
def Es.len : Es → Nat
  | .nil => 0
  | .cons _ es => es.len + 1
def tgsB (c : Ctx) : List Nat → List Expr → Bool
  | [], [] => true
  | i :: is, .Name x _ :: es => lcB c i x && tgsB c is es
  | _, _ => false
def tgB (c : Ctx) : Tg → Expr → Bool
  | .name i, .Name x _ => lcB c i x
  | .tup is, .Tuple es _ _ => tgsB c is es
  | _, _ => false
def B1.nm : B1 → String
  | .len => "len" | .int => "int" | .tuple => "tuple" | .isi _ => "isinstance" | .abs => "abs" | .sum => "sum" | .min1 => "min" | .max1 => "max" | .fact => "factorial" | .str => "str" | .upper => "upper"
def B2.nm : B2 → String
  | .min => "min" | .max => "max" | .gcd => "gcd" | .comb => "comb"
def M1.nm : M1 → String
  | .index => "index" | .count => "count" | .sindex => "index" | .join => "join"
def b1N (c : Ctx) (b : B1) (x : Str) : Bool := match b with
  | .fact => bvB c x "math.factorial"
  | .upper => false
  | b => blB c x b.nm
def b2N (c : Ctx) (b : B2) (x : Str) : Bool := match b with
  | .gcd => bvB c x "math.gcd"
  | .comb => bvB c x "math.comb"
  | b => blB c x b.nm
def inCtx (c : Ctx) (s : Scope) : Ctx := { c with sc := relS s c.sc, blk := some s }
def ownP (c : Ctx) (own : List Nat) : List (Str × Nat) := own.map fun i => (c.N.getD i Str.empty, i)
def b1T (c : Ctx) (b : B1) (ts : List Expr) : Bool := match b, ts with
  | .isi t, [.Name y _] => blB c y t.name
  | .isi _, _ => false
  | _, [] => true
  | _, _ => false
def isVB (c : Ctx) (a : E) (e : Expr) : Bool := match a, e with
  | .v i, .Name y _ => nmB c i y
  | _, _ => false
mutual
def chkE (c : Ctx) : E → Expr → Bool
  | .v i, .Name x _ => nmB c i x
  | .c k, .Constant q _ _ => cstB k q
  | .c k, .Name x _ => csB c x k
  | .bin o a b, .BinOp e1 op e2 _ => decide (op = o.py) && chkE c a e1 && chkE c b e2
  | .neg a, .UnaryOp .USub e _ => chkE c a e
  | .not a, .UnaryOp .Not e _ => chkE c a e
  | .and a b, .BoolOp .And (e1 :: e2 :: es) p => chkE c a e1 && chkE c b (.BoolOp .And (e2 :: es) p)
  | .or a b, .BoolOp .Or (e1 :: e2 :: es) p => chkE c a e1 && chkE c b (.BoolOp .Or (e2 :: es) p)
  | .one a, .BoolOp _ [e] _ => chkE c a e
  | .cmp o a b, .Compare e1 [op] [e2] _ => decide (op = o.py) && chkE c a e1 && chkE c b e2 && notSet e2
  | .chain o p a b d, .Compare e1 [op, oq] [e2, e3] _ => decide (op = o.py) && decide (oq = p.py) && chkE c a e1 && chkE c b e2 && chkE c d e3 && notSet e3
  | .ife t a b, .IfExp e1 e2 e3 _ => chkE c t e1 && chkE c a e2 && chkE c b e3
  | .tup es, .Tuple ts _ _ => chkEs c es ts
  | .new n, e => chkN c n e
  | .ix a i, .Subscript e1 e2 _ => chkE c a e1 && chkE c i e2 && notSl e2
  | .ixv x i, .Subscript (.Name y _) e2 _ => nmB c x y && chkE c i e2 && notSl e2
  | .sl a lo hi, .Subscript e (.Slice l h none _) _ => chkE c a e && chkO c lo l && chkO c hi h
  | .slx a lo hi st, e => (match (generalizing := false) e with
    | .Subscript e (.Slice l h (some q) _) _ => chkE c a e && chkO c lo l && chkO c hi h && chkO c st (some q)
    | _ => false)
  | .call f es, e => (match (generalizing := false) e with
    | .Call (.Name x _) (e :: ts) kws _ => if f < 1000 then kws.isEmpty && decide (c.fns[f]? = some (x, es.len)) && gloB c x && chkEs c es (e :: ts)
      else decide (c.rfs[f - 1000]? = some (x, .kw (ts.length + 1) (kws.filterMap (·.arg)))) && gloB c x && chkK c es (e :: ts) kws
    | _ => false)
  | .b1 b a, e => (match (generalizing := false) e with
    | .Call (.Name x _) (e :: ts) [] _ => b1N c b x && chkE c a e && b1T c b ts
    | .Call (.Attribute e1 y p2) [] [] p1 => decide (b = .upper) && decide (y = Str.ofString "upper") && chkE c a e1 && (p2.endLine == p1.line) && atB e1
    | _ => false)
  | .b2 b a d, .Call (.Name x _) [e1, e2] [] _ => b2N c b x && chkE c a e1 && chkE c d e2
  | .lenv i, .Call (.Name x _) [.Name y _] [] _ => blB c x "len" && nmB c i y
  | .inv neg a i, .Compare e1 [op] [.Name y _] _ => decide (op = if neg then .NotIn else .In) && chkE c a e1 && nmB c i y
  | .m1 m a b, e => (match e with
    | .Call (.Attribute e1 y p2) [e2] [] p1 => decide (y = Str.ofString m.nm) && chkE c a e1 && chkE c b e2 && (p2.endLine == p1.line) && atB e1
    | _ => false)
  | .get i a b, e => (match e with
    | .Call (.Attribute (.Name x _) y p2) [e1, e2] [] p1 => decide (y = Str.ofString "get") && nmB c i x && chkE c a e1 && chkE c b e2 && (p2.endLine == p1.line)
    | _ => false)
  | .lset a, e => (match e with
    | .Call (.Name x _) [.Call (.Name y _) [e1] [] _] [] _ => blB c x "len" && blB c y "set" && chkE c a e1
    | _ => false)
  | .pop i, e => (match e with
    | .Call (.Attribute (.Name x _) y p2) [] [] p1 => decide (y = Str.ofString "pop") && nmB c i x && (p2.endLine == p1.line)
    | _ => false)
  | .popi i a, e => (match e with
    | .Call (.Attribute (.Name x _) y p2) [e1] [] p1 => decide (y = Str.ofString "pop") && nmB c i x && chkE c a e1 && (p2.endLine == p1.line)
    | _ => false)
  | .callr f bs es, e => (match (generalizing := false) e with
    | .Call (.Name x _) (e :: ts) [] _ => decide (1000 ≤ f) && decide (c.rfs[f - 1000]? = some (x, .refs bs)) && gloB c x && chkA c bs es (e :: ts)
    | _ => false)
  | .call0 f, e => (match e with
    | .Call (.Name x _) [] [] _ => decide (c.fns[f]? = some (x, 0)) && gloB c x
    | _ => false)
  | _, _ => false
def chkEs (c : Ctx) : Es → List Expr → Bool
  | .nil, [] => true
  | .cons a es, e :: ts => chkE c a e && chkEs c es ts
  | _, _ => false
def chkA (c : Ctx) : List Bool → Es → List Expr → Bool
  | [], .nil, [] => true
  | true :: bs, .cons a es, e :: ts => isVB c a e && chkA c bs es ts
  | false :: bs, .cons a es, e :: ts => chkE c a e && chkA c bs es ts
  | _, _, _ => false
/-- places, then keywords -/
def chkK (c : Ctx) : Es → List Expr → List Keyword → Bool
  | .nil, [], [] => true
  | .cons a es, e :: ts, kws => chkE c a e && chkK c es ts kws
  | .cons a es, [], q :: kws => (match q with
    | ⟨some _, e, _⟩ => chkE c a e && chkK c es [] kws
    | _ => false)
  | _, _, _ => false
def chkO (c : Ctx) : Eo → Option Expr → Bool
  | .none, none => true
  | .some a, some e => chkE c a e
  | _, _ => false
def chkN (c : Ctx) : Nw → Expr → Bool
  | .disp es, .List ts _ => chkEs c es ts
  | .cat a b, .BinOp e1 .Add e2 _ => chkE c a e1 && chkE c b e2
  | .rep a b, .BinOp e1 .Mult e2 _ => chkE c a e1 && chkE c b e2
  | .listof a, .Call (.Name x _) [e] [] _ => blB c x "list" && chkE c a e
  | .listv i, .Call (.Name x _) [.Name y _] [] _ => blB c x "list" && nmB c i y
  | .dnew _, .Dict [] [] _ => true
  | .lc2 own tg src tg1 src1 cs elt, e => (match e with
    | .ListComp el [⟨tge, it, [], a⟩, ⟨tge1, it1, ifs1, a1⟩] s _ => decide (a = 0) && decide (a1 = 0) && (chkI c src it && blkC c.N c.sc s (ownP c own) && tgB (inCtx c s) tg tge && tg.slots.all (own.contains ·)) && (chkI (inCtx c s) src1 it1 && notSet it1 && tgB (inCtx c s) tg1 tge1 && tg1.slots.all (own.contains ·)) && (chkEs (inCtx c s) cs ifs1 && decide (ifs1.length ≤ 1) && chkE (inCtx c s) elt el)
    | _ => false)
  | .callN f es, e => (match (generalizing := false) e with
    | .Call (.Name x _) (e :: ts) [] _ => decide (c.fns[f]? = some (x, es.len)) && gloB c x && chkEs c es (e :: ts)
    | _ => false)
  | .lrng src, e => (match e with
    | .Call (.Name x _) [e1] [] _ => blB c x "list" && rngB src && chkI c src e1
    | _ => false)
  | .sort a, .Call (.Name x _) [e] [] _ => blB c x "sorted" && chkE c a e
  | .sortk f a, .Call (.Name x _) [e] [⟨kn, .Name y _, _⟩] _ => blB c x "sorted" && decide (kn = some (Str.ofString "key")) && decide (c.fns[f]? = some (y, 1)) && gloB c y && chkE c a e
  | .sl a lo hi, .Subscript e (.Slice l h none _) _ => chkE c a e && chkO c lo l && chkO c hi h
  | .slx a lo hi st, e => (match (generalizing := false) e with
    | .Subscript e (.Slice l h (some q) _) _ => chkE c a e && chkO c lo l && chkO c hi h && chkO c st (some q)
    | _ => false)
  | .split a b, e => (match (generalizing := false) e with
    | .Call (.Attribute e1 y p2) [e2] [] p1 => decide (y = Str.ofString "split") && chkE c a e1 && chkE c b e2 && (p2.endLine == p1.line) && atB e1
    | _ => false)
  | .vals a, e => (match (generalizing := false) e with
    | .Call (.Name x _) [.Call (.Attribute e1 y p2) [] [] p1] [] _ => blB c x "list" && decide (y = Str.ofString "values") && chkE c a e1 && (p2.endLine == p1.line) && atB e1
    | _ => false)
  | .lc own tg src cs elt, .ListComp e [⟨tge, it, ifs, a⟩] s _ => decide (a = 0) && (chkI c src it && blkC c.N c.sc s (ownP c own) && tgB (inCtx c s) tg tge && tg.slots.all (own.contains ·) && chkEs (inCtx c s) cs ifs && decide (ifs.length ≤ 1) && chkE (inCtx c s) elt e)
  | _, _ => false
def chkI (c : Ctx) : It → Expr → Bool
  | .seq a, e => chkE c a e && notSet e
  | .keys a, e => chkE c a e && notSet e
  | .rng1 a, .Call (.Name x _) [e] [] _ => blB c x "range" && chkE c a e
  | .rng2 a b, .Call (.Name x _) [e1, e2] [] _ => blB c x "range" && chkE c a e1 && chkE c b e2
  | .rng3 a b d, .Call (.Name x _) [e1, e2, e3] [] _ => blB c x "range" && (chkE c a e1 && chkE c b e2 && chkE c d e3)
  | _, _ => false
end
/-- is the comprehension's value stored within its frame -/
def swB (c : Ctx) (x : Str) (p' : Pos) : Expr → Bool
  | .ListComp _ _ s q => decide (c.sc.names.lookup x = some .local) && (p'.line == q.line) && !(s.names.any fun (n, k) => n == x && (k == .local || k == .cell))
  | _ => false
mutual
def chkS (c : Ctx) : S → Stmt → Bool
  | .set i a, .Assign [.Name x _] e _ => lcB c i x && chkE c a e && notLc e
  | .setN i n, .Assign [.Name x p'] e _ => lcB c i x && chkN c n e
  | .unp is a, .Assign [.Tuple es _ _] e _ => tgsB c is es && chkE c a e && notPar e
  | .ext i a, .Expr (.Call (.Attribute (.Name x _) m p2) [e] [] p1) _ => nmB c i x && decide (m = Str.ofString "extend") && chkE c a e && (p2.endLine == p1.line)
  | .app i a, .Expr (.Call (.Attribute (.Name x _) m p2) [e] [] p1) _ => nmB c i x && decide (m = Str.ofString "append") && chkE c a e && (p2.endLine == p1.line)
  | .seti i k a, .Assign [.Subscript (.Name x _) e1 _] e _ => nmB c i x && chkE c k e1 && notSl e1 && chkE c a e && notLc e
  | .expr a, .Expr e _ => chkE c a e && notLc e
  | .ret a, .Return (some e) _ => chkE c a e
  | .ret (.c .non), .Return none _ => true
  | .ife t a b, .If e s1 s2 _ => chkE c t e && chkSs c a s1 && chkSs c b s2
  | .for tg src body, .For tge it ss [] _ => tgB c tg tge && chkI c src it && chkSs c body ss
  | .while _ t body, .While e ss [] _ => chkE c t e && chkSs c body ss
  | .brk, .Break _ => true
  | .cont, .Continue _ => true
  | .pass, .Pass _ => true
  | _, _ => false
def chkSs (c : Ctx) : Ss → List Stmt → Bool
  | .nil, [] => true
  | .cons a ss, s :: ts => chkS c a s && chkSs c ss ts
  | _, _ => false
end

/-- what a callable def with by-reference parameters is worth -/
def GoodR (P : Program) (w : World) (K : PySem.W.Frag) (mg : Str → Option Value) (base : Heap) (k : Nat) (x : Str) (bs : List Bool) (den : List D → DR) : Prop :=
  (x == ("__debug__" : Str)) = false ∧ ∃ (f : Addr) (fd : FuncData) (ps : List Str) (k' : Nat), k' ≤ k ∧ mg x = some (.ref f) ∧ FnOk P w K mg base (L2.CX P w) k' f fd ps (spR K bs den) ∧ PySem.W.keepIn K (.ref f) = true ∧ Binds K fd ps []
/-- what a callable def is worth -/
def Good (P : Program) (w : World) (K : PySem.W.Frag) (mg : Str → Option Value) (base : Heap) (k : Nat) (x : Str) (n : Nat) (den : List D → DR) : Prop :=
  (x == ("__debug__" : Str)) = false ∧ ∃ (f : Addr) (fd : FuncData) (ps : List Str) (k' : Nat), k' ≤ k ∧ mg x = some (.ref f) ∧ FnOk P w K mg base (L2.CX P w) k' f fd ps (spD K n den) ∧ PySem.W.keepIn K (.ref f) = true ∧ Binds K fd ps []
/-- what a callable def with keyword-only parameters is worth -/
def GoodK (P : Program) (w : World) (K : PySem.W.Frag) (mg : Str → Option Value) (base : Heap) (k : Nat) (x : Str) (n : Nat) (ks : List Str) (den : List D → DR) : Prop :=
  (x == ("__debug__" : Str)) = false ∧ ∃ (f : Addr) (fd : FuncData) (ps : List Str) (k' : Nat) (kwd : List (Str × Cst)) (g : List Value → List Value → List Value) (den0 : List D → DR), k' ≤ k ∧ mg x = some (.ref f) ∧ FnOk P w K mg base (L2.CX P w) k' f fd ps (spD K (n + kwd.length) den0) ∧ PySem.W.keepIn K (.ref f) = true ∧ KBn K fd ps n ks g (fun vs zs => vs ++ fillK cVk kwd ks zs) ∧ den = kwD n kwd ks den0
def GoodW (P : Program) (w : World) (K : PySem.W.Frag) (mg : Str → Option Value) (base : Heap) (k : Nat) (x : Str) (y : Way) (den : List D → DR) : Prop := match y with
  | .refs bs => GoodR P w K mg base k x bs den
  | .kw n ks => GoodK P w K mg base k x n ks den
/-- a module's name is worth a constant -/
def CsG (K : PySem.W.Frag) (mg : Str → Option Value) (q : Str × Cst) : Prop := ∃ u v, mg q.1 = some u ∧ RelV v u ∧ ∀ H, Rp K H v q.2.d
/-- a context in which checked code runs -/
structure CtxOk (c : Ctx) (Φ : Fns) (k : Nat) (X : Cx) (W : WX) : Prop where
  kd : c.sc.kind = .function
  N : X.N = c.N
  nd : X.N.Nodup
  od : ∀ x ∈ c.N, (x == ("__debug__" : Str)) = false ∧ (x == ("__classdict__" : Str)) = false
  sc : X.env.scope = c.sc
  fn : ∀ x, X.fn x = c.fnB x
  calm : X.calm = true
  room : Room (k + 2) X.A
  tk : Takes X W
  own : PassesOwn (model X.prog X.w) X.A X.env X.xe
  bl : ∀ x ∈ c.bl, X.mg x = none
  cs : ∀ q ∈ c.cs, CsG X.K X.mg q
  bv : ∀ q ∈ c.bv, X.mg q.1 = some (.builtin q.2)
  fk : ∀ f x n, c.fns[f]? = some (x, n) → Good X.prog X.w X.K X.mg X.base k x n (Φ f)
  fr : ∀ f x y, c.rfs[f]? = some (x, y) → GoodW X.prog X.w X.K X.mg X.base k x y (Φ (1000 + f))
end DL
set_option Elab.async false
set_option linter.all false
set_option maxRecDepth 100000
set_option maxHeartbeats 8000000
/-! DLi: where it checks, it runs so. -/
namespace DL
open PySem PySem.Spec PyProof.Rows L2

section
variable {c : Ctx} {Φ : Fns} {k : Nat} {X : Cx} {W : WX}
theorem CtxOk.hu (C : CtxOk c Φ k X W) : X.A.units + 65 < cLine := by
  have := C.room.un
  omega
theorem nm_ok (C : CtxOk c Φ k X W) {i : Nat} {x : Str} (h : nmB c i x = true) : X.N[i]? = some x ∧ Vis X.env.scope x ∧ (x == ("__debug__" : Str)) = false ∧ (x == ("__classdict__" : Str)) = false := by
  obtain ⟨h1, h2⟩ := Bool.and_eq_true_iff.mp h
  have e := of_decide_eq_true h1
  refine ⟨by rw [C.N]; exact e, ?_, C.od x (List.mem_of_getElem? e)⟩
  rw [C.sc]
  unfold visB at h2
  split at h2
  · exact .inl (by assumption)
  · exact .inr (.inl (by assumption))
  · exact .inr (.inr (by assumption))
  · cases h2
theorem lc_loc (C : CtxOk c Φ k X W) {i : Nat} {x : Str} (h : lcB c i x = true) : X.N[i]? = some x ∧ Loc X.env.scope x ∧ (X.fn x = true ∨ X.env.scope.names.lookup x = some .local) := by
  obtain ⟨h1, h2⟩ := Bool.and_eq_true_iff.mp h
  refine ⟨by rw [C.N]; exact of_decide_eq_true h1, ?_⟩
  rw [C.sc, C.fn]
  unfold locB at h2
  split at h2
  · exact ⟨.inl (by assumption), .inr (by assumption)⟩
  · exact ⟨.inr (by assumption), .inl h2⟩
  · cases h2
theorem glo_ok (C : CtxOk c Φ k X W) {x : Str} (h : gloB c x = true) : Gl X x := by
  show X.env.scope.names.lookup x = some .globalImplicit
  rw [C.sc]
  unfold gloB at h
  split at h
  · assumption
  · cases h
theorem bl_ok (C : CtxOk c Φ k X W) {x : Str} {n : String} (h : blB c x n = true) : x = Str.ofString n ∧ Gl X x ∧ X.mg x = none := by
  obtain ⟨h1, h3⟩ := Bool.and_eq_true_iff.mp h
  obtain ⟨h1, h2⟩ := Bool.and_eq_true_iff.mp h1
  exact ⟨of_decide_eq_true h1, glo_ok C h2, C.bl x (List.contains_iff_mem.mp h3)⟩
theorem star_of {e : Expr} (h : ∀ x p, e ≠ .Starred x p) (es : List Expr) (env : PySem.Env) : starEach (e :: es) env = (false, eval e env) :: starEach es env := by
  cases e <;> first | rfl | exact absurd rfl (h _ _)
theorem no_starN (n : Nw) (x : Expr) (p : Pos) : chkN c n (.Starred x p) = false := by cases n <;> rfl
theorem no_star {ir : E} {x : Expr} {p : Pos} : chkE c ir (.Starred x p) = false := by
  cases ir with
  | new n => exact no_starN n x p
  | _ => rfl
theorem star_chk {ir : E} {e : Expr} (h : chkE c ir e = true) (es : List Expr) (env : PySem.Env) : starEach (e :: es) env = (false, eval e env) :: starEach es env :=
  star_of (fun x p z => by subst z; rw [no_star] at h; cases h) es env
theorem star_any : ∀ {irs : Es} {es : List Expr} {pos : Pos} {env : PySem.Env}, chkEs c irs es = true → (backTo pos (starEach es env)).any (·.1) = false
  | .nil, [], _, _, _ => rfl
  | .nil, _ :: _, _, _, h => by simp [chkEs] at h
  | .cons a irs, [], _, _, h => by simp [chkEs] at h
  | .cons a irs, e :: es, pos, env, h => by
    obtain ⟨h1, h2⟩ := Bool.and_eq_true_iff.mp (show (chkE c a e && chkEs c irs es) = true by simpa [chkEs] using h)
    rw [star_chk h1]
    show ((false, eval e env) :: backTo pos (starEach es env)).any (·.1) = false
    rw [List.any_cons, star_any h2]
    rfl
theorem chkA_any : ∀ {bs : List Bool} {irs : Es} {es : List Expr} {pos : Pos} {env : PySem.Env}, chkA c bs irs es = true → (backTo pos (starEach es env)).any (·.1) = false
  | [], .nil, [], _, _, _ => rfl
  | true :: bs, .cons a irs, e :: es, pos, env, h => by
    obtain ⟨h1, h2⟩ := Bool.and_eq_true_iff.mp (show (isVB c a e && chkA c bs irs es) = true by simpa [chkA] using h)
    have hs : starEach (e :: es) env = (false, eval e env) :: starEach es env := by
      cases a with
      | v i =>
        cases e with
        | Name y p => rfl
        | _ => cases h1
      | _ => cases h1
    rw [hs]
    show ((false, eval e env) :: backTo pos (starEach es env)).any (·.1) = false
    rw [List.any_cons, chkA_any h2]
    rfl
  | false :: bs, .cons a irs, e :: es, pos, env, h => by
    obtain ⟨h1, h2⟩ := Bool.and_eq_true_iff.mp (show (chkE c a e && chkA c bs irs es) = true by simpa [chkA] using h)
    rw [star_chk h1]
    show ((false, eval e env) :: backTo pos (starEach es env)).any (·.1) = false
    rw [List.any_cons, chkA_any h2]
    rfl
  | [], .nil, _ :: _, _, _, h => by simp [chkA] at h
  | [], .cons _ _, _, _, _, h => by simp [chkA] at h
  | true :: _, .nil, _, _, _, h => by simp [chkA] at h
  | false :: _, .nil, _, _, _, h => by simp [chkA] at h
  | true :: _, .cons _ _, [], _, _, h => by simp [chkA] at h
  | false :: _, .cons _ _, [], _, _, h => by simp [chkA] at h
theorem chkA_star {bs : List Bool} {irs : Es} {e : Expr} {es : List Expr} {p : Pos} {env : PySem.Env} (h : chkA c bs irs (e :: es) = true) : starEach (e :: es) env = (false, eval e env) :: starEach es env ∧ (backTo p (starEach es env)).any (·.1) = false := by
  match bs, irs, h with
  | true :: bs, .cons a irs, h =>
    obtain ⟨h1, h2⟩ := Bool.and_eq_true_iff.mp (show (isVB c a e && chkA c bs irs es) = true by simpa [chkA] using h)
    refine ⟨?_, chkA_any h2⟩
    cases a with
    | v i =>
      cases e with
      | Name y p => rfl
      | _ => cases h1
    | _ => cases h1
  | false :: bs, .cons a irs, h =>
    obtain ⟨h1, h2⟩ := Bool.and_eq_true_iff.mp (show (chkE c a e && chkA c bs irs es) = true by simpa [chkA] using h)
    exact ⟨star_chk h1 es env, chkA_any h2⟩
  | [], .nil, h => simp [chkA] at h
  | [], .cons _ _, h => simp [chkA] at h
  | true :: _, .nil, h => simp [chkA] at h
  | false :: _, .nil, h => simp [chkA] at h
/-- the first j of them, the others -/
def Es.fst : Nat → Es → Es
  | 0, _ => .nil
  | _, .nil => .nil
  | j + 1, .cons e es => .cons e (es.fst j)
def Es.snd : Nat → Es → Es
  | 0, es => es
  | _, .nil => .nil
  | j + 1, .cons _ es => es.snd j
theorem chkK_star : ∀ {irs : Es} {es : List Expr} {kws : List Keyword} {pos : Pos} {env : PySem.Env}, chkK c irs es kws = true → (backTo pos (starEach es env)).any (·.1) = false
  | .nil, [], [], _, _, _ => rfl
  | .nil, [], _ :: _, _, _, h => by simp [chkK] at h
  | .nil, _ :: _, _, _, _, h => by simp [chkK] at h
  | .cons a irs, e :: es, kws, pos, env, h => by
    obtain ⟨h1, h2⟩ := Bool.and_eq_true_iff.mp (show (chkE c a e && chkK c irs es kws) = true by simpa [chkK] using h)
    rw [star_chk h1]
    show ((false, eval e env) :: backTo pos (starEach es env)).any (·.1) = false
    rw [List.any_cons, chkK_star h2]
    rfl
  | .cons a irs, [], [], _, _, h => by simp [chkK] at h
  | .cons a irs, [], q :: kws, _, _, h => rfl
theorem chkK_len : ∀ {irs : Es} {es : List Expr} {kws : List Keyword}, chkK c irs es kws = true → irs.len = es.length + kws.length ∧ (irs.fst es.length).len = es.length ∧ (irs.snd es.length).len = kws.length
  | .nil, [], [], _ => ⟨rfl, rfl, rfl⟩
  | .nil, [], _ :: _, h => by simp [chkK] at h
  | .nil, _ :: _, _, h => by simp [chkK] at h
  | .cons a irs, e :: es, kws, h => by
    obtain ⟨h1, h2⟩ := Bool.and_eq_true_iff.mp (show (chkE c a e && chkK c irs es kws) = true by simpa [chkK] using h)
    obtain ⟨i1, i2, i3⟩ := chkK_len h2
    refine ⟨?_, ?_, i3⟩
    · show irs.len + 1 = es.length + 1 + kws.length
      omega
    · show (irs.fst es.length).len + 1 = es.length + 1
      omega
  | .cons a irs, [], [], h => by simp [chkK] at h
  | .cons a irs, [], ⟨some y, e, q⟩ :: kws, h => by
    obtain ⟨h1, h2⟩ := Bool.and_eq_true_iff.mp (show (chkE c a e && chkK c irs [] kws) = true by simpa [chkK] using h)
    obtain ⟨i1, i2, i3⟩ := chkK_len h2
    have i1 : irs.len = 0 + kws.length := i1
    refine ⟨?_, rfl, ?_⟩
    · show irs.len + 1 = 0 + (kws.length + 1)
      omega
    · show irs.len + 1 = kws.length + 1
      omega
  | .cons a irs, [], ⟨none, e, q⟩ :: kws, h => by simp [chkK] at h
theorem chkK_kws : ∀ {irs : Es} {es : List Expr} {kws : List Keyword} {pos : Pos} {env : PySem.Env}, chkK c irs es kws = true →
    (backToKw pos (keywordEach kws env)).all (·.1.isSome) = true ∧ (backToKw pos (keywordEach kws env)).filterMap (·.1) = kws.filterMap (·.arg) ∧ (backToKw pos (keywordEach kws env)).any (·.1.isNone) = false ∧ (kws.filterMap (·.arg)).length = kws.length
  | .nil, [], [], _, _, _ => ⟨rfl, rfl, rfl, rfl⟩
  | .nil, [], _ :: _, _, _, h => by simp [chkK] at h
  | .nil, _ :: _, _, _, _, h => by simp [chkK] at h
  | .cons a irs, e :: es, kws, pos, env, h => chkK_kws (Bool.and_eq_true_iff.mp (show (chkE c a e && chkK c irs es kws) = true by simpa [chkK] using h)).2
  | .cons a irs, [], [], _, _, h => by simp [chkK] at h
  | .cons a irs, [], ⟨some y, e, q⟩ :: kws, pos, env, h => by
    obtain ⟨h1, h2⟩ := Bool.and_eq_true_iff.mp (show (chkE c a e && chkK c irs [] kws) = true by simpa [chkK] using h)
    obtain ⟨i1, i2, i3, i4⟩ := chkK_kws (pos := pos) (env := env) h2
    refine ⟨i1, ?_, i3, ?_⟩
    · show y :: (backToKw pos (keywordEach kws env)).filterMap (·.1) = y :: kws.filterMap (·.arg)
      rw [i2]
    · show (kws.filterMap (·.arg)).length + 1 = kws.length + 1
      rw [i4]
  | .cons a irs, [], ⟨none, e, q⟩ :: kws, _, _, h => by simp [chkK] at h
theorem plainIx {e : Expr} (h : notSl e = true) : PlainIx e := by
  intro o i
  cases e <;> first | rfl | cases h
theorem behind {e : Expr} {op : CmpOp} (h : notSet e = true) : behindInMarks op e = false := by
  cases e <;> first | rfl | cases h
theorem folded {e : Expr} (h : notSet e = true) {env : PySem.Env} (x : Value) : foldedSetIterable e env x = pure x := by
  cases e <;> first | rfl | cases h
theorem noswap {e : Expr} (h : notLc e = true) {t : Option Expr} {l : Nat} {env : PySem.Env} : swapsWith e t l env = pure false := by
  cases e <;> first | rfl | cases h
theorem chain_mark {e f : Expr} {op op' : CmpOp} (h : notSet f = true) : lastMarks [op, op'] [e, f] = false := by
  show behindInMarks op' f = false
  exact behind h

/-- an expression whose test is by its value -/
def plainT : Expr → Bool
  | .UnaryOp .Not _ _ => false
  | .BoolOp _ _ _ => false
  | .IfExp _ _ _ _ => false
  | .Compare _ _ _ _ => false
  | _ => true
theorem plainT_ok {e : Expr} (h : plainT e = true) {env : PySem.Env} (whole : Sem Value) : isTrue e env whole = (do let v ← whole; standAt e.pos; holding [v] (truthy v)) := by
  cases e with
  | UnaryOp op a p => cases op <;> first | rfl | cases h
  | BoolOp _ _ _ => cases h
  | IfExp _ _ _ _ => cases h
  | Compare _ _ _ _ => cases h
  | _ => rfl
/-- what is shown of an expression: as a value, as a test; of and, or: as a part of a longer one -/
structure SndE (X : Cx) (W : WX) (m : Env → R D) (e : Expr) : Prop where
  v : PE X e (rd X.K W m)
  t : PT X e (rdB X.K W m)
  w : ∀ op vs p, e = .BoolOp op vs p → PW X e (rdB X.K W m)
theorem SndE.plain {m : Env → R D} {e : Expr} (h : PE X e (rd X.K W m)) (ht : plainT e = true) : SndE X W m e :=
  ⟨h, pt_plain h (plainT_ok ht), fun op vs p z => by subst z; cases ht⟩
theorem pt_ifeD {cc a b : Expr} {pos : Pos} {mc ma mb : Env → R D} (hc : PT X cc (rdB X.K W mc)) (ha : PT X a (rdB X.K W ma)) (hb : PT X b (rdB X.K W mb)) : PT X (.IfExp cc a b pos) (rdB X.K W fun ρ => (mc ρ).bind (ifD ma mb)) := by
  refine ⟨fun pins s σ H Q I ⟨Fr, Hf, ρ, ev, g⟩ => ?_⟩
  have g : Go X.K W Fr Hf σ PB ((mc ρ).bind (ifD ma mb)).b Q := g
  have hc' : rdB X.K W mc σ H (fun d H1 => if d = true then rdB X.K W ma σ H1 Q else rdB X.K W mb σ H1 Q) := by
    refine ⟨Fr, Hf, ρ, ev, ?_⟩
    show Go X.K W Fr Hf σ PB (mc ρ).b _
    cases q : mc ρ with
    | no => rw [q] at g; exact g
    | ex x ρ => rw [q] at g; exact g
    | ok d ρ1 =>
      rw [q] at g
      cases d with
      | bl k =>
        intro b Hf' H' s' e p
        cases p
        cases k with
        | true => exact iteT ⟨Fr, Hf', ρ1, e, Go.weak g s'⟩
        | false => exact iteF ⟨Fr, Hf', ρ1, e, Go.weak g s'⟩
      | _ => exact g.elim
  refine isTrue_IfExp (thn (hc.run pins s σ H _ I hc') fun d s1 ⟨H1, I1, q1⟩ => ?_)
  cases d with
  | true => exact ha.run pins s1 σ H1 Q I1 q1
  | false => exact hb.run pins s1 σ H1 Q I1 q1
theorem and4 {a b c d : Bool} (h : (a && b && c && d) = true) : a = true ∧ b = true ∧ c = true ∧ d = true := by
  obtain ⟨h, h4⟩ := Bool.and_eq_true_iff.mp h
  obtain ⟨h, h3⟩ := Bool.and_eq_true_iff.mp h
  obtain ⟨h1, h2⟩ := Bool.and_eq_true_iff.mp h
  exact ⟨h1, h2, h3, h4⟩
theorem and3 {a b c : Bool} (h : (a && b && c) = true) : a = true ∧ b = true ∧ c = true := by
  obtain ⟨h, h3⟩ := Bool.and_eq_true_iff.mp h
  obtain ⟨h1, h2⟩ := Bool.and_eq_true_iff.mp h
  exact ⟨h1, h2, h3⟩
theorem and2 {a b : Bool} (h : (a && b) = true) : a = true ∧ b = true := Bool.and_eq_true_iff.mp h
theorem atB_ok {e : Expr} (h : atB e = true) {m : Str} {env : PySem.Env} : attributeBase e m env (eval e env) = eval e env := by
  cases e with
  | Call fe as kw p =>
    cases fe with
    | Attribute o _ _ => cases o <;> cases as <;> first | rfl | exact Bool.noConfusion (show false = true from h)
    | _ => cases as <;> first | exact Bool.noConfusion (show false = true from h) | rfl
  | _ => first | exact Bool.noConfusion (show false = true from h) | rfl
theorem bv_ok (C : CtxOk c Φ k X W) {x : Str} {n : String} (h : bvB c x n = true) : Gl X x ∧ X.mg x = some (.builtin n) ∧ (x == ("__debug__" : Str)) = false := by
  obtain ⟨h1, h2, h3⟩ := and3 (show (gloB c x && c.bv.contains (x, n) && !(x == ("__debug__" : Str))) = true from h)
  exact ⟨glo_ok C h1, C.bv _ (List.contains_iff_mem.mp h2), by simpa using h3⟩
theorem cs_ok (C : CtxOk c Φ k X W) {x : Str} {q : Cst} (h : csB c x q = true) : Gl X x ∧ CsG X.K X.mg (x, q) ∧ (x == ("__debug__" : Str)) = false ∧ x ≠ "__name__" := by
  obtain ⟨h1, h2, h3, h4⟩ := and4 (show (gloB c x && c.cs.contains (x, q) && !(x == ("__debug__" : Str)) && !(x == ("__name__" : Str))) = true from h)
  exact ⟨glo_ok C h1, C.cs _ (List.contains_iff_mem.mp h2), by simpa using h3, by simpa using h4⟩
theorem b1_snd (C : CtxOk c Φ k X W) {b : B1} {x : Str} {p pos : Pos} {e : Expr} {m : Env → R D} (hx : b1N c b x = true) (he : SndE X W m e) (hs : starEach [e] X.env = (false, eval e X.env) :: starEach [] X.env) (hb : ∀ t, b ≠ .isi t) :
    PE X (.Call (.Name x p) [e] [] pos) (rd X.K W fun ρ => (m ρ).bind fun d ρ1 => R.of (b1D b d) ρ1) := by
  have pa := pa_cons he.v pa_nil hs
  by_cases hf : b = .fact
  · subst hf
    obtain ⟨hg, hm, hd⟩ := bv_ok C (show bvB c x "math.factorial" = true from hx)
    obtain ⟨r, h1, h2⟩ := cd_fact (X := X)
    exact pd_b1 h2 (pe_callBfun h1 hg hm pa hd hs (by rfl))
  have hup : b ≠ .upper := fun e => by subst e; cases hx
  have hx : blB c x b.nm = true := by
    cases b <;> first | exact hx | exact absurd rfl hf | exact absurd rfl hup
  obtain ⟨rfl, hg, hm⟩ := bl_ok C hx
  cases b with
  | fact => exact absurd rfl hf
  | upper => exact absurd rfl hup
  | str =>
    obtain ⟨r, h1, h2⟩ := cd_str (X := X)
    exact pd_b1 h2 (pe_callTy h1 hg hm (by decide +kernel) pa (by decide) (by decide) hs (by rfl))
  | min1 =>
    obtain ⟨r, h1, h2⟩ := cd_min1 (X := X) C.calm C.hu
    exact pd_b1 h2 (pe_callB h1 hg hm boot_min pa (by decide) (by decide) hs (by rfl))
  | max1 =>
    obtain ⟨r, h1, h2⟩ := cd_max1 (X := X) C.calm C.hu
    exact pd_b1 h2 (pe_callB h1 hg hm boot_max pa (by decide) (by decide) hs (by rfl))
  | len =>
    obtain ⟨r, h1, h2⟩ := cd_len (X := X)
    exact pd_b1 h2 (pe_callB h1 hg hm boot_len pa (by decide) (by decide) hs (by rfl))
  | int =>
    obtain ⟨r, h1, h2⟩ := cd_int (X := X)
    exact pd_b1 h2 (pe_callTy h1 hg hm boot_int pa (by decide) (by decide) hs (by rfl))
  | tuple =>
    obtain ⟨r, h1, h2⟩ := cd_tuple (X := X)
    exact pd_b1 h2 (pe_callTy h1 hg hm boot_tuple pa (by decide) (by decide) hs (by rfl))
  | isi t => exact absurd rfl (hb t)
  | abs =>
    obtain ⟨r, h1, h2⟩ := cd_abs (X := X)
    exact pd_b1 h2 (pe_callB h1 hg hm (by decide +kernel) pa (by decide) (by decide) hs (by rfl))
  | sum =>
    obtain ⟨r, h1, h2⟩ := cd_sum (X := X) C.calm
    exact pd_b1 h2 (pe_callB h1 hg hm boot_sum pa (by decide) (by decide) hs (by rfl))
theorem b1T_isi {t : Ty} {ts : List Expr} (h : b1T c (.isi t) ts = true) : ∃ y p, ts = [.Name y p] ∧ blB c y t.name = true := by
  unfold b1T at h
  split at h
  · rename_i t' y p e
    cases e
    exact ⟨y, p, rfl, h⟩
  · cases h
  · cases h
  · cases h
theorem b1T_no {b : B1} {ts : List Expr} (hb : ∀ t, b ≠ .isi t) (h : b1T c b ts = true) : ts = [] := by
  cases ts with
  | nil => rfl
  | cons y ts => cases b <;> first | exact absurd rfl (hb _) | (simp [b1T] at h)
theorem ownP_snd (c : Ctx) : ∀ own : List Nat, (ownP c own).map (·.2) = own
  | [] => rfl
  | i :: own => by
    show i :: (ownP c own).map (·.2) = i :: own
    rw [ownP_snd c own]
theorem lc_shape {own : List Nat} {tg : Tg} {src : It} {cs : Es} {elt : E} {e : Expr} {gs : List Comprehension} {s : Scope} {p : Pos} (h : chkN c (.lc own tg src cs elt) (.ListComp e gs s p) = true) :
    ∃ tge it ifs, gs = [⟨tge, it, ifs, 0⟩] ∧ (chkI c src it && blkC c.N c.sc s (ownP c own) && tgB (inCtx c s) tg tge && tg.slots.all (own.contains ·) && chkEs (inCtx c s) cs ifs && decide (ifs.length ≤ 1) && chkE (inCtx c s) elt e) = true := by
  cases gs with
  | nil => exact Bool.noConfusion (show false = true from h)
  | cons g gs =>
    obtain ⟨t, i, fs, a⟩ := g
    cases gs with
    | cons _ _ => exact Bool.noConfusion (show false = true from h)
    | nil =>
      obtain ⟨h0, h⟩ := Bool.and_eq_true_iff.mp (show (decide (a = 0) && (chkI c src i && blkC c.N c.sc s (ownP c own) && tgB (inCtx c s) tg t && tg.slots.all (own.contains ·) && chkEs (inCtx c s) cs fs && decide (fs.length ≤ 1) && chkE (inCtx c s) elt e)) = true from h)
      have e0 : a = 0 := of_decide_eq_true h0
      subst e0
      exact ⟨t, i, fs, rfl, h⟩
theorem pts0 {X : Cx} {K : PySem.W.Frag} {W : WX} : PTs X [] (rdB K W fun ρ => .ok (.bl true) ρ) := ⟨fun pins s σ H Q I ⟨Fr, Hf, ρ, e, g⟩ => pts_nil.run pins s σ H Q I (g true Hf H (Same.refl _) e rfl)⟩
theorem lc2_shape {c : Ctx} {own : List Nat} {tg tg1 : Tg} {src src1 : It} {cs : Es} {elt : E} {e : Expr} (h : chkN c (.lc2 own tg src tg1 src1 cs elt) e = true) :
    ∃ el tge it tge1 it1 ifs1 s p, e = .ListComp el [⟨tge, it, [], 0⟩, ⟨tge1, it1, ifs1, 0⟩] s p ∧ chkI c src it = true ∧ blkC c.N c.sc s (ownP c own) = true ∧ tgB (inCtx c s) tg tge = true ∧ tg.slots.all (own.contains ·) = true ∧
      chkI (inCtx c s) src1 it1 = true ∧ notSet it1 = true ∧ tgB (inCtx c s) tg1 tge1 = true ∧ tg1.slots.all (own.contains ·) = true ∧ chkEs (inCtx c s) cs ifs1 = true ∧ ifs1.length ≤ 1 ∧ chkE (inCtx c s) elt el = true := by
  have h : (match (generalizing := false) e with
    | .ListComp el [⟨tge, it, [], a⟩, ⟨tge1, it1, ifs1, a1⟩] s _ => decide (a = 0) && decide (a1 = 0) && (chkI c src it && blkC c.N c.sc s (ownP c own) && tgB (inCtx c s) tg tge && tg.slots.all (own.contains ·)) && (chkI (inCtx c s) src1 it1 && notSet it1 && tgB (inCtx c s) tg1 tge1 && tg1.slots.all (own.contains ·)) && (chkEs (inCtx c s) cs ifs1 && decide (ifs1.length ≤ 1) && chkE (inCtx c s) elt el)
    | _ => false) = true := h
  split at h
  · obtain ⟨h, k3⟩ := and2 h
    obtain ⟨h, k2⟩ := and2 h
    obtain ⟨a0, a1, k1⟩ := and3 h
    have e0 := of_decide_eq_true a0
    have e1 := of_decide_eq_true a1
    subst e0 e1
    obtain ⟨x1, x2, x3, x4⟩ := and4 k1
    obtain ⟨y1, y2, y3, y4⟩ := and4 k2
    obtain ⟨z1, z2, z3⟩ := and3 k3
    exact ⟨_, _, _, _, _, _, _, _, rfl, x1, x2, x3, x4, y1, y2, y3, y4, z1, of_decide_eq_true z2, z3⟩
  · cases h
theorem tgs_ok (C : CtxOk c Φ k X W) : ∀ {is : List Nat} {es : List Expr}, tgsB c is es = true → PGs X es (gsD X.K is) ∧ (assignEach es X.env).length = is.length ∧ (assignEach es X.env).findIdx? (·.1) = none
  | [], [], _ => ⟨pgs_nilD, rfl, rfl⟩
  | [], e :: es, h => by simp [tgsB] at h
  | i :: is, [], h => by simp [tgsB] at h
  | i :: is, e :: es, h => by
    cases e with
    | Name x p =>
      obtain ⟨h1, h2⟩ := and2 (show (lcB c i x && tgsB c is es) = true by simpa [tgsB] using h)
      obtain ⟨a1, a2, a3⟩ := lc_loc C h1
      obtain ⟨b1, b2, b3⟩ := tgs_ok C h2
      refine ⟨pgs_consD C.nd a1 a2 a3 b1 rfl, congrArg (· + 1) b2, ?_⟩
      show List.findIdx? (·.1) ((false, assign (.Name x p) X.env) :: assignEach es X.env) = none
      rw [List.findIdx?_cons, b3]
      rfl
    | _ => simp [tgsB] at h
theorem tg_ok (C : CtxOk c Φ k X W) {tg : Tg} {e : Expr} (h : tgB c tg e = true) : PG X e (gD X.K tg) := by
  cases tg with
  | name i =>
    cases e with
    | Name x p =>
      obtain ⟨a1, a2, a3⟩ := lc_loc C (show lcB c i x = true from h)
      exact pg_nameD C.nd a1 a2 a3
    | _ => cases h
  | tup is =>
    cases e with
    | Tuple es k' p =>
      obtain ⟨b1, b2, b3⟩ := tgs_ok C (show tgsB c is es = true from h)
      exact pg_tupD C.calm b1 b2 b3
    | _ => cases h
/-- the context within a comprehension -/
theorem CtxOk.blk (C : CtxOk c Φ k X W) {s : Scope} {own : List (Str × Nat)} (hb : blkC c.N c.sc s own = true) (sh : Shared) (H : Hp) (Ca : Addr) (cl : List (Str × Addr)) (fp : List Addr) :
    CtxOk (inCtx c s) Φ k (X.blk sh H s (compEnvC s cl Ca X.env) fp) Wf where
  kd := by
    have := (blkOk_by hb).kind
    exact this
  N := C.N
  nd := C.nd
  od := C.od
  sc := by
    show relabel s X.env = relS s c.sc
    rw [← C.sc]
    rfl
  fn := fun x => rfl
  calm := C.calm
  room := C.room
  tk := fun _ _ x => by
    obtain ⟨_, _, _, _, _, _, _, _, _, _, _, _, _, _, _, _, z⟩ := x
    exact z
  own := PassesOwn.never
  bl := C.bl
  cs := C.cs
  bv := C.bv
  fk := C.fk
  fr := C.fr
theorem evEs_split : ∀ (j : Nat) (irs : Es) (ρ : Env), evEs Φ irs ρ = (evEs Φ (irs.fst j) ρ).bind fun xs ρ1 => (evEs Φ (irs.snd j) ρ1).bind fun zs ρ2 => .ok (xs ++ zs) ρ2
  | 0, irs, ρ => by
    show evEs Φ irs ρ = (evEs Φ irs ρ).bind fun zs ρ2 => .ok ([] ++ zs) ρ2
    cases evEs Φ irs ρ <;> rfl
  | j + 1, .nil, ρ => rfl
  | j + 1, .cons e irs, ρ => by
    show ((evE Φ e ρ).bind fun x ρ1 => (evEs Φ irs ρ1).bind fun xs ρ2 => .ok (x :: xs) ρ2) = (((evE Φ e ρ).bind fun x ρ1 => (evEs Φ (irs.fst j) ρ1).bind fun xs ρ2 => .ok (x :: xs) ρ2)).bind fun xs ρ1 => (evEs Φ (irs.snd j) ρ1).bind fun zs ρ2 => .ok (xs ++ zs) ρ2
    cases evE Φ e ρ with
    | no => rfl
    | ex y ρ1 => rfl
    | ok x ρ1 =>
      show ((evEs Φ irs ρ1).bind fun xs ρ2 => .ok (x :: xs) ρ2) = ((evEs Φ (irs.fst j) ρ1).bind fun xs ρ2 => .ok (x :: xs) ρ2).bind fun xs ρ1 => (evEs Φ (irs.snd j) ρ1).bind fun zs ρ2 => .ok (xs ++ zs) ρ2
      rw [evEs_split j irs ρ1]
      cases evEs Φ (irs.fst j) ρ1 with
      | no => rfl
      | ex y ρ2 => rfl
      | ok xs ρ2 =>
        show (((evEs Φ (irs.snd j) ρ2).bind fun zs ρ2 => .ok (xs ++ zs) ρ2)).bind (fun xs ρ2 => .ok (x :: xs) ρ2) = (evEs Φ (irs.snd j) ρ2).bind fun zs ρ2 => .ok (x :: xs ++ zs) ρ2
        cases evEs Φ (irs.snd j) ρ2 <;> rfl
theorem evEs_len : ∀ (irs : Es) (ρ : Env) (xs : List D) (ρ' : Env), evEs Φ irs ρ = .ok xs ρ' → xs.length = irs.len
  | .nil, ρ, xs, ρ', h => by
    have h : R.ok [] ρ = R.ok xs ρ' := h
    cases h
    rfl
  | .cons a irs, ρ, xs, ρ', h => by
    have h : ((evE Φ a ρ).bind fun x ρ1 => (evEs Φ irs ρ1).bind fun xs ρ2 => .ok (x :: xs) ρ2) = R.ok xs ρ' := h
    cases q : evE Φ a ρ with
    | no => rw [q] at h; cases h
    | ex y ρ1 => rw [q] at h; cases h
    | ok x ρ1 =>
      rw [q] at h
      have h : ((evEs Φ irs ρ1).bind fun xs ρ2 => .ok (x :: xs) ρ2) = R.ok xs ρ' := h
      cases q2 : evEs Φ irs ρ1 with
      | no => rw [q2] at h; cases h
      | ex y ρ2 => rw [q2] at h; cases h
      | ok ys ρ2 =>
        rw [q2] at h
        have h : R.ok (x :: ys) ρ2 = R.ok xs ρ' := h
        have ih := evEs_len irs ρ1 ys ρ2 q2
        cases h
        show ys.length + 1 = irs.len + 1
        rw [ih]
end
mutual
theorem snd_E (Φ : Fns) : ∀ (ir : E) {e : Expr} {c : Ctx} {k : Nat} {X : Cx} {W : WX}, CtxOk c Φ k X W → chkE c ir e = true → SndE X W (evE Φ ir) e
  | .v i, e, c, k, X, W, C, h => by
    cases e with
    | Name x p =>
      obtain ⟨h1, h2, h3, h4⟩ := nm_ok C (show nmB c i x = true from h)
      exact SndE.plain (pd_v h1 h2 h3 h4) rfl
    | _ => first | exact Bool.noConfusion (show false = true from h) | simp [chkE] at h
  | .c q, e, c, k, X, W, C, h => by
    cases e with
    | Constant z n p =>
      have h : cstB q z = true := h
      refine SndE.plain (pd_c (k := q) ?_) rfl
      cases q <;> cases z <;> first | rfl | (cases h; done) | (simp [cstB] at h; rw [h]; rfl)
    | Name x p =>
      obtain ⟨hg, ⟨u, v, hm, hr, hp⟩, hd, hn⟩ := cs_ok C (show csB c x q = true from h)
      exact SndE.plain (PEweak (pe_glob hg hm hr hd) fun σ H Q ⟨Fr, Hf, ρ, e, g⟩ => g _ Hf H (Same.refl _) e (hp Hf)) rfl
    | _ => first | exact Bool.noConfusion (show false = true from h) | simp [chkE] at h
  | .bin o a b, e, c, k, X, W, C, h => by
    cases e with
    | BinOp e1 op e2 p =>
      obtain ⟨h1, h2, h3⟩ := and3 (show (decide (op = o.py) && chkE c a e1 && chkE c b e2) = true from h)
      have e0 := of_decide_eq_true h1
      subst e0
      obtain ⟨r, r1, r2⟩ := bop_ok (X := X) o
      exact SndE.plain (pd_bin r1 r2 (snd_E Φ a C h2).v (snd_E Φ b C h3).v) rfl
    | _ => first | exact Bool.noConfusion (show false = true from h) | simp [chkE] at h
  | .neg a, e, c, k, X, W, C, h => by
    cases e with
    | UnaryOp op e1 p =>
      cases op with
      | USub =>
        have ha := snd_E Φ a C (show chkE c a e1 = true from h)
        refine SndE.plain (PEweak (pe_un un_neg ha.v) fun σ H Q ⟨Fr, Hf, ρ, e, g⟩ => ⟨Fr, Hf, ρ, e, (Go.bind (show Go X.K W Fr Hf σ (PV X.K) ((evE Φ a ρ).bind _) Q from g)).imp fun v H1 ⟨d1, Hf1, ρ1, s1, e1, r1, g1⟩ => ?_⟩) rfl
        cases r1 with
        | int i => exact ⟨i, rfl, g1 _ Hf1 H1 (Same.refl _) e1 (.int _)⟩
        | _ => exact g1.elim
      | _ => first | exact Bool.noConfusion (show false = true from h) | simp [chkE] at h
    | _ => first | exact Bool.noConfusion (show false = true from h) | simp [chkE] at h
  | .not a, e, c, k, X, W, C, h => by
    cases e with
    | UnaryOp op e1 p =>
      cases op with
      | Not =>
        have ha := snd_E Φ a C (show chkE c a e1 = true from h)
        exact ⟨pd_not ha.v, pd_notT ha.t, fun _ _ _ z => by cases z⟩
      | _ => first | exact Bool.noConfusion (show false = true from h) | simp [chkE] at h
    | _ => first | exact Bool.noConfusion (show false = true from h) | simp [chkE] at h
  | .and a b, e, c, k, X, W, C, h => by
    cases e with
    | BoolOp op es p =>
      cases op with
      | And =>
        cases es with
        | nil => first | exact Bool.noConfusion (show false = true from h) | simp [chkE] at h
        | cons e1 es =>
          cases es with
          | nil => first | exact Bool.noConfusion (show false = true from h) | simp [chkE] at h
          | cons e2 es =>
            obtain ⟨h1, h2⟩ := and2 (show (chkE c a e1 && chkE c b (.BoolOp .And (e2 :: es) p)) = true by simpa [chkE] using h)
            have ha := snd_E Φ a C h1
            have hb := snd_E Φ b C h2
            have w := pw_andD ha.t (hb.w _ _ _ rfl)
            exact ⟨pd_and ha.v hb.v, w.pt, fun _ _ _ _ => w⟩
      | Or => first | exact Bool.noConfusion (show false = true from h) | simp [chkE] at h
    | _ => first | exact Bool.noConfusion (show false = true from h) | simp [chkE] at h
  | .or a b, e, c, k, X, W, C, h => by
    cases e with
    | BoolOp op es p =>
      cases op with
      | Or =>
        cases es with
        | nil => first | exact Bool.noConfusion (show false = true from h) | simp [chkE] at h
        | cons e1 es =>
          cases es with
          | nil => first | exact Bool.noConfusion (show false = true from h) | simp [chkE] at h
          | cons e2 es =>
            obtain ⟨h1, h2⟩ := and2 (show (chkE c a e1 && chkE c b (.BoolOp .Or (e2 :: es) p)) = true by simpa [chkE] using h)
            have ha := snd_E Φ a C h1
            have hb := snd_E Φ b C h2
            have w := pw_orD ha.t (hb.w _ _ _ rfl)
            exact ⟨pd_or ha.v hb.v, w.pt, fun _ _ _ _ => w⟩
      | And => first | exact Bool.noConfusion (show false = true from h) | simp [chkE] at h
    | _ => first | exact Bool.noConfusion (show false = true from h) | simp [chkE] at h
  | .one a, e, c, k, X, W, C, h => by
    cases e with
    | BoolOp op es p =>
      cases es with
      | nil => first | exact Bool.noConfusion (show false = true from h) | simp [chkE] at h
      | cons e1 es =>
        cases es with
        | cons e2 es => first | exact Bool.noConfusion (show false = true from h) | simp [chkE] at h
        | nil =>
          have ha := snd_E Φ a C (show chkE c a e1 = true by simpa [chkE] using h)
          have w : PW X (.BoolOp op [e1] p) (rdB X.K W (evE Φ a)) := by
            cases op with
            | And => exact pw_and1 ha.t
            | Or => exact pw_or1 ha.t
          exact ⟨pe_one ha.v, w.pt, fun _ _ _ _ => w⟩
    | _ => first | exact Bool.noConfusion (show false = true from h) | simp [chkE] at h
  | .cmp o a b, e, c, k, X, W, C, h => by
    cases e with
    | Compare e1 ops cs p =>
      cases ops with
      | nil => first | exact Bool.noConfusion (show false = true from h) | simp [chkE] at h
      | cons op ops =>
        cases ops with
        | cons _ _ => first | exact Bool.noConfusion (show false = true from h) | simp [chkE] at h
        | nil =>
          cases cs with
          | nil => first | exact Bool.noConfusion (show false = true from h) | simp [chkE] at h
          | cons e2 cs =>
            cases cs with
            | cons _ _ => first | exact Bool.noConfusion (show false = true from h) | simp [chkE] at h
            | nil =>
              obtain ⟨h1, h2, h3, h4⟩ := and4 (show (decide (op = o.py) && chkE c a e1 && chkE c b e2 && notSet e2) = true from h)
              have e0 := of_decide_eq_true h1
              subst e0
              obtain ⟨r, r1, r2⟩ := cop_ok (X := X) C.hu o
              have ha := snd_E Φ a C h2
              have hb := snd_E Φ b C h3
              exact ⟨pd_cmp r1 r2 ha.v hb.v (behind h4), pt_cmpD r1 r2 ha.v hb.v (behind h4), fun _ _ _ z => by cases z⟩
    | _ => first | exact Bool.noConfusion (show false = true from h) | simp [chkE] at h
  | .chain o q a b d, e, c, k, X, W, C, h => by
    cases e with
    | Compare e1 ops cs p =>
      match ops, cs, h with
      | [op, oq], [e2, e3], h =>
        obtain ⟨h, h6⟩ := and2 (show (decide (op = o.py) && decide (oq = q.py) && chkE c a e1 && chkE c b e2 && chkE c d e3 && notSet e3) = true from h)
        obtain ⟨h, h5⟩ := and2 h
        obtain ⟨h1, h2, h3, h4⟩ := and4 h
        have e0 := of_decide_eq_true h1
        have e9 := of_decide_eq_true h2
        subst e0 e9
        obtain ⟨r, r1, r2⟩ := cop_ok (X := X) C.hu o
        obtain ⟨r', r3, r4⟩ := cop_ok (X := X) C.hu q
        have ha := snd_E Φ a C h3
        have hb := snd_E Φ b C h4
        have hc := snd_E Φ d C h5
        exact ⟨pd_chain r1 r3 r2 r4 ha.v hb.v hc.v C.calm (pe_chain r1 r3 ha.v hb.v hc.v (chain_mark h6)), pd_chainT r1 r3 r2 r4 ha.v hb.v hc.v (pt_chain r1 r3 ha.v hb.v hc.v (chain_mark h6)), fun _ _ _ z => by cases z⟩
      | [], _, h => first | exact Bool.noConfusion (show false = true from h) | simp [chkE] at h
      | [_], _, h => first | exact Bool.noConfusion (show false = true from h) | simp [chkE] at h
      | _ :: _ :: _ :: _, _, h => first | exact Bool.noConfusion (show false = true from h) | simp [chkE] at h
      | [_, _], [], h => first | exact Bool.noConfusion (show false = true from h) | simp [chkE] at h
      | [_, _], [_], h => first | exact Bool.noConfusion (show false = true from h) | simp [chkE] at h
      | [_, _], _ :: _ :: _ :: _, h => first | exact Bool.noConfusion (show false = true from h) | simp [chkE] at h
    | _ => first | exact Bool.noConfusion (show false = true from h) | simp [chkE] at h
  | .ife t a b, e, c, k, X, W, C, h => by
    cases e with
    | IfExp e1 e2 e3 p =>
      obtain ⟨h1, h2, h3⟩ := and3 (show (chkE c t e1 && chkE c a e2 && chkE c b e3) = true from h)
      have ht := snd_E Φ t C h1
      have ha := snd_E Φ a C h2
      have hb := snd_E Φ b C h3
      exact ⟨pd_ife ht.t ha.v hb.v, pt_ifeD ht.t ha.t hb.t, fun _ _ _ z => by cases z⟩
    | _ => first | exact Bool.noConfusion (show false = true from h) | simp [chkE] at h
  | .tup es, e, c, k, X, W, C, h => by
    cases e with
    | Tuple ts n p => exact SndE.plain (pd_tup (snd_Es Φ es C (show chkEs c es ts = true from h))) rfl
    | _ => first | exact Bool.noConfusion (show false = true from h) | simp [chkE] at h
  | .new n, e, c, k, X, W, C, h => by
    obtain ⟨h1, h2⟩ := snd_N Φ n C (show chkN c n e = true by simpa [chkE] using h)
    exact SndE.plain (pd_new h1) h2
  | .ix a i, e, c, k, X, W, C, h => by
    cases e with
    | Subscript e1 e2 p =>
      obtain ⟨h1, h2, h3⟩ := and3 (show (chkE c a e1 && chkE c i e2 && notSl e2) = true by simpa [chkE] using h)
      exact SndE.plain (pd_ix (ix_all C.hu) rIx_ok (snd_E Φ a C h1).v (snd_E Φ i C h2).v (plainIx h3)) rfl
    | _ => first | exact Bool.noConfusion (show false = true from h) | simp [chkE] at h
  | .ixv x i, e, c, k, X, W, C, h => by
    cases e with
    | Subscript e1 e2 p =>
      cases e1 with
      | Name y p' =>
        obtain ⟨h1, h2, h3⟩ := and3 (show (nmB c x y && chkE c i e2 && notSl e2) = true from h)
        obtain ⟨a1, a2, a3, a4⟩ := nm_ok C h1
        exact SndE.plain (pd_ixv C.hu (pe_var a1 a2 a3 a4) (snd_E Φ i C h2).v (plainIx h3)) rfl
      | _ => first | exact Bool.noConfusion (show false = true from h) | simp [chkE] at h
    | _ => first | exact Bool.noConfusion (show false = true from h) | simp [chkE] at h
  | .slx a lo hi st, e, c, k, X, W, C, h => by
    cases e with
    | Subscript e1 e2 p =>
      cases e2 with
      | Slice l u q p2 =>
        cases q with
        | some q =>
          obtain ⟨h1, h2, h3, h4⟩ := and4 (show (chkE c a e1 && chkO c lo l && chkO c hi u && chkO c st (some q)) = true by simpa [chkE] using h)
          exact SndE.plain (pd_slx (snd_E Φ a C h1).v (snd_O Φ lo C h2) (snd_O Φ hi C h3) (snd_O Φ st C h4)) rfl
        | none => first | exact Bool.noConfusion (show false = true from h) | simp [chkE] at h
      | _ => first | exact Bool.noConfusion (show false = true from h) | simp [chkE] at h
    | _ => first | exact Bool.noConfusion (show false = true from h) | simp [chkE] at h
  | .sl a lo hi, e, c, k, X, W, C, h => by
    cases e with
    | Subscript e1 e2 p =>
      cases e2 with
      | Slice l u st p2 =>
        cases st with
        | none =>
          obtain ⟨h1, h2, h3⟩ := and3 (show (chkE c a e1 && chkO c lo l && chkO c hi u) = true by simpa [chkE] using h)
          exact SndE.plain (pd_sl (snd_E Φ a C h1).v (snd_O Φ lo C h2) (snd_O Φ hi C h3)) rfl
        | some _ => first | exact Bool.noConfusion (show false = true from h) | simp [chkE] at h
      | _ => first | exact Bool.noConfusion (show false = true from h) | simp [chkE] at h
    | _ => first | exact Bool.noConfusion (show false = true from h) | simp [chkE] at h
  | .call f es, e, c, k, X, W, C, h => by
    have h : (match (generalizing := false) e with
      | .Call (.Name x _) (e :: ts) kws _ => if f < 1000 then kws.isEmpty && decide (c.fns[f]? = some (x, es.len)) && gloB c x && chkEs c es (e :: ts)
        else decide (c.rfs[f - 1000]? = some (x, .kw (ts.length + 1) (kws.filterMap (·.arg)))) && gloB c x && chkK c es (e :: ts) kws
      | _ => false) = true := h
    split at h
    · rename_i x _ e1 ts kws p _
      split at h
      · obtain ⟨h0, h1, h2, h3⟩ := and4 h
        have h0 := List.isEmpty_iff.mp h0
        subst h0
        obtain ⟨hdb, fa, fd, ps, k', hk, hm, F, hkp, hb⟩ := C.fk f x es.len (of_decide_eq_true h1)
        have hh : chkE c (match es with | .cons a _ => a | .nil => .c .non) e1 = true := by
          cases es with
          | nil => simp [chkEs] at h3
          | cons a es => exact (and2 (show (chkE c a e1 && chkEs c es ts) = true by simpa [chkEs] using h3)).1
        have ht : (backTo p (starEach ts X.env)).any (·.1) = false := by
          cases es with
          | nil => simp [chkEs] at h3
          | cons a es => exact star_any (and2 (show (chkE c a e1 && chkEs c es ts) = true by simpa [chkEs] using h3)).2
        exact SndE.plain (pd_call F (C.room.mono (Nat.le_trans hk (Nat.le_add_right _ 2))) (glo_ok C h2) hm hkp hb C.tk (snd_Es Φ es C h3) (evEs_len es) hdb (star_chk hh ts X.env) ht) rfl
      · rename_i hf
        obtain ⟨h1, h2, h3⟩ := and3 h
        obtain ⟨hdb, fa, fd, ps, k', kwd, g, den0, hk, hm, F, hkp, hb, hd⟩ := C.fr (f - 1000) x _ (of_decide_eq_true h1)
        rw [show 1000 + (f - 1000) = f by omega] at hd
        have hh : starEach (e1 :: ts) X.env = (false, eval e1 X.env) :: starEach ts X.env := by
          cases es with
          | nil => simp [chkK] at h3
          | cons a es => exact star_chk (and2 (show (chkE c a e1 && chkK c es ts kws) = true by simpa [chkK] using h3)).1 ts X.env
        obtain ⟨l1, l2, l3⟩ := chkK_len h3
        obtain ⟨k1, k2, k3, k4⟩ := chkK_kws (pos := p) (env := X.env) h3
        have e9 : evE Φ (.call f es) = fun ρ => (evEs Φ (es.fst (e1 :: ts).length) ρ).bind fun xs ρ1 => (evEs Φ (es.snd (e1 :: ts).length) ρ1).bind fun zs ρ2 => (kwD (ts.length + 1) kwd (kws.filterMap (·.arg)) den0 (xs ++ zs)).r ρ2 := by
          funext ρ
          rw [← hd]
          show ((evEs Φ es ρ).bind fun xs ρ1 => (Φ f xs).r ρ1) = _
          rw [evEs_split (e1 :: ts).length es ρ]
          cases evEs Φ (es.fst (e1 :: ts).length) ρ with
          | no => rfl
          | ex y ρ1 => rfl
          | ok xs ρ1 =>
            show ((evEs Φ (es.snd (e1 :: ts).length) ρ1).bind fun zs ρ2 => .ok (xs ++ zs) ρ2).bind (fun xs ρ1 => (Φ f xs).r ρ1) = (evEs Φ (es.snd (e1 :: ts).length) ρ1).bind fun zs ρ2 => (Φ f (xs ++ zs)).r ρ2
            cases evEs Φ (es.snd (e1 :: ts).length) ρ1 <;> rfl
        rw [e9]
        obtain ⟨m1, m2⟩ := snd_K Φ es C h3
        exact SndE.plain (pd_callK F (C.room.mono (Nat.le_trans hk (Nat.le_add_right _ 2))) (glo_ok C h2) hm hkp hb C.tk m1 m2 (fun ρ xs ρ' q => (evEs_len _ ρ xs ρ' q).trans l2) (fun ρ xs ρ' q => (evEs_len _ ρ xs ρ' q).trans (l3.trans k4.symm)) k1 k2 hdb hh (by rw [chkK_star h3, k3]; rfl)) rfl
    · cases h
  | .b1 b a, e, c, k, X, W, C, h => by
    have h : (match (generalizing := false) e with
      | .Call (.Name x _) (e :: ts) [] _ => b1N c b x && chkE c a e && b1T c b ts
      | .Call (.Attribute e1 y p2) [] [] p1 => decide (b = .upper) && decide (y = Str.ofString "upper") && chkE c a e1 && (p2.endLine == p1.line) && atB e1
      | _ => false) = true := h
    split at h
    · rename_i x p' e1 ts p _
      obtain ⟨h1, h2, h3⟩ := and3 h
      have ha := snd_E Φ a C h2
      by_cases hi : ∃ t, b = .isi t
      · obtain ⟨t, rfl⟩ := hi
        obtain ⟨y, p2, rfl, h3⟩ := b1T_isi h3
        obtain ⟨hx, hg, hm⟩ := bl_ok C (show blB c x (B1.isi t).nm = true from h1)
        obtain ⟨hy, hgy, hmy⟩ := bl_ok C h3
        subst hx
        exact SndE.plain (pd_isi hg hm hy hgy hmy ha.v (star_chk h2 _ _)) rfl
      · have hb : ∀ t, b ≠ .isi t := fun t z => hi ⟨t, z⟩
        obtain rfl := b1T_no hb h3
        exact SndE.plain (b1_snd C h1 ha (star_chk h2 _ _) hb) rfl
    · obtain ⟨h, h5⟩ := and2 h
      obtain ⟨h1, h2, h3, h4⟩ := and4 h
      have e0 := of_decide_eq_true h1
      have e1 := of_decide_eq_true h2
      subst e0 e1
      exact SndE.plain (pd_upper (snd_E Φ a C h3).v (atB_ok h5) h4) rfl
    · cases h
  | .b2 b a d, e, c, k, X, W, C, h => by
    cases e with
    | Call fe as kw p =>
      cases fe with
      | Name x p' =>
        match as, kw, h with
        | [e1, e2], [], h =>
          obtain ⟨h1, h2, h3⟩ := and3 (show (b2N c b x && chkE c a e1 && chkE c d e2) = true from h)
          have ha := snd_E Φ a C h2
          have hd := snd_E Φ d C h3
          have s2 := star_chk h3 [] X.env
          have s1 := star_chk h2 [e2] X.env
          have pa := pa_cons ha.v (pa_cons hd.v pa_nil s2) s1
          have hpl : (backTo p (starEach [e2] X.env)).any (·.1) = false := by rw [s2]; rfl
          cases b with
          | gcd =>
            obtain ⟨hg, hm, hdb⟩ := bv_ok C (show bvB c x "math.gcd" = true from h1)
            obtain ⟨r, q1, q2⟩ := cd_gcd (X := X)
            exact SndE.plain (pd_b2 q2 (pe_callBfun q1 hg hm pa hdb s1 hpl)) rfl
          | comb =>
            obtain ⟨hg, hm, hdb⟩ := bv_ok C (show bvB c x "math.comb" = true from h1)
            obtain ⟨r, q1, q2⟩ := cd_comb (X := X)
            exact SndE.plain (pd_b2 q2 (pe_callBfun q1 hg hm pa hdb s1 hpl)) rfl
          | min =>
            obtain ⟨hx, hg, hm⟩ := bl_ok C (show blB c x "min" = true from h1)
            subst hx
            obtain ⟨r, q1, q2⟩ := cd_min (X := X) C.calm
            exact SndE.plain (pd_b2 q2 (pe_callB q1 hg hm boot_min pa (by decide) (by decide) s1 hpl)) rfl
          | max =>
            obtain ⟨hx, hg, hm⟩ := bl_ok C (show blB c x "max" = true from h1)
            subst hx
            obtain ⟨r, q1, q2⟩ := cd_max (X := X) C.calm
            exact SndE.plain (pd_b2 q2 (pe_callB q1 hg hm boot_max pa (by decide) (by decide) s1 hpl)) rfl
        | [], _, h => first | exact Bool.noConfusion (show false = true from h) | simp [chkE] at h
        | [_], _, h => first | exact Bool.noConfusion (show false = true from h) | simp [chkE] at h
        | _ :: _ :: _ :: _, _, h => first | exact Bool.noConfusion (show false = true from h) | simp [chkE] at h
        | [_, _], _ :: _, h => first | exact Bool.noConfusion (show false = true from h) | simp [chkE] at h
      | _ => first | exact Bool.noConfusion (show false = true from h) | simp [chkE] at h
    | _ => first | exact Bool.noConfusion (show false = true from h) | simp [chkE] at h
  | .lenv i, e, c, k, X, W, C, h => by
    cases e with
    | Call fe as kw p =>
      cases fe with
      | Name x p' =>
        match as, kw, h with
        | [.Name y p2], [], h =>
          obtain ⟨h1, h2⟩ := and2 (show (blB c x "len" && nmB c i y) = true from h)
          obtain ⟨hx, hg, hm⟩ := bl_ok C h1
          subst hx
          obtain ⟨a1, a2, a3, a4⟩ := nm_ok C h2
          obtain ⟨r, q1, q2⟩ := cd_len (X := X)
          exact SndE.plain (pd_lenv (x := .Name y p2) q2 (pe_callB q1 hg hm boot_len (pa_cons (pe_var a1 a2 a3 a4) pa_nil rfl) (by decide) (by decide) rfl rfl)) rfl
        | [], _, h => first | exact Bool.noConfusion (show false = true from h) | simp [chkE] at h
        | _ :: _ :: _, _, h => first | exact Bool.noConfusion (show false = true from h) | simp [chkE] at h
        | [e1], _ :: _, h => cases e1 <;> first | exact Bool.noConfusion (show false = true from h) | simp [chkE] at h
      | _ => first | exact Bool.noConfusion (show false = true from h) | simp [chkE] at h
    | _ => first | exact Bool.noConfusion (show false = true from h) | simp [chkE] at h
  | .inv neg a i, e, c, k, X, W, C, h => by
    cases e with
    | Compare e1 ops cs p =>
      match ops, cs, h with
      | [op], [.Name y p2], h =>
        obtain ⟨h1, h2, h3⟩ := and3 (show (decide (op = if neg then .NotIn else .In) && chkE c a e1 && nmB c i y) = true from h)
        have e0 := of_decide_eq_true h1
        subst e0
        obtain ⟨a1, a2, a3, a4⟩ := nm_ok C h3
        obtain ⟨r, r1, r2⟩ := mem_ok (X := X) C.hu neg
        have ha := snd_E Φ a C h2
        exact ⟨pd_inv r1 r2 ha.v (pe_var a1 a2 a3 a4) rfl, pd_invT r1 r2 ha.v (pe_var a1 a2 a3 a4) rfl, fun _ _ _ z => by cases z⟩
      | [], _, h => first | exact Bool.noConfusion (show false = true from h) | simp [chkE] at h
      | _ :: _ :: _, _, h => first | exact Bool.noConfusion (show false = true from h) | simp [chkE] at h
      | [_], [], h => first | exact Bool.noConfusion (show false = true from h) | simp [chkE] at h
      | [_], _ :: _ :: _, h => first | exact Bool.noConfusion (show false = true from h) | simp [chkE] at h
    | _ => first | exact Bool.noConfusion (show false = true from h) | simp [chkE] at h
  | .m1 m a b, e, c, k, X, W, C, h => by
    have h : (match (generalizing := false) e with
      | .Call (.Attribute e1 y p2) [e2] [] p1 => decide (y = Str.ofString m.nm) && chkE c a e1 && chkE c b e2 && (p2.endLine == p1.line) && atB e1
      | _ => false) = true := h
    split at h
    · rename_i e1 y p2 e2 p _
      obtain ⟨h, h5⟩ := and2 h
      obtain ⟨h1, h2, h3, h4⟩ := and4 h
      have e0 := of_decide_eq_true h1
      subst e0
      have ha := (snd_E Φ a C h2).v
      have hb := (snd_E Φ b C h3).v
      have s2 := star_chk h3 [] X.env
      have hbase : attributeBase e1 (Str.ofString m.nm) X.env (eval e1 X.env) = eval e1 X.env := atB_ok h5
      cases m with
      | index => exact SndE.plain (pd_index C.hu ha hb s2 hbase h4) rfl
      | count => exact SndE.plain (pd_count ha hb s2 hbase h4) rfl
      | sindex => exact SndE.plain (pd_sindex ha hb s2 hbase h4) rfl
      | join => exact SndE.plain (pd_join ha hb s2 hbase h4) rfl
    · cases h
  | .get i a b, e, c, k, X, W, C, h => by
    have h : (match (generalizing := false) e with
      | .Call (.Attribute (.Name x _) y p2) [e1, e2] [] p1 => decide (y = Str.ofString "get") && nmB c i x && chkE c a e1 && chkE c b e2 && (p2.endLine == p1.line)
      | _ => false) = true := h
    split at h
    · rename_i x p1 y p2 e1 e2 p _
      obtain ⟨h, h5⟩ := and2 h
      obtain ⟨h1, h2, h3, h4⟩ := and4 h
      have e0 := of_decide_eq_true h1
      subst e0
      obtain ⟨a1, a2, a3, a4⟩ := nm_ok C h2
      exact SndE.plain (pd_get C.hu (pe_var a1 a2 a3 a4) (snd_E Φ a C h3).v (snd_E Φ b C h4).v (star_chk h3 _ _) (star_chk h4 _ _) h5) rfl
    · cases h
  | .lset a, e, c, k, X, W, C, h => by
    have h : (match (generalizing := false) e with
      | .Call (.Name x _) [.Call (.Name y _) [e1] [] _] [] _ => blB c x "len" && blB c y "set" && chkE c a e1
      | _ => false) = true := h
    split at h
    · obtain ⟨h1, h2, h3⟩ := and3 h
      obtain ⟨hx, hg, hm⟩ := bl_ok C h1
      obtain ⟨hy, hg2, hm2⟩ := bl_ok C h2
      subst hx hy
      exact SndE.plain (pd_lset C.calm hg hm hg2 hm2 (snd_E Φ a C h3).v (star_chk h3 _ _)) rfl
    · cases h
  | .pop i, e, c, k, X, W, C, h => by
    have h : (match (generalizing := false) e with
      | .Call (.Attribute (.Name x _) y p2) [] [] p1 => decide (y = Str.ofString "pop") && nmB c i x && (p2.endLine == p1.line)
      | _ => false) = true := h
    split at h
    · obtain ⟨h1, h2, h3⟩ := and3 h
      have e0 := of_decide_eq_true h1
      subst e0
      obtain ⟨a1, a2, a3, a4⟩ := nm_ok C h2
      exact SndE.plain (pd_pop (pe_var a1 a2 a3 a4) h3) rfl
    · cases h
  | .popi i a, e, c, k, X, W, C, h => by
    have h : (match (generalizing := false) e with
      | .Call (.Attribute (.Name x _) y p2) [e1] [] p1 => decide (y = Str.ofString "pop") && nmB c i x && chkE c a e1 && (p2.endLine == p1.line)
      | _ => false) = true := h
    split at h
    · obtain ⟨h1, h2, h3, h4⟩ := and4 h
      have e0 := of_decide_eq_true h1
      subst e0
      obtain ⟨a1, a2, a3, a4⟩ := nm_ok C h2
      exact SndE.plain (pd_popi (pe_var a1 a2 a3 a4) (snd_E Φ a C h3).v (star_chk h3 _ _) h4) rfl
    · cases h
  | .callr f bs es, e, c, k, X, W, C, h => by
    have h : (match (generalizing := false) e with
      | .Call (.Name x _) (e :: ts) [] _ => decide (1000 ≤ f) && decide (c.rfs[f - 1000]? = some (x, .refs bs)) && gloB c x && chkA c bs es (e :: ts)
      | _ => false) = true := h
    split at h
    · rename_i x _ e1 ts p _
      obtain ⟨h0, h1, h2, h3⟩ := and4 h
      have h0 := of_decide_eq_true h0
      obtain ⟨hdb, fa, fd, ps, k', hk, hm, F, hkp, hb⟩ := C.fr (f - 1000) x (.refs bs) (of_decide_eq_true h1)
      rw [show 1000 + (f - 1000) = f by omega] at F
      have e9 : evE Φ (.callr f bs es) = fun ρ => if (refX bs es).Nodup then (evA Φ bs es ρ).bind fun xs ρ1 => callR (Φ f) bs es xs ρ1 else .no := rfl
      rw [e9]
      by_cases hn : (refX bs es).Nodup
      · simp only [if_pos hn]
        obtain ⟨s1, s2⟩ := chkA_star (p := p) (env := X.env) h3
        exact SndE.plain (pd_callr F (C.room.mono (Nat.le_trans hk (Nat.le_add_right _ 2))) (glo_ok C h2) hm hkp hb C.tk (snd_A Φ bs es C h3) hn hdb s1 s2) rfl
      · simp only [if_neg hn]
        exact SndE.plain ⟨fun pins s σ H Q I ⟨_, _, _, _, g⟩ => g.elim⟩ rfl
    · cases h
  | .call0 f, e, c, k, X, W, C, h => by
    have h : (match (generalizing := false) e with
      | .Call (.Name x _) [] [] _ => decide (c.fns[f]? = some (x, 0)) && gloB c x
      | _ => false) = true := h
    split at h
    · rename_i x _ _ _
      obtain ⟨h1, h2⟩ := and2 h
      obtain ⟨hdb, fa, fd, ps, k', hk, hm, F, hkp, hb⟩ := C.fk f x 0 (of_decide_eq_true h1)
      exact SndE.plain (pd_call0 F (C.room.mono (Nat.le_trans hk (Nat.le_add_right _ 2))) (glo_ok C h2) hm hkp hb hdb) rfl
    · cases h
theorem snd_Es (Φ : Fns) : ∀ (irs : Es) {es : List Expr} {c : Ctx} {k : Nat} {X : Cx} {W : WX}, CtxOk c Φ k X W → chkEs c irs es = true → PA X es (rdA X.K W (evEs Φ irs))
  | .nil, [], c, k, X, W, C, h => pd_nil
  | .nil, _ :: _, c, k, X, W, C, h => by simp [chkEs] at h
  | .cons a irs, [], c, k, X, W, C, h => by simp [chkEs] at h
  | .cons a irs, e :: es, c, k, X, W, C, h => by
    obtain ⟨h1, h2⟩ := and2 (show (chkE c a e && chkEs c irs es) = true by simpa [chkEs] using h)
    exact pd_cons (snd_E Φ a C h1).v (snd_Es Φ irs C h2) (star_chk h1 es X.env)
theorem snd_K (Φ : Fns) : ∀ (irs : Es) {es : List Expr} {kws : List Keyword} {c : Ctx} {k : Nat} {X : Cx} {W : WX}, CtxOk c Φ k X W → chkK c irs es kws = true → PA X es (rdA X.K W (evEs Φ (irs.fst es.length))) ∧ PK X kws (rdA X.K W (evEs Φ (irs.snd es.length)))
  | .nil, [], [], c, k, X, W, C, h => ⟨pd_nil, pk_nilD⟩
  | .nil, [], _ :: _, c, k, X, W, C, h => by simp [chkK] at h
  | .nil, _ :: _, _, c, k, X, W, C, h => by simp [chkK] at h
  | .cons a irs, e :: es, kws, c, k, X, W, C, h => by
    obtain ⟨h1, h2⟩ := and2 (show (chkE c a e && chkK c irs es kws) = true by simpa [chkK] using h)
    obtain ⟨m1, m2⟩ := snd_K Φ irs C h2
    exact ⟨pd_cons (snd_E Φ a C h1).v m1 (star_chk h1 es X.env), m2⟩
  | .cons a irs, [], [], c, k, X, W, C, h => by simp [chkK] at h
  | .cons a irs, [], ⟨some y, e, q⟩ :: kws, c, k, X, W, C, h => by
    obtain ⟨h1, h2⟩ := and2 (show (chkE c a e && chkK c irs [] kws) = true by simpa [chkK] using h)
    obtain ⟨m1, m2⟩ := snd_K Φ irs C h2
    have m2 : PK X kws (rdA X.K W (evEs Φ irs)) := by
      have : irs.snd 0 = irs := by cases irs <;> rfl
      rw [← this]
      exact m2
    exact ⟨pd_nil, pk_consD (snd_E Φ a C h1).v m2⟩
  | .cons a irs, [], ⟨none, e, q⟩ :: kws, c, k, X, W, C, h => by simp [chkK] at h
theorem snd_A (Φ : Fns) : ∀ (bs : List Bool) (irs : Es) {es : List Expr} {c : Ctx} {k : Nat} {X : Cx} {W : WX}, CtxOk c Φ k X W → chkA c bs irs es = true → PA X es (rdR X.K W bs irs (evA Φ bs irs))
  | [], .nil, [], c, k, X, W, C, h => par_nil
  | true :: bs, .cons a irs, e :: es, c, k, X, W, C, h => by
    obtain ⟨h1, h2⟩ := and2 (show (isVB c a e && chkA c bs irs es) = true by simpa [chkA] using h)
    cases a with
    | v i =>
      cases e with
      | Name y p =>
        obtain ⟨a1, a2, a3, a4⟩ := nm_ok C h1
        exact par_t (pe_var a1 a2 a3 a4) (snd_A Φ bs irs C h2) rfl
      | _ => cases h1
    | _ => cases h1
  | false :: bs, .cons a irs, e :: es, c, k, X, W, C, h => by
    obtain ⟨h1, h2⟩ := and2 (show (chkE c a e && chkA c bs irs es) = true by simpa [chkA] using h)
    exact par_f (snd_E Φ a C h1).v (snd_A Φ bs irs C h2) (star_chk h1 es X.env)
  | [], .nil, _ :: _, c, k, X, W, C, h => by simp [chkA] at h
  | [], .cons _ _, _, c, k, X, W, C, h => by simp [chkA] at h
  | true :: _, .nil, _, c, k, X, W, C, h => by simp [chkA] at h
  | false :: _, .nil, _, c, k, X, W, C, h => by simp [chkA] at h
  | true :: _, .cons _ _, [], c, k, X, W, C, h => by simp [chkA] at h
  | false :: _, .cons _ _, [], c, k, X, W, C, h => by simp [chkA] at h
theorem snd_O (Φ : Fns) : ∀ (o : Eo) {e : Option Expr} {c : Ctx} {k : Nat} {X : Cx} {W : WX}, CtxOk c Φ k X W → chkO c o e = true → PO X e (rdO X.K W (evO Φ o))
  | .none, none, c, k, X, W, C, h => po_noneD
  | .none, some _, c, k, X, W, C, h => by simp [chkO] at h
  | .some a, none, c, k, X, W, C, h => by simp [chkO] at h
  | .some a, some e, c, k, X, W, C, h => po_someD (snd_E Φ a C (show chkE c a e = true by simpa [chkO] using h)).v
theorem snd_N (Φ : Fns) : ∀ (n : Nw) {e : Expr} {c : Ctx} {k : Nat} {X : Cx} {W : WX}, CtxOk c Φ k X W → chkN c n e = true → PE X e (rdN X.K W (evN Φ n)) ∧ plainT e = true
  | .disp es, e, c, k, X, W, C, h => by
    cases e with
    | List ts p => exact ⟨pn_disp (snd_Es Φ es C (show chkEs c es ts = true from h)), rfl⟩
    | _ => first | exact Bool.noConfusion (show false = true from h) | simp [chkN] at h
  | .cat a b, e, c, k, X, W, C, h => by
    cases e with
    | BinOp e1 op e2 p =>
      cases op with
      | Add =>
        obtain ⟨h1, h2⟩ := and2 (show (chkE c a e1 && chkE c b e2) = true from h)
        obtain ⟨r, r1, r2⟩ := opn_cat (X := X)
        exact ⟨pn_bin r1 r2 (snd_E Φ a C h1).v (snd_E Φ b C h2).v, rfl⟩
      | _ => first | exact Bool.noConfusion (show false = true from h) | simp [chkN] at h
    | _ => first | exact Bool.noConfusion (show false = true from h) | simp [chkN] at h
  | .rep a b, e, c, k, X, W, C, h => by
    cases e with
    | BinOp e1 op e2 p =>
      cases op with
      | Mult =>
        obtain ⟨h1, h2⟩ := and2 (show (chkE c a e1 && chkE c b e2) = true from h)
        obtain ⟨r, r1, r2⟩ := opn_rep (X := X)
        exact ⟨pn_bin r1 r2 (snd_E Φ a C h1).v (snd_E Φ b C h2).v, rfl⟩
      | _ => first | exact Bool.noConfusion (show false = true from h) | simp [chkN] at h
    | _ => first | exact Bool.noConfusion (show false = true from h) | simp [chkN] at h
  | .sort a, e, c, k, X, W, C, h => by
    cases e with
    | Call fe as kw p =>
      cases fe with
      | Name x p' =>
        match as, kw, h with
        | [e1], [], h =>
          obtain ⟨h1, h2⟩ := and2 (show (blB c x "sorted" && chkE c a e1) = true by simpa [chkN] using h)
          obtain ⟨hx, hg, hm⟩ := bl_ok C h1
          subst hx
          have s1 := star_chk h2 [] X.env
          exact ⟨pn_sort (pe_callB (call_sortD C.hu) hg hm (by decide +kernel) (pa_cons (snd_E Φ a C h2).v pa_nil s1) (by decide) (by decide) s1 (by rfl)), rfl⟩
        | [], _, h => exact Bool.noConfusion (show false = true from h)
        | _ :: _ :: _, _, h => exact Bool.noConfusion (show false = true from h)
        | [_], _ :: _, h => exact Bool.noConfusion (show false = true from h)
      | _ => exact Bool.noConfusion (show false = true from h)
    | _ => exact Bool.noConfusion (show false = true from h)
  | .sortk f a, e, c, k, X, W, C, h => by
    cases e with
    | Call fe as kw p =>
      cases fe with
      | Name x p' =>
        match as, kw, h with
        | [e1], [⟨kn, .Name y p2, p3⟩], h =>
          obtain ⟨h, h5⟩ := and2 (show (blB c x "sorted" && decide (kn = some (Str.ofString "key")) && decide (c.fns[f]? = some (y, 1)) && gloB c y && chkE c a e1) = true from h)
          obtain ⟨h1, h2, h3, h4⟩ := and4 h
          have e0 := of_decide_eq_true h2
          subst e0
          obtain ⟨hx, hg, hm⟩ := bl_ok C h1
          subst hx
          have s1 := star_chk h5 [] X.env
          obtain ⟨hdb, fa, fd, ps, k', hk, hmy, F, hkp, hb⟩ := C.fk f y 1 (of_decide_eq_true h3)
          have hy : PE X (.Name y p2) (tC (.ref fa)) := pe_glob (glo_ok C h4) hmy rfl hdb
          exact ⟨pn_sortk (pe_callBK (call_sortK F (C.room.mono (Nat.add_le_add_right hk 2)) hb) hg hm (by decide +kernel) (pa_cons (snd_E Φ a C h5).v pa_nil s1) (pk_cons hy pk_nil) (by decide) (by decide) (by rw [s1]; rfl) (by rw [s1]; rfl)), rfl⟩
        | [], _, h => exact Bool.noConfusion (show false = true from h)
        | _ :: _ :: _, _, h => exact Bool.noConfusion (show false = true from h)
        | [_], [], h => exact Bool.noConfusion (show false = true from h)
        | [_], ⟨_, y, _⟩ :: _ :: _, h => cases y <;> exact Bool.noConfusion (show false = true from h)
      | _ => exact Bool.noConfusion (show false = true from h)
    | _ => exact Bool.noConfusion (show false = true from h)
  | .dnew t, e, c, k, X, W, C, h => by
    cases e with
    | Dict ks vs p =>
      match ks, vs, h with
      | [], [], _ => exact ⟨pn_dnew, rfl⟩
      | _ :: _, _, h => exact Bool.noConfusion (show false = true from h)
      | [], _ :: _, h => exact Bool.noConfusion (show false = true from h)
    | _ => exact Bool.noConfusion (show false = true from h)
  | .listv i, e, c, k, X, W, C, h => by
    cases e with
    | Call fe as kw p =>
      cases fe with
      | Name x p' =>
        match as, kw, h with
        | [.Name y p2], [], h =>
          obtain ⟨h1, h2⟩ := and2 (show (blB c x "list" && nmB c i y) = true from h)
          obtain ⟨hx, hg, hm⟩ := bl_ok C h1
          subst hx
          obtain ⟨a1, a2, a3, a4⟩ := nm_ok C h2
          exact ⟨pn_listv (pe_callTy (call_listof C.calm) hg hm boot_list (pa_cons (pe_var a1 a2 a3 a4) pa_nil rfl) (by decide) (by decide) rfl (by rfl)), rfl⟩
        | [], _, h => exact Bool.noConfusion (show false = true from h)
        | e1 :: _ :: _, _, h => cases e1 <;> exact Bool.noConfusion (show false = true from h)
        | [e1], _ :: _, h => cases e1 <;> exact Bool.noConfusion (show false = true from h)
      | _ => exact Bool.noConfusion (show false = true from h)
    | _ => exact Bool.noConfusion (show false = true from h)
  | .split a b, e, c, k, X, W, C, h => by
    have h : (match (generalizing := false) e with
      | .Call (.Attribute e1 y p2) [e2] [] p1 => decide (y = Str.ofString "split") && chkE c a e1 && chkE c b e2 && (p2.endLine == p1.line) && atB e1
      | _ => false) = true := h
    split at h
    · obtain ⟨h, h5⟩ := and2 h
      obtain ⟨h1, h2, h3, h4⟩ := and4 h
      have e0 := of_decide_eq_true h1
      subst e0
      exact ⟨pn_split (snd_E Φ a C h2).v (snd_E Φ b C h3).v (star_chk h3 [] X.env) (atB_ok h5) h4, rfl⟩
    · cases h
  | .vals a, e, c, k, X, W, C, h => by
    have h : (match (generalizing := false) e with
      | .Call (.Name x _) [.Call (.Attribute e1 y p2) [] [] p1] [] _ => blB c x "list" && decide (y = Str.ofString "values") && chkE c a e1 && (p2.endLine == p1.line) && atB e1
      | _ => false) = true := h
    split at h
    · obtain ⟨h, h5⟩ := and2 h
      obtain ⟨h1, h2, h3, h4⟩ := and4 h
      have e0 := of_decide_eq_true h2
      subst e0
      obtain ⟨hx, hg, hm⟩ := bl_ok C h1
      subst hx
      exact ⟨pn_vals C.calm hg hm (snd_E Φ a C h3).v (atB_ok h5) h4 rfl, rfl⟩
    · cases h
  | .listof a, e, c, k, X, W, C, h => by
    cases e with
    | Call fe as kw p =>
      cases fe with
      | Name x p' =>
        match as, kw, h with
        | [e1], [], h =>
          obtain ⟨h1, h2⟩ := and2 (show (blB c x "list" && chkE c a e1) = true by simpa [chkN] using h)
          obtain ⟨hx, hg, hm⟩ := bl_ok C h1
          subst hx
          have s1 := star_chk h2 [] X.env
          exact ⟨pn_listof (pe_callTy (call_listof C.calm) hg hm boot_list (pa_cons (snd_E Φ a C h2).v pa_nil s1) (by decide) (by decide) s1 (by rfl)), rfl⟩
        | [], _, h => first | exact Bool.noConfusion (show false = true from h) | simp [chkN] at h
        | _ :: _ :: _, _, h => first | exact Bool.noConfusion (show false = true from h) | simp [chkN] at h
        | [_], _ :: _, h => first | exact Bool.noConfusion (show false = true from h) | simp [chkN] at h
      | _ => first | exact Bool.noConfusion (show false = true from h) | simp [chkN] at h
    | _ => first | exact Bool.noConfusion (show false = true from h) | simp [chkN] at h
  | .slx a lo hi st, e, c, k, X, W, C, h => by
    cases e with
    | Subscript e1 e2 p =>
      cases e2 with
      | Slice l u q p2 =>
        cases q with
        | some q =>
          obtain ⟨h1, h2, h3, h4⟩ := and4 (show (chkE c a e1 && chkO c lo l && chkO c hi u && chkO c st (some q)) = true by simpa [chkN] using h)
          exact ⟨pn_slx (snd_E Φ a C h1).v (snd_O Φ lo C h2) (snd_O Φ hi C h3) (snd_O Φ st C h4), rfl⟩
        | none => first | exact Bool.noConfusion (show false = true from h) | simp [chkN] at h
      | _ => first | exact Bool.noConfusion (show false = true from h) | simp [chkN] at h
    | _ => first | exact Bool.noConfusion (show false = true from h) | simp [chkN] at h
  | .sl a lo hi, e, c, k, X, W, C, h => by
    cases e with
    | Subscript e1 e2 p =>
      cases e2 with
      | Slice l u st p2 =>
        cases st with
        | none =>
          obtain ⟨h1, h2, h3⟩ := and3 (show (chkE c a e1 && chkO c lo l && chkO c hi u) = true by simpa [chkN] using h)
          exact ⟨pn_sl (snd_E Φ a C h1).v (snd_O Φ lo C h2) (snd_O Φ hi C h3), rfl⟩
        | some _ => first | exact Bool.noConfusion (show false = true from h) | simp [chkN] at h
      | _ => first | exact Bool.noConfusion (show false = true from h) | simp [chkN] at h
    | _ => first | exact Bool.noConfusion (show false = true from h) | simp [chkN] at h
  | .lc2 own tg src tg1 src1 cs elt, e, c, k, X, W, C, h => by
    obtain ⟨el, tge, it, tge1, it1, ifs1, s, p, rfl, h1, hb, h3, h4, h5, h6, h7, h8, h9, h10, h11⟩ := lc2_shape h
    have hi := snd_I Φ src (tg := tge) C h1
    have hl : ∀ i ∈ tg.slots, i ∈ own := fun i hi => List.contains_iff_mem.mp (List.all_eq_true.mp h4 i hi)
    have hl1 : ∀ i ∈ tg1.slots, i ∈ own := fun i hi => List.contains_iff_mem.mp (List.all_eq_true.mp h8 i hi)
    have eo : (ownP c own).map (·.2) = own := ownP_snd c own
    have bo : BlkOk X.N X.env.scope s (ownP c own) := by rw [C.N, C.sc]; exact blkOk_by hb
    have hp := pe_lc2 (pos := p) (g := gD X.K tg) (g1 := gD X.K tg1) (tt := rdB X.K Wf fun ρ => .ok (.bl true) ρ) (tt1 := rdB X.K Wf (evT Φ cs)) (ifs := []) (ifs1 := ifs1) (elt := el) (tg := tge) (tg1 := tge1) (vs1 := tg1.slots) C.calm C.nd hi.1 bo (by rw [eo]; exact hl1)
      (fun sh H Ca cl fp => tg_ok (C.blk hb sh H Ca cl fp) h3) (fun sh H Ca cl fp => pts0)
      (wi1 := rdI X.K Wf (evI Φ src1)) (fun sh H Ca cl fp => (snd_I Φ src1 (tg := tge1) (C.blk hb sh H Ca cl fp) h5).1)
      (fun sh H Ca cl fp => tg_ok (C.blk hb sh H Ca cl fp) h7) (fun sh H Ca cl fp => snd_T Φ cs (C.blk hb sh H Ca cl fp) h9 h10) (te := rd X.K Wf (evE Φ elt)) (fun sh H Ca cl fp => (snd_E Φ elt (C.blk hb sh H Ca cl fp) h11).v) hi.2 (fun env x => folded h6 x)
    rw [eo] at hp
    exact ⟨PEweak hp fun σ H Q q => lc2_ok hl hl1 q, rfl⟩
  | .callN f es, e, c, k, X, W, C, h => by
    have h : (match (generalizing := false) e with
      | .Call (.Name x _) (e1 :: ts) [] _ => decide (c.fns[f]? = some (x, es.len)) && gloB c x && chkEs c es (e1 :: ts)
      | _ => false) = true := h
    split at h
    · rename_i x p2 e1 ts p h0
      obtain ⟨h1, h2, h3⟩ := and3 h
      obtain ⟨hdb, fa, fd, ps, k', hk, hm, F, hkp, hb⟩ := C.fk f x es.len (of_decide_eq_true h1)
      have hh : chkE c (match es with | .cons a _ => a | .nil => .c .non) e1 = true := by
        cases es with
        | nil => simp [chkEs] at h3
        | cons a es => exact (and2 (show (chkE c a e1 && chkEs c es ts) = true by simpa [chkEs] using h3)).1
      have ht : (backTo p (starEach ts X.env)).any (·.1) = false := by
        cases es with
        | nil => simp [chkEs] at h3
        | cons a es => exact star_any (and2 (show (chkE c a e1 && chkEs c es ts) = true by simpa [chkEs] using h3)).2
      exact ⟨pd_callN F (C.room.mono (Nat.le_trans hk (Nat.le_add_right _ 2))) (glo_ok C h2) hm hkp hb C.tk (snd_Es Φ es C h3) (evEs_len es) hdb (star_chk hh ts X.env) ht, rfl⟩
    · cases h
  | .lrng src, e, c, k, X, W, C, h => by
    have h : (match (generalizing := false) e with
      | .Call (.Name x _) [e1] [] _ => blB c x "list" && rngB src && chkI c src e1
      | _ => false) = true := h
    split at h
    · rename_i x p e1 p2 _
      obtain ⟨h1, h2, h3⟩ := and3 h
      obtain ⟨hx, hl, ml⟩ := bl_ok C h1
      subst hx
      exact ⟨lrng_ok Φ src C h2 h3 hl ml, rfl⟩
    · cases h
  | .lc own tg src cs elt, e, c, k, X, W, C, h => by
    cases e with
    | ListComp el gs s p =>
      obtain ⟨tge, it, ifs, rfl, h⟩ := lc_shape h
      obtain ⟨h, h7⟩ := and2 h
      obtain ⟨h, h6⟩ := and2 h
      obtain ⟨h, h5⟩ := and2 h
      obtain ⟨h1, hb, h3, h4⟩ := and4 h
      have hi := snd_I Φ src (tg := tge) C h1
      have hl : ∀ i ∈ tg.slots, i ∈ own := fun i hi => List.contains_iff_mem.mp (List.all_eq_true.mp h4 i hi)
      have eo : (ownP c own).map (·.2) = own := ownP_snd c own
      have bo : BlkOk X.N X.env.scope s (ownP c own) := by rw [C.N, C.sc]; exact blkOk_by hb
      have hp := pe_lc (pos := p) (g := gD X.K tg) (tt := rdB X.K Wf (evT Φ cs)) (ifs := ifs) (elt := el) (tg := tge) C.calm C.nd hi.1 bo (fun sh H Ca cl fp => tg_ok (C.blk hb sh H Ca cl fp) h3) (fun sh H Ca cl fp => snd_T Φ cs (C.blk hb sh H Ca cl fp) h5 (of_decide_eq_true h6)) (te := rd X.K Wf (evE Φ elt)) (fun sh H Ca cl fp => (snd_E Φ elt (C.blk hb sh H Ca cl fp) h7).v) hi.2
      rw [eo] at hp
      exact ⟨PEweak hp fun σ H Q q => lc_ok hl q, rfl⟩
    | _ => first | exact Bool.noConfusion (show false = true from h) | simp [chkN] at h
theorem lrng_ok (Φ : Fns) : ∀ (src : It) {e1 : Expr} {p p2 : Pos} {c : Ctx} {k : Nat} {X : Cx} {W : WX}, CtxOk c Φ k X W → rngB src = true → chkI c src e1 = true → Gl X "list" → X.mg "list" = none → PE X (.Call (.Name "list" p) [e1] [] p2) (rdN X.K W (evN Φ (.lrng src)))
  | .seq _, _, _, _, _, _, _, _, _, h, _, _, _ => by cases h
  | .keys _, _, _, _, _, _, _, _, _, h, _, _, _ => by cases h
  | .rng1 a, e1, p, p2, c, k, X, W, C, _, h, hl, ml => by
    cases e1 with
    | Call fe as kw q =>
      cases fe with
      | Name y q2 =>
        match as, kw, h with
        | [e2], [], h =>
          obtain ⟨h1, h2⟩ := and2 (show (blB c y "range" && chkE c a e2) = true from h)
          obtain ⟨hy, hg, hm⟩ := bl_ok C h1
          subst hy
          exact pn_lrng1 C.calm hl ml hg hm (snd_E Φ a C h2).v (star_chk h2 _ _)
        | [], _, h => first | exact Bool.noConfusion (show false = true from h) | simp [chkI] at h
        | _ :: _ :: _, _, h => first | exact Bool.noConfusion (show false = true from h) | simp [chkI] at h
        | [_], _ :: _, h => first | exact Bool.noConfusion (show false = true from h) | simp [chkI] at h
      | _ => exact Bool.noConfusion (show false = true from h)
    | _ => exact Bool.noConfusion (show false = true from h)
  | .rng2 a b, e1, p, p2, c, k, X, W, C, _, h, hl, ml => by
    cases e1 with
    | Call fe as kw q =>
      cases fe with
      | Name y q2 =>
        match as, kw, h with
        | [e2, e3], [], h =>
          obtain ⟨h1, h2, h3⟩ := and3 (show (blB c y "range" && chkE c a e2 && chkE c b e3) = true from h)
          obtain ⟨hy, hg, hm⟩ := bl_ok C h1
          subst hy
          exact pn_lrng2 C.calm hl ml hg hm (snd_E Φ a C h2).v (snd_E Φ b C h3).v (star_chk h2 _ _) (star_chk h3 _ _)
        | [], _, h => first | exact Bool.noConfusion (show false = true from h) | simp [chkI] at h
        | [_], _, h => first | exact Bool.noConfusion (show false = true from h) | simp [chkI] at h
        | _ :: _ :: _ :: _, _, h => first | exact Bool.noConfusion (show false = true from h) | simp [chkI] at h
        | [_, _], _ :: _, h => first | exact Bool.noConfusion (show false = true from h) | simp [chkI] at h
      | _ => exact Bool.noConfusion (show false = true from h)
    | _ => exact Bool.noConfusion (show false = true from h)
  | .rng3 a b d, e1, p, p2, c, k, X, W, C, hr, h, hl, ml => Bool.noConfusion (show false = true from hr)
theorem snd_T (Φ : Fns) : ∀ (cs : Es) {ifs : List Expr} {c : Ctx} {k : Nat} {X : Cx} {W : WX}, CtxOk c Φ k X W → chkEs c cs ifs = true → ifs.length ≤ 1 → PTs X ifs (rdB X.K W (evT Φ cs))
  | .nil, [], c, k, X, W, C, h, _ => ⟨fun pins s σ H Q I ⟨Fr, Hf, ρ, e, g⟩ => pts_nil.run pins s σ H Q I (g true Hf H (Same.refl _) e rfl)⟩
  | .nil, _ :: _, c, k, X, W, C, h, _ => by simp [chkEs] at h
  | .cons a as, [], c, k, X, W, C, h, _ => by simp [chkEs] at h
  | .cons a as, [e1], c, k, X, W, C, h, _ => pts_one (snd_E Φ a C (and2 (show (chkE c a e1 && chkEs c as []) = true by simpa [chkEs] using h)).1).t
  | .cons a as, _ :: _ :: _, c, k, X, W, C, _, h => by simp at h
theorem snd_I (Φ : Fns) : ∀ (src : It) {it tg : Expr} {c : Ctx} {k : Nat} {X : Cx} {W : WX}, CtxOk c Φ k X W → chkI c src it = true → PI X tg it (rdI X.K W (evI Φ src)) ∧ ∀ x, foldedSetIterable it X.env x = pure x
  | .seq a, it, tg, c, k, X, W, C, h => by
    obtain ⟨h1, h2⟩ := and2 (show (chkE c a it && notSet it) = true by simpa [chkI] using h)
    exact ⟨pi_seqD (snd_E Φ a C h1).v, folded h2⟩
  | .keys a, it, tg, c, k, X, W, C, h => by
    obtain ⟨h1, h2⟩ := and2 (show (chkE c a it && notSet it) = true by simpa [chkI] using h)
    exact ⟨pi_keysD (snd_E Φ a C h1).v, folded h2⟩
  | .rng1 a, it, tg, c, k, X, W, C, h => by
    cases it with
    | Call fe as kw p =>
      cases fe with
      | Name x p' =>
        match as, kw, h with
        | [e1], [], h =>
          obtain ⟨h1, h2⟩ := and2 (show (blB c x "range" && chkE c a e1) = true by simpa [chkI] using h)
          obtain ⟨hx, hg, hm⟩ := bl_ok C h1
          subst hx
          exact ⟨pi_rng1 hg hm (snd_E Φ a C h2).v (star_chk h2 [] X.env), fun _ => rfl⟩
        | [], _, h => first | exact Bool.noConfusion (show false = true from h) | simp [chkI] at h
        | _ :: _ :: _, _, h => first | exact Bool.noConfusion (show false = true from h) | simp [chkI] at h
        | [_], _ :: _, h => first | exact Bool.noConfusion (show false = true from h) | simp [chkI] at h
      | _ => first | exact Bool.noConfusion (show false = true from h) | simp [chkI] at h
    | _ => first | exact Bool.noConfusion (show false = true from h) | simp [chkI] at h
  | .rng2 a b, it, tg, c, k, X, W, C, h => by
    cases it with
    | Call fe as kw p =>
      cases fe with
      | Name x p' =>
        match as, kw, h with
        | [e1, e2], [], h =>
          obtain ⟨h1, h2, h3⟩ := and3 (show (blB c x "range" && chkE c a e1 && chkE c b e2) = true by simpa [chkI] using h)
          obtain ⟨hx, hg, hm⟩ := bl_ok C h1
          subst hx
          have s2 := star_chk h3 [] X.env
          exact ⟨pi_rng2 hg hm (snd_E Φ a C h2).v (snd_E Φ b C h3).v (by rw [star_chk h2 [e2] X.env, s2]; rfl) s2, fun _ => rfl⟩
        | [], _, h => first | exact Bool.noConfusion (show false = true from h) | simp [chkI] at h
        | [_], _, h => first | exact Bool.noConfusion (show false = true from h) | simp [chkI] at h
        | _ :: _ :: _ :: _, _, h => first | exact Bool.noConfusion (show false = true from h) | simp [chkI] at h
        | [_, _], _ :: _, h => first | exact Bool.noConfusion (show false = true from h) | simp [chkI] at h
      | _ => first | exact Bool.noConfusion (show false = true from h) | simp [chkI] at h
    | _ => first | exact Bool.noConfusion (show false = true from h) | simp [chkI] at h
  | .rng3 a b d, it, tg, c, k, X, W, C, h => by
    cases it with
    | Call fe as kw p =>
      cases fe with
      | Name x p' =>
        match as, kw, h with
        | [e1, e2, e3], [], h =>
          obtain ⟨h1, hh⟩ := and2 (show (blB c x "range" && (chkE c a e1 && chkE c b e2 && chkE c d e3)) = true by simpa [chkI] using h)
          obtain ⟨h2, h3, h4⟩ := and3 hh
          obtain ⟨hx, hg, hm⟩ := bl_ok C h1
          subst hx
          have s3 := star_chk h4 [] X.env
          exact ⟨pi_rng3 hg hm (snd_E Φ a C h2).v (snd_E Φ b C h3).v (snd_E Φ d C h4).v (by rw [star_chk h2 [e2, e3] X.env, star_chk h3 [e3] X.env, s3]; rfl) (by rw [star_chk h3 [e3] X.env, s3]; rfl) s3, fun _ => rfl⟩
        | [], _, h => first | exact Bool.noConfusion (show false = true from h) | simp [chkI] at h
        | [_], _, h => first | exact Bool.noConfusion (show false = true from h) | simp [chkI] at h
        | [_, _], _, h => first | exact Bool.noConfusion (show false = true from h) | simp [chkI] at h
        | _ :: _ :: _ :: _ :: _, _, h => first | exact Bool.noConfusion (show false = true from h) | simp [chkI] at h
        | [_, _, _], _ :: _, h => first | exact Bool.noConfusion (show false = true from h) | simp [chkI] at h
      | _ => first | exact Bool.noConfusion (show false = true from h) | simp [chkI] at h
    | _ => first | exact Bool.noConfusion (show false = true from h) | simp [chkI] at h
end
end DL
set_option Elab.async false
set_option linter.all false
set_option maxRecDepth 100000
set_option maxHeartbeats 8000000
/-! DLj: statements, defs. -/
namespace DL
open PySem PySem.Spec PyProof.Rows L2

section
variable {c : Ctx} {Φ : Fns} {k : Nat} {X : Cx} {W : WX}
/-- name = [.. for ..] within the comprehension's frame -/
theorem swap_cases (C : CtxOk c Φ k X W) {el : Expr} {gs : List Comprehension} {s : Scope} {p p' : Pos} {x : Str} {l : Nat} :
    (swB c x p' (.ListComp el gs s p) = true ∧ swapsWith (.ListComp el gs s p) (some (.Name x p')) l X.env = pure true ∧ X.env.scope.names.lookup x = some .local) ∨ swapsWith (.ListComp el gs s p) (some (.Name x p')) l X.env = pure false := by
  have hk : X.env.scope.kind = .function := by rw [C.sc]; exact C.kd
  have hb : X.env.blockKind = .function := by unfold Env.blockKind; rw [hk]; rfl
  have e : swapsWith (.ListComp el gs s p) (some (.Name x p')) l X.env = pure (X.env.blockKind == .function && X.env.kindOf x == some .local && p'.line == p.line && !(s.names.any fun (n, k) => n == x && (k == .local || k == .cell))) := by
    unfold swapsWith
    rfl
  rw [e]
  cases q : (X.env.blockKind == .function && X.env.kindOf x == some .local && p'.line == p.line && !(s.names.any fun (n, k) => n == x && (k == .local || k == .cell))) with
  | false => exact .inr rfl
  | true =>
    refine .inl ⟨?_, rfl, ?_⟩
    · obtain ⟨q1, q2⟩ := and2 q
      obtain ⟨q1, q3⟩ := and2 q1
      obtain ⟨q1, q4⟩ := and2 q1
      show (decide (c.sc.names.lookup x = some .local) && (p'.line == p.line) && !(s.names.any fun (n, k) => n == x && (k == .local || k == .cell))) = true
      rw [q2, q3, ← C.sc, decide_eq_true (show X.env.scope.names.lookup x = some .local from eq_of_beq q4)]
      rfl
    · obtain ⟨q1, q2⟩ := and2 q
      obtain ⟨q1, q3⟩ := and2 q1
      obtain ⟨q1, q4⟩ := and2 q1
      exact eq_of_beq q4
theorem lcN_notLc {n : Nw} {e : Expr} (h : chkN c n e = true) : notLc e = true ∨ (∃ own tg src cs elt el gs s p, n = .lc own tg src cs elt ∧ e = .ListComp el gs s p) ∨ ∃ own tg src tg1 src1 cs elt el gs s p, n = .lc2 own tg src tg1 src1 cs elt ∧ e = .ListComp el gs s p := by
  cases e with
  | ListComp el gs s p =>
    cases n with
    | lc own tg src cs elt => exact .inr (.inl ⟨_, _, _, _, _, _, _, _, _, rfl, rfl⟩)
    | lc2 own tg src tg1 src1 cs elt => exact .inr (.inr ⟨_, _, _, _, _, _, _, _, _, _, _, rfl, rfl⟩)
    | _ => exact Bool.noConfusion (show false = true from h)
  | SetComp el gs s p => cases n <;> exact Bool.noConfusion (show false = true from h)
  | DictComp el v gs s p => cases n <;> exact Bool.noConfusion (show false = true from h)
  | _ => exact .inl rfl
theorem setN_snd (C : CtxOk c Φ k X W) {i : Nat} {n : Nw} {x : Str} {p' pos : Pos} {e : Expr} (hi : lcB c i x = true) (h : chkN c n e = true) : PS X (.Assign [.Name x p'] e pos) (rdS X.K W (evS Φ (.setN i n))) := by
  obtain ⟨a1, a2, a3⟩ := lc_loc C hi
  rcases lcN_notLc h with hn | ⟨own, tg, src, cs, elt, el, gs, s, p, rfl, rfl⟩ | ⟨own, tg, src, tg1, src1, cs, elt, el, gs, s, p, rfl, rfl⟩
  · exact ps_setND C.nd a1 a2 (snd_N Φ n C h).1 (noswap hn) a3
  · rcases swap_cases C (el := el) (gs := gs) (s := s) (p := p) (p' := p') (x := x) (l := pos.line) with ⟨_, hsw, hyl⟩ | hsw
    · obtain ⟨tge, it, ifs, rfl, h⟩ := lc_shape h
      obtain ⟨h, h7⟩ := and2 h
      obtain ⟨h, h6⟩ := and2 h
      obtain ⟨h, h5⟩ := and2 h
      obtain ⟨h1, hb, h3, h4⟩ := and4 h
      have hi := snd_I Φ src (tg := tge) C h1
      have hl : ∀ i ∈ tg.slots, i ∈ own := fun i hi => List.contains_iff_mem.mp (List.all_eq_true.mp h4 i hi)
      have eo : (ownP c own).map (·.2) = own := ownP_snd c own
      have bo : BlkOk X.N X.env.scope s (ownP c own) := by rw [C.N, C.sc]; exact blkOk_by hb
      have hp := ps_setLc (i := i) (y := x) (py := p') (spos := pos) (pos := p) (g := gD X.K tg) (tt := rdB X.K Wf (evT Φ cs)) (ifs := ifs) (elt := el) (tg := tge) C.calm C.nd a1 hyl hsw hi.1 bo (fun sh H Ca cl fp => tg_ok (C.blk hb sh H Ca cl fp) h3) (fun sh H Ca cl fp => snd_T Φ cs (C.blk hb sh H Ca cl fp) h5 (of_decide_eq_true h6)) (te := rd X.K Wf (evE Φ elt)) (fun sh H Ca cl fp => (snd_E Φ elt (C.blk hb sh H Ca cl fp) h7).v) hi.2
      rw [eo] at hp
      refine PSweak hp fun E σ H ⟨Fr, Hf, ρ, ev, g⟩ => ?_
      have g : GoS X.K W Fr Hf ((evN Φ (.lc own tg src cs elt) ρ).st (setNS i)) E := g
      exact lc_ok (mi := evI Φ src) hl ⟨Fr, Hf, ρ, ev, (GoS.st (σ := σ) (P := PN X.K Fr σ) g).imp fun v H1 ⟨d, Hf1, ρ1, s1, e1, r1, g1⟩ => setN_go e1 r1 g1⟩
    · exact ps_setND C.nd a1 a2 (snd_N Φ _ C h).1 hsw a3
  · rcases swap_cases C (el := el) (gs := gs) (s := s) (p := p) (p' := p') (x := x) (l := pos.line) with ⟨_, hsw, hyl⟩ | hsw
    · obtain ⟨el2, tge, it, tge1, it1, ifs1, s2, p2, e0, h1, hb, h3, h4, h5, h6, h7, h8, h9, h10, h11⟩ := lc2_shape h
      cases e0
      have hi := snd_I Φ src (tg := tge) C h1
      have hl : ∀ i ∈ tg.slots, i ∈ own := fun i hi => List.contains_iff_mem.mp (List.all_eq_true.mp h4 i hi)
      have hl1 : ∀ i ∈ tg1.slots, i ∈ own := fun i hi => List.contains_iff_mem.mp (List.all_eq_true.mp h8 i hi)
      have eo : (ownP c own).map (·.2) = own := ownP_snd c own
      have bo : BlkOk X.N X.env.scope s (ownP c own) := by rw [C.N, C.sc]; exact blkOk_by hb
      have hp := ps_setLc2 (i := i) (y := x) (py := p') (spos := pos) (pos := p) (g := gD X.K tg) (g1 := gD X.K tg1) (tt := rdB X.K Wf fun ρ => .ok (.bl true) ρ) (tt1 := rdB X.K Wf (evT Φ cs)) (ifs := []) (ifs1 := ifs1) (elt := el) (tg := tge) (tg1 := tge1) (vs1 := tg1.slots) C.calm C.nd a1 hyl hsw hi.1 bo (by rw [eo]; exact hl1)
        (fun sh H Ca cl fp => tg_ok (C.blk hb sh H Ca cl fp) h3) (fun sh H Ca cl fp => pts0)
        (wi1 := rdI X.K Wf (evI Φ src1)) (fun sh H Ca cl fp => (snd_I Φ src1 (tg := tge1) (C.blk hb sh H Ca cl fp) h5).1)
        (fun sh H Ca cl fp => tg_ok (C.blk hb sh H Ca cl fp) h7) (fun sh H Ca cl fp => snd_T Φ cs (C.blk hb sh H Ca cl fp) h9 h10) (te := rd X.K Wf (evE Φ elt)) (fun sh H Ca cl fp => (snd_E Φ elt (C.blk hb sh H Ca cl fp) h11).v) hi.2 (fun env x => folded h6 x)
      rw [eo] at hp
      refine PSweak hp fun E σ H ⟨Fr, Hf, ρ, ev, g⟩ => ?_
      have g : GoS X.K W Fr Hf ((evN Φ (.lc2 own tg src tg1 src1 cs elt) ρ).st (setNS i)) E := g
      exact lc2_ok (mi := evI Φ src) (mi1 := evI Φ src1) hl hl1 ⟨Fr, Hf, ρ, ev, (GoS.st (σ := σ) (P := PN X.K Fr σ) g).imp fun v H1 ⟨d, Hf1, ρ1, s1, e1, r1, g1⟩ => setN_go e1 r1 g1⟩
    · exact ps_setND C.nd a1 a2 (snd_N Φ _ C h).1 hsw a3
theorem asg_one {ir : S} {ts : List Expr} {e : Expr} {p : Pos} (h : chkS c ir (.Assign ts e p) = true) : ∃ t, ts = [t] := by
  match ts, h with
  | [t], _ => exact ⟨t, rfl⟩
  | [], h => cases ir <;> exact Bool.noConfusion (show false = true from h)
  | t1 :: t2 :: ts, h =>
    exfalso
    cases ir <;> cases t1 <;> first
      | exact Bool.noConfusion (show false = true from h)
      | (rename_i o _ _; cases o <;> exact Bool.noConfusion (show false = true from h))
end
mutual
theorem snd_S (Φ : Fns) : ∀ (ir : S) {s : Stmt} {c : Ctx} {k : Nat} {X : Cx} {W : WX}, CtxOk c Φ k X W → chkS c ir s = true → PS X s (rdS X.K W (evS Φ ir))
  | .set i a, s, c, k, X, W, C, h => by
    cases s with
    | Assign ts e p =>
      obtain ⟨t, rfl⟩ := asg_one h
      cases t with
      | Name x p' =>
        obtain ⟨h1, h2, h3⟩ := and3 (show (lcB c i x && chkE c a e && notLc e) = true from h)
        obtain ⟨a1, a2, a3⟩ := lc_loc C h1
        exact ps_setD C.nd a1 a2 (snd_E Φ a C h2).v (noswap h3) a3
      | _ => exact Bool.noConfusion (show false = true from h)
    | _ => exact Bool.noConfusion (show false = true from h)
  | .setN i n, s, c, k, X, W, C, h => by
    cases s with
    | Assign ts e p =>
      obtain ⟨t, rfl⟩ := asg_one h
      cases t with
      | Name x p' =>
        obtain ⟨h1, h2⟩ := and2 (show (lcB c i x && chkN c n e) = true from h)
        exact setN_snd C h1 h2
      | _ => exact Bool.noConfusion (show false = true from h)
    | _ => exact Bool.noConfusion (show false = true from h)
  | .unp is a, s, c, k, X, W, C, h => by
    cases s with
    | Assign ts e p =>
      obtain ⟨t, rfl⟩ := asg_one h
      cases t with
      | Tuple es kk p1 =>
        obtain ⟨h1, h2, h3⟩ := and3 (show (tgsB c is es && chkE c a e && notPar e) = true from h)
        refine ps_unpD (snd_E Φ a C h2).v (tg_ok C (show tgB c (.tup is) (.Tuple es kk p1) = true from h1)) ?_ ?_
        · cases e <;> first | exact Bool.noConfusion (show false = true from h3) | rfl
        · cases e <;> first | exact Bool.noConfusion (show false = true from h3) | rfl
      | _ => exact Bool.noConfusion (show false = true from h)
    | _ => exact Bool.noConfusion (show false = true from h)
  | .ext i a, s, c, k, X, W, C, h => by
    cases s with
    | Expr e p =>
      cases e with
      | Call fe as kw p1 =>
        cases fe with
        | Attribute o m p2 =>
          cases o with
          | Name x p3 =>
            match as, kw, h with
            | [e1], [], h =>
              obtain ⟨h1, h2, h3, h4⟩ := and4 (show (nmB c i x && decide (m = Str.ofString "extend") && chkE c a e1 && (p2.endLine == p1.line)) = true from h)
              obtain ⟨a1, a2, a3, a4⟩ := nm_ok C h1
              have em := of_decide_eq_true h2
              subst em
              exact ps_extD (pe_var a1 a2 a3 a4) (snd_E Φ a C h3).v (star_chk h3 [] X.env) h4 rfl
            | [], _, h => exact Bool.noConfusion (show false = true from h)
            | _ :: _ :: _, _, h => exact Bool.noConfusion (show false = true from h)
            | [_], _ :: _, h => exact Bool.noConfusion (show false = true from h)
          | _ => exact Bool.noConfusion (show false = true from h)
        | _ => exact Bool.noConfusion (show false = true from h)
      | _ => exact Bool.noConfusion (show false = true from h)
    | _ => exact Bool.noConfusion (show false = true from h)
  | .app i a, s, c, k, X, W, C, h => by
    cases s with
    | Expr e p =>
      cases e with
      | Call fe as kw p1 =>
        cases fe with
        | Attribute o m p2 =>
          cases o with
          | Name x p3 =>
            match as, kw, h with
            | [e1], [], h =>
              obtain ⟨h1, h2, h3, h4⟩ := and4 (show (nmB c i x && decide (m = Str.ofString "append") && chkE c a e1 && (p2.endLine == p1.line)) = true from h)
              obtain ⟨a1, a2, a3, a4⟩ := nm_ok C h1
              have em := of_decide_eq_true h2
              subst em
              have he := (snd_E Φ a C h3).v
              have hv : PE X (.Name x p3) (tVar i) := pe_var a1 a2 a3 a4
              have s1 := star_chk h3 [] X.env
              refine ps_appD hv he s1 ?_ rfl
              exact pe_bm PySem.F.plainAttrs_list PySem.F.slot_list_append PySem.F.type_list_append mt_append hv (pa_cons he pa_nil s1) (hfew := by rw [s1]; rfl) (hline := h4) (hs := s1) (hplain := by rfl)
            | [], _, h => first | exact Bool.noConfusion (show false = true from h) | simp [chkS] at h
            | _ :: _ :: _, _, h => first | exact Bool.noConfusion (show false = true from h) | simp [chkS] at h
            | [_], _ :: _, h => first | exact Bool.noConfusion (show false = true from h) | simp [chkS] at h
          | _ => first | exact Bool.noConfusion (show false = true from h) | simp [chkS] at h
        | _ => first | exact Bool.noConfusion (show false = true from h) | simp [chkS] at h
      | _ => first | exact Bool.noConfusion (show false = true from h) | simp [chkS] at h
    | _ => first | exact Bool.noConfusion (show false = true from h) | simp [chkS] at h
  | .seti i q a, s, c, k, X, W, C, h => by
    cases s with
    | Assign ts e p =>
      obtain ⟨t, rfl⟩ := asg_one h
      cases t with
      | Subscript o e1 p2 =>
        cases o with
        | Name x p3 =>
          obtain ⟨h, h5⟩ := and2 (show (nmB c i x && chkE c q e1 && notSl e1 && chkE c a e && notLc e) = true from h)
          obtain ⟨h1, h2, h3, h4⟩ := and4 h
          obtain ⟨a1, a2, a3, a4⟩ := nm_ok C h1
          have hv : PE X (.Name x p3) (tVar i) := pe_var a1 a2 a3 a4
          have he := (snd_E Φ a C h4).v
          have hk := (snd_E Φ q C h2).v
          refine ps_setiD hv he hk (ps_asg he (pg_sub hv hk (set_all C.hu) ?_) ?_ ?_ rfl)
          · intro v
            cases e1 <;> first | rfl | cases h3
          · exact noswap (t := some (.Subscript (.Name x p3) e1 p2)) (l := p.line) (env := X.env) h5
          · cases e <;> first | rfl | cases h5
        | _ => exact Bool.noConfusion (show false = true from h)
      | _ => exact Bool.noConfusion (show false = true from h)
    | _ => exact Bool.noConfusion (show false = true from h)
  | .expr a, s, c, k, X, W, C, h => by
    cases s with
    | Expr e p =>
      obtain ⟨h1, h2⟩ := and2 (show (chkE c a e && notLc e) = true by simpa [chkS] using h)
      exact ps_exprD (snd_E Φ a C h1).v (noswap h2)
    | _ => first | exact Bool.noConfusion (show false = true from h) | simp [chkS] at h
  | .ret a, s, c, k, X, W, C, h => by
    cases s with
    | Return e p =>
      cases e with
      | none =>
        cases a with
        | c q =>
          cases q with
          | non => exact PSweak ps_retN fun E σ H ⟨Fr, Hf, ρ, e, g⟩ => g .non σ Hf H (Same.refl _) e .non
          | _ => exact Bool.noConfusion (show false = true from h)
        | _ => exact Bool.noConfusion (show false = true from h)
      | some e => exact ps_retD (snd_E Φ a C (show chkE c a e = true from h)).v
    | _ => first | exact Bool.noConfusion (show false = true from h) | simp [chkS] at h
  | .ife t a b, s, c, k, X, W, C, h => by
    cases s with
    | If e s1 s2 p =>
      obtain ⟨h1, h2, h3⟩ := and3 (show (chkE c t e && chkSs c a s1 && chkSs c b s2) = true from h)
      exact ps_ifD (snd_E Φ t C h1).t (snd_Ss Φ a C h2) (snd_Ss Φ b C h3)
    | _ => first | exact Bool.noConfusion (show false = true from h) | simp [chkS] at h
  | .for tg src body, s, c, k, X, W, C, h => by
    cases s with
    | For tge it ss os p =>
      cases os with
      | cons _ _ => first | exact Bool.noConfusion (show false = true from h) | simp [chkS] at h
      | nil =>
        obtain ⟨h1, h2, h3⟩ := and3 (show (tgB c tg tge && chkI c src it && chkSs c body ss) = true from h)
        have hi := snd_I Φ src (tg := tge) C h2
        exact ps_forD C.own C.calm hi.1 (tg_ok C h1) (snd_Ss Φ body C h3) hi.2
    | _ => first | exact Bool.noConfusion (show false = true from h) | simp [chkS] at h
  | .while fuel t body, s, c, k, X, W, C, h => by
    cases s with
    | While e ss os p =>
      cases os with
      | cons _ _ => first | exact Bool.noConfusion (show false = true from h) | simp [chkS] at h
      | nil =>
        obtain ⟨h1, h2⟩ := and2 (show (chkE c t e && chkSs c body ss) = true from h)
        exact ps_whileD C.own (snd_E Φ t C h1).t (snd_Ss Φ body C h2)
    | _ => first | exact Bool.noConfusion (show false = true from h) | simp [chkS] at h
  | .brk, s, c, k, X, W, C, h => by
    cases s with
    | Break p => exact ps_breakD
    | _ => first | exact Bool.noConfusion (show false = true from h) | simp [chkS] at h
  | .cont, s, c, k, X, W, C, h => by
    cases s with
    | Continue p => exact ps_contD
    | _ => first | exact Bool.noConfusion (show false = true from h) | simp [chkS] at h
  | .pass, s, c, k, X, W, C, h => by
    cases s with
    | Pass p => exact ps_passD
    | _ => first | exact Bool.noConfusion (show false = true from h) | simp [chkS] at h
theorem snd_Ss (Φ : Fns) : ∀ (irs : Ss) {ss : List Stmt} {c : Ctx} {k : Nat} {X : Cx} {W : WX}, CtxOk c Φ k X W → chkSs c irs ss = true → PSs X ss (rdS X.K W (evSs Φ irs))
  | .nil, [], c, k, X, W, C, h => ss_nil
  | .nil, _ :: _, c, k, X, W, C, h => by simp [chkSs] at h
  | .cons a irs, [], c, k, X, W, C, h => by simp [chkSs] at h
  | .cons a irs, s :: ss, c, k, X, W, C, h => by
    obtain ⟨h1, h2⟩ := and2 (show (chkS c a s && chkSs c irs ss) = true by simpa [chkSs] using h)
    exact PSsweak (ss_cons (snd_S Φ a C h1) (snd_Ss Φ irs C h2)) fun E σ H ⟨Fr, Hf, ρ, e, g⟩ => ⟨Fr, Hf, ρ, e, by
      have g : GoS X.K W Fr Hf (match evS Φ a ρ with
        | .nx ρ1 => evSs Φ irs ρ1
        | r => r) E := g
      show GoS X.K W Fr Hf (seqS (evSs Φ irs) (evS Φ a ρ)) E
      unfold seqS
      exact g⟩
end
/-! ### a def -/
/-- the callable defs' denotations -/
def tbl (l : List (List D → DR)) : Fns := fun f ds => match l[f]? with
  | some d => d ds
  | none => .no
theorem Good.mono {P : Program} {w : World} {K : PySem.W.Frag} {mg : Str → Option Value} {base : Heap} {j k : Nat} {x : Str} {n : Nat} {den : List D → DR} (g : Good P w K mg base j x n den) (h : j ≤ k) : Good P w K mg base k x n den := by
  obtain ⟨h1, f, fd, ps, k', hk, r⟩ := g
  exact ⟨h1, f, fd, ps, k', Nat.le_trans hk h, r⟩
/-- the callees, by name, arity, denotation -/
abbrev Fl := List (Str × Nat × (List D → DR))
def GoodL (P : Program) (w : World) (K : PySem.W.Frag) (mg : Str → Option Value) (base : Heap) (k : Nat) : Fl → Prop
  | [] => True
  | q :: l => Good P w K mg base k q.1 q.2.1 q.2.2 ∧ GoodL P w K mg base k l
theorem GoodL.at {P : Program} {w : World} {K : PySem.W.Frag} {mg : Str → Option Value} {base : Heap} {k : Nat} : ∀ {l : Fl}, GoodL P w K mg base k l → ∀ (f : Nat) (x : Str) (n : Nat), (l.map fun q => (q.1, q.2.1))[f]? = some (x, n) → Good P w K mg base k x n (tbl (l.map (·.2.2)) f)
  | [], _, f, x, n, h => by simp at h
  | q :: l, g, 0, x, n, h => by
    have e : (q.1, q.2.1) = (x, n) := Option.some.inj h
    cases e
    exact g.1
  | q :: l, g, f + 1, x, n, h => GoodL.at g.2 f x n (by simpa using h)
/-- the callees with by-reference parameters -/
abbrev Flr := List (Str × Way × (List D → DR))
def GoodLR (P : Program) (w : World) (K : PySem.W.Frag) (mg : Str → Option Value) (base : Heap) (k : Nat) : Flr → Prop
  | [] => True
  | q :: l => GoodW P w K mg base k q.1 q.2.1 q.2.2 ∧ GoodLR P w K mg base k l
theorem GoodLR.at {P : Program} {w : World} {K : PySem.W.Frag} {mg : Str → Option Value} {base : Heap} {k : Nat} : ∀ {l : Flr}, GoodLR P w K mg base k l → ∀ (f : Nat) (x : Str) (bs : Way), (l.map fun q => (q.1, q.2.1))[f]? = some (x, bs) → ∃ den, (l.map (·.2.2))[f]? = some den ∧ GoodW P w K mg base k x bs den
  | [], _, f, x, n, h => by simp at h
  | q :: l, g, 0, x, n, h => by
    have e : (q.1, q.2.1) = (x, n) := Option.some.inj h
    cases e
    exact ⟨_, rfl, g.1⟩
  | q :: l, g, f + 1, x, n, h => by
    obtain ⟨den, h1, h2⟩ := GoodLR.at g.2 f x n (by simpa using h)
    exact ⟨den, by simpa using h1, h2⟩
/-- all callees' denotations: by-reference ones from 1000 on -/
def tbl2 (l lr : List (List D → DR)) : Fns := fun f ds => match l[f]? with
  | some d => d ds
  | none => tbl lr (f - 1000) ds
def tblOf (l lr : List (List D → DR)) : Fns := match lr with
  | [] => tbl l
  | _ => tbl2 l lr
theorem tblOf_at {l lr : List (List D → DR)} {f : Nat} (h : f < l.length) : tblOf l lr f = tbl l f := by
  cases lr with
  | nil => rfl
  | cons q lr =>
    funext ds
    show (match l[f]? with
      | some d => d ds
      | none => tbl (q :: lr) (f - 1000) ds) = match l[f]? with
      | some d => d ds
      | none => .no
    rw [List.getElem?_eq_getElem h]
theorem tblOf_r {l lr : List (List D → DR)} {f : Nat} {d : List D → DR} (h : l.length ≤ 1000) (hd : lr[f]? = some d) : tblOf l lr (1000 + f) = d := by
  cases lr with
  | nil => simp at hd
  | cons q lr =>
    funext ds
    show (match l[1000 + f]? with
      | some d => d ds
      | none => tbl (q :: lr) (1000 + f - 1000) ds) = d ds
    rw [List.getElem?_eq_none (by omega), Nat.add_sub_cancel_left]
    show (match (q :: lr)[f]? with
      | some d => d ds
      | none => .no) = d ds
    rw [hd]
/-- a def of the text, as it is checked -/
structure DefT where
  st : Stmt
  N : List Str
  ps : List Str
  bl : List Str
  body : Ss
  cs : List (Str × Cst) := []
  bv : List (Str × String) := []
  kwd : List (Str × Cst) := []
def DefT.ctx (d : DefT) (l : Fl) (lr : Flr := []) : Ctx := ⟨d.N, defScope d.st, none, l.map fun q => (q.1, q.2.1), d.bl, d.cs, d.bv, lr.map fun q => (q.1, q.2.1)⟩
def DefT.chk (d : DefT) (l : Fl) (lr : Flr := []) : Bool := chkSs (d.ctx l lr) d.body (defBody d.st) && (decide (l.length ≤ 1000) && d.N.all fun x => !(x == ("__debug__" : Str)) && !(x == ("__classdict__" : Str)))
def DefT.den (d : DefT) (l : Fl) (lr : Flr := []) : List D → DR := (Df.mk d.N.length d.body).run (tblOf (l.map (·.2.2)) (lr.map (·.2.2)))
/-- .. of a def with by-reference parameters -/
def DefT.denR (d : DefT) (bs : List Bool) (l : Fl) (lr : Flr := []) : List D → DR := (Df.mk d.N.length d.body).runR bs (tblOf (l.map (·.2.2)) (lr.map (·.2.2)))
section
variable {P : Program} {w : World} {K : PySem.W.Frag} {mg : Str → Option Value} {base : Heap}
theorem start_len {N : List Str} {vs : List V} (h : vs.length ≤ N.length) : (L2.start N vs).length = N.length := by
  unfold L2.start
  rw [List.length_append, List.length_map, List.length_replicate]
  omega
/-- the frame's start -/
theorem env_start {Hf H : Hp} {N : List Str} {vs : List V} {ds : List D} (s : Same Hf H) (nd : NoD Hf) (r : Rps K Hf vs ds) : EnvAt K ⟨fun a => match Hf a with
  | none => H a
  | some _ => none, fun _ => 0⟩ Hf (ds.map .fz ++ List.replicate (N.length - ds.length) .un) (L2.start N vs) H := by
  have no : ∀ (i : Nat), isOw (ds.map Sl.fz ++ List.replicate (N.length - ds.length) Sl.un)[i]? = false := fun i => by
    rw [List.getElem?_append]
    split
    · rw [List.getElem?_map]
      cases ds[i]? <;> rfl
    · rw [List.getElem?_replicate]
      split <;> rfl
  refine ⟨⟨fun a o e => ?_, s, fun a h => ?_, nd⟩, ?_, fun i x h => ?_, fun i j a o _ => ?_⟩
  · cases q : Hf a with
    | none => simp only [q] at e; exact e
    | some u => simp only [q] at e; cases e
  · cases q : Hf a with
    | none => exact .inl rfl
    | some u => simp only [q] at h; exact absurd rfl h
  · unfold L2.start
    simp only [List.length_append, List.length_map, List.length_replicate, r.length]
  · rw [List.getElem?_append] at h
    split at h
    · rename_i hl
      rw [List.getElem?_map] at h
      cases q : ds[i]? with
      | none => rw [q] at h; cases h
      | some d =>
        rw [q] at h
        cases h
        obtain ⟨v, hv, rv⟩ := r.get q
        refine ⟨v, ?_, rv⟩
        unfold L2.start
        rw [List.getElem?_append_left (by rw [List.length_map, r.length]; simpa using hl), List.getElem?_map, hv]
        rfl
    · rw [List.getElem?_replicate] at h
      split at h
      · cases h; trivial
      · cases h
  · have o1 := o.1
    rw [no i] at o1
    cases o1
theorem grow_end {Hf H Hf' H' : Hp} (s : Same Hf H) (h : HeapAt ⟨fun a => match Hf a with
  | none => H a
  | some _ => none, fun _ => 0⟩ Hf' H') (s' : Same Hf Hf') : Grow Hf H Hf' H' := by
  refine ⟨s', fun a o e => ?_, fun a o e => ?_, fun _ => h.nd⟩
  · cases q : Hf a with
    | none => exact h.fr a o (by simp only [q]; exact e)
    | some u =>
      have e2 := s a u q
      rw [e] at e2
      cases e2
      exact h.hf _ _ (s' _ _ q)
  · cases q : Hf a with
    | some u =>
      have := s' _ _ q
      rw [e] at this
      cases this
      exact .inl rfl
    | none =>
      cases z : H a with
      | none => exact .inr (.inl ⟨rfl, h.hf _ _ e⟩)
      | some u =>
        rcases h.dj a (by simp only [q, z]; simp) with y | ⟨xs, y⟩
        · rw [e] at y
          cases y
        · rw [e] at y
          cases y
          exact .inr (.inr ⟨xs, rfl, h.hf _ _ e⟩)
/-- the context of a def's body -/
theorem ctx_fn {k : Nat} {qual : Str} {d : DefT} {l : Fl} {lr : Flr} {f : Addr} (S : FnScope d.N d.ps (defScope d.st)) (hbl : ∀ y ∈ d.bl, mg y = none) (hcs : ∀ q ∈ d.cs, CsG K mg q) (hbv : ∀ q ∈ d.bv, mg q.1 = some (.builtin q.2)) (hl : GoodL P w K mg base k l) (hlr : GoodLR P w K mg base k lr)
    (hc2 : (decide (l.length ≤ 1000) && d.N.all fun x => !(x == ("__debug__" : Str)) && !(x == ("__classdict__" : Str))) = true) (cdv : Value) (A : Around) (outer : List PySem.Env) (s : Shared) (H : Hp) (E : XK) (hr : Room (k + 2) (A.deeper (envOfC qual (defScope d.st) s.heap.objs.size f cdv))) :
    CtxOk (d.ctx l lr) (tblOf (l.map (·.2.2)) (lr.map (·.2.2))) k (cxOf (L2.CX P w) P w K mg base d.N qual (defScope d.st) f cdv A outer s H E) (fun cls od _ H => E cls od H) := by
  obtain ⟨c1, c2⟩ := and2 hc2
  have c1 := of_decide_eq_true c1
  exact
    { kd := S.kind, N := rfl, nd := S.nd,
      od := fun y hy => by
        have := List.all_eq_true.mp c2 y hy
        obtain ⟨q1, q2⟩ := and2 this
        exact ⟨by simpa using q1, by simpa using q2⟩
      sc := rfl, fn := fun _ => rfl, calm := rfl, room := hr, tk := takes_of rfl rfl rfl rfl, own := passes_of rfl, bl := hbl, cs := hcs, bv := hbv,
      fk := fun f x n h => by
        have hf : f < (l.map (·.2.2)).length := by
          rw [List.length_map]
          have := (List.getElem?_eq_some_iff.mp (show (l.map fun q => (q.1, q.2.1))[f]? = some (x, n) from h)).1
          simpa using this
        rw [tblOf_at hf]
        exact hl.at f x n h
      fr := fun f x bs h => by
        obtain ⟨den, h1, h2⟩ := hlr.at f x bs h
        rw [tblOf_r (by rw [List.length_map]; exact c1) h1]
        exact h2 }
/-- A DEF WHOSE TEXT CHECKS IS WORTH ITS DENOTATION -/
theorem def_fn {k : Nat} {x qual : Str} {d : DefT} {l : Fl} {lr : Flr} {f : Addr} {fd : FuncData} {kws : List (Str × V)} (F : FunD K x qual (defArgs d.st) (defBody d.st) (defScope d.st) [] kws f fd) (S : FnScope d.N d.ps (defScope d.st))
    (hbl : ∀ y ∈ d.bl, mg y = none) (hcs : ∀ q ∈ d.cs, CsG K mg q) (hbv : ∀ q ∈ d.bv, mg q.1 = some (.builtin q.2)) (hl : GoodL P w K mg base k l) (hlr : GoodLR P w K mg base k lr) (hc : d.chk l lr = true) : FnOk P w K mg base (L2.CX P w) (k + 3) f fd d.ps (spD K d.ps.length (d.den l lr)) := by
  obtain ⟨hc1, hc2⟩ := and2 hc
  refine F.ok S (fun vs H Q E ⟨Hf, ds, s, _, r, hn, _⟩ => by rw [r.length, hn]) fun cdv A outer s H vs Q E hr ⟨Hf, ds, sm, nd, r, hn, hq⟩ => ?_
  have C := ctx_fn (w := w) (P := P) (base := base) S hbl hcs hbv hl hlr hc2 cdv A outer s H E hr
  obtain ⟨Φ, hΦ⟩ : ∃ Φ, Φ = tblOf (l.map (·.2.2)) (lr.map (·.2.2)) := ⟨_, rfl⟩
  rw [← hΦ] at C
  refine ⟨rdS K (fun cls od _ H => E cls od H) (evSs Φ d.body), snd_Ss _ d.body C hc1, _, Hf, _, env_start sm nd r, ?_⟩
  have hq : (match SR.end (evSs (tblOf (l.map (·.2.2)) (lr.map (·.2.2))) d.body (ds.map .fz ++ List.replicate (d.N.length - ds.length) .un)) with
    | .no => False
    | .ok d => ∀ v Hf' H', Grow Hf H Hf' H' → Rp K Hf' v d → Q v H'
    | .ex x => ∀ cls od Hf' H', Grow Hf H Hf' H' → ExAt K Hf' x cls od → E cls od H') := hq
  rw [← hΦ] at hq
  cases z : evSs Φ d.body (ds.map .fz ++ List.replicate (d.N.length - ds.length) .un) with
  | no => rw [z] at hq; exact hq
  | bk ρ => rw [z] at hq; exact hq.elim
  | ct ρ => rw [z] at hq; exact hq.elim
  | nx ρ => rw [z] at hq; exact fun σ' Hf' H' s' e' => hq .non Hf' H' (grow_end sm e'.hp s') .non
  | rt y ρ => rw [z] at hq; exact fun v σ' Hf' H' s' e' rv => hq v Hf' H' (grow_end sm e'.hp s') rv
  | ex y ρ => rw [z] at hq; exact fun σ' Hf' H' cls od s' e' hx => hq cls od Hf' H' (grow_end sm e'.hp s') hx
theorem def_good {k : Nat} {x qual : Str} {d : DefT} {l : Fl} {lr : Flr} {f : Addr} {fd : FuncData} {kws : List (Str × V)} (F : FunD K x qual (defArgs d.st) (defBody d.st) (defScope d.st) [] kws f fd) (S : FnScope d.N d.ps (defScope d.st)) (hm : mg x = some (.ref f)) (hx : (x == ("__debug__" : Str)) = false)
    (hb : Binds K fd d.ps []) (hbl : ∀ y ∈ d.bl, mg y = none) (hcs : ∀ q ∈ d.cs, CsG K mg q) (hbv : ∀ q ∈ d.bv, mg q.1 = some (.builtin q.2)) (hl : GoodL P w K mg base k l) (hlr : GoodLR P w K mg base k lr) (hc : d.chk l lr = true) : Good P w K mg base (k + 3) x d.ps.length (d.den l lr) :=
  ⟨hx, f, fd, d.ps, k + 3, Nat.le_refl _, hm, def_fn F S hbl hcs hbv hl hlr hc, F.kp, hb⟩
/-- .. with by-reference parameters -/
theorem def_fnR {k : Nat} {x qual : Str} {d : DefT} {bs : List Bool} {l : Fl} {lr : Flr} {f : Addr} {fd : FuncData} {kws : List (Str × V)} (F : FunD K x qual (defArgs d.st) (defBody d.st) (defScope d.st) [] kws f fd) (S : FnScope d.N d.ps (defScope d.st)) (hbs : bs.length = d.ps.length)
    (hbl : ∀ y ∈ d.bl, mg y = none) (hcs : ∀ q ∈ d.cs, CsG K mg q) (hbv : ∀ q ∈ d.bv, mg q.1 = some (.builtin q.2)) (hl : GoodL P w K mg base k l) (hlr : GoodLR P w K mg base k lr) (hc : d.chk l lr = true) : FnOk P w K mg base (L2.CX P w) (k + 3) f fd d.ps (spR K bs (d.denR bs l lr)) := by
  obtain ⟨hc1, hc2⟩ := and2 hc
  refine F.ok S (fun vs H Q E ⟨Hf, ds, al, _, _, r, _, _⟩ => by rw [r.len.1, hbs]) fun cdv A outer s H vs Q E hr ⟨Hf, ds, al, sm, nd, r, hd, hq⟩ => ?_
  have C := ctx_fn (w := w) (P := P) (base := base) S hbl hcs hbv hl hlr hc2 cdv A outer s H E hr
  unfold DefT.denR Df.runR at hq
  dsimp only at hq
  obtain ⟨Φ, hΦ⟩ : ∃ Φ, Φ = tblOf (l.map (·.2.2)) (lr.map (·.2.2)) := ⟨_, rfl⟩
  rw [← hΦ] at C hq
  refine ⟨rdS K (fun cls od _ H => E cls od H) (evSs Φ d.body), snd_Ss _ d.body C hc1, _, Hf, _, env_startR sm nd r hd, ?_⟩
  rw [if_pos r.len.2] at hq
  have fin : ∀ {y : D} {ρ : Env}, (match (match outR ρ 0 bs with
      | some os => DR.ok (.tup (y :: os))
      | none => .no) with
    | .ok (.tup (d :: os)) => ∀ v Hf' H', GrowX al bs Hf H Hf' H' → OutAt K al Hf' H' 0 bs os → Rp K Hf' v d → Q v H'
    | _ => False) → ∀ v σ' Hf' H', Same Hf Hf' → EnvAt K (frR al bs Hf H) Hf' ρ σ' H' → Rp K Hf' v y → Q v H' := fun {y ρ} hq v σ' Hf' H' s' e' rv => by
    cases o : outR ρ 0 bs with
    | none => rw [o] at hq; exact hq.elim
    | some os =>
      rw [o] at hq
      obtain ⟨g1, g2⟩ := grow_endR sm e' s' o
      exact hq v Hf' H' g1 g2 rv
  cases z : evSs Φ d.body (stR 0 bs ds ++ List.replicate (d.N.length - ds.length) .un) with
  | no => rw [z] at hq; exact hq
  | bk ρ => rw [z] at hq; exact hq.elim
  | ct ρ => rw [z] at hq; exact hq.elim
  | ex y ρ => rw [z] at hq; exact hq.elim
  | nx ρ => rw [z] at hq; exact fun σ' Hf' H' s' e' => fin hq .non σ' Hf' H' s' e' .non
  | rt y ρ => rw [z] at hq; exact fun v σ' Hf' H' s' e' rv => fin hq v σ' Hf' H' s' e' rv
theorem def_goodR {k : Nat} {x qual : Str} {d : DefT} {bs : List Bool} {l : Fl} {lr : Flr} {f : Addr} {fd : FuncData} {kws : List (Str × V)} (F : FunD K x qual (defArgs d.st) (defBody d.st) (defScope d.st) [] kws f fd) (S : FnScope d.N d.ps (defScope d.st)) (hbs : bs.length = d.ps.length) (hm : mg x = some (.ref f)) (hx : (x == ("__debug__" : Str)) = false)
    (hb : Binds K fd d.ps []) (hbl : ∀ y ∈ d.bl, mg y = none) (hcs : ∀ q ∈ d.cs, CsG K mg q) (hbv : ∀ q ∈ d.bv, mg q.1 = some (.builtin q.2)) (hl : GoodL P w K mg base k l) (hlr : GoodLR P w K mg base k lr) (hc : d.chk l lr = true) : GoodR P w K mg base (k + 3) x bs (d.denR bs l lr) :=
  ⟨hx, f, fd, d.ps, k + 3, Nat.le_refl _, hm, def_fnR F S hbs hbl hcs hbv hl hlr hc, F.kp, hb⟩
theorem GoodK.mono {j k : Nat} {x : Str} {n : Nat} {ks : List Str} {den : List D → DR} (g : GoodK P w K mg base j x n ks den) (h : j ≤ k) : GoodK P w K mg base k x n ks den := by
  obtain ⟨h1, f, fd, ps, k', kwd, g', d0, hk, r⟩ := g
  exact ⟨h1, f, fd, ps, k', kwd, g', d0, Nat.le_trans hk h, r⟩
theorem GoodR.mono {j k : Nat} {x : Str} {bs : List Bool} {den : List D → DR} (g : GoodR P w K mg base j x bs den) (h : j ≤ k) : GoodR P w K mg base k x bs den := by
  obtain ⟨h1, f, fd, ps, k', hk, r⟩ := g
  exact ⟨h1, f, fd, ps, k', Nat.le_trans hk h, r⟩
end
end DL
set_option Elab.async false
set_option linter.all false
set_option maxRecDepth 100000
set_option maxHeartbeats 4000000
/-! DLk: a law's end. -/
namespace DL
open PySem PySem.Spec PyProof.Rows L2

/-- a def's scope, checked -/
def scB (N P : List Str) (sc : Scope) : Bool := decide (sc.kind = .function) && !sc.isCoroutine && !sc.isGenerator && decide N.Nodup && decide (N.take P.length = P) && (P.all fun x => decide (sc.names.lookup x = some .local) || decide (sc.names.lookup x = some .cell)) && sc.names.all fun y => !decide (y.2 = .free)
theorem sc_ok {N P : List Str} {sc : Scope} (h : scB N P sc = true) : FnScope N P sc := by
  obtain ⟨h, h7⟩ := and2 (show (decide (sc.kind = .function) && !sc.isCoroutine && !sc.isGenerator && decide N.Nodup && decide (N.take P.length = P) && (P.all fun x => decide (sc.names.lookup x = some .local) || decide (sc.names.lookup x = some .cell)) && sc.names.all fun y => !decide (y.2 = .free)) = true from h)
  obtain ⟨h, h6⟩ := and2 h
  obtain ⟨h, h5⟩ := and2 h
  obtain ⟨h1, h2, h3, h4⟩ := and4 h
  refine ⟨of_decide_eq_true h1, by simpa using h2, by simpa using h3, of_decide_eq_true h4, of_decide_eq_true h5, fun x hx => ?_, fun y hy => ?_⟩
  · have := List.all_eq_true.mp h6 x hx
    rcases Bool.or_eq_true_iff.mp this with z | z
    · exact .inl (of_decide_eq_true z)
    · exact .inr (of_decide_eq_true z)
  · have := List.all_eq_true.mp h7 y hy
    intro q
    rw [decide_eq_true q] at this
    cases this
/-- a def's scope and its body, checked -/
def DefT.all (d : DefT) (l : Fl) (lr : Flr := []) : Bool := scB d.N d.ps (defScope d.st) && d.chk l lr
def dvC : Cst → He.Dv
  | .tups _ => .non
  | .non => .non
  | .bl b => .bl b
  | .int i => .int i
  | .str x => .str x
def DefT.hd (d : DefT) (x : Str) : He.DefD := ⟨(x, none), x, x, defArgs d.st, defBody d.st, defScope d.st, [], d.kwd.map fun q => (q.1, dvC q.2)⟩
theorem hd_kws {K : PySem.W.Frag} (d : DefT) (x : Str) : (d.hd x).kws K = d.kwd.map fun q => (q.1, cVk q.2) := by
  show List.map (fun q : Str × He.Dv => (q.1, q.2.v K)) (d.kwd.map fun q => (q.1, dvC q.2)) = _
  rw [List.map_map]
  refine List.map_congr_left fun q _ => ?_
  show (q.1, (dvC q.2).v K) = _
  cases q.2 <;> rfl
/-- what is told of the module: the globals' places, the free built-ins -/
structure Mo (K : PySem.W.Frag) (mg : Str → Option Value) (fn : List He.DefD) (glo free : List Str) (cs : List (Str × Cst)) (bv : List (Str × String)) : Prop where
  glo : ∀ x ∈ glo, mg x = some (.ref (He.ga K x))
  free : ∀ x ∈ free, mg x = none
  cs : ∀ q ∈ cs, CsG K mg q
  bv : ∀ q ∈ bv, mg q.1 = some (.builtin q.2)
  defs : ∀ d ∈ fn, ∃ fd, FunD K d.name d.qual d.params d.body d.scope (d.dvs K) (d.kws K) (He.fAd K d.at_) fd
def csFa : Str × Cst → List He.Fa
  | (x, .int i) => [.int x i]
  | (x, .str s) => [.str x s]
  | (x, .tups _) => [.glo x]
  | _ => []
def csIs : Str × Cst → Bool
  | (_, .int _) => true
  | (_, .str _) => true
  | (_, .tups _) => true
  | _ => false
def faOf (glo free : List Str) (cs : List (Str × Cst)) : List He.Fa := glo.map .glo ++ free.map .free ++ cs.flatMap csFa
def bvOk0 (K : PySem.W.Frag) (bv : List (Str × String)) : Bool := bv.all fun q => He.eqO (PySem.W.nsIn K mainGlobals q.1) (some (some (.builtin q.2)))
def csTup (K : PySem.W.Frag) : Str × Cst → Bool
  | (x, .tups xs) => He.tupB K x (xs.map He.Dv.str)
  | _ => true
def bvOk (K : PySem.W.Frag) (bv : List (Str × String)) (cs : List (Str × Cst)) : Bool := bvOk0 K bv && cs.all (csTup K)
abbrev AlX : Type := He.AlD × Bool
def obsXG (n : Nat) (fa : List He.Fa) (fn : List He.DefD) (bv : List (Str × String)) (cs : List (Str × Cst)) (g : Addr → Option Obj) : AlX := (He.obsDG n fa fn g, bvOk (He.frG g (He.asD g n)) bv cs)
def hookX (n : Nat) (fa : List He.Fa) (fn : List He.DefD) (bv : List (Str × String)) (cs : List (Str × Cst)) : PySem.W.Hook where
  α := AlX
  obs := fun s => obsXG n fa fn bv cs s.heap.get?
  val := fun _ => (He.valD fn, true)
  says := fun _ h => ∃ K : PySem.W.Frag, K.In h ∧ He.SaysD fa fn K ∧ bvOk K bv cs = true
  of := fun _ _ e => ⟨_, He.frG_in, congrArg (fun z : AlX => z.1) e, congrArg (fun z : AlX => z.2) e⟩
  keeps := fun _ _ _ ⟨K, hK, c⟩ k => ⟨K, PySem.W.Frag.In.keeps hK k, c⟩
theorem obsXG_eq {n : Nat} {fa : List He.Fa} {fn : List He.DefD} {bv : List (Str × String)} {cs : List (Str × Cst)} {g : Addr → Option Obj} {s : Shared} (h : ∀ a, g a = s.heap.get? a) : obsXG n fa fn bv cs g = (hookX n fa fn bv cs).obs s := by
  have e : g = s.heap.get? := funext h
  rw [e] <;> rfl
theorem mo_of {K : PySem.W.Frag} {h : Heap} {mg : Str → Option Value} {fn : List He.DefD} {glo free : List Str} {cs : List (Str × Cst)} {bv : List (Str × String)} (X : K.In h) (G : h.Ns mainGlobals mg) (c : He.SaysD (faOf glo free cs) fn K) (hb : bvOk K bv cs = true) (hcs : cs.all csIs = true) : Mo K mg fn glo free cs bv where
  glo := fun x hx => He.glo_ok X G (c.facts (List.mem_append_left _ (List.mem_append_left _ (List.mem_map.mpr ⟨x, hx, rfl⟩))))
  free := fun x hx => He.free_ok X G (c.facts (List.mem_append_left _ (List.mem_append_right _ (List.mem_map.mpr ⟨x, hx, rfl⟩))))
  cs := fun q hq => by
    have z := List.all_eq_true.mp hcs q hq
    obtain ⟨x, k⟩ := q
    cases k with
    | int i =>
      obtain ⟨t, e⟩ := He.int_ok X G (c.facts (List.mem_append_right _ (List.mem_flatMap.mpr ⟨_, hq, List.mem_singleton.mpr rfl⟩)))
      exact ⟨_, .int i, e, ⟨t, rfl⟩, fun _ => .int i⟩
    | str s =>
      obtain ⟨t, e⟩ := He.str_ok X G (c.facts (List.mem_append_right _ (List.mem_flatMap.mpr ⟨_, hq, List.mem_singleton.mpr rfl⟩)))
      exact ⟨_, .str s, e, ⟨t, rfl⟩, fun _ => .str s⟩
    | tups xs =>
      have e := He.glo_ok X G (c.facts (List.mem_append_right _ (List.mem_flatMap.mpr ⟨_, hq, List.mem_singleton.mpr rfl⟩)))
      have tb : He.tupB K x (xs.map He.Dv.str) = true := List.all_eq_true.mp (and2 hb).2 _ hq
      refine ⟨_, .ref (He.ga K x), e, rfl, fun H => .ro (.inr (He.tupB_ok tb H)) ?_⟩
      rw [List.map_map]
      exact Rps.strs xs
    | _ => cases z
  bv := fun q hq => PySem.W.mg_of X G (He.eqO_ok (List.all_eq_true.mp (and2 hb).1 q hq))
  defs := fun d hd => c.defs hd
/-- a def of the module is worth its denotation -/
theorem Mo.goodr {P : Program} {w : World} {K : PySem.W.Frag} {mg : Str → Option Value} {base : Heap} {fn : List He.DefD} {glo free : List Str} {cs : List (Str × Cst)} {bv : List (Str × String)} (M : Mo K mg fn glo free cs bv) {x : Str} {d : DefT} {l : Fl} {lr : Flr} {k : Nat} (hd : d.hd x ∈ fn) (hg : glo.contains x = true) (hx : (x == ("__debug__" : Str)) = false)
    (hb : ((d.bl.all fun y => free.contains y) && (d.cs.all fun y => cs.contains y) && (d.bv.all fun y => bv.contains y)) = true) (hl : GoodL P w K mg base k l) (hlr : GoodLR P w K mg base k lr) (hc : d.all l lr = true)
    (bind : ∀ (kV doc pm : Value) (an : Option Addr) (cdv ct : Value) (us : List Value), us.length = d.ps.length → bindArgs (PySem.W.fnOf x x (defArgs d.st) (defBody d.st) (defScope d.st) .none kV doc pm an cdv ct) ⟨us, []⟩ = pure (d.ps.zip us)) :
    Good P w K mg base (k + 3) x d.ps.length (d.den l lr) := by
  obtain ⟨h1, h2⟩ := and2 (show (scB d.N d.ps (defScope d.st) && d.chk l lr) = true from hc)
  obtain ⟨fd, F⟩ := M.defs _ hd
  obtain ⟨hb, hb3⟩ := and2 hb
  obtain ⟨hb, hb2⟩ := and2 hb
  exact def_good F (sc_ok h1) (M.glo x (List.contains_iff_mem.mp hg)) hx (FunD.bindsN F bind) (fun y hy => M.free y (List.contains_iff_mem.mp (List.all_eq_true.mp hb y hy))) (fun q hq => M.cs q (List.contains_iff_mem.mp (List.all_eq_true.mp hb2 q hq))) (fun q hq => M.bv q (List.contains_iff_mem.mp (List.all_eq_true.mp hb3 q hq))) hl hlr h2
theorem Mo.good {P : Program} {w : World} {K : PySem.W.Frag} {mg : Str → Option Value} {base : Heap} {fn : List He.DefD} {glo free : List Str} {cs : List (Str × Cst)} {bv : List (Str × String)} (M : Mo K mg fn glo free cs bv) {x : Str} {d : DefT} {l : Fl} {k : Nat} (hd : d.hd x ∈ fn) (hg : glo.contains x = true) (hx : (x == ("__debug__" : Str)) = false)
    (hb : ((d.bl.all fun y => free.contains y) && (d.cs.all fun y => cs.contains y) && (d.bv.all fun y => bv.contains y)) = true) (hl : GoodL P w K mg base k l) (hc : d.all l = true)
    (bind : ∀ (kV doc pm : Value) (an : Option Addr) (cdv ct : Value) (us : List Value), us.length = d.ps.length → bindArgs (PySem.W.fnOf x x (defArgs d.st) (defBody d.st) (defScope d.st) .none kV doc pm an cdv ct) ⟨us, []⟩ = pure (d.ps.zip us)) :
    Good P w K mg base (k + 3) x d.ps.length (d.den l) := M.goodr (lr := []) hd hg hx hb hl trivial hc bind
/-- .. with by-reference parameters -/
theorem Mo.goodR {P : Program} {w : World} {K : PySem.W.Frag} {mg : Str → Option Value} {base : Heap} {fn : List He.DefD} {glo free : List Str} {cs : List (Str × Cst)} {bv : List (Str × String)} (M : Mo K mg fn glo free cs bv) {x : Str} {d : DefT} {bs : List Bool} {l : Fl} {lr : Flr} {k : Nat} (hd : d.hd x ∈ fn) (hg : glo.contains x = true) (hx : (x == ("__debug__" : Str)) = false)
    (hb : ((d.bl.all fun y => free.contains y) && (d.cs.all fun y => cs.contains y) && (d.bv.all fun y => bv.contains y)) = true) (hl : GoodL P w K mg base k l) (hlr : GoodLR P w K mg base k lr) (hc : d.all l lr = true) (hbs : bs.length = d.ps.length)
    (bind : ∀ (kV doc pm : Value) (an : Option Addr) (cdv ct : Value) (us : List Value), us.length = d.ps.length → bindArgs (PySem.W.fnOf x x (defArgs d.st) (defBody d.st) (defScope d.st) .none kV doc pm an cdv ct) ⟨us, []⟩ = pure (d.ps.zip us)) :
    GoodR P w K mg base (k + 3) x bs (d.denR bs l lr) := by
  obtain ⟨h1, h2⟩ := and2 (show (scB d.N d.ps (defScope d.st) && d.chk l lr) = true from hc)
  obtain ⟨fd, F⟩ := M.defs _ hd
  obtain ⟨hb, hb3⟩ := and2 hb
  obtain ⟨hb, hb2⟩ := and2 hb
  exact def_goodR F (sc_ok h1) hbs (M.glo x (List.contains_iff_mem.mp hg)) hx (FunD.bindsN F bind) (fun y hy => M.free y (List.contains_iff_mem.mp (List.all_eq_true.mp hb y hy))) (fun q hq => M.cs q (List.contains_iff_mem.mp (List.all_eq_true.mp hb2 q hq))) (fun q hq => M.bv q (List.contains_iff_mem.mp (List.all_eq_true.mp hb3 q hq))) hl hlr h2
/-- .. with keyword-only parameters: n places are written, the keywords ks -/
theorem Mo.goodK {P : Program} {w : World} {K : PySem.W.Frag} {mg : Str → Option Value} {base : Heap} {fn : List He.DefD} {glo free : List Str} {cs : List (Str × Cst)} {bv : List (Str × String)} (M : Mo K mg fn glo free cs bv) {x : Str} {d : DefT} {l : Fl} {lr : Flr} {k : Nat} (hd : d.hd x ∈ fn) (hg : glo.contains x = true) (hx : (x == ("__debug__" : Str)) = false)
    (hb : ((d.bl.all fun y => free.contains y) && (d.cs.all fun y => cs.contains y) && (d.bv.all fun y => bv.contains y)) = true) (hl : GoodL P w K mg base k l) (hlr : GoodLR P w K mg base k lr) (hc : d.all l lr = true) (n : Nat) (ks : List Str) (hn : d.ps.length = n + d.kwd.length) (hk : d.kwd ≠ [])
    (bind : ∀ (A : Addr) (doc pm : Value) (an : Option Addr) (cdv ct : Value) (us kv ws : List Value), us.length = n → kv.length = d.kwd.length → ws.length = ks.length →
      ∃ ms : List (Str × Value), (∀ m ∈ ms, m ∈ (d.kwd.map (·.1)).zip kv) ∧ KwChain A ms (bindArgs (PySem.W.fnOf x x (defArgs d.st) (defBody d.st) (defScope d.st) .none (.ref A) doc pm an cdv ct) ⟨us, ks.zip ws⟩) (d.ps.zip (us ++ fillM (d.kwd.map (·.1)) kv ks ws))) :
    GoodK P w K mg base (k + 3) x n ks (kwD n d.kwd ks (d.den l lr)) := by
  obtain ⟨h1, h2⟩ := and2 (show (scB d.N d.ps (defScope d.st) && d.chk l lr) = true from hc)
  obtain ⟨fd, F⟩ := M.defs _ hd
  rw [hd_kws] at F
  obtain ⟨hb, hb3⟩ := and2 hb
  obtain ⟨hb, hb2⟩ := and2 hb
  obtain ⟨kv, hB⟩ := kbn0 F n ks hk bind
  have G := def_fn (P := P) (w := w) (mg := mg) (base := base) F (sc_ok h1) (fun y hy => M.free y (List.contains_iff_mem.mp (List.all_eq_true.mp hb y hy))) (fun q hq => M.cs q (List.contains_iff_mem.mp (List.all_eq_true.mp hb2 q hq))) (fun q hq => M.bv q (List.contains_iff_mem.mp (List.all_eq_true.mp hb3 q hq))) hl hlr h2
  rw [hn] at G
  exact ⟨hx, _, fd, d.ps, k + 3, d.kwd, _, _, Nat.le_refl _, M.glo x (List.contains_iff_mem.mp hg), G, F.kp, hB, rfl⟩
/-- no exception is wanted, none comes -/
theorem fn_cx0 {P : Program} {w : World} {K : PySem.W.Frag} {mg : Str → Option Value} {base : Heap} {k : Nat} {f : Addr} {fd : FuncData} {ps : List Str} {sp : Sp} (F : FnOk P w K mg base (L2.CX P w) k f fd ps sp) : FnOk P w K mg base CX0 k f fd ps (fun vs H Q _ => sp vs H Q E0) :=
  ⟨fun vs H Q E q => F.len vs H Q E0 q, fun A outer s H args us vs Q E hr he hb hv hs => codeAny_mono (F.run A outer s H args us vs Q E0 hr he hb hv hs) fun r s' h => by
    cases r with
    | ok fl => cases fl <;> exact h
    | error e =>
      obtain ⟨_, _, _, _, _, _, _, _, _, _, _, _, z⟩ := h
      exact z⟩
/-- the heap without the dicts that may change -/
def noDct (H : Hp) : Hp := fun a => match H a with
  | some (.dK _) => none
  | some (.dT _) => none
  | o => o
theorem noDct_same (H : Hp) : Same (noDct H) H := fun a o e => by
  unfold noDct at e
  cases q : H a with
  | none => rw [q] at e; cases e
  | some u => rw [q] at e; cases u <;> first | exact e | cases e
theorem noDct_nd (H : Hp) : NoD (noDct H) := fun a o e => by
  unfold noDct at e
  cases q : H a with
  | none => rw [q] at e; cases e
  | some u => rw [q] at e; cases u <;> first | (cases e; exact fun h => h) | cases e
theorem noDct_seq {K : PySem.W.Frag} {H : Hp} {a : Addr} {xs : List V} (h : SqL K H a xs) : SqL K (noDct H) a xs := by
  rcases h with (h | ⟨o, h⟩) | h
  · exact .inl (.inl (by unfold noDct; rw [h]))
  · exact .inl (.inr ⟨o, by unfold noDct; rw [h]⟩)
  · exact .inr h
/-- the law's call -/
theorem law_sp {K : PySem.W.Frag} {den : List D → DR} (hden : ∀ ns : List Int, ns.length ≤ 63 → den [.ro (ns.map .int)] = .ok (.bl true)) (H : Hp) (a : Addr) (ns : List Int) (hl : ns.length ≤ 63) (hS : SqL K H a (ns.map V.int)) : spD K 1 den [.ref a] H (fun v _ => v = .bl true) E0 := by
  refine ⟨noDct H, [.ro (ns.map .int)], noDct_same H, noDct_nd H, .cons (.ro (.inl (noDct_seq hS)) (Rps.ints ns)) .nil, rfl, ?_⟩
  rw [hden ns hl]
  intro v Hf' H' _ r
  cases r
  rfl
/-- the law's own def, for walk_ofE -/
theorem Mo.lawr {P : Program} {w : World} {K : PySem.W.Frag} {mg : Str → Option Value} {fn : List He.DefD} {glo free : List Str} {cs : List (Str × Cst)} {bv : List (Str × String)} (M : Mo K mg fn glo free cs bv) {h : Heap} {fa : Addr} {d : DefT} {l : Fl} {lr : Flr} {k : Nat} (KX : K.In h) (hmg : mg "law" = some (.ref fa))
    (hd : d.hd "law" ∈ fn) (hg : glo.contains ("law" : Str) = true) (hp : d.ps = [("script" : Str)]) (hb : ((d.bl.all fun y => free.contains y) && (d.cs.all fun y => cs.contains y) && (d.bv.all fun y => bv.contains y)) = true) (hl : ∀ base, GoodL P w K mg base k l) (hlr : ∀ base, GoodLR P w K mg base k lr) (hc : d.all l lr = true)
    (bind : ∀ (kV doc pm : Value) (an : Option Addr) (cdv ct : Value) (us : List Value), us.length = d.ps.length → bindArgs (PySem.W.fnOf "law" "law" (defArgs d.st) (defBody d.st) (defScope d.st) .none kV doc pm an cdv ct) ⟨us, []⟩ = pure (d.ps.zip us))
    (hden : ∀ ns : List Int, ns.length ≤ 63 → d.den l lr [.ro (ns.map .int)] = .ok (.bl true)) :
    ∃ (K : PySem.W.Frag) (fd : FuncData) (sp : Sp), K.In h ∧ (∀ (s : Shared) (u : Value), BindsTo s fd ⟨[u], []⟩ [(("script" : Str), u)]) ∧
        (∀ (H : Hp) (a : Addr) (ns : List Int), ns.length ≤ 63 → L2.Only H → SqL K H a (ns.map V.int) → sp [.ref a] H (fun v _ => v = .bl true) fun _ _ _ => False) ∧
        ∀ base : Heap, K.In base → base.Ns mainGlobals mg → FnOk P w K mg base CX0 (k + 3) fa fd [("script" : Str)] sp := by
  obtain ⟨fd, F⟩ := M.defs _ hd
  have hm := M.glo "law" (List.contains_iff_mem.mp hg)
  have e := hmg.symm.trans hm
  cases e
  have bb := FunD.bindsA (ps := d.ps) F bind
  rw [hp] at bb
  refine ⟨K, fd, fun vs H Q _ => spD K 1 (d.den l lr) vs H Q E0, KX, fun s u => bb s [u] rfl, fun H a ns hl _ hS => law_sp hden H a ns hl hS, fun base _ _ => ?_⟩
  obtain ⟨h1, h2⟩ := and2 (show (scB d.N d.ps (defScope d.st) && d.chk l lr) = true from hc)
  obtain ⟨hb, hb3⟩ := and2 hb
  obtain ⟨hb, hb2⟩ := and2 hb
  have G := def_fn (P := P) (w := w) (mg := mg) (base := base) F (sc_ok h1) (fun y hy => M.free y (List.contains_iff_mem.mp (List.all_eq_true.mp hb y hy))) (fun q hq => M.cs q (List.contains_iff_mem.mp (List.all_eq_true.mp hb2 q hq))) (fun q hq => M.bv q (List.contains_iff_mem.mp (List.all_eq_true.mp hb3 q hq))) (hl base) (hlr base) h2
  rw [hp] at G
  exact fn_cx0 G
theorem Mo.law {P : Program} {w : World} {K : PySem.W.Frag} {mg : Str → Option Value} {fn : List He.DefD} {glo free : List Str} {cs : List (Str × Cst)} {bv : List (Str × String)} (M : Mo K mg fn glo free cs bv) {h : Heap} {fa : Addr} {d : DefT} {l : Fl} {k : Nat} (KX : K.In h) (hmg : mg "law" = some (.ref fa))
    (hd : d.hd "law" ∈ fn) (hg : glo.contains ("law" : Str) = true) (hp : d.ps = [("script" : Str)]) (hb : ((d.bl.all fun y => free.contains y) && (d.cs.all fun y => cs.contains y) && (d.bv.all fun y => bv.contains y)) = true) (hl : ∀ base, GoodL P w K mg base k l) (hc : d.all l = true)
    (bind : ∀ (kV doc pm : Value) (an : Option Addr) (cdv ct : Value) (us : List Value), us.length = d.ps.length → bindArgs (PySem.W.fnOf "law" "law" (defArgs d.st) (defBody d.st) (defScope d.st) .none kV doc pm an cdv ct) ⟨us, []⟩ = pure (d.ps.zip us))
    (hden : ∀ ns : List Int, ns.length ≤ 63 → (d.den l) [.ro (ns.map .int)] = .ok (.bl true)) :
    ∃ (K : PySem.W.Frag) (fd : FuncData) (sp : Sp), K.In h ∧ (∀ (s : Shared) (u : Value), BindsTo s fd ⟨[u], []⟩ [(("script" : Str), u)]) ∧
        (∀ (H : Hp) (a : Addr) (ns : List Int), ns.length ≤ 63 → L2.Only H → SqL K H a (ns.map V.int) → sp [.ref a] H (fun v _ => v = .bl true) fun _ _ _ => False) ∧
        ∀ base : Heap, K.In base → base.Ns mainGlobals mg → FnOk P w K mg base CX0 (k + 3) fa fd [("script" : Str)] sp := M.lawr (lr := []) KX hmg hd hg hp hb hl (fun _ => trivial) hc bind hden
end DL
namespace DL
open PySem PySem.Spec PyProof.Rows L2
/-- a def that is worth nothing yet: where a recursion begins -/
theorem Mo.good0 {P : Program} {w : World} {K : PySem.W.Frag} {mg : Str → Option Value} {base : Heap} {fn : List He.DefD} {glo free : List Str} {cs : List (Str × Cst)} {bv : List (Str × String)} (M : Mo K mg fn glo free cs bv) {x : Str} {d : DefT} {k n : Nat} (hd : d.hd x ∈ fn) (hg : glo.contains x = true) (hx : (x == ("__debug__" : Str)) = false)
    (bind : ∀ (kV doc pm : Value) (an : Option Addr) (cdv ct : Value) (us : List Value), us.length = d.ps.length → bindArgs (PySem.W.fnOf x x (defArgs d.st) (defBody d.st) (defScope d.st) .none kV doc pm an cdv ct) ⟨us, []⟩ = pure (d.ps.zip us)) :
    Good P w K mg base k x n (fun _ => .no) := by
  obtain ⟨fd, F⟩ := M.defs _ hd
  refine ⟨hx, _, fd, d.ps, 0, Nat.zero_le _, M.glo x (List.contains_iff_mem.mp hg), ⟨fun vs H Q E q => ?_, fun A outer s H args us vs Q E hr he hb hv hs => ?_⟩, F.kp, FunD.bindsN F bind⟩
  · obtain ⟨_, _, _, _, _, _, z⟩ := q
    exact z.elim
  · obtain ⟨_, _, _, _, _, _, z⟩ := hs
    exact z.elim
/-- .. with by-reference parameters -/
theorem Mo.good0R {P : Program} {w : World} {K : PySem.W.Frag} {mg : Str → Option Value} {base : Heap} {fn : List He.DefD} {glo free : List Str} {cs : List (Str × Cst)} {bv : List (Str × String)} (M : Mo K mg fn glo free cs bv) {x : Str} {d : DefT} {k : Nat} {bs : List Bool} (hd : d.hd x ∈ fn) (hg : glo.contains x = true) (hx : (x == ("__debug__" : Str)) = false)
    (bind : ∀ (kV doc pm : Value) (an : Option Addr) (cdv ct : Value) (us : List Value), us.length = d.ps.length → bindArgs (PySem.W.fnOf x x (defArgs d.st) (defBody d.st) (defScope d.st) .none kV doc pm an cdv ct) ⟨us, []⟩ = pure (d.ps.zip us)) :
    GoodR P w K mg base k x bs (fun _ => .no) := by
  obtain ⟨fd, F⟩ := M.defs _ hd
  refine ⟨hx, _, fd, d.ps, 0, Nat.zero_le _, M.glo x (List.contains_iff_mem.mp hg), ⟨fun vs H Q E q => ?_, fun A outer s H args us vs Q E hr he hb hv hs => ?_⟩, F.kp, FunD.bindsN F bind⟩
  · obtain ⟨_, _, _, _, _, _, _, z⟩ := q
    exact z.elim
  · obtain ⟨_, _, _, _, _, _, _, z⟩ := hs
    exact z.elim
end DL
set_option Elab.async false
set_option linter.all false
/-! units first met in law_k03, as gen2.py prints them -/
namespace U
open PySem L2 DL
def b__law_cell : Ss := (.cons (.ife (.cmp .lt (.v 1) (.lenv 0))
  (.cons (.ret (.ixv 0 (.v 1)))
  .nil)
  .nil)
  (.cons (.set 2 (.c (.int 17)))
  (.cons (.for (.name 3) (.seq (.v 0))
  (.cons (.set 2 (.bin .mod (.b1 .int (.bin .add (.bin .mul (.v 2) (.c (.int 31))) (.bin .mod (.b1 .int (.v 3)) (.c (.int 1000003))))) (.c (.int 1000003))))
  .nil))
  (.cons (.ret (.bin .mod (.b1 .int (.bin .mul (.bin .mul (.bin .add (.v 2) (.c (.int 7))) (.bin .add (.v 1) (.c (.int 3)))) (.c (.int 69621)))) (.c (.int 2147483647))))
  .nil))))
def n__law_cell : List D → DR := (Df.mk 4 b__law_cell).run (tbl [])
def b__law_digits : Ss := (.cons (.setN 2 (.disp .nil))
  (.cons (.set 3 (.b1 .int (.v 0)))
  (.cons (.ife (.cmp .ge (.v 3) (.bin .pow (.c (.int 10)) (.c (.int 18))))
  (.cons (.set 3 (.bin .sub (.v 3) (.bin .pow (.c (.int 10)) (.c (.int 18)))))
  (.cons (.for (.name 4) (.seq (.v 1))
  (.cons (.app 2 (.bin .mod (.b1 .int (.v 3)) (.v 4)))
  (.cons (.set 3 (.bin .fdiv (.b1 .int (.v 3)) (.v 4)))
  .nil)))
  (.cons (.ret (.v 2))
  .nil)))
  .nil)
  (.cons (.set 5 (.bin .mod (.b1 .int (.v 3)) (.c (.int 2147483629))))
  (.cons (.for (.name 6) (.rng1 (.lenv 1))
  (.cons (.set 5 (.bin .mod (.b1 .int (.bin .add (.bin .add (.bin .mul (.v 5) (.c (.int 48271))) (.bin .mul (.c (.int 974711)) (.v 6))) (.c (.int 12345)))) (.c (.int 2147483647))))
  (.cons (.set 7 (.bin .mod (.b1 .int (.bin .mul (.v 5) (.bin .add (.bin .fdiv (.v 5) (.c (.int 65537))) (.c (.int 3))))) (.c (.int 2147483629))))
  (.cons (.app 2 (.bin .mod (.bin .fdiv (.v 7) (.c (.int 19))) (.ixv 1 (.v 6))))
  .nil))))
  (.cons (.ret (.v 2))
  .nil))))))
def n__law_digits : List D → DR := (Df.mk 8 b__law_digits).run (tbl [])
def b__law_divisor : Ss := (.cons (.set 2 (.v 0))
  (.cons (.set 3 (.v 1))
  (.cons (.for (.name 4) (.rng1 (.c (.int 20)))
  (.cons (.ife (.cmp .eq (.v 3) (.c (.int 0)))
  (.cons (.ret (.v 2))
  .nil)
  .nil)
  (.cons (.set 5 (.bin .mod (.b1 .int (.v 2)) (.v 3)))
  (.cons (.set 2 (.v 3))
  (.cons (.set 3 (.v 5))
  .nil)))))
  (.cons (.ret (.v 2))
  .nil))))
def n__law_divisor : List D → DR := (Df.mk 6 b__law_divisor).run (tbl [])
def b__law_joined : Ss := (.cons (.setN 5 (.lrng (.rng1 (.bin .add (.v 0) (.v 1)))))
  (.cons (.for (.name 6) (.rng1 (.v 2))
  (.cons (.set 7 (.ixv 5 (.bin .mod (.b1 .int (.v 6)) (.v 0))))
  (.cons (.set 8 (.ixv 5 (.bin .add (.v 0) (.bin .mod (.b1 .int (.v 6)) (.v 1)))))
  (.cons (.for (.name 9) (.rng1 (.bin .add (.v 0) (.v 1)))
  (.cons (.ife (.cmp .eq (.ixv 5 (.v 9)) (.v 8))
  (.cons (.seti 5 (.v 9) (.v 7))
  .nil)
  .nil)
  .nil))
  .nil))))
  (.cons (.setN 10 (.lc [11] (.name 11) (.seq (.v 5)) .nil (.bin .add (.c (.int 1)) (.bin .mod (.b1 .int (.bin .add (.v 3) (.bin .mul (.v 11) (.bin .add (.c (.int 1)) (.bin .mod (.b1 .int (.v 4)) (.c (.int 996))))))) (.c (.int 997))))))
  (.cons (.ret (.new (.disp (.cons (.b1 .tuple (.new (.sl (.v 10) .none (.some (.v 0))))) (.cons (.b1 .tuple (.new (.sl (.v 10) (.some (.v 0)) .none))) .nil)))))
  .nil))))
def n__law_joined : List D → DR := (Df.mk 12 b__law_joined).run (tbl [])
def b__law_anew : Ss := (.cons (.set 3 (.bin .mod (.b1 .int (.v 1)) (.lenv 0)))
  (.cons (.ret (.bin .mul (.bin .add (.sl (.v 0) (.some (.v 3)) .none) (.sl (.v 0) .none (.some (.v 3)))) (.bin .add (.c (.int 1)) (.bin .mod (.b1 .int (.v 2)) (.bin .fdiv (.c (.int 8)) (.lenv 0))))))
  .nil))
def n__law_anew : List D → DR := (Df.mk 4 b__law_anew).run (tbl [])
def b_root : Ss := (.cons (.set 1 (.lenv 0))
  (.cons (.for (.name 2) (.rng2 (.c (.int 1)) (.v 1))
  (.cons (.ife (.and (.cmp .eq (.bin .mod (.v 1) (.v 2)) (.c (.int 0))) (.one (.cmp .eq (.bin .mul (.sl (.v 0) .none (.some (.v 2))) (.bin .fdiv (.v 1) (.v 2))) (.v 0))))
  (.cons (.ret (.sl (.v 0) .none (.some (.v 2))))
  .nil)
  .nil)
  .nil))
  (.cons (.ret (.v 0))
  .nil)))
def n_root : List D → DR := (Df.mk 3 b_root).run (tbl [])
def b_turned : Ss := (.cons (.ret (.bin .add (.sl (.v 0) (.some (.v 1)) .none) (.sl (.v 0) .none (.some (.v 1)))))
  .nil)
def n_turned : List D → DR := (Df.mk 2 b_turned).run (tbl [])
def b_turns : Ss := (.cons (.setN 1 (.dnew true))
  (.cons (.for (.name 2) (.rng1 (.lenv 0))
  (.cons (.seti 1 (.call 0 (.cons (.v 0) (.cons (.v 2) .nil))) (.c (.bl true)))
  .nil))
  (.cons (.ret (.b1 .tuple (.new (.sort (.new (.listv 1))))))
  .nil)))
def n_turns : List D → DR := (Df.mk 3 b_turns).run (tbl [n_turned])
def b_least_turn : Ss := (.cons (.ret (.ix (.call 0 (.cons (.v 0) .nil)) (.c (.int 0))))
  .nil)
def n_least_turn : List D → DR := (Df.mk 1 b_least_turn).run (tbl [n_turns])
def b_same_winding : Ss := (.cons (.ret (.cmp .eq (.call 1 (.cons (.call 0 (.cons (.v 0) .nil)) .nil)) (.call 1 (.cons (.call 0 (.cons (.v 1) .nil)) .nil))))
  .nil)
def n_same_winding : List D → DR := (Df.mk 2 b_same_winding).run (tbl [n_root, n_least_turn])
def b_row_at : Ss := (.cons (.set 3 (.lenv 0))
  (.cons (.set 4 (.bin .add (.bin .sub (.v 1) (.v 2)) (.c (.int 1))))
  (.cons (.ret (.b1 .tuple (.new (.lc [5] (.name 5) (.rng1 (.v 2)) .nil (.ixv 0 (.bin .mod (.bin .add (.v 4) (.v 5)) (.v 3)))))))
  .nil)))
def n_row_at : List D → DR := (Df.mk 6 b_row_at).run (tbl [])
def b_rows_at : Ss := (.cons (.ret (.b1 .tuple (.new (.lc [2] (.name 2) (.rng1 (.lenv 0)) .nil (.call 0 (.cons (.v 0) (.cons (.v 2) (.cons (.v 1) .nil))))))))
  .nil)
def n_rows_at : List D → DR := (Df.mk 3 b_rows_at).run (tbl [n_row_at])
def b_share : Ss := (.cons (.set 3 (.call 0 (.cons (.v 0) (.cons (.v 2) .nil))))
  (.cons (.for (.name 4) (.seq (.call 0 (.cons (.v 1) (.cons (.v 2) .nil))))
  (.cons (.ife (.inv false (.v 4) 3)
  (.cons (.ret (.c (.bl true)))
  .nil)
  .nil)
  .nil))
  (.cons (.ret (.c (.bl false)))
  .nil)))
def n_share : List D → DR := (Df.mk 5 b_share).run (tbl [n_rows_at])
def b_shared_length : Ss := (.cons (.ife (.call 0 (.cons (.v 0) (.cons (.v 1) .nil)))
  (.cons (.ret (.c .non))
  .nil)
  .nil)
  (.cons (.set 2 (.c (.int 0)))
  (.cons (.while 16777216 (.call 1 (.cons (.v 0) (.cons (.v 1) (.cons (.bin .add (.v 2) (.c (.int 1))) .nil))))
  (.cons (.set 2 (.bin .add (.v 2) (.c (.int 1))))
  .nil))
  (.cons (.ret (.v 2))
  .nil))))
def n_shared_length : List D → DR := (Df.mk 3 b_shared_length).run (tbl [n_same_winding, n_share])
def b__law_whole : Ss := (.cons (.ret (.and (.b1 (.isi .int) (.v 0)) (.one (.not (.b1 (.isi .bool) (.v 0))))))
  .nil)
def n__law_whole : List D → DR := (Df.mk 1 b__law_whole).run (tbl [])
def b__law_ring : Ss := (.cons (.setN 1 (.lc [3] (.name 3) (.seq (.new (.sl (.v 0) (.some (.c (.int 3))) (.some (.bin .add (.c (.int 4)) (.bin .mod (.b1 .int (.ixv 0 (.c (.int 0)))) (.c (.int 8)))))))) .nil (.bin .add (.c (.int 1)) (.bin .mod (.b1 .int (.v 3)) (.c (.int 999))))))
  (.cons (.ife (.cmp .eq (.ixv 0 (.c (.int 1))) (.c (.int 1)))
  (.cons (.setN 1 (.lc [4] (.name 4) (.seq (.v 1)) .nil (.ixv 1 (.bin .mod (.b1 .int (.v 4)) (.b2 .min (.c (.int 2)) (.lenv 1))))))
  .nil)
  .nil)
  (.cons (.ife (.cmp .ge (.ixv 0 (.c (.int 1))) (.c (.int 2)))
  (.cons (.set 2 (.bin .add (.c (.int 1)) (.bin .mod (.b1 .int (.ixv 0 (.c (.int 0)))) (.c (.int 4)))))
  (.cons (.setN 1 (.rep (.new (.sl (.v 1) .none (.some (.v 2)))) (.bin .add (.c (.int 2)) (.bin .mod (.b1 .int (.ixv 0 (.c (.int 2)))) (.bin .sub (.bin .fdiv (.c (.int 8)) (.v 2)) (.c (.int 1)))))))
  .nil))
  .nil)
  (.cons (.ret (.b1 .tuple (.v 1)))
  .nil))))
def n__law_ring : List D → DR := (Df.mk 5 b__law_ring).run (tbl [])
def b__law_stranger : Ss := (.cons (.set 2 (.v 0))
  (.cons (.for (.name 3) (.rng1 (.c (.int 8)))
  (.cons (.ife (.inv false (.v 2) 1)
  (.cons (.set 2 (.bin .add (.c (.int 1)) (.bin .mod (.b1 .int (.v 2)) (.c (.int 999)))))
  .nil)
  .nil)
  .nil))
  (.cons (.ret (.v 2))
  .nil)))
def n__law_stranger : List D → DR := (Df.mk 4 b__law_stranger).run (tbl [])
def b__law_root_size : Ss := (.cons (.set 1 (.lenv 0))
  (.cons (.for (.name 2) (.rng2 (.c (.int 1)) (.v 1))
  (.cons (.ife (.and (.cmp .eq (.bin .mod (.b1 .int (.v 1)) (.v 2)) (.c (.int 0))) (.one (.cmp .eq (.b1 .len (.new (.lc [3] (.name 3) (.rng2 (.v 2) (.v 1)) (.cons (.cmp .ne (.ixv 0 (.v 3)) (.ixv 0 (.bin .sub (.v 3) (.v 2)))) .nil) (.v 3)))) (.c (.int 0)))))
  (.cons (.ret (.v 2))
  .nil)
  .nil)
  .nil))
  (.cons (.ret (.v 1))
  .nil)))
def n__law_root_size : List D → DR := (Df.mk 4 b__law_root_size).run (tbl [])
def b_shared_bound : Ss := (.cons (.set 2 (.b1 .len (.call 0 (.cons (.v 0) .nil))))
  (.cons (.set 3 (.b1 .len (.call 0 (.cons (.v 1) .nil))))
  (.cons (.ret (.bin .sub (.bin .sub (.bin .add (.v 2) (.v 3)) (.b2 .gcd (.v 2) (.v 3))) (.c (.int 1))))
  .nil)))
def n_shared_bound : List D → DR := (Df.mk 4 b_shared_bound).run (tbl [n_root])
def b__law_alike : Ss := (.cons (.for (.name 2) (.rng1 (.lenv 1))
  (.cons (.set 3 (.c (.bl false)))
  (.cons (.for (.name 4) (.rng1 (.bin .mul (.lenv 0) (.lenv 1)))
  (.cons (.ife (.cmp .ne (.ixv 0 (.bin .mod (.b1 .int (.v 4)) (.lenv 0))) (.ixv 1 (.bin .mod (.b1 .int (.bin .add (.v 2) (.v 4))) (.lenv 1))))
  (.cons (.set 3 (.c (.bl true)))
  (.cons .brk
  .nil))
  .nil)
  .nil))
  (.cons (.ife (.not (.v 3))
  (.cons (.ret (.c (.bl true)))
  .nil)
  .nil)
  .nil))))
  (.cons (.ret (.c (.bl false)))
  .nil))
def n__law_alike : List D → DR := (Df.mk 5 b__law_alike).run (tbl [])
def b__law_row : Ss := (.cons (.set 3 (.lenv 0))
  (.cons (.ret (.b1 .tuple (.new (.lc [4] (.name 4) (.rng1 (.v 2)) .nil (.ixv 0 (.bin .mod (.b1 .int (.bin .add (.bin .add (.bin .sub (.v 1) (.v 2)) (.c (.int 1))) (.v 4))) (.v 3)))))))
  .nil))
def n__law_row : List D → DR := (Df.mk 5 b__law_row).run (tbl [])
def b__law_common : Ss := (.cons (.setN 3 (.lc [4] (.name 4) (.rng1 (.lenv 0)) .nil (.call 0 (.cons (.v 0) (.cons (.v 4) (.cons (.v 2) .nil))))))
  (.cons (.for (.name 4) (.rng1 (.lenv 1))
  (.cons (.ife (.inv false (.call 0 (.cons (.v 1) (.cons (.v 4) (.cons (.v 2) .nil)))) 3)
  (.cons (.ret (.c (.bl true)))
  .nil)
  .nil)
  .nil))
  (.cons (.ret (.c (.bl false)))
  .nil)))
def n__law_common : List D → DR := (Df.mk 5 b__law_common).run (tbl [n__law_row])
def b__law_shared : Ss := (.cons (.for (.name 2) (.rng2 (.c (.int 1)) (.c (.int 25)))
  (.cons (.ife (.not (.call 0 (.cons (.v 0) (.cons (.v 1) (.cons (.v 2) .nil)))))
  (.cons (.ret (.bin .sub (.v 2) (.c (.int 1))))
  .nil)
  .nil)
  .nil))
  (.cons (.ret (.c (.int 24)))
  .nil))
def n__law_shared : List D → DR := (Df.mk 3 b__law_shared).run (tbl [n__law_common])
def b__law_pair_right : Ss := (.cons (.set 2 (.call 0 (.cons (.v 0) .nil)))
  (.cons (.set 3 (.call 0 (.cons (.v 1) .nil)))
  (.cons (.set 4 (.bin .sub (.bin .sub (.bin .add (.v 2) (.v 3)) (.call 1 (.cons (.v 2) (.cons (.v 3) .nil)))) (.c (.int 1))))
  (.cons (.for (.name 5) (.seq (.new (.disp (.cons (.call 2 (.cons (.v 0) (.cons (.v 1) .nil))) (.cons (.call 2 (.cons (.v 1) (.cons (.v 0) .nil))) .nil)))))
  (.cons (.ife (.or (.not (.call 3 (.cons (.v 5) .nil))) (.one (.cmp .ne (.v 5) (.v 4))))
  (.cons (.ret (.c (.bl false)))
  .nil)
  .nil)
  .nil))
  (.cons (.ife (.call 4 (.cons (.v 0) (.cons (.v 1) .nil)))
  (.cons (.ret (.and (.cmp .is (.call 5 (.cons (.v 0) (.cons (.v 1) .nil))) (.c .non)) (.one (.cmp .is (.call 5 (.cons (.v 1) (.cons (.v 0) .nil))) (.c .non)))))
  .nil)
  .nil)
  (.cons (.set 6 (.call 6 (.cons (.v 0) (.cons (.v 1) .nil))))
  (.cons (.for (.name 5) (.seq (.new (.disp (.cons (.call 5 (.cons (.v 0) (.cons (.v 1) .nil))) (.cons (.call 5 (.cons (.v 1) (.cons (.v 0) .nil))) .nil)))))
  (.cons (.ife (.or (.not (.call 3 (.cons (.v 5) .nil))) (.or (.cmp .ne (.v 5) (.v 6)) (.one (.cmp .gt (.v 5) (.v 4)))))
  (.cons (.ret (.c (.bl false)))
  .nil)
  .nil)
  .nil))
  (.cons (.ret (.c (.bl true)))
  .nil))))))))
def n__law_pair_right : List D → DR := (Df.mk 7 b__law_pair_right).run (tbl [n__law_root_size, n__law_divisor, n_shared_bound, n__law_whole, n__law_alike, n_shared_length, n__law_shared])
end U
set_option Elab.async false
set_option linter.all false
/-! units first met in law_k07, as gen2.py prints them -/
namespace U
open PySem L2 DL
def b__law_number : Ss := (.cons (.set 1 (.ix (.new (.disp (.cons (.ixv 0 (.c (.int 2))) (.cons (.ixv 0 (.c (.int 3))) (.cons (.ixv 0 (.c (.int 4))) (.cons (.bin .mul (.ixv 0 (.c (.int 2))) (.ixv 0 (.c (.int 5)))) .nil)))))) (.ixv 0 (.c (.int 0)))))
  (.cons (.ret (.bin .mul (.v 1) (.bin .sub (.c (.int 1)) (.bin .mul (.c (.int 2)) (.ixv 0 (.c (.int 1)))))))
  .nil))
def n__law_number : List D → DR := (Df.mk 2 b__law_number).run (tbl [])
def b__law_pair_v2 : Ss := (.cons (.ife (.cmp .eq (.v 1) (.c (.int 0)))
  (.cons (.ret (.tup (.cons (.bin .mul (.v 0) (.v 2)) (.cons (.v 2) .nil))))
  .nil)
  .nil)
  (.cons (.ret (.tup (.cons (.bin .mul (.v 0) (.v 2)) (.cons (.bin .mul (.v 1) (.v 2)) .nil))))
  .nil))
def n__law_pair_v2 : List D → DR := (Df.mk 3 b__law_pair_v2).run (tbl [])
def b_ratio : Ss := (.cons (.set 2 (.b2 .gcd (.v 0) (.v 1)))
  (.cons (.ife (.cmp .lt (.v 1) (.c (.int 0)))
  (.cons (.set 2 (.neg (.v 2)))
  .nil)
  .nil)
  (.cons (.ret (.tup (.cons (.bin .fdiv (.v 0) (.v 2)) (.cons (.bin .fdiv (.v 1) (.v 2)) .nil))))
  .nil)))
def n_ratio : List D → DR := (Df.mk 3 b_ratio).run (tbl [])
def b__law_divisor_v2 : Ss := (.cons (.set 2 (.b1 .abs (.v 0)))
  (.cons (.set 3 (.b1 .abs (.v 1)))
  (.cons (.for (.name 4) (.rng1 (.c (.int 4000)))
  (.cons (.ife (.cmp .eq (.v 3) (.c (.int 0)))
  (.cons (.ret (.v 2))
  .nil)
  .nil)
  (.cons (.set 5 (.bin .mod (.b1 .int (.v 2)) (.v 3)))
  (.cons (.set 2 (.v 3))
  (.cons (.set 3 (.v 5))
  .nil)))))
  (.cons (.ret (.v 2))
  .nil))))
def n__law_divisor_v2 : List D → DR := (Df.mk 6 b__law_divisor_v2).run (tbl [])
def b__law_is_ratio : Ss := (.cons (.ife (.or (.not (.b1 (.isi .tuple) (.v 0))) (.or (.cmp .ne (.lenv 0) (.c (.int 2))) (.or (.not (.call 0 (.cons (.ixv 0 (.c (.int 0))) .nil))) (.one (.not (.call 0 (.cons (.ixv 0 (.c (.int 1))) .nil)))))))
  (.cons (.ret (.c (.bl false)))
  .nil)
  .nil)
  (.cons (.ife (.or (.cmp .lt (.ixv 0 (.c (.int 1))) (.c (.int 1))) (.one (.cmp .ne (.bin .mul (.ixv 0 (.c (.int 0))) (.v 2)) (.bin .mul (.ixv 0 (.c (.int 1))) (.v 1)))))
  (.cons (.ret (.c (.bl false)))
  .nil)
  .nil)
  (.cons (.ret (.cmp .eq (.call 1 (.cons (.ixv 0 (.c (.int 0))) (.cons (.ixv 0 (.c (.int 1))) .nil))) (.c (.int 1))))
  .nil)))
def n__law_is_ratio : List D → DR := (Df.mk 3 b__law_is_ratio).run (tbl [n__law_whole, n__law_divisor_v2])
def b_ratio_text : Ss := (.cons (.ife (.cmp .eq (.ixv 0 (.c (.int 1))) (.c (.int 1)))
  (.cons (.ret (.b1 .str (.ixv 0 (.c (.int 0)))))
  .nil)
  .nil)
  (.cons (.ret (.bin .add (.bin .add (.b1 .str (.ixv 0 (.c (.int 0)))) (.c (.str "/"))) (.b1 .str (.ixv 0 (.c (.int 1))))))
  .nil))
def n_ratio_text : List D → DR := (Df.mk 1 b_ratio_text).run (tbl [])
def b_plus : Ss := (.cons (.ret (.call 0 (.cons (.bin .add (.bin .mul (.ixv 0 (.c (.int 0))) (.ixv 1 (.c (.int 1)))) (.bin .mul (.ixv 1 (.c (.int 0))) (.ixv 0 (.c (.int 1))))) (.cons (.bin .mul (.ixv 0 (.c (.int 1))) (.ixv 1 (.c (.int 1)))) .nil))))
  .nil)
def n_plus : List D → DR := (Df.mk 2 b_plus).run (tbl [n_ratio])
def b_minus : Ss := (.cons (.ret (.call 0 (.cons (.bin .sub (.bin .mul (.ixv 0 (.c (.int 0))) (.ixv 1 (.c (.int 1)))) (.bin .mul (.ixv 1 (.c (.int 0))) (.ixv 0 (.c (.int 1))))) (.cons (.bin .mul (.ixv 0 (.c (.int 1))) (.ixv 1 (.c (.int 1)))) .nil))))
  .nil)
def n_minus : List D → DR := (Df.mk 2 b_minus).run (tbl [n_ratio])
def b_times : Ss := (.cons (.ret (.call 0 (.cons (.bin .mul (.ixv 0 (.c (.int 0))) (.ixv 1 (.c (.int 0)))) (.cons (.bin .mul (.ixv 0 (.c (.int 1))) (.ixv 1 (.c (.int 1)))) .nil))))
  .nil)
def n_times : List D → DR := (Df.mk 2 b_times).run (tbl [n_ratio])
def b_is_less : Ss := (.cons (.ret (.cmp .lt (.bin .mul (.ixv 0 (.c (.int 0))) (.ixv 1 (.c (.int 1)))) (.bin .mul (.ixv 1 (.c (.int 0))) (.ixv 0 (.c (.int 1))))))
  .nil)
def n_is_less : List D → DR := (Df.mk 2 b_is_less).run (tbl [])
def b__law_truth : Ss := (.cons (.ife (.v 1)
  (.cons (.ret (.cmp .is (.v 0) (.c (.bl true))))
  .nil)
  .nil)
  (.cons (.ret (.cmp .is (.v 0) (.c (.bl false))))
  .nil))
def n__law_truth : List D → DR := (Df.mk 2 b__law_truth).run (tbl [])
def b__law_two_right : Ss := (.cons (.set 2 (.bin .mul (.ixv 0 (.c (.int 0))) (.ixv 1 (.c (.int 1)))))
  (.cons (.set 3 (.bin .mul (.ixv 1 (.c (.int 0))) (.ixv 0 (.c (.int 1)))))
  (.cons (.set 4 (.bin .mul (.ixv 0 (.c (.int 1))) (.ixv 1 (.c (.int 1)))))
  (.cons (.ife (.not (.call 1 (.cons (.call 0 (.cons (.v 0) (.cons (.v 1) .nil))) (.cons (.bin .add (.v 2) (.v 3)) (.cons (.v 4) .nil)))))
  (.cons (.ret (.c (.bl false)))
  .nil)
  .nil)
  (.cons (.ife (.not (.call 1 (.cons (.call 2 (.cons (.v 0) (.cons (.v 1) .nil))) (.cons (.bin .sub (.v 2) (.v 3)) (.cons (.v 4) .nil)))))
  (.cons (.ret (.c (.bl false)))
  .nil)
  .nil)
  (.cons (.ife (.not (.call 1 (.cons (.call 3 (.cons (.v 0) (.cons (.v 1) .nil))) (.cons (.bin .mul (.ixv 0 (.c (.int 0))) (.ixv 1 (.c (.int 0)))) (.cons (.v 4) .nil)))))
  (.cons (.ret (.c (.bl false)))
  .nil)
  .nil)
  (.cons (.ret (.call 5 (.cons (.call 4 (.cons (.v 0) (.cons (.v 1) .nil))) (.cons (.cmp .lt (.v 2) (.v 3)) .nil))))
  .nil)))))))
def n__law_two_right : List D → DR := (Df.mk 5 b__law_two_right).run (tbl [n_plus, n__law_is_ratio, n_minus, n_times, n_is_less, n__law_truth])
def b__law_fractions_right : Ss := (.cons (.setN 1 (.disp .nil))
  (.cons (.for (.name 2) (.seq (.v 0))
  (.cons (.set 3 (.call 0 (.cons (.ixv 2 (.c (.int 0))) (.cons (.ixv 2 (.c (.int 1))) .nil))))
  (.cons (.ife (.not (.call 1 (.cons (.v 3) (.cons (.ixv 2 (.c (.int 0))) (.cons (.ixv 2 (.c (.int 1))) .nil)))))
  (.cons (.ret (.c (.bl false)))
  .nil)
  .nil)
  (.cons (.set 4 (.b1 .str (.ixv 3 (.c (.int 0)))))
  (.cons (.ife (.cmp .gt (.ixv 3 (.c (.int 1))) (.c (.int 1)))
  (.cons (.set 4 (.bin .add (.bin .add (.v 4) (.c (.str "/"))) (.b1 .str (.ixv 3 (.c (.int 1))))))
  .nil)
  .nil)
  (.cons (.set 5 (.call 2 (.cons (.v 3) .nil)))
  (.cons (.ife (.or (.not (.b1 (.isi .str) (.v 5))) (.one (.cmp .ne (.v 5) (.v 4))))
  (.cons (.ret (.c (.bl false)))
  .nil)
  .nil)
  (.cons (.app 1 (.v 3))
  .nil))))))))
  (.cons (.for (.name 6) (.seq (.v 1))
  (.cons (.for (.name 7) (.seq (.v 1))
  (.cons (.ife (.not (.call 3 (.cons (.v 6) (.cons (.v 7) .nil))))
  (.cons (.ret (.c (.bl false)))
  .nil)
  .nil)
  .nil))
  .nil))
  (.cons (.ret (.c (.bl true)))
  .nil))))
def n__law_fractions_right : List D → DR := (Df.mk 8 b__law_fractions_right).run (tbl [n_ratio, n__law_is_ratio, n_ratio_text, n__law_two_right])
def b__law_signs : Ss := (.cons (.ret (.bin .add (.c (.str " !\"#$&'()*+,-./0123456789:;<=>?@ABCDEFGHIJKLMNOPQRSTUVWXYZ[\\]^_`")) (.c (.str "abcdefghijklmnopqrstuvwxyz{|}~"))))
  .nil)
def n__law_signs : List D → DR := (Df.mk 0 b__law_signs).run (tbl [])
def b__law_spoilt : Ss := (.cons (.set 3 (.bin .mod (.b1 .int (.v 1)) (.bin .add (.lenv 0) (.c (.int 1)))))
  (.cons (.ret (.new (.disp (.cons (.bin .add (.bin .add (.sl (.v 0) .none (.some (.v 3))) (.v 2)) (.sl (.v 0) (.some (.v 3)) .none)) (.cons (.bin .add (.bin .add (.sl (.v 0) .none (.some (.v 3))) (.v 2)) (.sl (.v 0) (.some (.bin .add (.v 3) (.c (.int 1)))) .none)) (.cons (.bin .add (.sl (.v 0) .none (.some (.v 3))) (.sl (.v 0) (.some (.bin .add (.v 3) (.c (.int 1)))) .none)) .nil))))))
  .nil))
def n__law_spoilt : List D → DR := (Df.mk 4 b__law_spoilt).run (tbl [])
def b__law_numerals : Ss := (.cons (.set 3 (.b1 .str (.v 0)))
  (.cons (.setN 4 (.disp (.cons (.v 3) (.cons (.c (.str "")) (.cons (.c (.str "-")) (.cons (.c (.str "0")) (.cons (.c (.str "-0")) (.cons (.c (.str "00")) (.cons (.c (.str "-00")) (.cons (.c (.str "999999")) (.cons (.c (.str "1000000")) (.cons (.c (.str "-999999")) (.cons (.c (.str "-1000000")) (.cons (.c (.str "0000007")) (.cons (.c (.str "1_0")) (.cons (.c (.str "1.0")) .nil))))))))))))))))
  (.cons (.setN 4 (.cat (.v 4) (.new (.disp (.cons (.bin .add (.c (.str "-")) (.v 3)) (.cons (.bin .add (.c (.str "+")) (.v 3)) (.cons (.bin .add (.c (.str "0")) (.v 3)) (.cons (.bin .add (.c (.str " ")) (.v 3)) (.cons (.bin .add (.v 3) (.c (.str " "))) (.cons (.bin .add (.v 3) (.c (.str "\n"))) (.cons (.bin .add (.c (.str "\n")) (.v 3)) (.cons (.bin .add (.v 3) (.c (.str "-"))) .nil))))))))))))
  (.cons (.setN 4 (.cat (.new (.cat (.v 4) (.call 0 (.cons (.c (.str "123456")) (.cons (.v 1) (.cons (.v 2) .nil)))))) (.call 0 (.cons (.c (.str "-98765")) (.cons (.v 1) (.cons (.v 2) .nil))))))
  (.cons (.ret (.new (.cat (.v 4) (.call 0 (.cons (.v 3) (.cons (.v 1) (.cons (.v 2) .nil)))))))
  .nil)))))
def n__law_numerals : List D → DR := (Df.mk 5 b__law_numerals).run (tbl [n__law_spoilt])
def b__law_reserved : Ss := (.cons (.set 0 (.c (.str "me size item look has lacks row letter put send answer if else end rest start heard done box table")))
  (.cons (.ret (.new (.split (.bin .add (.v 0) (.c (.str " stamps program is max min mod"))) (.c (.str " ")))))
  .nil))
def n__law_reserved : List D → DR := (Df.mk 1 b__law_reserved).run (tbl [])
def b__law_names_v3 : Ss := (.cons (.set 3 (.c (.str "abcdefghijklmnopqrstuvwxyz")))
  (.cons (.set 4 (.m1 .join (.c (.str "")) (.new (.lc [8] (.name 8) (.seq (.new (.sl (.v 0) (.some (.c (.int 1))) (.some (.bin .add (.c (.int 2)) (.bin .mod (.b1 .int (.ixv 0 (.c (.int 0)))) (.c (.int 8)))))))) .nil (.ixv 3 (.bin .mod (.b1 .int (.v 8)) (.c (.int 26))))))))
  (.cons (.set 5 (.sl (.bin .mul (.v 4) (.c (.int 9))) .none (.some (.c (.int 8)))))
  (.cons (.setN 6 (.disp (.cons (.v 4) (.cons (.v 5) (.cons (.bin .add (.v 5) (.c (.str "z"))) (.cons (.b1 .upper (.v 4)) (.cons (.bin .add (.v 4) (.c (.str "\n"))) (.cons (.bin .add (.bin .add (.v 4) (.c (.str " "))) (.v 4)) (.cons (.bin .add (.v 4) (.c (.str "0"))) (.cons (.bin .add (.v 4) (.c (.str "_"))) (.cons (.c (.str "{")) .nil)))))))))))
  (.cons (.for (.name 7) (.seq (.call0 0))
  (.cons (.setN 6 (.cat (.v 6) (.new (.disp (.cons (.v 7) (.cons (.bin .add (.v 7) (.sl (.v 4) .none (.some (.c (.int 1))))) (.cons (.sl (.v 7) .none (.some (.bin .sub (.lenv 7) (.c (.int 1))))) (.cons (.bin .add (.sl (.v 4) .none (.some (.c (.int 1)))) (.sl (.v 7) (.some (.c (.int 1))) .none)) (.cons (.b1 .upper (.v 7)) .nil)))))))))
  .nil))
  (.cons (.ret (.new (.cat (.new (.cat (.v 6) (.call 1 (.cons (.v 4) (.cons (.v 1) (.cons (.v 2) .nil)))))) (.call 1 (.cons (.v 5) (.cons (.v 1) (.cons (.v 2) .nil)))))))
  .nil))))))
def n__law_names_v3 : List D → DR := (Df.mk 9 b__law_names_v3).run (tbl [n__law_reserved, n__law_spoilt])
def b__law_lines : Ss := (.cons (.setN 3 (.disp .nil))
  (.cons (.for (.name 4) (.rng1 (.bin .add (.c (.int 1)) (.bin .mod (.b1 .int (.ixv 0 (.c (.int 0)))) (.c (.int 8)))))
  (.cons (.setN 5 (.sl (.v 0) (.some (.bin .add (.c (.int 9)) (.bin .mul (.c (.int 5)) (.v 4)))) (.some (.bin .add (.bin .add (.c (.int 10)) (.bin .mul (.c (.int 5)) (.v 4))) (.bin .mod (.b1 .int (.ixv 0 (.bin .add (.c (.int 1)) (.v 4)))) (.c (.int 5)))))))
  (.cons (.app 3 (.m1 .join (.c (.str "")) (.new (.lc [12] (.name 12) (.seq (.v 5)) .nil (.ixv 2 (.bin .add (.c (.int 1)) (.bin .mod (.b1 .int (.v 12)) (.c (.int 93)))))))))
  .nil)))
  (.cons (.set 6 (.bin .mod (.b1 .int (.v 1)) (.lenv 3)))
  (.cons (.set 7 (.m1 .join (.c (.str " ")) (.v 3)))
  (.cons (.set 8 (.m1 .join (.c (.str " ")) (.new (.cat (.new (.cat (.new (.sl (.v 3) .none (.some (.v 6)))) (.new (.disp (.cons (.c (.str "")) .nil))))) (.new (.sl (.v 3) (.some (.v 6)) .none))))))
  (.cons (.set 9 (.ix (.new (.disp (.cons (.c (.int 94)) (.cons (.c (.int 3)) (.cons (.c (.int 20)) .nil))))) (.bin .mod (.b1 .int (.v 1)) (.c (.int 3)))))
  (.cons (.set 10 (.m1 .join (.c (.str "")) (.new (.lc [12] (.name 12) (.seq (.new (.sl (.v 0) (.some (.c (.int 9))) (.some (.bin .add (.c (.int 9)) (.b1 .int (.v 1))))))) .nil (.ixv 2 (.bin .mod (.b1 .int (.v 12)) (.v 9)))))))
  (.cons (.setN 11 (.disp (.cons (.v 7) (.cons (.v 8) (.cons (.bin .add (.c (.str " ")) (.v 7)) (.cons (.bin .add (.v 7) (.c (.str " "))) (.cons (.c (.str " ")) (.cons (.c (.str "  ")) (.cons (.ixv 3 (.v 6)) (.cons (.v 10) (.cons (.bin .add (.bin .add (.v 7) (.c (.str "  "))) (.v 7)) (.cons (.bin .add (.bin .add (.v 7) (.c (.str " "))) (.v 7)) .nil))))))))))))
  (.cons (.ret (.new (.cat (.v 11) (.new (.disp (.cons (.m1 .join (.c (.str " ")) (.new (.rep (.new (.disp (.cons (.v 7) .nil))) (.c (.int 40))))) (.cons (.m1 .join (.c (.str " ")) (.new (.cat (.new (.cat (.new (.rep (.new (.disp (.cons (.v 7) .nil))) (.c (.int 20)))) (.new (.disp (.cons (.c (.str "")) .nil))))) (.new (.disp (.cons (.v 7) .nil)))))) (.cons (.m1 .join (.c (.str " ")) (.new (.cat (.new (.rep (.new (.disp (.cons (.v 7) .nil))) (.c (.int 20)))) (.new (.disp (.cons (.v 8) .nil)))))) .nil))))))))
  .nil)))))))))
def n__law_lines : List D → DR := (Df.mk 13 b__law_lines).run (tbl [])
def b_digits_of : Ss := (.cons (.ife (.or (.not (.chain .le .le (.c (.int 1)) (.lenv 0) (.c (.int 6)))) (.one (.and (.cmp .eq (.ixv 0 (.c (.int 0))) (.c (.str "0"))) (.one (.cmp .gt (.lenv 0) (.c (.int 1)))))))
  (.cons (.ret (.c .non))
  .nil)
  .nil)
  (.cons (.set 1 (.c (.int 0)))
  (.cons (.for (.name 2) (.seq (.v 0))
  (.cons (.ife (.cmp .notin (.v 2) (.c (.str "0123456789")))
  (.cons (.ret (.c .non))
  .nil)
  .nil)
  (.cons (.set 1 (.bin .add (.bin .mul (.v 1) (.c (.int 10))) (.m1 .sindex (.c (.str "0123456789")) (.v 2))))
  .nil)))
  (.cons (.ret (.v 1))
  .nil))))
def n_digits_of : List D → DR := (Df.mk 3 b_digits_of).run (tbl [])
def b_number_of : Ss := (.cons (.ife (.cmp .ne (.sl (.v 0) .none (.some (.c (.int 1)))) (.c (.str "-")))
  (.cons (.ret (.call 0 (.cons (.v 0) .nil)))
  .nil)
  .nil)
  (.cons (.set 1 (.call 0 (.cons (.sl (.v 0) (.some (.c (.int 1))) .none) .nil)))
  (.cons (.ife (.or (.cmp .is (.v 1) (.c .non)) (.one (.cmp .eq (.v 1) (.c (.int 0)))))
  (.cons (.ret (.c .non))
  .nil)
  .nil)
  (.cons (.ret (.neg (.v 1)))
  .nil))))
def n_number_of : List D → DR := (Df.mk 2 b_number_of).run (tbl [n_digits_of])
def b__law_numeral : Ss := (.cons (.set 1 (.and (.cmp .gt (.lenv 0) (.c (.int 0))) (.one (.cmp .eq (.ixv 0 (.c (.int 0))) (.c (.str "-"))))))
  (.cons (.set 2 (.sl (.v 0) (.some (.b1 .int (.v 1))) .none))
  (.cons (.ife (.not (.chain .le .le (.c (.int 1)) (.lenv 2) (.c (.int 6))))
  (.cons (.ret (.c .non))
  .nil)
  .nil)
  (.cons (.set 3 (.c (.int 0)))
  (.cons (.for (.name 4) (.seq (.v 2))
  (.cons (.ife (.cmp .notin (.v 4) (.c (.str "0123456789")))
  (.cons (.ret (.c .non))
  .nil)
  .nil)
  (.cons (.set 3 (.bin .add (.bin .mul (.v 3) (.c (.int 10))) (.m1 .sindex (.c (.str "0123456789")) (.v 4))))
  .nil)))
  (.cons (.ife (.and (.cmp .eq (.ixv 2 (.c (.int 0))) (.c (.str "0"))) (.one (.or (.v 1) (.one (.cmp .gt (.lenv 2) (.c (.int 1)))))))
  (.cons (.ret (.c .non))
  .nil)
  .nil)
  (.cons (.ret (.bin .mul (.v 3) (.bin .sub (.c (.int 1)) (.bin .mul (.c (.int 2)) (.b1 .int (.v 1))))))
  .nil)))))))
def n__law_numeral : List D → DR := (Df.mk 5 b__law_numeral).run (tbl [])
def b__law_free : Ss := (.cons (.ife (.or (.not (.chain .le .le (.c (.int 1)) (.lenv 0) (.c (.int 8)))) (.one (.cmp .inn (.v 0) (.call0 0))))
  (.cons (.ret (.c (.bl false)))
  .nil)
  .nil)
  (.cons (.ret (.cmp .eq (.b1 .len (.new (.lc [1] (.name 1) (.seq (.v 0)) (.cons (.cmp .notin (.v 1) (.c (.str "abcdefghijklmnopqrstuvwxyz"))) .nil) (.v 1)))) (.c (.int 0))))
  .nil))
def n__law_free : List D → DR := (Df.mk 2 b__law_free).run (tbl [n__law_reserved])
def b_is_free_word : Ss := (.cons (.ife (.or (.not (.chain .le .le (.c (.int 1)) (.lenv 0) (.c (.int 8)))) (.one (.cmp .inn (.v 0) (.c (.tups ["me", "size", "item", "look", "has", "lacks", "row", "letter", "put", "send", "answer", "if", "else", "end", "rest", "start", "heard", "done", "box", "table", "stamps", "program", "is", "max", "min", "mod"])))))
  (.cons (.ret (.c (.bl false)))
  .nil)
  .nil)
  (.cons (.for (.name 1) (.seq (.v 0))
  (.cons (.ife (.cmp .notin (.v 1) (.c (.str "abcdefghijklmnopqrstuvwxyz")))
  (.cons (.ret (.c (.bl false)))
  .nil)
  .nil)
  .nil))
  (.cons (.ret (.c (.bl true)))
  .nil)))
def n_is_free_word : List D → DR := (Df.mk 2 b_is_free_word).run (tbl [])
def b_words_of : Ss := (.cons (.set 1 (.b1 .tuple (.new (.split (.v 0) (.c (.str " "))))))
  (.cons (.ife (.inv false (.c (.str "")) 1)
  (.cons (.ret (.c .non))
  .nil)
  .nil)
  (.cons (.ret (.v 1))
  .nil)))
def n_words_of : List D → DR := (Df.mk 2 b_words_of).run (tbl [])
def b__law_words : Ss := (.cons (.setN 1 (.disp .nil))
  (.cons (.set 2 (.c (.str "")))
  (.cons (.for (.name 3) (.seq (.bin .add (.v 0) (.c (.str " "))))
  (.cons (.ife (.cmp .ne (.v 3) (.c (.str " ")))
  (.cons (.set 2 (.bin .add (.v 2) (.v 3)))
  .nil)
  (.cons (.ife (.cmp .eq (.v 2) (.c (.str "")))
  (.cons (.ret (.c .non))
  .nil)
  (.cons (.app 1 (.v 2))
  (.cons (.set 2 (.c (.str "")))
  .nil)))
  .nil))
  .nil))
  (.cons (.ret (.v 1))
  .nil))))
def n__law_words : List D → DR := (Df.mk 4 b__law_words).run (tbl [])
def b__law_string_right : Ss := (.cons (.set 1 (.call 0 (.cons (.v 0) .nil)))
  (.cons (.set 2 (.call 1 (.cons (.v 0) .nil)))
  (.cons (.ife (.and (.cmp .is (.v 2) (.c .non)) (.one (.cmp .isnot (.v 1) (.c .non))))
  (.cons (.ret (.c (.bl false)))
  .nil)
  .nil)
  (.cons (.ife (.and (.cmp .isnot (.v 2) (.c .non)) (.one (.or (.not (.call 2 (.cons (.v 1) .nil))) (.one (.cmp .ne (.v 1) (.v 2))))))
  (.cons (.ret (.c (.bl false)))
  .nil)
  .nil)
  (.cons (.ife (.not (.call 5 (.cons (.call 4 (.cons (.v 0) .nil)) (.cons (.call 3 (.cons (.v 0) .nil)) .nil))))
  (.cons (.ret (.c (.bl false)))
  .nil)
  .nil)
  (.cons (.ife (.inv false (.c (.str "\n")) 0)
  (.cons (.ret (.c (.bl true)))
  .nil)
  .nil)
  (.cons (.set 3 (.call 6 (.cons (.v 0) .nil)))
  (.cons (.set 4 (.call 7 (.cons (.v 0) .nil)))
  (.cons (.ife (.or (.cmp .is (.v 4) (.c .non)) (.one (.cmp .is (.v 3) (.c .non))))
  (.cons (.ret (.and (.cmp .is (.v 4) (.c .non)) (.one (.cmp .is (.v 3) (.c .non)))))
  .nil)
  .nil)
  (.cons (.ife (.or (.not (.b1 (.isi .tuple) (.v 3))) (.one (.cmp .ne (.lenv 3) (.lenv 4))))
  (.cons (.ret (.c (.bl false)))
  .nil)
  .nil)
  (.cons (.ret (.cmp .eq (.b1 .len (.new (.lc [5] (.name 5) (.rng1 (.lenv 4)) (.cons (.or (.not (.b1 (.isi .str) (.ixv 3 (.v 5)))) (.one (.cmp .ne (.ixv 3 (.v 5)) (.ixv 4 (.v 5))))) .nil) (.v 5)))) (.c (.int 0))))
  .nil)))))))))))
def n__law_string_right : List D → DR := (Df.mk 6 b__law_string_right).run (tbl [n_number_of, n__law_numeral, n__law_whole, n__law_free, n_is_free_word, n__law_truth, n_words_of, n__law_words])
end U
set_option Elab.async false
set_option linter.all false
set_option maxRecDepth 1000
set_option maxHeartbeats 4000000
/-! DLp: plain: the evaluator's steps. -/
namespace DL
open PySem L2
/-- an equation that simp tells the kernel -/
theorem no_rfl {α : Sort _} {a b : α} (h : a = b) : a = b := h
/-- data of ints -/
abbrev iL (ns : List Int) : List D := ns.map .int
abbrev iT (ns : List Int) : D := .tup (iL ns)
abbrev iB (ns : List Int) : D := .lst (iL ns)
section
variable {α β : Type} {Φ : Fns} {ρ : Env}
@[simp] theorem bind_ok {a : α} {f : α → Env → R β} : (R.ok a ρ).bind f = f a ρ := no_rfl rfl
@[simp] theorem bind_no {f : α → Env → R β} : (R.no).bind f = .no := no_rfl rfl
@[simp] theorem st_ok {a : α} {f : α → Env → SR} : (R.ok a ρ).st f = f a ρ := no_rfl rfl
@[simp] theorem nox_ok {a : α} : (R.ok a ρ).nox = .ok a ρ := no_rfl rfl
@[simp] theorem of_some {a : α} : R.of (some a) ρ = .ok a ρ := no_rfl rfl
@[simp] theorem r_ok {d : D} : (DR.ok d).r ρ = .ok d ρ := no_rfl rfl
@[simp] theorem end_rt {d : D} {ρ : Env} : (SR.rt d ρ).end = .ok d := no_rfl rfl
@[simp] theorem end_nx : (SR.nx ρ).end = .ok .non := no_rfl rfl
theorem getV_fz {i : Nat} {d : D} (h : ρ[i]? = some (.fz d)) : getV i ρ = .ok d ρ := by unfold getV; rw [h]
theorem getV_ow {i : Nat} {d : D} (h : ρ[i]? = some (.ow d)) : getV i ρ = .ok d (ρ.set i (.fz d)) := by unfold getV; rw [h]
theorem peekV_fz {i : Nat} {d : D} (h : ρ[i]? = some (.fz d)) : peekV i ρ = some d := by unfold peekV; rw [h]
theorem peekV_ow {i : Nat} {d : D} (h : ρ[i]? = some (.ow d)) : peekV i ρ = some d := by unfold peekV; rw [h]
/-- by a truth -/
def ifR (d : D) (a b : R α) : R α := match d with
  | .bl true => a
  | .bl false => b
  | _ => .no
@[simp] theorem ifR_t {a b : R α} : ifR (.bl true) a b = a := no_rfl rfl
@[simp] theorem ifR_f {a b : R α} : ifR (.bl false) a b = b := no_rfl rfl
@[simp] theorem ifR_and {c d : Bool} : ifR (.bl c) (.ok (D.bl d) ρ) (.ok (D.bl false) ρ) = .ok (D.bl (c && d)) ρ := by cases c <;> rfl
@[simp] theorem ifR_or {c d : Bool} : ifR (.bl c) (.ok (D.bl true) ρ) (.ok (D.bl d) ρ) = .ok (D.bl (c || d)) ρ := by cases c <;> rfl
theorem ifR_bl {c : Bool} {a b : R α} : ifR (.bl c) a b = if c then a else b := by cases c <;> rfl
@[simp] theorem ifR_ok {c : Bool} {a b : α} : ifR (.bl c) (.ok a ρ) (.ok b ρ) = .ok (if c then a else b) ρ := by cases c <;> rfl
def chR (o : Option Bool) (a b : R α) : R α := match o with
  | some true => a
  | some false => b
  | none => .no
@[simp] theorem chR_t {a b : R α} : chR (some true) a b = a := no_rfl rfl
@[simp] theorem chR_f {a b : R α} : chR (some false) a b = b := no_rfl rfl
@[simp] theorem chR_and {c d : Bool} : chR (some c) (.ok (D.bl d) ρ) (.ok (D.bl false) ρ) = .ok (D.bl (c && d)) ρ := by cases c <;> rfl
def negR (d : D) (ρ : Env) : R D := match d with
  | .int i => .ok (.int (-i)) ρ
  | _ => .no
@[simp] theorem negR_int {i : Int} : negR (.int i) ρ = .ok (.int (-i)) ρ := no_rfl rfl
@[simp] theorem notD_bl {b : Bool} : notD (.bl b) ρ = .ok (.bl (!b)) ρ := no_rfl rfl
@[simp] theorem optD_int {i : Int} : optD (.int i) ρ = .ok (some i) ρ := no_rfl rfl
@[simp] theorem eE_v {i : Nat} : evE Φ (.v i) ρ = getV i ρ := no_rfl rfl
@[simp] theorem eE_c {k : Cst} : evE Φ (.c k) ρ = .ok k.d ρ := no_rfl rfl
@[simp] theorem eE_bin {o : Bop} {a b : E} : evE Φ (.bin o a b) ρ = (evE Φ a ρ).bind fun x ρ1 => (evE Φ b ρ1).bind fun y ρ2 => R.of (bopD o x y) ρ2 := no_rfl rfl
@[simp] theorem eE_neg {a : E} : evE Φ (.neg a) ρ = (evE Φ a ρ).bind negR := no_rfl rfl
@[simp] theorem eE_not {a : E} : evE Φ (.not a) ρ = (evE Φ a ρ).bind notD := no_rfl rfl
@[simp] theorem eE_and {a b : E} : evE Φ (.and a b) ρ = (evE Φ a ρ).bind fun x ρ1 => ifR x (evE Φ b ρ1) (.ok (.bl false) ρ1) := no_rfl rfl
@[simp] theorem eE_or {a b : E} : evE Φ (.or a b) ρ = (evE Φ a ρ).bind fun x ρ1 => ifR x (.ok (.bl true) ρ1) (evE Φ b ρ1) := no_rfl rfl
@[simp] theorem eE_one {a : E} : evE Φ (.one a) ρ = evE Φ a ρ := no_rfl rfl
@[simp] theorem eE_cmp {o : Cop} {a b : E} : evE Φ (.cmp o a b) ρ = (evE Φ a ρ).bind fun x ρ1 => (evE Φ b ρ1).bind fun y ρ2 => R.of ((copD o x y).map .bl) ρ2 := no_rfl rfl
@[simp] theorem eE_chain {o p : Cop} {a b c : E} : evE Φ (.chain o p a b c) ρ = (evE Φ a ρ).bind fun x ρ1 => (evE Φ b ρ1).bind fun y ρ2 => chR (copD o x y) ((evE Φ c ρ2).bind fun z ρ3 => R.of ((copD p y z).map .bl) ρ3) (.ok (.bl false) ρ2) := no_rfl rfl
@[simp] theorem eE_ife {c a b : E} : evE Φ (.ife c a b) ρ = (evE Φ c ρ).bind fun x ρ1 => ifR x (evE Φ a ρ1) (evE Φ b ρ1) := no_rfl rfl
@[simp] theorem eE_tup {es : Es} : evE Φ (.tup es) ρ = (evEs Φ es ρ).bind fun xs ρ1 => if xs.length ≤ sizeL then .ok (.tup xs) ρ1 else .no := no_rfl rfl
@[simp] theorem eE_new {n : Nw} : evE Φ (.new n) ρ = evN Φ n ρ := no_rfl rfl
@[simp] theorem eE_ix {a i : E} : evE Φ (.ix a i) ρ = (evE Φ a ρ).bind fun x ρ1 => (evE Φ i ρ1).bind fun y ρ2 => R.of (ixD x y) ρ2 := no_rfl rfl
@[simp] theorem eE_ixv {x : Nat} {i : E} : evE Φ (.ixv x i) ρ = (R.of (peekV x ρ) ρ).bind fun _ ρ0 => (evE Φ i ρ0).bind fun y ρ1 => R.of ((peekV x ρ1).bind fun d => ixD d y) ρ1 := no_rfl rfl
@[simp] theorem eE_slx {a : E} {lo hi st : Eo} : evE Φ (.slx a lo hi st) ρ = (evE Φ a ρ).bind fun x ρ1 => (evO Φ lo ρ1).bind fun l ρ2 => (evO Φ hi ρ2).bind fun h ρ3 => (evO Φ st ρ3).bind fun k ρ4 => R.of (slxD x l h k) ρ4 := no_rfl rfl
@[simp] theorem eN_slx {a : E} {lo hi st : Eo} : evN Φ (.slx a lo hi st) ρ = (evE Φ a ρ).bind fun x ρ1 => (evO Φ lo ρ1).bind fun l ρ2 => (evO Φ hi ρ2).bind fun h ρ3 => (evO Φ st ρ3).bind fun k ρ4 => R.of (slxN x l h k) ρ4 := no_rfl rfl
@[simp] theorem eE_sl {a : E} {lo hi : Eo} : evE Φ (.sl a lo hi) ρ = (evE Φ a ρ).bind fun x ρ1 => (evO Φ lo ρ1).bind fun l ρ2 => (evO Φ hi ρ2).bind fun h ρ3 => R.of (slD x l h) ρ3 := no_rfl rfl
@[simp] theorem eE_call {f : Nat} {es : Es} : evE Φ (.call f es) ρ = (evEs Φ es ρ).bind fun xs ρ1 => (Φ f xs).r ρ1 := no_rfl rfl
@[simp] theorem eE_b1 {b : B1} {a : E} : evE Φ (.b1 b a) ρ = (evE Φ a ρ).bind fun x ρ1 => R.of (b1D b x) ρ1 := no_rfl rfl
@[simp] theorem eE_b2 {b : B2} {a c : E} : evE Φ (.b2 b a c) ρ = (evE Φ a ρ).bind fun x ρ1 => (evE Φ c ρ1).bind fun y ρ2 => R.of (b2D b x y) ρ2 := no_rfl rfl
@[simp] theorem eE_lenv {x : Nat} : evE Φ (.lenv x) ρ = R.of ((peekV x ρ).bind fun d => b1D .len d) ρ := no_rfl rfl
@[simp] theorem eE_inv {neg : Bool} {a : E} {x : Nat} : evE Φ (.inv neg a x) ρ = (evE Φ a ρ).bind fun y ρ1 => R.of ((peekV x ρ1).bind fun d => (memD y d).map fun b => .bl (if neg then !b else b)) ρ1 := no_rfl rfl
@[simp] theorem eEs_nil : evEs Φ .nil ρ = .ok [] ρ := no_rfl rfl
@[simp] theorem eEs_cons {e : E} {es : Es} : evEs Φ (.cons e es) ρ = (evE Φ e ρ).bind fun x ρ1 => (evEs Φ es ρ1).bind fun xs ρ2 => .ok (x :: xs) ρ2 := no_rfl rfl
@[simp] theorem eO_none : evO Φ .none ρ = .ok none ρ := no_rfl rfl
@[simp] theorem eO_some {e : E} : evO Φ (.some e) ρ = (evE Φ e ρ).bind optD := no_rfl rfl
@[simp] theorem eN_disp {es : Es} : evN Φ (.disp es) ρ = (evEs Φ es ρ).bind fun xs ρ1 => if xs.length ≤ sizeL then .ok (.lst xs) ρ1 else .no := no_rfl rfl
@[simp] theorem eN_cat {a b : E} : evN Φ (.cat a b) ρ = (evE Φ a ρ).bind fun x ρ1 => (evE Φ b ρ1).bind fun y ρ2 => R.of (catD x y) ρ2 := no_rfl rfl
@[simp] theorem eN_rep {a b : E} : evN Φ (.rep a b) ρ = (evE Φ a ρ).bind fun x ρ1 => (evE Φ b ρ1).bind fun y ρ2 => R.of (repD x y) ρ2 := no_rfl rfl
@[simp] theorem eN_vals {a : E} : evN Φ (.vals a) ρ = (evE Φ a ρ).bind fun x ρ1 => R.of (valsD x) ρ1 := no_rfl rfl
@[simp] theorem valsD_dct {t : Bool} {kvs : List (D × D)} : valsD (.dct t kvs) = some (.lst (kvs.map (·.2))) := no_rfl rfl
@[simp] theorem eN_listof {a : E} : evN Φ (.listof a) ρ = (evE Φ a ρ).bind fun x ρ1 => R.of (seqD x) ρ1 := no_rfl rfl
@[simp] theorem eN_listv {x : Nat} : evN Φ (.listv x) ρ = R.of ((peekV x ρ).bind seqD) ρ := no_rfl rfl
@[simp] theorem eN_dnew {t : Bool} : evN Φ (.dnew t) ρ = .ok (.dct t []) ρ := no_rfl rfl
@[simp] theorem eN_sort {a : E} : evN Φ (.sort a) ρ = (evE Φ a ρ).bind fun x ρ1 => R.of (sortD x) ρ1 := no_rfl rfl
@[simp] theorem eN_sortk {f : Nat} {a : E} : evN Φ (.sortk f a) ρ = (evE Φ a ρ).bind fun x ρ1 => R.of (sortKD (Φ f) x) ρ1 := no_rfl rfl
@[simp] theorem eN_sl {a : E} {lo hi : Eo} : evN Φ (.sl a lo hi) ρ = (evE Φ a ρ).bind fun x ρ1 => (evO Φ lo ρ1).bind fun l ρ2 => (evO Φ hi ρ2).bind fun h ρ3 => R.of (slN x l h) ρ3 := no_rfl rfl
@[simp] theorem eT_nil : evT Φ .nil ρ = .ok (.bl true) ρ := no_rfl rfl
@[simp] theorem eT_cons {e : E} {es : Es} : evT Φ (.cons e es) ρ = evE Φ e ρ := no_rfl rfl
@[simp] theorem eI_seq {e : E} : evI Φ (.seq e) ρ = (evE Φ e ρ).bind fun x ρ1 => R.of (listD x) ρ1 := no_rfl rfl
@[simp] theorem eI_rng1 {a : E} : evI Φ (.rng1 a) ρ = (evE Φ a ρ).bind rng1D := no_rfl rfl
@[simp] theorem eI_rng3 {a b c : E} : evI Φ (.rng3 a b c) ρ = (evE Φ a ρ).bind fun x ρ1 => (evE Φ b ρ1).bind fun y ρ2 => (evE Φ c ρ2).bind fun z ρ3 => rng3D x y z ρ3 := no_rfl rfl
@[simp] theorem eI_rng2 {a b : E} : evI Φ (.rng2 a b) ρ = (evE Φ a ρ).bind fun x ρ1 => (evE Φ b ρ1).bind (rng2D x) := by
  show _ = _
  unfold rng2D
  rfl
theorem rng1_int {j : Int} (h : ints62 j = true) : rng1D (.int j) ρ = .ok (rangeD 0 j) ρ := by unfold rng1D; simp [h]
theorem rng3_int {i j c : Int} (h1 : ints62 i = true) (h2 : ints62 j = true) (h3 : 0 < c) (h4 : c < 1073741824) : rng3D (.int i) (.int j) (.int c) ρ = .ok (rangeS i j c) ρ := by unfold rng3D; simp [h1, h2, h3, h4]
theorem rng2_int {i j : Int} (h1 : ints62 i = true) (h2 : ints62 j = true) : rng2D (.int i) (.int j) ρ = .ok (rangeD i j) ρ := by unfold rng2D; simp [h1, h2]
/-! statements -/
@[simp] theorem sq_nx {m : Env → SR} : seqS m (.nx ρ) = m ρ := no_rfl rfl
@[simp] theorem sq_rt {m : Env → SR} {d : D} {ρ : Env} : seqS m (.rt d ρ) = .rt d ρ := no_rfl rfl
@[simp] theorem ifS_t {a b : Env → SR} : ifS a b (.bl true) ρ = a ρ := no_rfl rfl
@[simp] theorem ifS_f {a b : Env → SR} : ifS a b (.bl false) ρ = b ρ := no_rfl rfl
theorem ifS_bl {a b : Env → SR} {c : Bool} : ifS a b (.bl c) ρ = if c then a ρ else b ρ := by cases c <;> rfl
@[simp] theorem eSs_nil : evSs Φ .nil ρ = .nx ρ := no_rfl rfl
theorem eSs_cons {s : S} {ss : Ss} : evSs Φ (.cons s ss) ρ = seqS (evSs Φ ss) (evS Φ s ρ) := by
  show (match evS Φ s ρ with
    | .nx ρ1 => evSs Φ ss ρ1
    | r => r) = _
  cases evS Φ s ρ <;> rfl
@[simp] theorem eS_set {i : Nat} {e : E} : evS Φ (.set i e) ρ = (evE Φ e ρ).st (setS i) := no_rfl rfl
@[simp] theorem eS_setN {i : Nat} {n : Nw} : evS Φ (.setN i n) ρ = (evN Φ n ρ).st (setNS i) := no_rfl rfl
@[simp] theorem eS_app {i : Nat} {e : E} : evS Φ (.app i e) ρ = appS i (evE Φ e) ρ := no_rfl rfl
@[simp] theorem eS_seti {i : Nat} {k e : E} : evS Φ (.seti i k e) ρ = setiS i (evE Φ k) (evE Φ e) ρ := no_rfl rfl
@[simp] theorem eS_ret {e : E} : evS Φ (.ret e) ρ = (evE Φ e ρ).st fun d ρ1 => .rt d ρ1 := no_rfl rfl
@[simp] theorem eS_ife {c : E} {a b : Ss} : evS Φ (.ife c a b) ρ = (evE Φ c ρ).st (ifS (evSs Φ a) (evSs Φ b)) := by
  show (evE Φ c ρ).st _ = _
  congr 1
@[simp] theorem eS_for {tg : Tg} {src : It} {body : Ss} : evS Φ (.for tg src body) ρ = (evI Φ src ρ).st (forD tg (evSs Φ body)) := no_rfl rfl
@[simp] theorem eS_while {n : Nat} {c : E} {body : Ss} : evS Φ (.while n c body) ρ = whileD (evE Φ c) (evSs Φ body) n ρ := no_rfl rfl
theorem run_eq {n : Nat} {b : Ss} {ds : List D} : (Df.mk n b).run Φ ds = (evSs Φ b (ds.map .fz ++ List.replicate (n - ds.length) .un)).end := rfl
end
end DL
set_option Elab.async false
set_option linter.all false
set_option maxRecDepth 1000
set_option maxHeartbeats 4000000
/-! DLq: plain: loops, comprehensions, equality. -/
namespace DL
open PySem L2
section
variable {α β σ : Type} {Φ : Fns} {ρ ρ1 : Env}
theorem asg_name {i : Nat} {d : D} (h : i < ρ.length) : asg (.name i) d ρ = some (ρ.set i (.fz d)) := by
  show (if i < ρ.length then some (ρ.set i (.fz d)) else none) = _
  rw [if_pos h]
theorem wipe_one {v : Nat} : wipeE ρ [v] = ρ.set v .un := rfl
theorem back_one {v : Nat} {old : Env} {s : Sl} (h : old[v]? = some s) : backE old ρ [v] = ρ.set v s := by
  unfold backE
  rw [h]
  rfl
theorem lcD_map {v : Nat} {t e : Env → R D} (p : α → Bool) (em g : α → D) (hv : v < ρ1.length) : ∀ (as : List α) (acc : List D) (s : Sl),
    (∀ a ∈ as, t (ρ1.set v (.fz (em a))) = .ok (.bl (p a)) (ρ1.set v (.fz (em a)))) → (∀ a ∈ as, p a = true → e (ρ1.set v (.fz (em a))) = .ok (g a) (ρ1.set v (.fz (em a)))) → acc.length + as.length ≤ sizeL →
    ∃ s', lcD [v] (.name v) t e (as.map em) acc (ρ1.set v s) = .ok (acc ++ (as.filter p).map g) (ρ1.set v s')
  | [], acc, s, _, _, _ => ⟨s, by simp [lcD]⟩
  | a :: as, acc, s, ht, he, hl => by
    have h1 : asg (.name v) (em a) (wipeE (ρ1.set v s) [v]) = some (ρ1.set v (.fz (em a))) := by
      rw [wipe_one, asg_name (by simpa using hv), List.set_set, List.set_set]
    have h2 := ht a List.mem_cons_self
    rw [List.map_cons]
    unfold lcD
    rw [h1]
    simp only
    rw [h2]
    have hr := fun b hb => ht b (List.mem_cons_of_mem _ hb)
    have hr2 := fun b hb => he b (List.mem_cons_of_mem _ hb)
    simp only [List.length_cons] at hl
    cases q : p a with
    | false =>
      obtain ⟨s', e'⟩ := lcD_map p em g hv as acc (.fz (em a)) hr hr2 (by omega)
      refine ⟨s', ?_⟩
      simp [q, e']
    | true =>
      have h3 := he a List.mem_cons_self q
      obtain ⟨s', e'⟩ := lcD_map p em g hv as (acc ++ [g a]) (.fz (em a)) hr hr2 (by simp only [List.length_append, List.length_singleton]; omega)
      refine ⟨s', ?_⟩
      simp [q, e', h3, show acc.length < sizeL by omega]
theorem lc_filter {v : Nat} {src : It} {cs : Es} {elt : E} (as : List α) (em : α → D) (p : α → Bool) (g : α → D) (hs : evI Φ src ρ = .ok (as.map em) ρ1) (hv : v < ρ1.length) (hw : isOw ρ1[v]? = false) (hl : as.length ≤ sizeL)
    (ht : ∀ a ∈ as, evT Φ cs (ρ1.set v (.fz (em a))) = .ok (.bl (p a)) (ρ1.set v (.fz (em a)))) (he : ∀ a ∈ as, p a = true → evE Φ elt (ρ1.set v (.fz (em a))) = .ok (g a) (ρ1.set v (.fz (em a)))) :
    evN Φ (.lc [v] (.name v) src cs elt) ρ = .ok (.lst ((as.filter p).map g)) ρ1 := by
  obtain ⟨s0, hs0⟩ : ∃ s0, ρ1[v]? = some s0 := ⟨_, List.getElem?_eq_getElem hv⟩
  obtain ⟨s', e'⟩ := lcD_map (t := evT Φ cs) (e := evE Φ elt) p em g hv as [] s0 ht he (by simpa using hl)
  have e0 : ρ1.set v s0 = ρ1 := by
    apply List.ext_getElem?
    intro j
    by_cases hj : v = j
    · subst hj; rw [List.getElem?_set_self hv, hs0]
    · rw [List.getElem?_set_ne hj]
  rw [e0] at e'
  show ((evI Φ src ρ).bind fun xs ρ1 => if [v].any (fun v => isOw ρ1[v]?) then .no else (lcD [v] (.name v) (evT Φ cs) (evE Φ elt) xs [] ρ1).bind fun ys ρ2 => R.ok (D.lst ys) (backE ρ1 ρ2 [v])) = _
  rw [hs]
  simp only [bind_ok, List.any_cons, List.any_nil, hw, Bool.or_false, Bool.false_eq_true, if_false, e', List.nil_append]
  rw [back_one hs0, List.set_set, e0]
theorem lc_map {v : Nat} {src : It} {elt : E} (as : List α) (em g : α → D) (hs : evI Φ src ρ = .ok (as.map em) ρ1) (hv : v < ρ1.length) (hw : isOw ρ1[v]? = false) (hl : as.length ≤ sizeL)
    (he : ∀ a ∈ as, evE Φ elt (ρ1.set v (.fz (em a))) = .ok (g a) (ρ1.set v (.fz (em a)))) :
    evN Φ (.lc [v] (.name v) src .nil elt) ρ = .ok (.lst (as.map g)) ρ1 := by
  have := lc_filter (cs := .nil) as em (fun _ => true) g hs hv hw hl (fun _ _ => rfl) (fun a ha _ => he a ha)
  rw [List.filter_eq_self.mpr (fun _ _ => rfl)] at this
  exact this
/-! ### for -/
theorem for_idx {tg : Tg} {body : Env → SR} (em : α → D) (Rl : Nat → Env → Prop) : ∀ (as : List α) (i : Nat) (ρ : Env),
    (∀ j a, as[j]? = some a → ∀ ρ, Rl (i + j) ρ → ∃ ρ1, asg tg (em a) ρ = some ρ1 ∧ ∃ ρ2, body ρ1 = .nx ρ2 ∧ Rl (i + j + 1) ρ2) → Rl i ρ →
    ∃ ρ', forD tg body (as.map em) ρ = .nx ρ' ∧ Rl (i + as.length) ρ'
  | [], i, ρ, _, h => ⟨ρ, rfl, h⟩
  | a :: as, i, ρ, hs, h => by
    obtain ⟨ρ1, h1, ρ2, h2, h3⟩ := hs 0 a rfl ρ h
    obtain ⟨ρ', e, r⟩ := for_idx em Rl as (i + 1) ρ2 (fun j b hb ρ hr => by
      have q := hs (j + 1) b (by simpa using hb) ρ (by rw [show i + (j + 1) = i + 1 + j by omega]; exact hr)
      rw [show i + (j + 1) = i + 1 + j by omega] at q
      exact q) h3
    refine ⟨ρ', ?_, by rw [List.length_cons, show i + (as.length + 1) = i + 1 + as.length by omega]; exact r⟩
    rw [List.map_cons]
    unfold forD
    rw [h1]
    simp only [h2]
    exact e
theorem for_pass {tg : Tg} {body : Env → SR} (em : α → D) (Rl : Env → Prop) (as : List α) (h : Rl ρ) (hs : ∀ a ∈ as, ∀ ρ, Rl ρ → ∃ ρ1, asg tg (em a) ρ = some ρ1 ∧ ∃ ρ2, body ρ1 = .nx ρ2 ∧ Rl ρ2) :
    ∃ ρ', forD tg body (as.map em) ρ = .nx ρ' ∧ Rl ρ' := by
  obtain ⟨ρ', e, r⟩ := for_idx em (fun _ => Rl) as 0 ρ (fun j a ha ρ hr => hs a (List.mem_of_getElem? ha) ρ hr) h
  exact ⟨ρ', e, r⟩
theorem for_fold {tg : Tg} {body : Env → SR} (em : α → D) (Rl : σ → Env → Prop) (f : σ → α → σ) : ∀ (as : List α) (st : σ) (ρ : Env), (∀ a ∈ as, ∀ st ρ, Rl st ρ → ∃ ρ1, asg tg (em a) ρ = some ρ1 ∧ ∃ ρ2, body ρ1 = .nx ρ2 ∧ Rl (f st a) ρ2) → Rl st ρ →
    ∃ ρ', forD tg body (as.map em) ρ = .nx ρ' ∧ Rl (as.foldl f st) ρ'
  | [], st, ρ, _, h => ⟨ρ, rfl, h⟩
  | a :: as, st, ρ, hs, h => by
    obtain ⟨ρ1, h1, ρ2, h2, h3⟩ := hs a List.mem_cons_self st ρ h
    obtain ⟨ρ', e, r⟩ := for_fold em Rl f as (f st a) ρ2 (fun b hb => hs b (List.mem_cons_of_mem _ hb)) h3
    refine ⟨ρ', ?_, r⟩
    rw [List.map_cons]
    unfold forD
    rw [h1]
    simp only [h2]
    exact e
end
/-! ### equality, membership -/
theorem okNs_all {n : Nat} : ∀ {ds : List D}, D.okNs n ds = true ↔ ∀ d ∈ ds, D.okN n d = true
  | [] => by cases n <;> simp [D.okNs]
  | d :: ds => by
    have ih := okNs_all (n := n) (ds := ds)
    have : D.okNs n (d :: ds) = (D.okN n d && D.okNs n ds) := by cases n <;> rfl
    rw [this, Bool.and_eq_true, ih]
    simp
@[simp] theorem ok_int {n : Nat} {i : Int} : D.okN n (.int i) = true := by cases n <;> rfl
@[simp] theorem ok_bl {n : Nat} {b : Bool} : D.okN n (.bl b) = true := by cases n <;> rfl
@[simp] theorem ok_non {n : Nat} : D.okN n .non = true := by cases n <;> rfl
@[simp] theorem ok_iL {n : Nat} {ns : List Int} : D.okNs n (iL ns) = true := okNs_all.mpr fun d hd => by
  obtain ⟨i, _, rfl⟩ := List.mem_map.mp hd
  simp
@[simp] theorem ok_iT {n : Nat} {ns : List Int} : D.okN (n + 1) (.tup (ns.map .int)) = true := by
  show D.okNs n (iL ns) = true
  simp
@[simp] theorem ok_iB {n : Nat} {ns : List Int} : D.okN (n + 1) (.lst (ns.map .int)) = true := by
  show D.okNs n (iL ns) = true
  simp
@[simp] theorem eqv_int {i j : Int} : D.eqv (.int i) (.int j) = decide (i = j) := no_rfl rfl
@[simp] theorem eqvs_iL : ∀ {a b : List Int}, D.eqvs (iL a) (iL b) = decide (a = b)
  | [], [] => by simp [D.eqvs]
  | [], _ :: _ => by simp [D.eqvs]
  | _ :: _, [] => by simp [D.eqvs]
  | x :: a, y :: b => by
    show (D.eqv (.int x) (.int y) && D.eqvs (iL a) (iL b)) = _
    rw [eqvs_iL, eqv_int]
    simp
@[simp] theorem eqv_iT {a b : List Int} : D.eqv (.tup (a.map .int)) (.tup (b.map .int)) = decide (a = b) := eqvs_iL
@[simp] theorem eqv_iB {a b : List Int} : D.eqv (.lst (a.map .int)) (.lst (b.map .int)) = decide (a = b) := eqvs_iL
@[simp] theorem eqD_int {i j : Int} : eqD (.int i) (.int j) = some (decide (i = j)) := by simp [eqD]
@[simp] theorem eqD_iT {a b : List Int} : eqD (.tup (a.map .int)) (.tup (b.map .int)) = some (decide (a = b)) := by simp [eqD]
theorem any_int (x : Int) : ∀ ns : List Int, ((iL ns).any fun z => D.eqv z (.int x)) = decide (x ∈ ns)
  | [] => by simp
  | y :: ns => by
    rw [show iL (y :: ns) = .int y :: iL ns from rfl, List.any_cons, any_int x ns, eqv_int]
    simp [eq_comm]
@[simp] theorem memD_iT {x : Int} {ns : List Int} : memD (.int x) (.tup (ns.map .int)) = some (decide (x ∈ ns)) := by
  have := any_int x ns
  simp [memD, this]
@[simp] theorem memD_iB {x : Int} {ns : List Int} : memD (.int x) (.lst (ns.map .int)) = some (decide (x ∈ ns)) := by
  have := any_int x ns
  simp [memD, this]
/-! ### items, slices -/
theorem at_nat {α : Type} {xs : List α} {k : Nat} (h : k < xs.length) : L2.atI xs (k : Int) = some xs[k] := by
  unfold L2.atI L2.ixN
  simp [h]
theorem at_int {α : Type} {xs : List α} {i : Int} (h0 : 0 ≤ i) (h : i < xs.length) : ∃ k : Nat, ∃ hk : k < xs.length, i = k ∧ L2.atI xs i = some xs[k] := by
  obtain ⟨k, rfl⟩ := Int.eq_ofNat_of_zero_le h0
  have hk : k < xs.length := by omega
  exact ⟨k, hk, rfl, at_nat hk⟩
theorem cut_map {α β : Type} (f : α → β) (xs : List α) (lo hi : Option Int) : cutL (xs.map f) lo hi = (cutL xs lo hi).map f := by
  unfold cutL
  rw [List.length_map, ← List.map_drop, ← List.map_take]
end DL
set_option Elab.async false
set_option linter.all false
set_option maxRecDepth 1000
set_option maxHeartbeats 4000000
/-! DLr: plain: what a block ends in, step by step (simp walks, loops by a word). -/
namespace DL
open PySem L2
/-- what an expression's value must do -/
def we' {α : Type} (r : R α) (k : α → Env → Prop) : Prop := match r with
  | .ok a ρ => k a ρ
  | _ => False
/-- .. shut, so that nothing runs on its own -/
structure WE {α : Type} (r : R α) (k : α → Env → Prop) : Prop where
  of : we' r k
def Ss.app : Ss → Ss → Ss
  | .nil, t => t
  | .cons s a, t => .cons s (a.app t)
/-- an end that is let -/
def GQ (Q : SR → Prop) (r : SR) : Prop := match r with
  | .no => False
  | .ex _ _ => False
  | r => Q r
/-- what a block must end in -/
structure Wp (Φ : Fns) (ss : Ss) (ρ : Env) (Q : SR → Prop) : Prop where
  of : GQ Q (evSs Φ ss ρ)
structure WF (Φ : Fns) (tg : Tg) (body : Ss) (xs : List D) (ρ : Env) (ss : Ss) (Q : SR → Prop) : Prop where
  of : GQ Q (seqS (evSs Φ ss) (forD tg (evSs Φ body) xs ρ))
structure WW (Φ : Fns) (n : Nat) (c : E) (body : Ss) (ρ : Env) (ss : Ss) (Q : SR → Prop) : Prop where
  of : GQ Q (seqS (evSs Φ ss) (whileD (evE Φ c) (evSs Φ body) n ρ))
/-- by a truth -/
def WI (d : D) (P Q : Prop) : Prop := match d with
  | .bl true => P
  | .bl false => Q
  | _ => False
def WA (tg : Tg) (d : D) (ρ : Env) (k : Env → Prop) : Prop := ∃ ρ1, asg tg d ρ = some ρ1 ∧ k ρ1
section
variable {α β σ : Type} {Φ : Fns} {ρ : Env} {Q : SR → Prop} {ss : Ss}
theorem we_eq {r : R α} {k : α → Env → Prop} : WE r k = we' r k := propext ⟨fun h => h.of, fun h => ⟨h⟩⟩
theorem we'_ok {a : α} {k : α → Env → Prop} : we' (.ok a ρ) k = k a ρ := rfl
theorem wp_eq : Wp Φ ss ρ Q = GQ Q (evSs Φ ss ρ) := propext ⟨fun h => h.of, fun h => ⟨h⟩⟩
theorem wf_eq {tg : Tg} {body : Ss} {xs : List D} : WF Φ tg body xs ρ ss Q = GQ Q (seqS (evSs Φ ss) (forD tg (evSs Φ body) xs ρ)) := propext ⟨fun h => h.of, fun h => ⟨h⟩⟩
theorem ww_eq {n : Nat} {c : E} {body : Ss} : WW Φ n c body ρ ss Q = GQ Q (seqS (evSs Φ ss) (whileD (evE Φ c) (evSs Φ body) n ρ)) := propext ⟨fun h => h.of, fun h => ⟨h⟩⟩
@[simp] theorem we_ok {a : α} {k : α → Env → Prop} : WE (.ok a ρ) k = k a ρ := by rw [we_eq]; rfl
@[simp] theorem wi_t {P Q : Prop} : WI (.bl true) P Q = P := no_rfl rfl
@[simp] theorem wi_f {P Q : Prop} : WI (.bl false) P Q = Q := no_rfl rfl
theorem wi_bl {c : Bool} {P Q : Prop} : WI (.bl c) P Q = if c = true then P else Q := by cases c <;> rfl
@[simp] theorem wi_not {c : Bool} {P Q : Prop} : WI (.bl (!c)) P Q = WI (.bl c) Q P := by cases c <;> rfl
@[simp] theorem app_nil {t : Ss} : Ss.app .nil t = t := no_rfl rfl
@[simp] theorem app_cons {s : S} {a t : Ss} : Ss.app (.cons s a) t = .cons s (a.app t) := no_rfl rfl
@[simp] theorem wa_name {i : Nat} {d : D} {k : Env → Prop} : WA (.name i) d ρ k = (i < ρ.length ∧ k (ρ.set i (.fz d))) := by
  unfold WA
  by_cases h : i < ρ.length
  · simp [asg, h]
  · simp [asg, h]
theorem evSs_app (Φ : Fns) : ∀ (a t : Ss) (ρ : Env), evSs Φ (a.app t) ρ = seqS (evSs Φ t) (evSs Φ a ρ)
  | .nil, t, ρ => rfl
  | .cons s a, t, ρ => by
    show evSs Φ (.cons s (a.app t)) ρ = _
    rw [eSs_cons, eSs_cons]
    cases evS Φ s ρ with
    | nx ρ1 => exact evSs_app Φ a t ρ1
    | _ => rfl
@[simp] theorem wp_nil : Wp Φ .nil ρ Q = Q (.nx ρ) := by rw [wp_eq]; rfl
@[simp] theorem wp_set {i : Nat} {e : E} : Wp Φ (.cons (.set i e) ss) ρ Q = WE (evE Φ e ρ) fun d ρ1 => i < ρ1.length ∧ Wp Φ ss (ρ1.set i (.fz d)) Q := by
  simp only [wp_eq, we_eq, wf_eq, ww_eq]
  rw [eSs_cons, eS_set]
  cases evE Φ e ρ with
  | ok d ρ1 =>
    show GQ Q (seqS (evSs Φ ss) (setS i d ρ1)) = (i < ρ1.length ∧ _)
    unfold setS
    by_cases h : i < ρ1.length
    · simp [h]
    · simp [h, seqS, GQ]
  | _ => rfl
@[simp] theorem wp_setN {i : Nat} {n : Nw} : Wp Φ (.cons (.setN i n) ss) ρ Q = WE (evN Φ n ρ) fun d ρ1 => i < ρ1.length ∧ Wp Φ ss (ρ1.set i (.ow d)) Q := by
  simp only [wp_eq, we_eq, wf_eq, ww_eq]
  rw [eSs_cons, eS_setN]
  cases evN Φ n ρ with
  | ok d ρ1 =>
    show GQ Q (seqS (evSs Φ ss) (setNS i d ρ1)) = (i < ρ1.length ∧ _)
    unfold setNS
    by_cases h : i < ρ1.length
    · simp [h]
    · simp [h, seqS, GQ]
  | _ => rfl
@[simp] theorem wp_ret {e : E} : Wp Φ (.cons (.ret e) ss) ρ Q = WE (evE Φ e ρ) fun d ρ1 => Q (.rt d ρ1) := by
  simp only [wp_eq, we_eq, wf_eq, ww_eq]
  rw [eSs_cons, eS_ret]
  cases evE Φ e ρ <;> rfl
@[simp] theorem wp_expr {e : E} : Wp Φ (.cons (.expr e) ss) ρ Q = WE (evE Φ e ρ) fun _ ρ1 => Wp Φ ss ρ1 Q := by
  simp only [wp_eq, we_eq, wf_eq, ww_eq]
  rw [eSs_cons]
  show GQ Q (seqS (evSs Φ ss) ((evE Φ e ρ).st fun _ ρ1 => .nx ρ1)) = _
  cases evE Φ e ρ <;> rfl
@[simp] theorem wp_ife {c : E} {a b : Ss} : Wp Φ (.cons (.ife c a b) ss) ρ Q = WE (evE Φ c ρ) fun d ρ1 => WI d (Wp Φ (a.app ss) ρ1 Q) (Wp Φ (b.app ss) ρ1 Q) := by
  simp only [wp_eq, we_eq, wf_eq, ww_eq]
  rw [eSs_cons, eS_ife]
  cases evE Φ c ρ with
  | ok d ρ1 =>
    show GQ Q (seqS (evSs Φ ss) (ifS (evSs Φ a) (evSs Φ b) d ρ1)) = WI d (GQ Q (evSs Φ (a.app ss) ρ1)) (GQ Q (evSs Φ (b.app ss) ρ1))
    rw [evSs_app, evSs_app]
    cases d with
    | bl k => cases k <;> rfl
    | _ => rfl
  | _ => rfl
@[simp] theorem wp_for {tg : Tg} {src : It} {body : Ss} : Wp Φ (.cons (.for tg src body) ss) ρ Q = WE (evI Φ src ρ) fun xs ρ1 => WF Φ tg body xs ρ1 ss Q := by
  simp only [wp_eq, we_eq, wf_eq, ww_eq]
  rw [eSs_cons, eS_for]
  cases evI Φ src ρ <;> rfl
@[simp] theorem wp_while {n : Nat} {c : E} {body : Ss} : Wp Φ (.cons (.while n c body) ss) ρ Q = WW Φ n c body ρ ss Q := by
  simp only [wp_eq, we_eq, wf_eq, ww_eq]
  rw [eSs_cons]
  rfl
/-- what a slot holds of its own -/
def WO (i : Nat) (ρ : Env) (k : Option Nat → D → Prop) : Prop := match ρ[i]? with
  | some (.ow' t d) => k t d
  | _ => False
theorem wo_ow {i : Nat} {t : Option Nat} {d : D} {k : Option Nat → D → Prop} (h : ρ[i]? = some (.ow' t d)) : WO i ρ k = k t d := by unfold WO; rw [h]
def isLst : D → Bool
  | .lst _ => true
  | _ => false
def WL (d : D) (k : List D → Prop) : Prop := match d with
  | .lst xs => k xs
  | _ => False
@[simp] theorem wl_lst {xs : List D} {k : List D → Prop} : WL (.lst xs) k = k xs := no_rfl rfl
@[simp] theorem wp_app {i : Nat} {e : E} : Wp Φ (.cons (.app i e) ss) ρ Q = WO i ρ fun _ c => WL c fun _ => WE (evE Φ e ρ) fun d ρ1 => WO i ρ1 fun t c => WL c fun xs => xs.length < sizeL ∧ Wp Φ ss (ρ1.set i (.ow' t (.lst (xs ++ [d])))) Q := by
  simp only [wp_eq, we_eq, wf_eq, ww_eq]
  rw [eSs_cons, eS_app]
  unfold appS WO
  cases ρ[i]? with
  | none => rfl
  | some s =>
    cases s with
    | ow' tg c =>
      cases c with
      | lst ys =>
        simp only [wl_lst]
        cases evE Φ e ρ with
        | ok d ρ1 =>
          simp only [st_ok, we_ok, we'_ok]
          cases ρ1[i]? with
          | none => rfl
          | some s =>
            cases s with
            | ow' tg c =>
              cases c with
              | lst xs =>
                simp only [wl_lst]
                by_cases h : xs.length < sizeL
                · simp [h]
                · simp [h, seqS, GQ]
              | _ => rfl
            | _ => rfl
        | _ => rfl
      | _ => rfl
    | _ => rfl
/-- .. changed by an item -/
def WP (c y d : D) (k : D → Prop) : Prop := match c with
  | .lst xs => match y with
    | .int j => match L2.ixN xs.length j with
      | some n => k (.lst (xs.set n d))
      | none => False
    | _ => False
  | .dct t kvs => (isKey t y = true ∧ kvs.length < sizeL) ∧ k (.dct t (dPut kvs y d))
  | _ => False
@[simp] theorem wp_seti {i : Nat} {q e : E} : Wp Φ (.cons (.seti i q e) ss) ρ Q = WE (evE Φ e ρ) fun d ρ1 => WO i ρ1 fun _ _ => WE (evE Φ q ρ1) fun y ρ2 => WO i ρ2 fun t c => WP c y d fun c' => Wp Φ ss (ρ2.set i (.ow' t c')) Q := by
  simp only [wp_eq, we_eq, wf_eq, ww_eq]
  rw [eSs_cons, eS_seti]
  unfold setiS WO
  cases evE Φ e ρ with
  | ok d ρ1 =>
    simp only [st_ok, we_ok, we'_ok]
    cases ρ1[i]? with
    | none => rfl
    | some s =>
      cases s with
      | ow' tg0 c0 =>
        simp only
        cases evE Φ q ρ1 with
        | ok y ρ2 =>
          simp only [st_ok, we_ok, we'_ok]
          cases ρ2[i]? with
          | none => rfl
          | some s =>
            cases s with
            | ow' tg c =>
              cases c with
              | lst xs =>
                cases y with
                | int j =>
                  show GQ Q (seqS (evSs Φ ss) (match L2.ixN xs.length j with
                    | some n => .nx (ρ2.set i (.ow' tg (.lst (xs.set n d))))
                    | none => .no)) = (match L2.ixN xs.length j with
                    | some n => _
                    | none => False)
                  cases L2.ixN xs.length j <;> rfl
                | _ => rfl
              | dct t kvs =>
                show GQ Q (seqS (evSs Φ ss) (if isKey t y ∧ kvs.length < sizeL then .nx (ρ2.set i (.ow' tg (.dct t (dPut kvs y d)))) else .no)) = ((isKey t y = true ∧ kvs.length < sizeL) ∧ _)
                by_cases h : isKey t y = true ∧ kvs.length < sizeL
                · simp [h]
                · rw [if_neg h]
                  simp [h, seqS, GQ]
              | _ => rfl
            | _ => rfl
        | _ => rfl
      | _ => rfl
  | _ => rfl
@[simp] theorem wp_brk : Wp Φ (.cons .brk ss) ρ Q = Q (.bk ρ) := by rw [wp_eq]; rfl
@[simp] theorem wp_cont : Wp Φ (.cons .cont ss) ρ Q = Q (.ct ρ) := by rw [wp_eq]; rfl
@[simp] theorem wp_pass : Wp Φ (.cons .pass ss) ρ Q = Wp Φ ss ρ Q := by rw [wp_eq, wp_eq]; rfl
/-- behind a loop's turn -/
def Trn (Φ : Fns) (ss : Ss) (Q : SR → Prop) (I : Env → Prop) (r : SR) : Prop := match r with
  | .nx ρ => I ρ
  | .ct ρ => I ρ
  | .bk ρ => Wp Φ ss ρ Q
  | .rt d ρ => Q (.rt d ρ)
  | _ => False
@[simp] theorem trn_nx {I : Env → Prop} : Trn Φ ss Q I (.nx ρ) = I ρ := no_rfl rfl
@[simp] theorem trn_ct {I : Env → Prop} : Trn Φ ss Q I (.ct ρ) = I ρ := no_rfl rfl
@[simp] theorem trn_bk {I : Env → Prop} : Trn Φ ss Q I (.bk ρ) = Wp Φ ss ρ Q := no_rfl rfl
@[simp] theorem trn_rt {I : Env → Prop} {d : D} {ρ : Env} : Trn Φ ss Q I (.rt d ρ) = Q (.rt d ρ) := no_rfl rfl
theorem wf_idx' {tg : Tg} {body : Ss} (em : α → D) (Rl : Nat → Env → Prop) : ∀ (as : List α) (i : Nat) (ρ : Env), Rl i ρ → (∀ j a, as[j]? = some a → ∀ ρ, Rl (i + j) ρ → WA tg (em a) ρ fun ρ1 => Wp Φ body ρ1 (Trn Φ ss Q (Rl (i + j + 1)))) → (∀ ρ, Rl (i + as.length) ρ → Wp Φ ss ρ Q) →
    WF Φ tg body (as.map em) ρ ss Q
  | [], i, ρ, h, _, k => ⟨(k ρ h).of⟩
  | a :: as, i, ρ, h, hs, k => by
    obtain ⟨ρ1, h1, h2⟩ := hs 0 a rfl ρ h
    refine ⟨?_⟩
    rw [List.map_cons]
    unfold forD
    rw [h1]
    have h2 : GQ (Trn Φ ss Q (Rl (i + 1))) (evSs Φ body ρ1) := h2.of
    have go : ∀ ρ2, Rl (i + 1) ρ2 → GQ Q (seqS (evSs Φ ss) (forD tg (evSs Φ body) (as.map em) ρ2)) := fun ρ2 r2 => wf_idx' em Rl as (i + 1) ρ2 r2 (fun j b hb ρ hr => by
      have q := hs (j + 1) b (by simpa using hb) ρ (by rw [show i + (j + 1) = i + 1 + j by omega]; exact hr)
      rw [show i + (j + 1) = i + 1 + j by omega] at q
      exact q) (fun ρ r => k ρ (by rw [List.length_cons, show i + (as.length + 1) = i + 1 + as.length by omega]; exact r)) |>.of
    simp only
    cases q : evSs Φ body ρ1 with
    | nx ρ2 => rw [q] at h2; exact go ρ2 h2
    | ct ρ2 => rw [q] at h2; exact go ρ2 h2
    | bk ρ2 => rw [q] at h2; exact h2.of
    | rt d => rw [q] at h2; exact h2
    | _ => rw [q] at h2; exact h2.elim
/-- a for, by a word of the turn's number -/
theorem wf_idx {tg : Tg} {body : Ss} {as : List α} {em : α → D} (Rl : Nat → Env → Prop) (h : Rl 0 ρ) (hs : ∀ j a, as[j]? = some a → ∀ ρ, Rl j ρ → WA tg (em a) ρ fun ρ1 => Wp Φ body ρ1 (Trn Φ ss Q (Rl (j + 1)))) (k : ∀ ρ, Rl as.length ρ → Wp Φ ss ρ Q) : WF Φ tg body (as.map em) ρ ss Q :=
  wf_idx' em Rl as 0 ρ h (fun j a ha ρ hr => by
    have q := hs j a ha ρ (by rw [Nat.zero_add] at hr; exact hr)
    rw [Nat.zero_add]
    exact q) (fun ρ r => k ρ (by rw [Nat.zero_add] at r; exact r))
theorem wf_pass {tg : Tg} {body : Ss} {as : List α} {em : α → D} (Rl : Env → Prop) (h : Rl ρ) (hs : ∀ a ∈ as, ∀ ρ, Rl ρ → WA tg (em a) ρ fun ρ1 => Wp Φ body ρ1 (Trn Φ ss Q Rl)) (k : ∀ ρ, Rl ρ → Wp Φ ss ρ Q) : WF Φ tg body (as.map em) ρ ss Q :=
  wf_idx (fun _ => Rl) h (fun j a ha ρ hr => hs a (List.mem_of_getElem? ha) ρ hr) k
theorem wf_passD {tg : Tg} {body : Ss} {as : List D} (Rl : Env → Prop) (h : Rl ρ) (hs : ∀ a ∈ as, ∀ ρ, Rl ρ → WA tg a ρ fun ρ1 => Wp Φ body ρ1 (Trn Φ ss Q Rl)) (k : ∀ ρ, Rl ρ → Wp Φ ss ρ Q) : WF Φ tg body as ρ ss Q := by
  have := wf_pass (em := id) Rl h hs k
  rw [List.map_id] at this
  exact this
theorem wf_idxD {tg : Tg} {body : Ss} {as : List D} (Rl : Nat → Env → Prop) (h : Rl 0 ρ) (hs : ∀ j a, as[j]? = some a → ∀ ρ, Rl j ρ → WA tg a ρ fun ρ1 => Wp Φ body ρ1 (Trn Φ ss Q (Rl (j + 1)))) (k : ∀ ρ, Rl as.length ρ → Wp Φ ss ρ Q) : WF Φ tg body as ρ ss Q := by
  have := wf_idx (em := id) Rl h hs k
  rw [List.map_id] at this
  exact this
theorem den_of {d : DefT} {l : Fl} {ds : List D} {x : DR} (h : Wp (tbl (l.map (·.2.2))) d.body (ds.map .fz ++ List.replicate (d.N.length - ds.length) .un) fun r => r.end = x) : (d.den l) ds = x := by
  have h : GQ (fun r => r.end = x) (evSs (tbl (l.map (·.2.2))) d.body (ds.map .fz ++ List.replicate (d.N.length - ds.length) .un)) := h.of
  show (evSs (tbl (l.map (·.2.2))) d.body (ds.map .fz ++ List.replicate (d.N.length - ds.length) .un)).end = x
  revert h
  cases evSs (tbl (l.map (·.2.2))) d.body (ds.map .fz ++ List.replicate (d.N.length - ds.length) .un) <;> first | exact fun h => h | exact fun h => h.elim
theorem den_ex {d : DefT} {l : Fl} {ds : List D} {P : DR → Prop} (h : Wp (tbl (l.map (·.2.2))) d.body (ds.map .fz ++ List.replicate (d.N.length - ds.length) .un) fun r => P r.end) : P ((d.den l) ds) := by
  have h : GQ (fun r => P r.end) (evSs (tbl (l.map (·.2.2))) d.body (ds.map .fz ++ List.replicate (d.N.length - ds.length) .un)) := h.of
  show P (evSs (tbl (l.map (·.2.2))) d.body (ds.map .fz ++ List.replicate (d.N.length - ds.length) .un)).end
  revert h
  cases evSs (tbl (l.map (·.2.2))) d.body (ds.map .fz ++ List.replicate (d.N.length - ds.length) .un) <;> first | exact fun h => h | exact fun h => h.elim
@[simp] theorem tbl_0 {d : List D → DR} {l : List (List D → DR)} {ds : List D} : tbl (d :: l) 0 ds = d ds := no_rfl rfl
@[simp] theorem tbl_s {d : List D → DR} {l : List (List D → DR)} {n : Nat} {ds : List D} : tbl (d :: l) (n + 1) ds = tbl l n ds := no_rfl rfl
end
end DL
namespace DL
open PySem L2
theorem cut_hi {α : Type} {xs : List α} {i : Int} (h : 0 ≤ i) : cutL xs none (some i) = xs.take i.toNat := by
  obtain ⟨k, rfl⟩ := Int.eq_ofNat_of_zero_le h
  unfold cutL
  rw [HT.sIx_none, HT.sIx_nat]
  simp [← List.take_take]
theorem cut_lo {α : Type} {xs : List α} {i : Int} (h : 0 ≤ i) : cutL xs (some i) none = xs.drop i.toNat := by
  obtain ⟨k, rfl⟩ := Int.eq_ofNat_of_zero_le h
  unfold cutL
  rw [HT.sIx_none, HT.sIx_nat, Int.toNat_natCast]
  by_cases hk : k ≤ xs.length
  · rw [Nat.min_eq_left hk, List.take_of_length_le (by rw [List.length_drop]; exact Nat.le_refl _)]
  · rw [Nat.min_eq_right (by omega), List.drop_of_length_le (by omega), List.drop_of_length_le (by omega)]
    simp
theorem cut_mid {α : Type} {xs : List α} {i j : Int} (h : 0 ≤ i) (h' : 0 ≤ j) : cutL xs (some i) (some j) = (xs.drop i.toNat).take (j.toNat - i.toNat) := by
  obtain ⟨k, rfl⟩ := Int.eq_ofNat_of_zero_le h
  obtain ⟨m, rfl⟩ := Int.eq_ofNat_of_zero_le h'
  unfold cutL
  rw [HT.sIx_nat, HT.sIx_nat, Int.toNat_natCast, Int.toNat_natCast]
  by_cases hk : k ≤ xs.length
  · rw [Nat.min_eq_left hk]
    by_cases hm : m ≤ xs.length
    · rw [Nat.min_eq_left hm]
    · rw [Nat.min_eq_right (by omega), List.take_of_length_le (by rw [List.length_drop]; exact Nat.le_refl _), List.take_of_length_le (by rw [List.length_drop]; omega)]
  · rw [Nat.min_eq_right (show xs.length ≤ k by omega), List.drop_of_length_le (show xs.length ≤ k by omega), List.drop_length]
    simp
/-- s(row) of rows -/
abbrev tT (rs : List (List Int)) : D := .tup (rs.map fun r => .tup (r.map .int))
abbrev tB (rs : List (List Int)) : D := .lst (rs.map fun r => .tup (r.map .int))
theorem rangeD_map (a b : Int) : rangeD a b = (List.range (b - a).toNat).map fun k => .int (a + (k : Nat)) := rfl
section
variable {α β : Type} {Φ : Fns} {ρ ρ1 : Env}
@[simp] theorem we_bind {r : R α} {f : α → Env → R β} {k : β → Env → Prop} : WE (r.bind f) k = WE r fun a ρ => WE (f a ρ) k := by simp only [we_eq]; cases r <;> rfl
@[simp] theorem we_no {k : α → Env → Prop} : WE .no k = False := by rw [we_eq]; rfl
theorem we_filter {v : Nat} {src : It} {cs : Es} {elt : E} {K : D → Env → Prop} (as : List α) (em : α → D) (p : α → Bool) (g : α → D) (hs : evI Φ src ρ = .ok (as.map em) ρ) (hv : v < ρ.length) (hw : isOw ρ[v]? = false) (hl : as.length ≤ sizeL)
    (ht : ∀ a ∈ as, evT Φ cs (ρ.set v (.fz (em a))) = .ok (.bl (p a)) (ρ.set v (.fz (em a)))) (he : ∀ a ∈ as, p a = true → evE Φ elt (ρ.set v (.fz (em a))) = .ok (g a) (ρ.set v (.fz (em a))))
    (k : K (.lst ((as.filter p).map g)) ρ) : WE (evN Φ (.lc [v] (.name v) src cs elt) ρ) K := by
  rw [lc_filter as em p g hs hv hw hl ht he, we_ok]
  exact k
theorem we_map {v : Nat} {src : It} {elt : E} {K : D → Env → Prop} (as : List α) (em g : α → D) (hs : evI Φ src ρ = .ok (as.map em) ρ) (hv : v < ρ.length) (hw : isOw ρ[v]? = false) (hl : as.length ≤ sizeL)
    (he : ∀ a ∈ as, evE Φ elt (ρ.set v (.fz (em a))) = .ok (g a) (ρ.set v (.fz (em a)))) (k : K (.lst (as.map g)) ρ) : WE (evN Φ (.lc [v] (.name v) src .nil elt) ρ) K := by
  rw [lc_map as em g hs hv hw hl he, we_ok]
  exact k
theorem we_range {v : Nat} {src : It} {elt : E} {K : D → Env → Prop} (a b : Int) (n : Nat) (g : Nat → D) (hn : (b - a).toNat = n) (hs : evI Φ src ρ = .ok (rangeD a b) ρ) (hv : v < ρ.length) (hw : isOw ρ[v]? = false) (hl : n ≤ sizeL)
    (he : ∀ k, k < n → evE Φ elt (ρ.set v (.fz (.int (a + (k : Nat))))) = .ok (g k) (ρ.set v (.fz (.int (a + (k : Nat)))))) (k : K (.lst ((List.range n).map g)) ρ) : WE (evN Φ (.lc [v] (.name v) src .nil elt) ρ) K := by
  subst hn
  exact we_map (List.range (b - a).toNat) (fun k => .int (a + (k : Nat))) g hs hv hw (by simpa using hl) (fun k hk => he k (List.mem_range.mp hk)) k
theorem ints62_of {i : Int} (h : -(2 ^ 62) ≤ i ∧ i < 2 ^ 62) : ints62 i = true := by simp [ints62]; omega
theorem sz1000 : 1000 ≤ sizeL := by unfold sizeL; omega
theorem sz_of {n : Nat} (h : n ≤ 1000) : n ≤ sizeL := Nat.le_trans h sz1000
theorem lt_of {n : Nat} (h : n < 1000) : n < sizeL := Nat.lt_of_lt_of_le h sz1000
theorem rng0_len {n : Nat} (h : n ≤ 1000000) (ρ : Env) : rng1D (.int (n : Nat)) ρ = .ok ((List.range n).map fun k => .int (k : Nat)) ρ := by
  rw [rng1_int (ints62_of (by omega))]
  show R.ok ((List.range ((n : Int) - 0).toNat).map fun k => D.int (0 + (k : Nat))) ρ = _
  simp
end
theorem nodup_step {α : Type} {xs : List α} {j : Nat} (hj : j < xs.length) : (xs.take (j + 1)).Nodup ↔ (xs.take j).Nodup ∧ xs[j] ∉ xs.take j := by
  rw [List.take_add_one, List.getElem?_eq_getElem hj, Option.toList_some, List.nodup_append]
  constructor
  · rintro ⟨h1, _, h3⟩
    exact ⟨h1, fun h => h3 _ h _ (List.mem_singleton.mpr rfl) rfl⟩
  · rintro ⟨h1, h2⟩
    refine ⟨h1, by simp, fun a ha b hb e => ?_⟩
    rw [List.mem_singleton] at hb
    subst hb
    subst e
    exact h2 ha
theorem not_nodup {α : Type} {xs : List α} {j : Nat} (hj : j < xs.length) (h : xs[j] ∈ xs.take j) : ¬ xs.Nodup := fun n =>
  ((nodup_step hj).mp (n.sublist (List.take_sublist _ _))).2 h
/-! ### slots, operators on known data -/
@[simp] theorem getV0 {d : D} {l : Env} : getV 0 (.fz d :: l) = .ok d (.fz d :: l) := no_rfl rfl
@[simp] theorem getVo0 {d : D} {l : Env} : getV 0 (.ow d :: l) = .ok d (.fz d :: l) := no_rfl rfl
@[simp] theorem peekV0 {d : D} {l : Env} : peekV 0 (.fz d :: l) = some d := no_rfl rfl
@[simp] theorem peekVo0 {t : Option Nat} {d : D} {l : Env} : peekV 0 (.ow' t d :: l) = some d := no_rfl rfl
@[simp] theorem wo0 {t : Option Nat} {d : D} {l : Env} {k : Option Nat → D → Prop} : WO 0 (.ow' t d :: l) k = k t d := no_rfl rfl
@[simp] theorem getV1 {d : D} {s0 : Sl} {l : Env} : getV 1 (s0 :: .fz d :: l) = .ok d (s0 :: .fz d :: l) := no_rfl rfl
@[simp] theorem getVo1 {d : D} {s0 : Sl} {l : Env} : getV 1 (s0 :: .ow d :: l) = .ok d (s0 :: .fz d :: l) := no_rfl rfl
@[simp] theorem peekV1 {d : D} {s0 : Sl} {l : Env} : peekV 1 (s0 :: .fz d :: l) = some d := no_rfl rfl
@[simp] theorem peekVo1 {t : Option Nat} {d : D} {s0 : Sl} {l : Env} : peekV 1 (s0 :: .ow' t d :: l) = some d := no_rfl rfl
@[simp] theorem wo1 {t : Option Nat} {d : D} {s0 : Sl} {l : Env} {k : Option Nat → D → Prop} : WO 1 (s0 :: .ow' t d :: l) k = k t d := no_rfl rfl
@[simp] theorem getV2 {d : D} {s0 s1 : Sl} {l : Env} : getV 2 (s0 :: s1 :: .fz d :: l) = .ok d (s0 :: s1 :: .fz d :: l) := no_rfl rfl
@[simp] theorem getVo2 {d : D} {s0 s1 : Sl} {l : Env} : getV 2 (s0 :: s1 :: .ow d :: l) = .ok d (s0 :: s1 :: .fz d :: l) := no_rfl rfl
@[simp] theorem peekV2 {d : D} {s0 s1 : Sl} {l : Env} : peekV 2 (s0 :: s1 :: .fz d :: l) = some d := no_rfl rfl
@[simp] theorem peekVo2 {t : Option Nat} {d : D} {s0 s1 : Sl} {l : Env} : peekV 2 (s0 :: s1 :: .ow' t d :: l) = some d := no_rfl rfl
@[simp] theorem wo2 {t : Option Nat} {d : D} {s0 s1 : Sl} {l : Env} {k : Option Nat → D → Prop} : WO 2 (s0 :: s1 :: .ow' t d :: l) k = k t d := no_rfl rfl
@[simp] theorem getV3 {d : D} {s0 s1 s2 : Sl} {l : Env} : getV 3 (s0 :: s1 :: s2 :: .fz d :: l) = .ok d (s0 :: s1 :: s2 :: .fz d :: l) := no_rfl rfl
@[simp] theorem getVo3 {d : D} {s0 s1 s2 : Sl} {l : Env} : getV 3 (s0 :: s1 :: s2 :: .ow d :: l) = .ok d (s0 :: s1 :: s2 :: .fz d :: l) := no_rfl rfl
@[simp] theorem peekV3 {d : D} {s0 s1 s2 : Sl} {l : Env} : peekV 3 (s0 :: s1 :: s2 :: .fz d :: l) = some d := no_rfl rfl
@[simp] theorem peekVo3 {t : Option Nat} {d : D} {s0 s1 s2 : Sl} {l : Env} : peekV 3 (s0 :: s1 :: s2 :: .ow' t d :: l) = some d := no_rfl rfl
@[simp] theorem wo3 {t : Option Nat} {d : D} {s0 s1 s2 : Sl} {l : Env} {k : Option Nat → D → Prop} : WO 3 (s0 :: s1 :: s2 :: .ow' t d :: l) k = k t d := no_rfl rfl
@[simp] theorem getV4 {d : D} {s0 s1 s2 s3 : Sl} {l : Env} : getV 4 (s0 :: s1 :: s2 :: s3 :: .fz d :: l) = .ok d (s0 :: s1 :: s2 :: s3 :: .fz d :: l) := no_rfl rfl
@[simp] theorem getVo4 {d : D} {s0 s1 s2 s3 : Sl} {l : Env} : getV 4 (s0 :: s1 :: s2 :: s3 :: .ow d :: l) = .ok d (s0 :: s1 :: s2 :: s3 :: .fz d :: l) := no_rfl rfl
@[simp] theorem peekV4 {d : D} {s0 s1 s2 s3 : Sl} {l : Env} : peekV 4 (s0 :: s1 :: s2 :: s3 :: .fz d :: l) = some d := no_rfl rfl
@[simp] theorem peekVo4 {t : Option Nat} {d : D} {s0 s1 s2 s3 : Sl} {l : Env} : peekV 4 (s0 :: s1 :: s2 :: s3 :: .ow' t d :: l) = some d := no_rfl rfl
@[simp] theorem wo4 {t : Option Nat} {d : D} {s0 s1 s2 s3 : Sl} {l : Env} {k : Option Nat → D → Prop} : WO 4 (s0 :: s1 :: s2 :: s3 :: .ow' t d :: l) k = k t d := no_rfl rfl
@[simp] theorem getV5 {d : D} {s0 s1 s2 s3 s4 : Sl} {l : Env} : getV 5 (s0 :: s1 :: s2 :: s3 :: s4 :: .fz d :: l) = .ok d (s0 :: s1 :: s2 :: s3 :: s4 :: .fz d :: l) := no_rfl rfl
@[simp] theorem getVo5 {d : D} {s0 s1 s2 s3 s4 : Sl} {l : Env} : getV 5 (s0 :: s1 :: s2 :: s3 :: s4 :: .ow d :: l) = .ok d (s0 :: s1 :: s2 :: s3 :: s4 :: .fz d :: l) := no_rfl rfl
@[simp] theorem peekV5 {d : D} {s0 s1 s2 s3 s4 : Sl} {l : Env} : peekV 5 (s0 :: s1 :: s2 :: s3 :: s4 :: .fz d :: l) = some d := no_rfl rfl
@[simp] theorem peekVo5 {t : Option Nat} {d : D} {s0 s1 s2 s3 s4 : Sl} {l : Env} : peekV 5 (s0 :: s1 :: s2 :: s3 :: s4 :: .ow' t d :: l) = some d := no_rfl rfl
@[simp] theorem wo5 {t : Option Nat} {d : D} {s0 s1 s2 s3 s4 : Sl} {l : Env} {k : Option Nat → D → Prop} : WO 5 (s0 :: s1 :: s2 :: s3 :: s4 :: .ow' t d :: l) k = k t d := no_rfl rfl
@[simp] theorem getV6 {d : D} {s0 s1 s2 s3 s4 s5 : Sl} {l : Env} : getV 6 (s0 :: s1 :: s2 :: s3 :: s4 :: s5 :: .fz d :: l) = .ok d (s0 :: s1 :: s2 :: s3 :: s4 :: s5 :: .fz d :: l) := no_rfl rfl
@[simp] theorem getVo6 {d : D} {s0 s1 s2 s3 s4 s5 : Sl} {l : Env} : getV 6 (s0 :: s1 :: s2 :: s3 :: s4 :: s5 :: .ow d :: l) = .ok d (s0 :: s1 :: s2 :: s3 :: s4 :: s5 :: .fz d :: l) := no_rfl rfl
@[simp] theorem peekV6 {d : D} {s0 s1 s2 s3 s4 s5 : Sl} {l : Env} : peekV 6 (s0 :: s1 :: s2 :: s3 :: s4 :: s5 :: .fz d :: l) = some d := no_rfl rfl
@[simp] theorem peekVo6 {t : Option Nat} {d : D} {s0 s1 s2 s3 s4 s5 : Sl} {l : Env} : peekV 6 (s0 :: s1 :: s2 :: s3 :: s4 :: s5 :: .ow' t d :: l) = some d := no_rfl rfl
@[simp] theorem wo6 {t : Option Nat} {d : D} {s0 s1 s2 s3 s4 s5 : Sl} {l : Env} {k : Option Nat → D → Prop} : WO 6 (s0 :: s1 :: s2 :: s3 :: s4 :: s5 :: .ow' t d :: l) k = k t d := no_rfl rfl
@[simp] theorem getV7 {d : D} {s0 s1 s2 s3 s4 s5 s6 : Sl} {l : Env} : getV 7 (s0 :: s1 :: s2 :: s3 :: s4 :: s5 :: s6 :: .fz d :: l) = .ok d (s0 :: s1 :: s2 :: s3 :: s4 :: s5 :: s6 :: .fz d :: l) := no_rfl rfl
@[simp] theorem getVo7 {d : D} {s0 s1 s2 s3 s4 s5 s6 : Sl} {l : Env} : getV 7 (s0 :: s1 :: s2 :: s3 :: s4 :: s5 :: s6 :: .ow d :: l) = .ok d (s0 :: s1 :: s2 :: s3 :: s4 :: s5 :: s6 :: .fz d :: l) := no_rfl rfl
@[simp] theorem peekV7 {d : D} {s0 s1 s2 s3 s4 s5 s6 : Sl} {l : Env} : peekV 7 (s0 :: s1 :: s2 :: s3 :: s4 :: s5 :: s6 :: .fz d :: l) = some d := no_rfl rfl
@[simp] theorem peekVo7 {t : Option Nat} {d : D} {s0 s1 s2 s3 s4 s5 s6 : Sl} {l : Env} : peekV 7 (s0 :: s1 :: s2 :: s3 :: s4 :: s5 :: s6 :: .ow' t d :: l) = some d := no_rfl rfl
@[simp] theorem wo7 {t : Option Nat} {d : D} {s0 s1 s2 s3 s4 s5 s6 : Sl} {l : Env} {k : Option Nat → D → Prop} : WO 7 (s0 :: s1 :: s2 :: s3 :: s4 :: s5 :: s6 :: .ow' t d :: l) k = k t d := no_rfl rfl
@[simp] theorem getV8 {d : D} {s0 s1 s2 s3 s4 s5 s6 s7 : Sl} {l : Env} : getV 8 (s0 :: s1 :: s2 :: s3 :: s4 :: s5 :: s6 :: s7 :: .fz d :: l) = .ok d (s0 :: s1 :: s2 :: s3 :: s4 :: s5 :: s6 :: s7 :: .fz d :: l) := no_rfl rfl
@[simp] theorem getVo8 {d : D} {s0 s1 s2 s3 s4 s5 s6 s7 : Sl} {l : Env} : getV 8 (s0 :: s1 :: s2 :: s3 :: s4 :: s5 :: s6 :: s7 :: .ow d :: l) = .ok d (s0 :: s1 :: s2 :: s3 :: s4 :: s5 :: s6 :: s7 :: .fz d :: l) := no_rfl rfl
@[simp] theorem peekV8 {d : D} {s0 s1 s2 s3 s4 s5 s6 s7 : Sl} {l : Env} : peekV 8 (s0 :: s1 :: s2 :: s3 :: s4 :: s5 :: s6 :: s7 :: .fz d :: l) = some d := no_rfl rfl
@[simp] theorem peekVo8 {t : Option Nat} {d : D} {s0 s1 s2 s3 s4 s5 s6 s7 : Sl} {l : Env} : peekV 8 (s0 :: s1 :: s2 :: s3 :: s4 :: s5 :: s6 :: s7 :: .ow' t d :: l) = some d := no_rfl rfl
@[simp] theorem wo8 {t : Option Nat} {d : D} {s0 s1 s2 s3 s4 s5 s6 s7 : Sl} {l : Env} {k : Option Nat → D → Prop} : WO 8 (s0 :: s1 :: s2 :: s3 :: s4 :: s5 :: s6 :: s7 :: .ow' t d :: l) k = k t d := no_rfl rfl
@[simp] theorem getV9 {d : D} {s0 s1 s2 s3 s4 s5 s6 s7 s8 : Sl} {l : Env} : getV 9 (s0 :: s1 :: s2 :: s3 :: s4 :: s5 :: s6 :: s7 :: s8 :: .fz d :: l) = .ok d (s0 :: s1 :: s2 :: s3 :: s4 :: s5 :: s6 :: s7 :: s8 :: .fz d :: l) := no_rfl rfl
@[simp] theorem getVo9 {d : D} {s0 s1 s2 s3 s4 s5 s6 s7 s8 : Sl} {l : Env} : getV 9 (s0 :: s1 :: s2 :: s3 :: s4 :: s5 :: s6 :: s7 :: s8 :: .ow d :: l) = .ok d (s0 :: s1 :: s2 :: s3 :: s4 :: s5 :: s6 :: s7 :: s8 :: .fz d :: l) := no_rfl rfl
@[simp] theorem peekV9 {d : D} {s0 s1 s2 s3 s4 s5 s6 s7 s8 : Sl} {l : Env} : peekV 9 (s0 :: s1 :: s2 :: s3 :: s4 :: s5 :: s6 :: s7 :: s8 :: .fz d :: l) = some d := no_rfl rfl
@[simp] theorem peekVo9 {t : Option Nat} {d : D} {s0 s1 s2 s3 s4 s5 s6 s7 s8 : Sl} {l : Env} : peekV 9 (s0 :: s1 :: s2 :: s3 :: s4 :: s5 :: s6 :: s7 :: s8 :: .ow' t d :: l) = some d := no_rfl rfl
@[simp] theorem wo9 {t : Option Nat} {d : D} {s0 s1 s2 s3 s4 s5 s6 s7 s8 : Sl} {l : Env} {k : Option Nat → D → Prop} : WO 9 (s0 :: s1 :: s2 :: s3 :: s4 :: s5 :: s6 :: s7 :: s8 :: .ow' t d :: l) k = k t d := no_rfl rfl
@[simp] theorem getV10 {d : D} {s0 s1 s2 s3 s4 s5 s6 s7 s8 s9 : Sl} {l : Env} : getV 10 (s0 :: s1 :: s2 :: s3 :: s4 :: s5 :: s6 :: s7 :: s8 :: s9 :: .fz d :: l) = .ok d (s0 :: s1 :: s2 :: s3 :: s4 :: s5 :: s6 :: s7 :: s8 :: s9 :: .fz d :: l) := no_rfl rfl
@[simp] theorem getVo10 {d : D} {s0 s1 s2 s3 s4 s5 s6 s7 s8 s9 : Sl} {l : Env} : getV 10 (s0 :: s1 :: s2 :: s3 :: s4 :: s5 :: s6 :: s7 :: s8 :: s9 :: .ow d :: l) = .ok d (s0 :: s1 :: s2 :: s3 :: s4 :: s5 :: s6 :: s7 :: s8 :: s9 :: .fz d :: l) := no_rfl rfl
@[simp] theorem peekV10 {d : D} {s0 s1 s2 s3 s4 s5 s6 s7 s8 s9 : Sl} {l : Env} : peekV 10 (s0 :: s1 :: s2 :: s3 :: s4 :: s5 :: s6 :: s7 :: s8 :: s9 :: .fz d :: l) = some d := no_rfl rfl
@[simp] theorem peekVo10 {t : Option Nat} {d : D} {s0 s1 s2 s3 s4 s5 s6 s7 s8 s9 : Sl} {l : Env} : peekV 10 (s0 :: s1 :: s2 :: s3 :: s4 :: s5 :: s6 :: s7 :: s8 :: s9 :: .ow' t d :: l) = some d := no_rfl rfl
@[simp] theorem wo10 {t : Option Nat} {d : D} {s0 s1 s2 s3 s4 s5 s6 s7 s8 s9 : Sl} {l : Env} {k : Option Nat → D → Prop} : WO 10 (s0 :: s1 :: s2 :: s3 :: s4 :: s5 :: s6 :: s7 :: s8 :: s9 :: .ow' t d :: l) k = k t d := no_rfl rfl
@[simp] theorem getV11 {d : D} {s0 s1 s2 s3 s4 s5 s6 s7 s8 s9 s10 : Sl} {l : Env} : getV 11 (s0 :: s1 :: s2 :: s3 :: s4 :: s5 :: s6 :: s7 :: s8 :: s9 :: s10 :: .fz d :: l) = .ok d (s0 :: s1 :: s2 :: s3 :: s4 :: s5 :: s6 :: s7 :: s8 :: s9 :: s10 :: .fz d :: l) := no_rfl rfl
@[simp] theorem getVo11 {d : D} {s0 s1 s2 s3 s4 s5 s6 s7 s8 s9 s10 : Sl} {l : Env} : getV 11 (s0 :: s1 :: s2 :: s3 :: s4 :: s5 :: s6 :: s7 :: s8 :: s9 :: s10 :: .ow d :: l) = .ok d (s0 :: s1 :: s2 :: s3 :: s4 :: s5 :: s6 :: s7 :: s8 :: s9 :: s10 :: .fz d :: l) := no_rfl rfl
@[simp] theorem peekV11 {d : D} {s0 s1 s2 s3 s4 s5 s6 s7 s8 s9 s10 : Sl} {l : Env} : peekV 11 (s0 :: s1 :: s2 :: s3 :: s4 :: s5 :: s6 :: s7 :: s8 :: s9 :: s10 :: .fz d :: l) = some d := no_rfl rfl
@[simp] theorem peekVo11 {t : Option Nat} {d : D} {s0 s1 s2 s3 s4 s5 s6 s7 s8 s9 s10 : Sl} {l : Env} : peekV 11 (s0 :: s1 :: s2 :: s3 :: s4 :: s5 :: s6 :: s7 :: s8 :: s9 :: s10 :: .ow' t d :: l) = some d := no_rfl rfl
@[simp] theorem wo11 {t : Option Nat} {d : D} {s0 s1 s2 s3 s4 s5 s6 s7 s8 s9 s10 : Sl} {l : Env} {k : Option Nat → D → Prop} : WO 11 (s0 :: s1 :: s2 :: s3 :: s4 :: s5 :: s6 :: s7 :: s8 :: s9 :: s10 :: .ow' t d :: l) k = k t d := no_rfl rfl
@[simp] theorem getV12 {d : D} {s0 s1 s2 s3 s4 s5 s6 s7 s8 s9 s10 s11 : Sl} {l : Env} : getV 12 (s0 :: s1 :: s2 :: s3 :: s4 :: s5 :: s6 :: s7 :: s8 :: s9 :: s10 :: s11 :: .fz d :: l) = .ok d (s0 :: s1 :: s2 :: s3 :: s4 :: s5 :: s6 :: s7 :: s8 :: s9 :: s10 :: s11 :: .fz d :: l) := no_rfl rfl
@[simp] theorem getVo12 {d : D} {s0 s1 s2 s3 s4 s5 s6 s7 s8 s9 s10 s11 : Sl} {l : Env} : getV 12 (s0 :: s1 :: s2 :: s3 :: s4 :: s5 :: s6 :: s7 :: s8 :: s9 :: s10 :: s11 :: .ow d :: l) = .ok d (s0 :: s1 :: s2 :: s3 :: s4 :: s5 :: s6 :: s7 :: s8 :: s9 :: s10 :: s11 :: .fz d :: l) := no_rfl rfl
@[simp] theorem peekV12 {d : D} {s0 s1 s2 s3 s4 s5 s6 s7 s8 s9 s10 s11 : Sl} {l : Env} : peekV 12 (s0 :: s1 :: s2 :: s3 :: s4 :: s5 :: s6 :: s7 :: s8 :: s9 :: s10 :: s11 :: .fz d :: l) = some d := no_rfl rfl
@[simp] theorem peekVo12 {t : Option Nat} {d : D} {s0 s1 s2 s3 s4 s5 s6 s7 s8 s9 s10 s11 : Sl} {l : Env} : peekV 12 (s0 :: s1 :: s2 :: s3 :: s4 :: s5 :: s6 :: s7 :: s8 :: s9 :: s10 :: s11 :: .ow' t d :: l) = some d := no_rfl rfl
@[simp] theorem wo12 {t : Option Nat} {d : D} {s0 s1 s2 s3 s4 s5 s6 s7 s8 s9 s10 s11 : Sl} {l : Env} {k : Option Nat → D → Prop} : WO 12 (s0 :: s1 :: s2 :: s3 :: s4 :: s5 :: s6 :: s7 :: s8 :: s9 :: s10 :: s11 :: .ow' t d :: l) k = k t d := no_rfl rfl
@[simp] theorem getV13 {d : D} {s0 s1 s2 s3 s4 s5 s6 s7 s8 s9 s10 s11 s12 : Sl} {l : Env} : getV 13 (s0 :: s1 :: s2 :: s3 :: s4 :: s5 :: s6 :: s7 :: s8 :: s9 :: s10 :: s11 :: s12 :: .fz d :: l) = .ok d (s0 :: s1 :: s2 :: s3 :: s4 :: s5 :: s6 :: s7 :: s8 :: s9 :: s10 :: s11 :: s12 :: .fz d :: l) := no_rfl rfl
@[simp] theorem getVo13 {d : D} {s0 s1 s2 s3 s4 s5 s6 s7 s8 s9 s10 s11 s12 : Sl} {l : Env} : getV 13 (s0 :: s1 :: s2 :: s3 :: s4 :: s5 :: s6 :: s7 :: s8 :: s9 :: s10 :: s11 :: s12 :: .ow d :: l) = .ok d (s0 :: s1 :: s2 :: s3 :: s4 :: s5 :: s6 :: s7 :: s8 :: s9 :: s10 :: s11 :: s12 :: .fz d :: l) := no_rfl rfl
@[simp] theorem peekV13 {d : D} {s0 s1 s2 s3 s4 s5 s6 s7 s8 s9 s10 s11 s12 : Sl} {l : Env} : peekV 13 (s0 :: s1 :: s2 :: s3 :: s4 :: s5 :: s6 :: s7 :: s8 :: s9 :: s10 :: s11 :: s12 :: .fz d :: l) = some d := no_rfl rfl
@[simp] theorem peekVo13 {t : Option Nat} {d : D} {s0 s1 s2 s3 s4 s5 s6 s7 s8 s9 s10 s11 s12 : Sl} {l : Env} : peekV 13 (s0 :: s1 :: s2 :: s3 :: s4 :: s5 :: s6 :: s7 :: s8 :: s9 :: s10 :: s11 :: s12 :: .ow' t d :: l) = some d := no_rfl rfl
@[simp] theorem wo13 {t : Option Nat} {d : D} {s0 s1 s2 s3 s4 s5 s6 s7 s8 s9 s10 s11 s12 : Sl} {l : Env} {k : Option Nat → D → Prop} : WO 13 (s0 :: s1 :: s2 :: s3 :: s4 :: s5 :: s6 :: s7 :: s8 :: s9 :: s10 :: s11 :: s12 :: .ow' t d :: l) k = k t d := no_rfl rfl
@[simp] theorem getV14 {d : D} {s0 s1 s2 s3 s4 s5 s6 s7 s8 s9 s10 s11 s12 s13 : Sl} {l : Env} : getV 14 (s0 :: s1 :: s2 :: s3 :: s4 :: s5 :: s6 :: s7 :: s8 :: s9 :: s10 :: s11 :: s12 :: s13 :: .fz d :: l) = .ok d (s0 :: s1 :: s2 :: s3 :: s4 :: s5 :: s6 :: s7 :: s8 :: s9 :: s10 :: s11 :: s12 :: s13 :: .fz d :: l) := no_rfl rfl
@[simp] theorem getVo14 {d : D} {s0 s1 s2 s3 s4 s5 s6 s7 s8 s9 s10 s11 s12 s13 : Sl} {l : Env} : getV 14 (s0 :: s1 :: s2 :: s3 :: s4 :: s5 :: s6 :: s7 :: s8 :: s9 :: s10 :: s11 :: s12 :: s13 :: .ow d :: l) = .ok d (s0 :: s1 :: s2 :: s3 :: s4 :: s5 :: s6 :: s7 :: s8 :: s9 :: s10 :: s11 :: s12 :: s13 :: .fz d :: l) := no_rfl rfl
@[simp] theorem peekV14 {d : D} {s0 s1 s2 s3 s4 s5 s6 s7 s8 s9 s10 s11 s12 s13 : Sl} {l : Env} : peekV 14 (s0 :: s1 :: s2 :: s3 :: s4 :: s5 :: s6 :: s7 :: s8 :: s9 :: s10 :: s11 :: s12 :: s13 :: .fz d :: l) = some d := no_rfl rfl
@[simp] theorem peekVo14 {t : Option Nat} {d : D} {s0 s1 s2 s3 s4 s5 s6 s7 s8 s9 s10 s11 s12 s13 : Sl} {l : Env} : peekV 14 (s0 :: s1 :: s2 :: s3 :: s4 :: s5 :: s6 :: s7 :: s8 :: s9 :: s10 :: s11 :: s12 :: s13 :: .ow' t d :: l) = some d := no_rfl rfl
@[simp] theorem wo14 {t : Option Nat} {d : D} {s0 s1 s2 s3 s4 s5 s6 s7 s8 s9 s10 s11 s12 s13 : Sl} {l : Env} {k : Option Nat → D → Prop} : WO 14 (s0 :: s1 :: s2 :: s3 :: s4 :: s5 :: s6 :: s7 :: s8 :: s9 :: s10 :: s11 :: s12 :: s13 :: .ow' t d :: l) k = k t d := no_rfl rfl
@[simp] theorem getV15 {d : D} {s0 s1 s2 s3 s4 s5 s6 s7 s8 s9 s10 s11 s12 s13 s14 : Sl} {l : Env} : getV 15 (s0 :: s1 :: s2 :: s3 :: s4 :: s5 :: s6 :: s7 :: s8 :: s9 :: s10 :: s11 :: s12 :: s13 :: s14 :: .fz d :: l) = .ok d (s0 :: s1 :: s2 :: s3 :: s4 :: s5 :: s6 :: s7 :: s8 :: s9 :: s10 :: s11 :: s12 :: s13 :: s14 :: .fz d :: l) := no_rfl rfl
@[simp] theorem getVo15 {d : D} {s0 s1 s2 s3 s4 s5 s6 s7 s8 s9 s10 s11 s12 s13 s14 : Sl} {l : Env} : getV 15 (s0 :: s1 :: s2 :: s3 :: s4 :: s5 :: s6 :: s7 :: s8 :: s9 :: s10 :: s11 :: s12 :: s13 :: s14 :: .ow d :: l) = .ok d (s0 :: s1 :: s2 :: s3 :: s4 :: s5 :: s6 :: s7 :: s8 :: s9 :: s10 :: s11 :: s12 :: s13 :: s14 :: .fz d :: l) := no_rfl rfl
@[simp] theorem peekV15 {d : D} {s0 s1 s2 s3 s4 s5 s6 s7 s8 s9 s10 s11 s12 s13 s14 : Sl} {l : Env} : peekV 15 (s0 :: s1 :: s2 :: s3 :: s4 :: s5 :: s6 :: s7 :: s8 :: s9 :: s10 :: s11 :: s12 :: s13 :: s14 :: .fz d :: l) = some d := no_rfl rfl
@[simp] theorem peekVo15 {t : Option Nat} {d : D} {s0 s1 s2 s3 s4 s5 s6 s7 s8 s9 s10 s11 s12 s13 s14 : Sl} {l : Env} : peekV 15 (s0 :: s1 :: s2 :: s3 :: s4 :: s5 :: s6 :: s7 :: s8 :: s9 :: s10 :: s11 :: s12 :: s13 :: s14 :: .ow' t d :: l) = some d := no_rfl rfl
@[simp] theorem wo15 {t : Option Nat} {d : D} {s0 s1 s2 s3 s4 s5 s6 s7 s8 s9 s10 s11 s12 s13 s14 : Sl} {l : Env} {k : Option Nat → D → Prop} : WO 15 (s0 :: s1 :: s2 :: s3 :: s4 :: s5 :: s6 :: s7 :: s8 :: s9 :: s10 :: s11 :: s12 :: s13 :: s14 :: .ow' t d :: l) k = k t d := no_rfl rfl
@[simp] theorem getV16 {d : D} {s0 s1 s2 s3 s4 s5 s6 s7 s8 s9 s10 s11 s12 s13 s14 s15 : Sl} {l : Env} : getV 16 (s0 :: s1 :: s2 :: s3 :: s4 :: s5 :: s6 :: s7 :: s8 :: s9 :: s10 :: s11 :: s12 :: s13 :: s14 :: s15 :: .fz d :: l) = .ok d (s0 :: s1 :: s2 :: s3 :: s4 :: s5 :: s6 :: s7 :: s8 :: s9 :: s10 :: s11 :: s12 :: s13 :: s14 :: s15 :: .fz d :: l) := no_rfl rfl
@[simp] theorem getVo16 {d : D} {s0 s1 s2 s3 s4 s5 s6 s7 s8 s9 s10 s11 s12 s13 s14 s15 : Sl} {l : Env} : getV 16 (s0 :: s1 :: s2 :: s3 :: s4 :: s5 :: s6 :: s7 :: s8 :: s9 :: s10 :: s11 :: s12 :: s13 :: s14 :: s15 :: .ow d :: l) = .ok d (s0 :: s1 :: s2 :: s3 :: s4 :: s5 :: s6 :: s7 :: s8 :: s9 :: s10 :: s11 :: s12 :: s13 :: s14 :: s15 :: .fz d :: l) := no_rfl rfl
@[simp] theorem peekV16 {d : D} {s0 s1 s2 s3 s4 s5 s6 s7 s8 s9 s10 s11 s12 s13 s14 s15 : Sl} {l : Env} : peekV 16 (s0 :: s1 :: s2 :: s3 :: s4 :: s5 :: s6 :: s7 :: s8 :: s9 :: s10 :: s11 :: s12 :: s13 :: s14 :: s15 :: .fz d :: l) = some d := no_rfl rfl
@[simp] theorem peekVo16 {t : Option Nat} {d : D} {s0 s1 s2 s3 s4 s5 s6 s7 s8 s9 s10 s11 s12 s13 s14 s15 : Sl} {l : Env} : peekV 16 (s0 :: s1 :: s2 :: s3 :: s4 :: s5 :: s6 :: s7 :: s8 :: s9 :: s10 :: s11 :: s12 :: s13 :: s14 :: s15 :: .ow' t d :: l) = some d := no_rfl rfl
@[simp] theorem wo16 {t : Option Nat} {d : D} {s0 s1 s2 s3 s4 s5 s6 s7 s8 s9 s10 s11 s12 s13 s14 s15 : Sl} {l : Env} {k : Option Nat → D → Prop} : WO 16 (s0 :: s1 :: s2 :: s3 :: s4 :: s5 :: s6 :: s7 :: s8 :: s9 :: s10 :: s11 :: s12 :: s13 :: s14 :: s15 :: .ow' t d :: l) k = k t d := no_rfl rfl
@[simp] theorem getV17 {d : D} {s0 s1 s2 s3 s4 s5 s6 s7 s8 s9 s10 s11 s12 s13 s14 s15 s16 : Sl} {l : Env} : getV 17 (s0 :: s1 :: s2 :: s3 :: s4 :: s5 :: s6 :: s7 :: s8 :: s9 :: s10 :: s11 :: s12 :: s13 :: s14 :: s15 :: s16 :: .fz d :: l) = .ok d (s0 :: s1 :: s2 :: s3 :: s4 :: s5 :: s6 :: s7 :: s8 :: s9 :: s10 :: s11 :: s12 :: s13 :: s14 :: s15 :: s16 :: .fz d :: l) := no_rfl rfl
@[simp] theorem getVo17 {d : D} {s0 s1 s2 s3 s4 s5 s6 s7 s8 s9 s10 s11 s12 s13 s14 s15 s16 : Sl} {l : Env} : getV 17 (s0 :: s1 :: s2 :: s3 :: s4 :: s5 :: s6 :: s7 :: s8 :: s9 :: s10 :: s11 :: s12 :: s13 :: s14 :: s15 :: s16 :: .ow d :: l) = .ok d (s0 :: s1 :: s2 :: s3 :: s4 :: s5 :: s6 :: s7 :: s8 :: s9 :: s10 :: s11 :: s12 :: s13 :: s14 :: s15 :: s16 :: .fz d :: l) := no_rfl rfl
@[simp] theorem peekV17 {d : D} {s0 s1 s2 s3 s4 s5 s6 s7 s8 s9 s10 s11 s12 s13 s14 s15 s16 : Sl} {l : Env} : peekV 17 (s0 :: s1 :: s2 :: s3 :: s4 :: s5 :: s6 :: s7 :: s8 :: s9 :: s10 :: s11 :: s12 :: s13 :: s14 :: s15 :: s16 :: .fz d :: l) = some d := no_rfl rfl
@[simp] theorem peekVo17 {t : Option Nat} {d : D} {s0 s1 s2 s3 s4 s5 s6 s7 s8 s9 s10 s11 s12 s13 s14 s15 s16 : Sl} {l : Env} : peekV 17 (s0 :: s1 :: s2 :: s3 :: s4 :: s5 :: s6 :: s7 :: s8 :: s9 :: s10 :: s11 :: s12 :: s13 :: s14 :: s15 :: s16 :: .ow' t d :: l) = some d := no_rfl rfl
@[simp] theorem wo17 {t : Option Nat} {d : D} {s0 s1 s2 s3 s4 s5 s6 s7 s8 s9 s10 s11 s12 s13 s14 s15 s16 : Sl} {l : Env} {k : Option Nat → D → Prop} : WO 17 (s0 :: s1 :: s2 :: s3 :: s4 :: s5 :: s6 :: s7 :: s8 :: s9 :: s10 :: s11 :: s12 :: s13 :: s14 :: s15 :: s16 :: .ow' t d :: l) k = k t d := no_rfl rfl
@[simp] theorem getV18 {d : D} {s0 s1 s2 s3 s4 s5 s6 s7 s8 s9 s10 s11 s12 s13 s14 s15 s16 s17 : Sl} {l : Env} : getV 18 (s0 :: s1 :: s2 :: s3 :: s4 :: s5 :: s6 :: s7 :: s8 :: s9 :: s10 :: s11 :: s12 :: s13 :: s14 :: s15 :: s16 :: s17 :: .fz d :: l) = .ok d (s0 :: s1 :: s2 :: s3 :: s4 :: s5 :: s6 :: s7 :: s8 :: s9 :: s10 :: s11 :: s12 :: s13 :: s14 :: s15 :: s16 :: s17 :: .fz d :: l) := no_rfl rfl
@[simp] theorem getVo18 {d : D} {s0 s1 s2 s3 s4 s5 s6 s7 s8 s9 s10 s11 s12 s13 s14 s15 s16 s17 : Sl} {l : Env} : getV 18 (s0 :: s1 :: s2 :: s3 :: s4 :: s5 :: s6 :: s7 :: s8 :: s9 :: s10 :: s11 :: s12 :: s13 :: s14 :: s15 :: s16 :: s17 :: .ow d :: l) = .ok d (s0 :: s1 :: s2 :: s3 :: s4 :: s5 :: s6 :: s7 :: s8 :: s9 :: s10 :: s11 :: s12 :: s13 :: s14 :: s15 :: s16 :: s17 :: .fz d :: l) := no_rfl rfl
@[simp] theorem peekV18 {d : D} {s0 s1 s2 s3 s4 s5 s6 s7 s8 s9 s10 s11 s12 s13 s14 s15 s16 s17 : Sl} {l : Env} : peekV 18 (s0 :: s1 :: s2 :: s3 :: s4 :: s5 :: s6 :: s7 :: s8 :: s9 :: s10 :: s11 :: s12 :: s13 :: s14 :: s15 :: s16 :: s17 :: .fz d :: l) = some d := no_rfl rfl
@[simp] theorem peekVo18 {t : Option Nat} {d : D} {s0 s1 s2 s3 s4 s5 s6 s7 s8 s9 s10 s11 s12 s13 s14 s15 s16 s17 : Sl} {l : Env} : peekV 18 (s0 :: s1 :: s2 :: s3 :: s4 :: s5 :: s6 :: s7 :: s8 :: s9 :: s10 :: s11 :: s12 :: s13 :: s14 :: s15 :: s16 :: s17 :: .ow' t d :: l) = some d := no_rfl rfl
@[simp] theorem wo18 {t : Option Nat} {d : D} {s0 s1 s2 s3 s4 s5 s6 s7 s8 s9 s10 s11 s12 s13 s14 s15 s16 s17 : Sl} {l : Env} {k : Option Nat → D → Prop} : WO 18 (s0 :: s1 :: s2 :: s3 :: s4 :: s5 :: s6 :: s7 :: s8 :: s9 :: s10 :: s11 :: s12 :: s13 :: s14 :: s15 :: s16 :: s17 :: .ow' t d :: l) k = k t d := no_rfl rfl
@[simp] theorem getV19 {d : D} {s0 s1 s2 s3 s4 s5 s6 s7 s8 s9 s10 s11 s12 s13 s14 s15 s16 s17 s18 : Sl} {l : Env} : getV 19 (s0 :: s1 :: s2 :: s3 :: s4 :: s5 :: s6 :: s7 :: s8 :: s9 :: s10 :: s11 :: s12 :: s13 :: s14 :: s15 :: s16 :: s17 :: s18 :: .fz d :: l) = .ok d (s0 :: s1 :: s2 :: s3 :: s4 :: s5 :: s6 :: s7 :: s8 :: s9 :: s10 :: s11 :: s12 :: s13 :: s14 :: s15 :: s16 :: s17 :: s18 :: .fz d :: l) := no_rfl rfl
@[simp] theorem getVo19 {d : D} {s0 s1 s2 s3 s4 s5 s6 s7 s8 s9 s10 s11 s12 s13 s14 s15 s16 s17 s18 : Sl} {l : Env} : getV 19 (s0 :: s1 :: s2 :: s3 :: s4 :: s5 :: s6 :: s7 :: s8 :: s9 :: s10 :: s11 :: s12 :: s13 :: s14 :: s15 :: s16 :: s17 :: s18 :: .ow d :: l) = .ok d (s0 :: s1 :: s2 :: s3 :: s4 :: s5 :: s6 :: s7 :: s8 :: s9 :: s10 :: s11 :: s12 :: s13 :: s14 :: s15 :: s16 :: s17 :: s18 :: .fz d :: l) := no_rfl rfl
@[simp] theorem peekV19 {d : D} {s0 s1 s2 s3 s4 s5 s6 s7 s8 s9 s10 s11 s12 s13 s14 s15 s16 s17 s18 : Sl} {l : Env} : peekV 19 (s0 :: s1 :: s2 :: s3 :: s4 :: s5 :: s6 :: s7 :: s8 :: s9 :: s10 :: s11 :: s12 :: s13 :: s14 :: s15 :: s16 :: s17 :: s18 :: .fz d :: l) = some d := no_rfl rfl
@[simp] theorem peekVo19 {t : Option Nat} {d : D} {s0 s1 s2 s3 s4 s5 s6 s7 s8 s9 s10 s11 s12 s13 s14 s15 s16 s17 s18 : Sl} {l : Env} : peekV 19 (s0 :: s1 :: s2 :: s3 :: s4 :: s5 :: s6 :: s7 :: s8 :: s9 :: s10 :: s11 :: s12 :: s13 :: s14 :: s15 :: s16 :: s17 :: s18 :: .ow' t d :: l) = some d := no_rfl rfl
@[simp] theorem wo19 {t : Option Nat} {d : D} {s0 s1 s2 s3 s4 s5 s6 s7 s8 s9 s10 s11 s12 s13 s14 s15 s16 s17 s18 : Sl} {l : Env} {k : Option Nat → D → Prop} : WO 19 (s0 :: s1 :: s2 :: s3 :: s4 :: s5 :: s6 :: s7 :: s8 :: s9 :: s10 :: s11 :: s12 :: s13 :: s14 :: s15 :: s16 :: s17 :: s18 :: .ow' t d :: l) k = k t d := no_rfl rfl
@[simp] theorem getV20 {d : D} {s0 s1 s2 s3 s4 s5 s6 s7 s8 s9 s10 s11 s12 s13 s14 s15 s16 s17 s18 s19 : Sl} {l : Env} : getV 20 (s0 :: s1 :: s2 :: s3 :: s4 :: s5 :: s6 :: s7 :: s8 :: s9 :: s10 :: s11 :: s12 :: s13 :: s14 :: s15 :: s16 :: s17 :: s18 :: s19 :: .fz d :: l) = .ok d (s0 :: s1 :: s2 :: s3 :: s4 :: s5 :: s6 :: s7 :: s8 :: s9 :: s10 :: s11 :: s12 :: s13 :: s14 :: s15 :: s16 :: s17 :: s18 :: s19 :: .fz d :: l) := no_rfl rfl
@[simp] theorem getVo20 {d : D} {s0 s1 s2 s3 s4 s5 s6 s7 s8 s9 s10 s11 s12 s13 s14 s15 s16 s17 s18 s19 : Sl} {l : Env} : getV 20 (s0 :: s1 :: s2 :: s3 :: s4 :: s5 :: s6 :: s7 :: s8 :: s9 :: s10 :: s11 :: s12 :: s13 :: s14 :: s15 :: s16 :: s17 :: s18 :: s19 :: .ow d :: l) = .ok d (s0 :: s1 :: s2 :: s3 :: s4 :: s5 :: s6 :: s7 :: s8 :: s9 :: s10 :: s11 :: s12 :: s13 :: s14 :: s15 :: s16 :: s17 :: s18 :: s19 :: .fz d :: l) := no_rfl rfl
@[simp] theorem peekV20 {d : D} {s0 s1 s2 s3 s4 s5 s6 s7 s8 s9 s10 s11 s12 s13 s14 s15 s16 s17 s18 s19 : Sl} {l : Env} : peekV 20 (s0 :: s1 :: s2 :: s3 :: s4 :: s5 :: s6 :: s7 :: s8 :: s9 :: s10 :: s11 :: s12 :: s13 :: s14 :: s15 :: s16 :: s17 :: s18 :: s19 :: .fz d :: l) = some d := no_rfl rfl
@[simp] theorem peekVo20 {t : Option Nat} {d : D} {s0 s1 s2 s3 s4 s5 s6 s7 s8 s9 s10 s11 s12 s13 s14 s15 s16 s17 s18 s19 : Sl} {l : Env} : peekV 20 (s0 :: s1 :: s2 :: s3 :: s4 :: s5 :: s6 :: s7 :: s8 :: s9 :: s10 :: s11 :: s12 :: s13 :: s14 :: s15 :: s16 :: s17 :: s18 :: s19 :: .ow' t d :: l) = some d := no_rfl rfl
@[simp] theorem wo20 {t : Option Nat} {d : D} {s0 s1 s2 s3 s4 s5 s6 s7 s8 s9 s10 s11 s12 s13 s14 s15 s16 s17 s18 s19 : Sl} {l : Env} {k : Option Nat → D → Prop} : WO 20 (s0 :: s1 :: s2 :: s3 :: s4 :: s5 :: s6 :: s7 :: s8 :: s9 :: s10 :: s11 :: s12 :: s13 :: s14 :: s15 :: s16 :: s17 :: s18 :: s19 :: .ow' t d :: l) k = k t d := no_rfl rfl
@[simp] theorem getV21 {d : D} {s0 s1 s2 s3 s4 s5 s6 s7 s8 s9 s10 s11 s12 s13 s14 s15 s16 s17 s18 s19 s20 : Sl} {l : Env} : getV 21 (s0 :: s1 :: s2 :: s3 :: s4 :: s5 :: s6 :: s7 :: s8 :: s9 :: s10 :: s11 :: s12 :: s13 :: s14 :: s15 :: s16 :: s17 :: s18 :: s19 :: s20 :: .fz d :: l) = .ok d (s0 :: s1 :: s2 :: s3 :: s4 :: s5 :: s6 :: s7 :: s8 :: s9 :: s10 :: s11 :: s12 :: s13 :: s14 :: s15 :: s16 :: s17 :: s18 :: s19 :: s20 :: .fz d :: l) := no_rfl rfl
@[simp] theorem getVo21 {d : D} {s0 s1 s2 s3 s4 s5 s6 s7 s8 s9 s10 s11 s12 s13 s14 s15 s16 s17 s18 s19 s20 : Sl} {l : Env} : getV 21 (s0 :: s1 :: s2 :: s3 :: s4 :: s5 :: s6 :: s7 :: s8 :: s9 :: s10 :: s11 :: s12 :: s13 :: s14 :: s15 :: s16 :: s17 :: s18 :: s19 :: s20 :: .ow d :: l) = .ok d (s0 :: s1 :: s2 :: s3 :: s4 :: s5 :: s6 :: s7 :: s8 :: s9 :: s10 :: s11 :: s12 :: s13 :: s14 :: s15 :: s16 :: s17 :: s18 :: s19 :: s20 :: .fz d :: l) := no_rfl rfl
@[simp] theorem peekV21 {d : D} {s0 s1 s2 s3 s4 s5 s6 s7 s8 s9 s10 s11 s12 s13 s14 s15 s16 s17 s18 s19 s20 : Sl} {l : Env} : peekV 21 (s0 :: s1 :: s2 :: s3 :: s4 :: s5 :: s6 :: s7 :: s8 :: s9 :: s10 :: s11 :: s12 :: s13 :: s14 :: s15 :: s16 :: s17 :: s18 :: s19 :: s20 :: .fz d :: l) = some d := no_rfl rfl
@[simp] theorem peekVo21 {t : Option Nat} {d : D} {s0 s1 s2 s3 s4 s5 s6 s7 s8 s9 s10 s11 s12 s13 s14 s15 s16 s17 s18 s19 s20 : Sl} {l : Env} : peekV 21 (s0 :: s1 :: s2 :: s3 :: s4 :: s5 :: s6 :: s7 :: s8 :: s9 :: s10 :: s11 :: s12 :: s13 :: s14 :: s15 :: s16 :: s17 :: s18 :: s19 :: s20 :: .ow' t d :: l) = some d := no_rfl rfl
@[simp] theorem wo21 {t : Option Nat} {d : D} {s0 s1 s2 s3 s4 s5 s6 s7 s8 s9 s10 s11 s12 s13 s14 s15 s16 s17 s18 s19 s20 : Sl} {l : Env} {k : Option Nat → D → Prop} : WO 21 (s0 :: s1 :: s2 :: s3 :: s4 :: s5 :: s6 :: s7 :: s8 :: s9 :: s10 :: s11 :: s12 :: s13 :: s14 :: s15 :: s16 :: s17 :: s18 :: s19 :: s20 :: .ow' t d :: l) k = k t d := no_rfl rfl
@[simp] theorem getV22 {d : D} {s0 s1 s2 s3 s4 s5 s6 s7 s8 s9 s10 s11 s12 s13 s14 s15 s16 s17 s18 s19 s20 s21 : Sl} {l : Env} : getV 22 (s0 :: s1 :: s2 :: s3 :: s4 :: s5 :: s6 :: s7 :: s8 :: s9 :: s10 :: s11 :: s12 :: s13 :: s14 :: s15 :: s16 :: s17 :: s18 :: s19 :: s20 :: s21 :: .fz d :: l) = .ok d (s0 :: s1 :: s2 :: s3 :: s4 :: s5 :: s6 :: s7 :: s8 :: s9 :: s10 :: s11 :: s12 :: s13 :: s14 :: s15 :: s16 :: s17 :: s18 :: s19 :: s20 :: s21 :: .fz d :: l) := no_rfl rfl
@[simp] theorem getVo22 {d : D} {s0 s1 s2 s3 s4 s5 s6 s7 s8 s9 s10 s11 s12 s13 s14 s15 s16 s17 s18 s19 s20 s21 : Sl} {l : Env} : getV 22 (s0 :: s1 :: s2 :: s3 :: s4 :: s5 :: s6 :: s7 :: s8 :: s9 :: s10 :: s11 :: s12 :: s13 :: s14 :: s15 :: s16 :: s17 :: s18 :: s19 :: s20 :: s21 :: .ow d :: l) = .ok d (s0 :: s1 :: s2 :: s3 :: s4 :: s5 :: s6 :: s7 :: s8 :: s9 :: s10 :: s11 :: s12 :: s13 :: s14 :: s15 :: s16 :: s17 :: s18 :: s19 :: s20 :: s21 :: .fz d :: l) := no_rfl rfl
@[simp] theorem peekV22 {d : D} {s0 s1 s2 s3 s4 s5 s6 s7 s8 s9 s10 s11 s12 s13 s14 s15 s16 s17 s18 s19 s20 s21 : Sl} {l : Env} : peekV 22 (s0 :: s1 :: s2 :: s3 :: s4 :: s5 :: s6 :: s7 :: s8 :: s9 :: s10 :: s11 :: s12 :: s13 :: s14 :: s15 :: s16 :: s17 :: s18 :: s19 :: s20 :: s21 :: .fz d :: l) = some d := no_rfl rfl
@[simp] theorem peekVo22 {t : Option Nat} {d : D} {s0 s1 s2 s3 s4 s5 s6 s7 s8 s9 s10 s11 s12 s13 s14 s15 s16 s17 s18 s19 s20 s21 : Sl} {l : Env} : peekV 22 (s0 :: s1 :: s2 :: s3 :: s4 :: s5 :: s6 :: s7 :: s8 :: s9 :: s10 :: s11 :: s12 :: s13 :: s14 :: s15 :: s16 :: s17 :: s18 :: s19 :: s20 :: s21 :: .ow' t d :: l) = some d := no_rfl rfl
@[simp] theorem wo22 {t : Option Nat} {d : D} {s0 s1 s2 s3 s4 s5 s6 s7 s8 s9 s10 s11 s12 s13 s14 s15 s16 s17 s18 s19 s20 s21 : Sl} {l : Env} {k : Option Nat → D → Prop} : WO 22 (s0 :: s1 :: s2 :: s3 :: s4 :: s5 :: s6 :: s7 :: s8 :: s9 :: s10 :: s11 :: s12 :: s13 :: s14 :: s15 :: s16 :: s17 :: s18 :: s19 :: s20 :: s21 :: .ow' t d :: l) k = k t d := no_rfl rfl
@[simp] theorem getV23 {d : D} {s0 s1 s2 s3 s4 s5 s6 s7 s8 s9 s10 s11 s12 s13 s14 s15 s16 s17 s18 s19 s20 s21 s22 : Sl} {l : Env} : getV 23 (s0 :: s1 :: s2 :: s3 :: s4 :: s5 :: s6 :: s7 :: s8 :: s9 :: s10 :: s11 :: s12 :: s13 :: s14 :: s15 :: s16 :: s17 :: s18 :: s19 :: s20 :: s21 :: s22 :: .fz d :: l) = .ok d (s0 :: s1 :: s2 :: s3 :: s4 :: s5 :: s6 :: s7 :: s8 :: s9 :: s10 :: s11 :: s12 :: s13 :: s14 :: s15 :: s16 :: s17 :: s18 :: s19 :: s20 :: s21 :: s22 :: .fz d :: l) := no_rfl rfl
@[simp] theorem getVo23 {d : D} {s0 s1 s2 s3 s4 s5 s6 s7 s8 s9 s10 s11 s12 s13 s14 s15 s16 s17 s18 s19 s20 s21 s22 : Sl} {l : Env} : getV 23 (s0 :: s1 :: s2 :: s3 :: s4 :: s5 :: s6 :: s7 :: s8 :: s9 :: s10 :: s11 :: s12 :: s13 :: s14 :: s15 :: s16 :: s17 :: s18 :: s19 :: s20 :: s21 :: s22 :: .ow d :: l) = .ok d (s0 :: s1 :: s2 :: s3 :: s4 :: s5 :: s6 :: s7 :: s8 :: s9 :: s10 :: s11 :: s12 :: s13 :: s14 :: s15 :: s16 :: s17 :: s18 :: s19 :: s20 :: s21 :: s22 :: .fz d :: l) := no_rfl rfl
@[simp] theorem peekV23 {d : D} {s0 s1 s2 s3 s4 s5 s6 s7 s8 s9 s10 s11 s12 s13 s14 s15 s16 s17 s18 s19 s20 s21 s22 : Sl} {l : Env} : peekV 23 (s0 :: s1 :: s2 :: s3 :: s4 :: s5 :: s6 :: s7 :: s8 :: s9 :: s10 :: s11 :: s12 :: s13 :: s14 :: s15 :: s16 :: s17 :: s18 :: s19 :: s20 :: s21 :: s22 :: .fz d :: l) = some d := no_rfl rfl
@[simp] theorem peekVo23 {t : Option Nat} {d : D} {s0 s1 s2 s3 s4 s5 s6 s7 s8 s9 s10 s11 s12 s13 s14 s15 s16 s17 s18 s19 s20 s21 s22 : Sl} {l : Env} : peekV 23 (s0 :: s1 :: s2 :: s3 :: s4 :: s5 :: s6 :: s7 :: s8 :: s9 :: s10 :: s11 :: s12 :: s13 :: s14 :: s15 :: s16 :: s17 :: s18 :: s19 :: s20 :: s21 :: s22 :: .ow' t d :: l) = some d := no_rfl rfl
@[simp] theorem wo23 {t : Option Nat} {d : D} {s0 s1 s2 s3 s4 s5 s6 s7 s8 s9 s10 s11 s12 s13 s14 s15 s16 s17 s18 s19 s20 s21 s22 : Sl} {l : Env} {k : Option Nat → D → Prop} : WO 23 (s0 :: s1 :: s2 :: s3 :: s4 :: s5 :: s6 :: s7 :: s8 :: s9 :: s10 :: s11 :: s12 :: s13 :: s14 :: s15 :: s16 :: s17 :: s18 :: s19 :: s20 :: s21 :: s22 :: .ow' t d :: l) k = k t d := no_rfl rfl
@[simp] theorem getV24 {d : D} {s0 s1 s2 s3 s4 s5 s6 s7 s8 s9 s10 s11 s12 s13 s14 s15 s16 s17 s18 s19 s20 s21 s22 s23 : Sl} {l : Env} : getV 24 (s0 :: s1 :: s2 :: s3 :: s4 :: s5 :: s6 :: s7 :: s8 :: s9 :: s10 :: s11 :: s12 :: s13 :: s14 :: s15 :: s16 :: s17 :: s18 :: s19 :: s20 :: s21 :: s22 :: s23 :: .fz d :: l) = .ok d (s0 :: s1 :: s2 :: s3 :: s4 :: s5 :: s6 :: s7 :: s8 :: s9 :: s10 :: s11 :: s12 :: s13 :: s14 :: s15 :: s16 :: s17 :: s18 :: s19 :: s20 :: s21 :: s22 :: s23 :: .fz d :: l) := no_rfl rfl
@[simp] theorem getVo24 {d : D} {s0 s1 s2 s3 s4 s5 s6 s7 s8 s9 s10 s11 s12 s13 s14 s15 s16 s17 s18 s19 s20 s21 s22 s23 : Sl} {l : Env} : getV 24 (s0 :: s1 :: s2 :: s3 :: s4 :: s5 :: s6 :: s7 :: s8 :: s9 :: s10 :: s11 :: s12 :: s13 :: s14 :: s15 :: s16 :: s17 :: s18 :: s19 :: s20 :: s21 :: s22 :: s23 :: .ow d :: l) = .ok d (s0 :: s1 :: s2 :: s3 :: s4 :: s5 :: s6 :: s7 :: s8 :: s9 :: s10 :: s11 :: s12 :: s13 :: s14 :: s15 :: s16 :: s17 :: s18 :: s19 :: s20 :: s21 :: s22 :: s23 :: .fz d :: l) := no_rfl rfl
@[simp] theorem peekV24 {d : D} {s0 s1 s2 s3 s4 s5 s6 s7 s8 s9 s10 s11 s12 s13 s14 s15 s16 s17 s18 s19 s20 s21 s22 s23 : Sl} {l : Env} : peekV 24 (s0 :: s1 :: s2 :: s3 :: s4 :: s5 :: s6 :: s7 :: s8 :: s9 :: s10 :: s11 :: s12 :: s13 :: s14 :: s15 :: s16 :: s17 :: s18 :: s19 :: s20 :: s21 :: s22 :: s23 :: .fz d :: l) = some d := no_rfl rfl
@[simp] theorem peekVo24 {t : Option Nat} {d : D} {s0 s1 s2 s3 s4 s5 s6 s7 s8 s9 s10 s11 s12 s13 s14 s15 s16 s17 s18 s19 s20 s21 s22 s23 : Sl} {l : Env} : peekV 24 (s0 :: s1 :: s2 :: s3 :: s4 :: s5 :: s6 :: s7 :: s8 :: s9 :: s10 :: s11 :: s12 :: s13 :: s14 :: s15 :: s16 :: s17 :: s18 :: s19 :: s20 :: s21 :: s22 :: s23 :: .ow' t d :: l) = some d := no_rfl rfl
@[simp] theorem wo24 {t : Option Nat} {d : D} {s0 s1 s2 s3 s4 s5 s6 s7 s8 s9 s10 s11 s12 s13 s14 s15 s16 s17 s18 s19 s20 s21 s22 s23 : Sl} {l : Env} {k : Option Nat → D → Prop} : WO 24 (s0 :: s1 :: s2 :: s3 :: s4 :: s5 :: s6 :: s7 :: s8 :: s9 :: s10 :: s11 :: s12 :: s13 :: s14 :: s15 :: s16 :: s17 :: s18 :: s19 :: s20 :: s21 :: s22 :: s23 :: .ow' t d :: l) k = k t d := no_rfl rfl
@[simp] theorem getV25 {d : D} {s0 s1 s2 s3 s4 s5 s6 s7 s8 s9 s10 s11 s12 s13 s14 s15 s16 s17 s18 s19 s20 s21 s22 s23 s24 : Sl} {l : Env} : getV 25 (s0 :: s1 :: s2 :: s3 :: s4 :: s5 :: s6 :: s7 :: s8 :: s9 :: s10 :: s11 :: s12 :: s13 :: s14 :: s15 :: s16 :: s17 :: s18 :: s19 :: s20 :: s21 :: s22 :: s23 :: s24 :: .fz d :: l) = .ok d (s0 :: s1 :: s2 :: s3 :: s4 :: s5 :: s6 :: s7 :: s8 :: s9 :: s10 :: s11 :: s12 :: s13 :: s14 :: s15 :: s16 :: s17 :: s18 :: s19 :: s20 :: s21 :: s22 :: s23 :: s24 :: .fz d :: l) := no_rfl rfl
@[simp] theorem getVo25 {d : D} {s0 s1 s2 s3 s4 s5 s6 s7 s8 s9 s10 s11 s12 s13 s14 s15 s16 s17 s18 s19 s20 s21 s22 s23 s24 : Sl} {l : Env} : getV 25 (s0 :: s1 :: s2 :: s3 :: s4 :: s5 :: s6 :: s7 :: s8 :: s9 :: s10 :: s11 :: s12 :: s13 :: s14 :: s15 :: s16 :: s17 :: s18 :: s19 :: s20 :: s21 :: s22 :: s23 :: s24 :: .ow d :: l) = .ok d (s0 :: s1 :: s2 :: s3 :: s4 :: s5 :: s6 :: s7 :: s8 :: s9 :: s10 :: s11 :: s12 :: s13 :: s14 :: s15 :: s16 :: s17 :: s18 :: s19 :: s20 :: s21 :: s22 :: s23 :: s24 :: .fz d :: l) := no_rfl rfl
@[simp] theorem peekV25 {d : D} {s0 s1 s2 s3 s4 s5 s6 s7 s8 s9 s10 s11 s12 s13 s14 s15 s16 s17 s18 s19 s20 s21 s22 s23 s24 : Sl} {l : Env} : peekV 25 (s0 :: s1 :: s2 :: s3 :: s4 :: s5 :: s6 :: s7 :: s8 :: s9 :: s10 :: s11 :: s12 :: s13 :: s14 :: s15 :: s16 :: s17 :: s18 :: s19 :: s20 :: s21 :: s22 :: s23 :: s24 :: .fz d :: l) = some d := no_rfl rfl
@[simp] theorem peekVo25 {t : Option Nat} {d : D} {s0 s1 s2 s3 s4 s5 s6 s7 s8 s9 s10 s11 s12 s13 s14 s15 s16 s17 s18 s19 s20 s21 s22 s23 s24 : Sl} {l : Env} : peekV 25 (s0 :: s1 :: s2 :: s3 :: s4 :: s5 :: s6 :: s7 :: s8 :: s9 :: s10 :: s11 :: s12 :: s13 :: s14 :: s15 :: s16 :: s17 :: s18 :: s19 :: s20 :: s21 :: s22 :: s23 :: s24 :: .ow' t d :: l) = some d := no_rfl rfl
@[simp] theorem wo25 {t : Option Nat} {d : D} {s0 s1 s2 s3 s4 s5 s6 s7 s8 s9 s10 s11 s12 s13 s14 s15 s16 s17 s18 s19 s20 s21 s22 s23 s24 : Sl} {l : Env} {k : Option Nat → D → Prop} : WO 25 (s0 :: s1 :: s2 :: s3 :: s4 :: s5 :: s6 :: s7 :: s8 :: s9 :: s10 :: s11 :: s12 :: s13 :: s14 :: s15 :: s16 :: s17 :: s18 :: s19 :: s20 :: s21 :: s22 :: s23 :: s24 :: .ow' t d :: l) k = k t d := no_rfl rfl

section
variable {t : Bool} {i j : Int} {b c : Bool} {x y : Str} {xs ys : List D} {kvs : List (D × D)} {d e : D} {ty : Ty}
@[simp] theorem len_tup : b1D .len (.tup xs) = some (.int xs.length) := no_rfl rfl
@[simp] theorem len_lst : b1D .len (.lst xs) = some (.int xs.length) := no_rfl rfl
@[simp] theorem len_ro : b1D .len (.ro xs) = some (.int xs.length) := no_rfl rfl
@[simp] theorem len_dct : b1D .len (.dct t kvs) = some (.int kvs.length) := no_rfl rfl
@[simp] theorem int_int : b1D .int (.int i) = some (.int i) := no_rfl rfl
@[simp] theorem int_bl : b1D .int (.bl b) = some (.int (if b then 1 else 0)) := no_rfl rfl
@[simp] theorem tuple_lst : b1D .tuple (.lst xs) = some (.tup xs) := no_rfl rfl
@[simp] theorem tuple_tup : b1D .tuple (.tup xs) = some (.tup xs) := no_rfl rfl
@[simp] theorem abs_int : b1D .abs (.int i) = some (.int (if i < 0 then -i else i)) := no_rfl rfl
@[simp] theorem sum_lst : b1D .sum (.lst xs) = (intsOf xs).map fun ns => .int ns.sum := no_rfl rfl
@[simp] theorem isi_non : b1D (.isi ty) .non = some (.bl false) := no_rfl rfl
@[simp] theorem isi_bl : b1D (.isi ty) (.bl b) = some (.bl (decide (ty = .bool) || decide (ty = .int))) := no_rfl rfl
@[simp] theorem isi_int : b1D (.isi ty) (.int i) = some (.bl (decide (ty = .int))) := no_rfl rfl
@[simp] theorem isi_str : b1D (.isi ty) (.str x) = some (.bl (decide (ty = .str))) := no_rfl rfl
@[simp] theorem isi_tup : b1D (.isi ty) (.tup xs) = some (.bl (decide (ty = .tuple))) := no_rfl rfl
@[simp] theorem isi_lst : b1D (.isi ty) (.lst xs) = some (.bl (decide (ty = .list))) := no_rfl rfl
@[simp] theorem min_int : b2D .min (.int i) (.int j) = some (.int (if j < i then j else i)) := no_rfl rfl
@[simp] theorem max_int : b2D .max (.int i) (.int j) = some (.int (if j > i then j else i)) := no_rfl rfl
@[simp] theorem add_int : bopD .add (.int i) (.int j) = some (.int (i + j)) := no_rfl rfl
@[simp] theorem add_tup : bopD .add (.tup xs) (.tup ys) = if xs.length + ys.length ≤ sizeL then some (.tup (xs ++ ys)) else none := no_rfl rfl
@[simp] theorem sub_int : bopD .sub (.int i) (.int j) = some (.int (i - j)) := no_rfl rfl
@[simp] theorem mod_int : bopD .mod (.int i) (.int j) = if 0 < j then some (.int (i % j)) else none := no_rfl rfl
@[simp] theorem fdiv_int : bopD .fdiv (.int i) (.int j) = if 0 < j ∧ j < 1073741824 then some (.int (i / j)) else fdivW i j := no_rfl rfl
theorem mul_int : bopD .mul (.int i) (.int j) = if small64 i || small64 j then some (.int (i * j)) else mulW i j := no_rfl rfl
@[simp] theorem mul_tup : bopD .mul (.tup xs) (.int i) = if xs.length ≤ 1000 ∧ 1 ≤ i ∧ i ≤ 1000 then some (.tup (List.replicate i.toNat xs).flatten) else none := no_rfl rfl
theorem pow_int : bopD .pow (.int i) (.int j) = if 0 ≤ j ∧ j ≤ 1000 ∧ i.natAbs < 2 ^ 64 then some (.int (i ^ j.toNat)) else none := no_rfl rfl
@[simp] theorem cop_eqD : copD .eq d e = eqD d e := by cases d <;> cases e <;> rfl
@[simp] theorem cop_neD : copD .ne d e = (eqD d e).map (!·) := by cases d <;> cases e <;> rfl
@[simp] theorem cop_lt : copD .lt (.int i) (.int j) = some (decide (i < j)) := no_rfl rfl
@[simp] theorem cop_le : copD .le (.int i) (.int j) = some (decide (i ≤ j)) := no_rfl rfl
@[simp] theorem cop_gt : copD .gt (.int i) (.int j) = some (decide (j < i)) := no_rfl rfl
@[simp] theorem cop_ge : copD .ge (.int i) (.int j) = some (decide (j ≤ i)) := no_rfl rfl
@[simp] theorem cop_isD : copD .is d e = isD d e := by cases d <;> cases e <;> rfl
@[simp] theorem cop_isnotD : copD .isnot d e = (isD d e).map (!·) := by cases d <;> cases e <;> rfl
@[simp] theorem cop_inD : copD .inn d e = memD d e := by cases d <;> cases e <;> rfl
@[simp] theorem cop_notinD : copD .notin d e = (memD d e).map (!·) := by cases d <;> cases e <;> rfl
@[simp] theorem is_bl : isD (.bl b) (.bl c) = some (decide (b = c)) := no_rfl rfl
@[simp] theorem is_non : isD d .non = some (isNon d) := by cases d <;> rfl
@[simp] theorem ix_tup : ixD (.tup xs) (.int i) = L2.atI xs i := no_rfl rfl
@[simp] theorem ix_lst : ixD (.lst xs) (.int i) = L2.atI xs i := no_rfl rfl
@[simp] theorem ix_ro : ixD (.ro xs) (.int i) = L2.atI xs i := no_rfl rfl
theorem ix_dct : ixD (.dct t kvs) d = if isKey t d then dGet kvs d else none := by cases d <;> rfl
@[simp] theorem sl_tup {lo hi : Option Int} : slD (.tup xs) lo hi = some (.tup (cutL xs lo hi)) := no_rfl rfl
@[simp] theorem sln_lst {lo hi : Option Int} : slN (.lst xs) lo hi = some (.lst (cutL xs lo hi)) := no_rfl rfl
@[simp] theorem listD_lst : listD (.lst xs) = some xs := no_rfl rfl
@[simp] theorem listD_tup : listD (.tup xs) = some xs := no_rfl rfl
@[simp] theorem listD_ro : listD (.ro xs) = some xs := no_rfl rfl
@[simp] theorem seqD_lst : seqD (.lst xs) = some (.lst xs) := no_rfl rfl
@[simp] theorem seqD_tup : seqD (.tup xs) = some (.lst xs) := no_rfl rfl
@[simp] theorem seqD_ro : seqD (.ro xs) = some (.lst xs) := no_rfl rfl
@[simp] theorem seqD_dct : seqD (.dct t kvs) = some (.lst (kvs.map (·.1))) := no_rfl rfl
@[simp] theorem cat_lst : catD (.lst xs) (.lst ys) = if xs.length + ys.length ≤ sizeL then some (.lst (xs ++ ys)) else none := no_rfl rfl
theorem rep_lst : repD (.lst xs) (.int i) = if -(2 ^ 63) ≤ i ∧ i < 2 ^ 63 ∧ xs.length * i.toNat ≤ sizeL then some (.lst (List.replicate i.toNat xs).flatten) else none := no_rfl rfl
@[simp] theorem cst_non : Cst.d .non = .non := no_rfl rfl
@[simp] theorem cst_bl : Cst.d (.bl b) = .bl b := no_rfl rfl
@[simp] theorem cst_int : Cst.d (.int i) = .int i := no_rfl rfl
@[simp] theorem cst_str : Cst.d (.str x) = .str x := no_rfl rfl
end
@[simp] theorem small_eq {i : Int} : DL.small64 i = (decide (-18446744073709551616 < i) && decide (i < 18446744073709551616)) := no_rfl rfl
/-- digits below their sizes -/
inductive Dig : List Int → List Int → Prop
  | nil : Dig [] []
  | cons {d s : Int} {ds ss : List Int} : 0 ≤ d → d < s → Dig ds ss → Dig (d :: ds) (s :: ss)
theorem Dig.snoc {x t : Int} (h1 : 0 ≤ x) (h2 : x < t) : ∀ {ds ss : List Int}, Dig ds ss → Dig (ds ++ [x]) (ss ++ [t])
  | _, _, .nil => .cons h1 h2 .nil
  | _, _, .cons a b r => .cons a b (Dig.snoc h1 h2 r)
theorem Dig.step {x a : Int} {ds ss : List Int} {j : Nat} (h1 : 0 ≤ x) (h2 : x < a) (ha : ss[j]? = some a) (h : Dig ds (ss.take j)) : Dig (ds ++ [x]) (ss.take (j + 1)) := by
  rw [List.take_add_one, ha]
  exact h.snoc h1 h2
theorem Dig.length : ∀ {ds ss : List Int}, Dig ds ss → ds.length = ss.length
  | _, _, .nil => rfl
  | _, _, .cons _ _ r => congrArg (· + 1) r.length
theorem Dig.nonneg : ∀ {ds ss : List Int}, Dig ds ss → ∀ x ∈ ds, 0 ≤ x
  | _, _, .nil, x, h => by simp at h
  | _, _, .cons a _ r, x, h => by
    rcases List.mem_cons.mp h with rfl | h
    · exact a
    · exact r.nonneg x h
theorem iL_snoc {ds : List Int} {x : Int} : iL ds ++ [D.int x] = iL (ds ++ [x]) := by simp
@[simp] theorem at_l0 {α : Type} {x0 : α} {l : List α} : L2.atI (x0 :: l) 0 = some x0 := at_nat (k := 0) (by simp)
@[simp] theorem at_l1 {α : Type} {x0 x1 : α} {l : List α} : L2.atI (x0 :: x1 :: l) 1 = some x1 := at_nat (k := 1) (by simp)
@[simp] theorem at_l2 {α : Type} {x0 x1 x2 : α} {l : List α} : L2.atI (x0 :: x1 :: x2 :: l) 2 = some x2 := at_nat (k := 2) (by simp)
@[simp] theorem at_l3 {α : Type} {x0 x1 x2 x3 : α} {l : List α} : L2.atI (x0 :: x1 :: x2 :: x3 :: l) 3 = some x3 := at_nat (k := 3) (by simp)
@[simp] theorem at_l4 {α : Type} {x0 x1 x2 x3 x4 : α} {l : List α} : L2.atI (x0 :: x1 :: x2 :: x3 :: x4 :: l) 4 = some x4 := at_nat (k := 4) (by simp)
@[simp] theorem at_l5 {α : Type} {x0 x1 x2 x3 x4 x5 : α} {l : List α} : L2.atI (x0 :: x1 :: x2 :: x3 :: x4 :: x5 :: l) 5 = some x5 := at_nat (k := 5) (by simp)
@[simp] theorem at_l6 {α : Type} {x0 x1 x2 x3 x4 x5 x6 : α} {l : List α} : L2.atI (x0 :: x1 :: x2 :: x3 :: x4 :: x5 :: x6 :: l) 6 = some x6 := at_nat (k := 6) (by simp)
@[simp] theorem at_l7 {α : Type} {x0 x1 x2 x3 x4 x5 x6 x7 : α} {l : List α} : L2.atI (x0 :: x1 :: x2 :: x3 :: x4 :: x5 :: x6 :: x7 :: l) 7 = some x7 := at_nat (k := 7) (by simp)
@[simp] theorem at_l8 {α : Type} {x0 x1 x2 x3 x4 x5 x6 x7 x8 : α} {l : List α} : L2.atI (x0 :: x1 :: x2 :: x3 :: x4 :: x5 :: x6 :: x7 :: x8 :: l) 8 = some x8 := at_nat (k := 8) (by simp)
@[simp] theorem at_l9 {α : Type} {x0 x1 x2 x3 x4 x5 x6 x7 x8 x9 : α} {l : List α} : L2.atI (x0 :: x1 :: x2 :: x3 :: x4 :: x5 :: x6 :: x7 :: x8 :: x9 :: l) 9 = some x9 := at_nat (k := 9) (by simp)
@[simp] theorem at_l10 {α : Type} {x0 x1 x2 x3 x4 x5 x6 x7 x8 x9 x10 : α} {l : List α} : L2.atI (x0 :: x1 :: x2 :: x3 :: x4 :: x5 :: x6 :: x7 :: x8 :: x9 :: x10 :: l) 10 = some x10 := at_nat (k := 10) (by simp)
@[simp] theorem at_l11 {α : Type} {x0 x1 x2 x3 x4 x5 x6 x7 x8 x9 x10 x11 : α} {l : List α} : L2.atI (x0 :: x1 :: x2 :: x3 :: x4 :: x5 :: x6 :: x7 :: x8 :: x9 :: x10 :: x11 :: l) 11 = some x11 := at_nat (k := 11) (by simp)
@[simp] theorem at_l12 {α : Type} {x0 x1 x2 x3 x4 x5 x6 x7 x8 x9 x10 x11 x12 : α} {l : List α} : L2.atI (x0 :: x1 :: x2 :: x3 :: x4 :: x5 :: x6 :: x7 :: x8 :: x9 :: x10 :: x11 :: x12 :: l) 12 = some x12 := at_nat (k := 12) (by simp)
@[simp] theorem at_l13 {α : Type} {x0 x1 x2 x3 x4 x5 x6 x7 x8 x9 x10 x11 x12 x13 : α} {l : List α} : L2.atI (x0 :: x1 :: x2 :: x3 :: x4 :: x5 :: x6 :: x7 :: x8 :: x9 :: x10 :: x11 :: x12 :: x13 :: l) 13 = some x13 := at_nat (k := 13) (by simp)
@[simp] theorem at_l14 {α : Type} {x0 x1 x2 x3 x4 x5 x6 x7 x8 x9 x10 x11 x12 x13 x14 : α} {l : List α} : L2.atI (x0 :: x1 :: x2 :: x3 :: x4 :: x5 :: x6 :: x7 :: x8 :: x9 :: x10 :: x11 :: x12 :: x13 :: x14 :: l) 14 = some x14 := at_nat (k := 14) (by simp)
@[simp] theorem at_l15 {α : Type} {x0 x1 x2 x3 x4 x5 x6 x7 x8 x9 x10 x11 x12 x13 x14 x15 : α} {l : List α} : L2.atI (x0 :: x1 :: x2 :: x3 :: x4 :: x5 :: x6 :: x7 :: x8 :: x9 :: x10 :: x11 :: x12 :: x13 :: x14 :: x15 :: l) 15 = some x15 := at_nat (k := 15) (by simp)
@[simp] theorem at_l16 {α : Type} {x0 x1 x2 x3 x4 x5 x6 x7 x8 x9 x10 x11 x12 x13 x14 x15 x16 : α} {l : List α} : L2.atI (x0 :: x1 :: x2 :: x3 :: x4 :: x5 :: x6 :: x7 :: x8 :: x9 :: x10 :: x11 :: x12 :: x13 :: x14 :: x15 :: x16 :: l) 16 = some x16 := at_nat (k := 16) (by simp)
@[simp] theorem at_l17 {α : Type} {x0 x1 x2 x3 x4 x5 x6 x7 x8 x9 x10 x11 x12 x13 x14 x15 x16 x17 : α} {l : List α} : L2.atI (x0 :: x1 :: x2 :: x3 :: x4 :: x5 :: x6 :: x7 :: x8 :: x9 :: x10 :: x11 :: x12 :: x13 :: x14 :: x15 :: x16 :: x17 :: l) 17 = some x17 := at_nat (k := 17) (by simp)
@[simp] theorem at_l18 {α : Type} {x0 x1 x2 x3 x4 x5 x6 x7 x8 x9 x10 x11 x12 x13 x14 x15 x16 x17 x18 : α} {l : List α} : L2.atI (x0 :: x1 :: x2 :: x3 :: x4 :: x5 :: x6 :: x7 :: x8 :: x9 :: x10 :: x11 :: x12 :: x13 :: x14 :: x15 :: x16 :: x17 :: x18 :: l) 18 = some x18 := at_nat (k := 18) (by simp)
@[simp] theorem at_l19 {α : Type} {x0 x1 x2 x3 x4 x5 x6 x7 x8 x9 x10 x11 x12 x13 x14 x15 x16 x17 x18 x19 : α} {l : List α} : L2.atI (x0 :: x1 :: x2 :: x3 :: x4 :: x5 :: x6 :: x7 :: x8 :: x9 :: x10 :: x11 :: x12 :: x13 :: x14 :: x15 :: x16 :: x17 :: x18 :: x19 :: l) 19 = some x19 := at_nat (k := 19) (by simp)
@[simp] theorem at_l20 {α : Type} {x0 x1 x2 x3 x4 x5 x6 x7 x8 x9 x10 x11 x12 x13 x14 x15 x16 x17 x18 x19 x20 : α} {l : List α} : L2.atI (x0 :: x1 :: x2 :: x3 :: x4 :: x5 :: x6 :: x7 :: x8 :: x9 :: x10 :: x11 :: x12 :: x13 :: x14 :: x15 :: x16 :: x17 :: x18 :: x19 :: x20 :: l) 20 = some x20 := at_nat (k := 20) (by simp)
@[simp] theorem at_l21 {α : Type} {x0 x1 x2 x3 x4 x5 x6 x7 x8 x9 x10 x11 x12 x13 x14 x15 x16 x17 x18 x19 x20 x21 : α} {l : List α} : L2.atI (x0 :: x1 :: x2 :: x3 :: x4 :: x5 :: x6 :: x7 :: x8 :: x9 :: x10 :: x11 :: x12 :: x13 :: x14 :: x15 :: x16 :: x17 :: x18 :: x19 :: x20 :: x21 :: l) 21 = some x21 := at_nat (k := 21) (by simp)
@[simp] theorem at_l22 {α : Type} {x0 x1 x2 x3 x4 x5 x6 x7 x8 x9 x10 x11 x12 x13 x14 x15 x16 x17 x18 x19 x20 x21 x22 : α} {l : List α} : L2.atI (x0 :: x1 :: x2 :: x3 :: x4 :: x5 :: x6 :: x7 :: x8 :: x9 :: x10 :: x11 :: x12 :: x13 :: x14 :: x15 :: x16 :: x17 :: x18 :: x19 :: x20 :: x21 :: x22 :: l) 22 = some x22 := at_nat (k := 22) (by simp)
@[simp] theorem at_l23 {α : Type} {x0 x1 x2 x3 x4 x5 x6 x7 x8 x9 x10 x11 x12 x13 x14 x15 x16 x17 x18 x19 x20 x21 x22 x23 : α} {l : List α} : L2.atI (x0 :: x1 :: x2 :: x3 :: x4 :: x5 :: x6 :: x7 :: x8 :: x9 :: x10 :: x11 :: x12 :: x13 :: x14 :: x15 :: x16 :: x17 :: x18 :: x19 :: x20 :: x21 :: x22 :: x23 :: l) 23 = some x23 := at_nat (k := 23) (by simp)
@[simp] theorem at_l24 {α : Type} {x0 x1 x2 x3 x4 x5 x6 x7 x8 x9 x10 x11 x12 x13 x14 x15 x16 x17 x18 x19 x20 x21 x22 x23 x24 : α} {l : List α} : L2.atI (x0 :: x1 :: x2 :: x3 :: x4 :: x5 :: x6 :: x7 :: x8 :: x9 :: x10 :: x11 :: x12 :: x13 :: x14 :: x15 :: x16 :: x17 :: x18 :: x19 :: x20 :: x21 :: x22 :: x23 :: x24 :: l) 24 = some x24 := at_nat (k := 24) (by simp)
@[simp] theorem at_l25 {α : Type} {x0 x1 x2 x3 x4 x5 x6 x7 x8 x9 x10 x11 x12 x13 x14 x15 x16 x17 x18 x19 x20 x21 x22 x23 x24 x25 : α} {l : List α} : L2.atI (x0 :: x1 :: x2 :: x3 :: x4 :: x5 :: x6 :: x7 :: x8 :: x9 :: x10 :: x11 :: x12 :: x13 :: x14 :: x15 :: x16 :: x17 :: x18 :: x19 :: x20 :: x21 :: x22 :: x23 :: x24 :: x25 :: l) 25 = some x25 := at_nat (k := 25) (by simp)
@[simp] theorem at_l26 {α : Type} {x0 x1 x2 x3 x4 x5 x6 x7 x8 x9 x10 x11 x12 x13 x14 x15 x16 x17 x18 x19 x20 x21 x22 x23 x24 x25 x26 : α} {l : List α} : L2.atI (x0 :: x1 :: x2 :: x3 :: x4 :: x5 :: x6 :: x7 :: x8 :: x9 :: x10 :: x11 :: x12 :: x13 :: x14 :: x15 :: x16 :: x17 :: x18 :: x19 :: x20 :: x21 :: x22 :: x23 :: x24 :: x25 :: x26 :: l) 26 = some x26 := at_nat (k := 26) (by simp)
@[simp] theorem at_l27 {α : Type} {x0 x1 x2 x3 x4 x5 x6 x7 x8 x9 x10 x11 x12 x13 x14 x15 x16 x17 x18 x19 x20 x21 x22 x23 x24 x25 x26 x27 : α} {l : List α} : L2.atI (x0 :: x1 :: x2 :: x3 :: x4 :: x5 :: x6 :: x7 :: x8 :: x9 :: x10 :: x11 :: x12 :: x13 :: x14 :: x15 :: x16 :: x17 :: x18 :: x19 :: x20 :: x21 :: x22 :: x23 :: x24 :: x25 :: x26 :: x27 :: l) 27 = some x27 := at_nat (k := 27) (by simp)
@[simp] theorem at_l28 {α : Type} {x0 x1 x2 x3 x4 x5 x6 x7 x8 x9 x10 x11 x12 x13 x14 x15 x16 x17 x18 x19 x20 x21 x22 x23 x24 x25 x26 x27 x28 : α} {l : List α} : L2.atI (x0 :: x1 :: x2 :: x3 :: x4 :: x5 :: x6 :: x7 :: x8 :: x9 :: x10 :: x11 :: x12 :: x13 :: x14 :: x15 :: x16 :: x17 :: x18 :: x19 :: x20 :: x21 :: x22 :: x23 :: x24 :: x25 :: x26 :: x27 :: x28 :: l) 28 = some x28 := at_nat (k := 28) (by simp)
@[simp] theorem at_l29 {α : Type} {x0 x1 x2 x3 x4 x5 x6 x7 x8 x9 x10 x11 x12 x13 x14 x15 x16 x17 x18 x19 x20 x21 x22 x23 x24 x25 x26 x27 x28 x29 : α} {l : List α} : L2.atI (x0 :: x1 :: x2 :: x3 :: x4 :: x5 :: x6 :: x7 :: x8 :: x9 :: x10 :: x11 :: x12 :: x13 :: x14 :: x15 :: x16 :: x17 :: x18 :: x19 :: x20 :: x21 :: x22 :: x23 :: x24 :: x25 :: x26 :: x27 :: x28 :: x29 :: l) 29 = some x29 := at_nat (k := 29) (by simp)
@[simp] theorem at_l30 {α : Type} {x0 x1 x2 x3 x4 x5 x6 x7 x8 x9 x10 x11 x12 x13 x14 x15 x16 x17 x18 x19 x20 x21 x22 x23 x24 x25 x26 x27 x28 x29 x30 : α} {l : List α} : L2.atI (x0 :: x1 :: x2 :: x3 :: x4 :: x5 :: x6 :: x7 :: x8 :: x9 :: x10 :: x11 :: x12 :: x13 :: x14 :: x15 :: x16 :: x17 :: x18 :: x19 :: x20 :: x21 :: x22 :: x23 :: x24 :: x25 :: x26 :: x27 :: x28 :: x29 :: x30 :: l) 30 = some x30 := at_nat (k := 30) (by simp)
theorem we_mapG {α : Type} {Φ : Fns} {ρ : Env} (ρ1 : Env) {v : Nat} {src : It} {elt : E} {K : D → Env → Prop} (as : List α) (em g : α → D) (hs : evI Φ src ρ = .ok (as.map em) ρ1) (hv : v < ρ1.length) (hw : isOw ρ1[v]? = false) (hl : as.length ≤ sizeL)
    (he : ∀ a ∈ as, evE Φ elt (ρ1.set v (.fz (em a))) = .ok (g a) (ρ1.set v (.fz (em a)))) (k : K (.lst (as.map g)) ρ1) : WE (evN Φ (.lc [v] (.name v) src .nil elt) ρ) K := by
  rw [lc_map as em g hs hv hw hl he, we_ok]
  exact k
theorem we_filterG {α : Type} {Φ : Fns} {ρ : Env} (ρ1 : Env) {v : Nat} {src : It} {cs : Es} {elt : E} {K : D → Env → Prop} (as : List α) (em : α → D) (p : α → Bool) (g : α → D) (hs : evI Φ src ρ = .ok (as.map em) ρ1) (hv : v < ρ1.length) (hw : isOw ρ1[v]? = false) (hl : as.length ≤ sizeL)
    (ht : ∀ a ∈ as, evT Φ cs (ρ1.set v (.fz (em a))) = .ok (.bl (p a)) (ρ1.set v (.fz (em a)))) (he : ∀ a ∈ as, p a = true → evE Φ elt (ρ1.set v (.fz (em a))) = .ok (g a) (ρ1.set v (.fz (em a))))
    (k : K (.lst ((as.filter p).map g)) ρ1) : WE (evN Φ (.lc [v] (.name v) src cs elt) ρ) K := by
  rw [lc_filter as em p g hs hv hw hl ht he, we_ok]
  exact k
theorem iL_map {α : Type} {xs : List α} {f : α → Int} : xs.map (fun x => D.int (f x)) = iL (xs.map f) := by
  show _ = List.map D.int (List.map f xs)
  rw [List.map_map]
  rfl
theorem at_mod {xs : List Int} {i : Int} (h0 : 0 ≤ i) (h1 : i < xs.length) : ∃ (k : Nat) (hk : k < xs.length), i = k ∧ L2.atI (iL xs) i = some (.int xs[k]) := by
  obtain ⟨k, hk, e1, e2⟩ := at_int (xs := iL xs) h0 (by simpa using h1)
  have hk2 : k < xs.length := by simpa using hk
  exact ⟨k, hk2, e1, by rw [e2]; simp⟩
/-- the item at i, whatever -/
def itm (xs : List Int) (i : Int) : Int := xs.getD i.toNat 0
theorem at_itm {xs : List Int} {i : Int} (h0 : 0 ≤ i) (h1 : i < xs.length) : L2.atI (iL xs) i = some (.int (itm xs i)) := by
  obtain ⟨k, hk, rfl, e⟩ := at_mod h0 h1
  rw [e]
  simp [itm, hk]
theorem itm_mem {xs : List Int} {i : Int} (h0 : 0 ≤ i) (h1 : i < xs.length) : itm xs i ∈ xs := by
  obtain ⟨k, hk, rfl, e⟩ := at_mod h0 h1
  simp [itm, hk]
@[simp] theorem sizeL_eq : sizeL = 16777216 := no_rfl rfl
/-- a stretch, item by item -/
theorem stretch {ns : List Int} {a m : Nat} (h : a + m ≤ ns.length) : (List.range m).map (fun k => D.int (ns.getD (a + k) 0)) = iL ((ns.drop a).take m) := by
  apply List.ext_getElem
  · simp
    omega
  · intro i h1 h2
    simp at h1
    simp [show a + i < ns.length by omega]
theorem at_getD {ns : List Int} {k : Nat} (h : k < ns.length) : L2.atI (iL ns) (k : Int) = some (.int (ns.getD k 0)) := by
  rw [at_nat (by simpa using h)]
  simp [h]
@[simp] theorem tbl_z {d : List D → DR} {l : List (List D → DR)} : tbl (d :: l) 0 = d := no_rfl rfl
@[simp] theorem tbl_n {d : List D → DR} {l : List (List D → DR)} {n : Nat} : tbl (d :: l) (n + 1) = tbl l n := no_rfl rfl
end DL
set_option Elab.async false
set_option linter.all false
set_option maxRecDepth 1000
set_option maxHeartbeats 1000000
/-! DLt: plain: sorted rows, dicts of rows. -/
namespace DL
open PySem L2
/-- the first item that differs is less -/
inductive Lx : List Int → List Int → Prop
  | here {x y : Int} {xs ys : List Int} : x < y → Lx (x :: xs) (y :: ys)
  | next {x : Int} {xs ys : List Int} : Lx xs ys → Lx (x :: xs) (x :: ys)
/-- shorter, or as long and less -/
def Bef (a b : List Int) : Prop := a.length < b.length ∨ (a.length = b.length ∧ Lx a b)
abbrev Sg := List (Int ⊕ List Nat)
def toks (t : Sg) : List Int → Sg
  | [] => .inl 0 :: t
  | x :: xs => .inl 1 :: .inl x :: toks t xs
theorem toks_py (t : Sg) : ∀ ns : List Int, PySem.W.keyToksAll (D.pys (iL ns)) ++ t = toks t ns
  | [] => by simp [D.pys, PySem.W.keyToksAll, toks]
  | x :: xs => by
    have ih := toks_py t xs
    show PySem.W.keyToksAll (PyData.int x :: D.pys (iL xs)) ++ t = _
    simp only [PySem.W.keyToksAll, PySem.W.keyToks, List.cons_append, List.nil_append, toks, ih]
abbrev lx (a b : Sg) : Bool := PyProof.Rows.lexLt PyProof.Rows.itemOrd a b
theorem lx_cons (x y : Int ⊕ List Nat) (a b : Sg) : lx (x :: a) (y :: b) = (PyProof.Rows.itemLt x y || (!PyProof.Rows.itemLt y x && lx a b)) := by
  rfl
@[simp] theorem item_int (i j : Int) : PyProof.Rows.itemLt (.inl i) (.inl j) = decide (i < j) := rfl
theorem toks_lx (t : Sg) : ∀ a b : List Int, a.length = b.length → lx (toks t b) (toks t a) = false → a = b ∨ Lx a b
  | [], [], _, _ => .inl rfl
  | [], _ :: _, h, _ => by simp at h
  | _ :: _, [], h, _ => by simp at h
  | x :: a, y :: b, h, q => by
    simp only [toks, lx_cons, item_int] at q
    simp at q
    by_cases hxy : x < y
    · exact .inr (.here hxy)
    · have : x = y := by omega
      subst this
      have q2 := q.2 (by omega)
      rcases toks_lx t a b (by simpa using h) q2 with e | e
      · exact .inl (by rw [e])
      · exact .inr (.next e)
/-- the key (length, row) as signs -/
theorem key_toks (ns : List Int) : PySem.W.keyToks (D.py (.tup [.int ns.length, iT ns])) = .inl 1 :: .inl ns.length :: .inl 1 :: toks [.inl 0] ns := by
  have h := toks_py [.inl 0] ns
  show PySem.W.keyToksAll [PyData.int ns.length, PyData.tuple (D.pys (iL ns))] = _
  simp only [PySem.W.keyToksAll, PySem.W.keyToks, List.cons_append, List.nil_append, h]
theorem key_le {a b : List Int} (h : lx (PySem.W.keyToks (D.py (.tup [.int b.length, iT b]))) (PySem.W.keyToks (D.py (.tup [.int a.length, iT a]))) = false) (hne : a ≠ b) : Bef a b := by
  rw [key_toks, key_toks] at h
  simp only [lx_cons, item_int] at h
  simp at h
  obtain ⟨h1, h2⟩ := h
  by_cases hl : a.length < b.length
  · exact .inl hl
  · have he : a.length = b.length := by omega
    rcases toks_lx _ a b he (h2 (by omega)) with e | e
    · exact absurd e hne
    · exact .inr ⟨he, e⟩
theorem alike_py : ∀ a b : List Int, PySem.W.alikeAll (D.pys (iL a)) (D.pys (iL b)) = true
  | [], b => by cases b <;> simp [D.pys, PySem.W.alikeAll]
  | _ :: _, [] => by simp [D.pys, PySem.W.alikeAll]
  | x :: a, y :: b => by
    show PySem.W.alikeAll (PyData.int x :: D.pys (iL a)) (PyData.int y :: D.pys (iL b)) = true
    simp [PySem.W.alikeAll, PySem.W.alike, alike_py a b]
/-- the keys of rows may be compared -/
theorem keys_ok (l : List (List Int)) : keysOk (l.map fun r => .tup [.int r.length, iT r]) = true := by
  unfold keysOk
  rw [Bool.and_eq_true, Bool.and_eq_true]
  refine ⟨⟨?_, ?_⟩, ?_⟩
  · simp [D.okN, D.okNs]
  · rw [List.all_eq_true]
    intro a ha
    obtain ⟨r, _, rfl⟩ := List.mem_map.mp ha
    rw [List.all_eq_true]
    intro b hb
    obtain ⟨s, _, rfl⟩ := List.mem_map.mp hb
    show PySem.W.alike (PyData.tuple [PyData.int r.length, PyData.tuple (D.pys (iL r))]) (PyData.tuple [PyData.int s.length, PyData.tuple (D.pys (iL s))]) = true
    simp [PySem.W.alike, PySem.W.alikeAll, alike_py]
  · simp [neTup]
theorem keysD_map {den : List D → DR} {α : Type} (em k : α → D) : ∀ l : List α, (∀ a ∈ l, den [em a] = .ok (k a)) → keysD den (l.map em) = some (l.map k)
  | [], _ => rfl
  | a :: l, h => by
    rw [List.map_cons]
    unfold keysD
    rw [h a List.mem_cons_self, keysD_map em k l fun b hb => h b (List.mem_cons_of_mem _ hb)]
    rfl
/-- rows sorted by (length, row) -/
theorem sortK_rows {den : List D → DR} {l : List (List Int)} (hn : l.Nodup) (hl : l.length ≤ 1000000) (hd : ∀ r ∈ l, den [iT r] = .ok (.tup [.int r.length, iT r])) :
    ∃ out : List (List Int), sortKD den (tB l) = some (tB out) ∧ out.Perm l ∧ out.Pairwise Bef := by
  have hk := keysD_map (den := den) (fun r => iT r) (fun r => .tup [.int r.length, iT r]) l hd
  have hP : ∀ r ∈ l, keyP den (iT r) = D.py (.tup [.int r.length, iT r]) := fun r hr => by
    unfold keyP
    rw [hd r hr]
  let le : List Int → List Int → Bool := fun a b => PySem.W.dataLe false (fun r : List Int => D.py (.tup [.int r.length, iT r])) a b
  have hT : PySem.W.TotalLe le := PySem.W.sortLe_total (PyProof.Rows.listOrd PyProof.Rows.itemOrd) false (fun r : List Int => PySem.W.keyToks (D.py (.tup [.int r.length, iT r])))
  have hm := List.map_mergeSort (r := le) (s := PySem.W.dataLe false (keyP den)) (f := fun r => iT r) (l := l) (fun a ha b hb => by
    show (!lx (PySem.W.keyToks (D.py (.tup [.int b.length, iT b]))) (PySem.W.keyToks (D.py (.tup [.int a.length, iT a])))) = (!lx (PySem.W.keyToks (keyP den (iT b))) (PySem.W.keyToks (keyP den (iT a))))
    rw [hP a ha, hP b hb])
  have hp := List.mergeSort_perm l le
  refine ⟨l.mergeSort le, ?_, hp, ?_⟩
  · show (match keysD den (l.map fun r => iT r) with
      | some ks => if keysOk ks ∧ (l.map fun r => iT r).length ≤ sizeL then some (D.lst ((l.map fun r => iT r).mergeSort (PySem.W.dataLe false (keyP den)))) else none
      | none => none) = _
    rw [hk]
    simp only
    rw [if_pos ⟨keys_ok l, by rw [List.length_map]; exact Nat.le_trans hl (by unfold sizeL; omega)⟩, ← hm]
  · have hn2 : (l.mergeSort le).Nodup := hp.nodup_iff.mpr hn
    have hpw := PySem.W.sort_pairwise hT l
    refine (List.pairwise_iff_forall_sublist).mpr ?_
    intro a b hab
    have h1 : le a b = true := (List.pairwise_iff_forall_sublist).mp hpw hab
    have h2 : a ≠ b := by
      have := (List.pairwise_iff_forall_sublist).mp (List.nodup_iff_pairwise_ne.mp hn2) hab
      exact this
    refine key_le ?_ h2
    have h1 : (!lx (PySem.W.keyToks (D.py (.tup [.int b.length, iT b]))) (PySem.W.keyToks (D.py (.tup [.int a.length, iT a])))) = true := h1
    simpa using h1
/-! ### a dict whose keys are rows -/
def kv (l : List (List Int)) : List (D × D) := l.map fun r => (iT r, .bl true)
def ins (l : List (List Int)) (r : List Int) : List (List Int) := if r ∈ l then l else l ++ [r]
theorem any_kv (r : List Int) : ∀ l : List (List Int), ((kv l).any fun p => D.eqv p.1 (iT r)) = decide (r ∈ l)
  | [] => by simp [kv]
  | s :: l => by
    show (D.eqv (iT s) (iT r) || (kv l).any fun p => D.eqv p.1 (iT r)) = _
    rw [any_kv r l, eqv_iT]
    simp [eq_comm]
theorem dput_kv (l : List (List Int)) (r : List Int) : dPut (kv l) (iT r) (.bl true) = kv (ins l r) := by
  unfold dPut ins
  rw [any_kv]
  by_cases h : r ∈ l
  · rw [if_pos (decide_eq_true h), if_pos h]
    unfold kv
    rw [List.map_map]
    apply List.map_congr_left
    intro s _
    simp only [Function.comp]
    by_cases e : s = r
    · subst e; simp
    · simp [e]
  · rw [if_neg (by simpa using h), if_neg h]
    simp [kv]
theorem dget_kv (r : List Int) : ∀ l : List (List Int), (dGet (kv l) (iT r)).isSome = decide (r ∈ l)
  | [] => by simp [kv, dGet]
  | s :: l => by
    show (dGet ((iT s, .bl true) :: kv l) (iT r)).isSome = _
    rw [dGet_cons, eqv_iT]
    by_cases h : s = r
    · subst h; simp
    · have := dget_kv r l
      simp [h, this]
      exact fun e => absurd e.symm h
theorem keysK_iL : ∀ ns : List Int, (keysK (iL ns)).isSome = true
  | [] => rfl
  | n :: ns => by
    have ih := keysK_iL ns
    show (keysK (.int n :: iL ns)).isSome = true
    unfold keysK
    cases q : keysK (iL ns) with
    | none => rw [q] at ih; cases ih
    | some r => rfl
@[simp] theorem isKey_row (ns : List Int) : isKey true (.tup (ns.map .int)) = true := keysK_iL ns
theorem ins_nodup {l : List (List Int)} {r : List Int} (h : l.Nodup) : (ins l r).Nodup := by
  unfold ins
  split
  · exact h
  · rw [List.nodup_append]
    refine ⟨h, by simp, fun a ha b hb e => ?_⟩
    rw [List.mem_singleton] at hb
    subst hb e
    contradiction
theorem ins_mem {l : List (List Int)} {r x : List Int} : x ∈ ins l r ↔ x ∈ l ∨ x = r := by
  unfold ins
  split
  · rename_i h
    constructor
    · exact .inl
    · rintro (h2 | rfl)
      · exact h2
      · exact h
  · simp
theorem ins_len {l : List (List Int)} {r : List Int} : (ins l r).length ≤ l.length + 1 := by
  unfold ins
  split
  · omega
  · simp
/-- the different rows, in the order of their first coming -/
def dd (rs : List (List Int)) : List (List Int) := rs.foldl ins []
theorem dd_snoc (rs : List (List Int)) (r : List Int) : dd (rs ++ [r]) = ins (dd rs) r := by simp [dd]
theorem fold_ok : ∀ (rs l : List (List Int)), l.Nodup → (rs.foldl ins l).Nodup ∧ (∀ x, x ∈ rs.foldl ins l ↔ x ∈ l ∨ x ∈ rs) ∧ (rs.foldl ins l).length ≤ l.length + rs.length
  | [], l, h => ⟨h, fun x => by simp, by simp⟩
  | r :: rs, l, h => by
    obtain ⟨h1, h2, h3⟩ := fold_ok rs (ins l r) (ins_nodup h)
    refine ⟨h1, fun x => ?_, ?_⟩
    · rw [List.foldl_cons, h2, ins_mem, List.mem_cons, or_assoc]
    · have := ins_len (l := l) (r := r)
      rw [List.foldl_cons, List.length_cons]
      omega
theorem dd_nodup (rs : List (List Int)) : (dd rs).Nodup := (fold_ok rs [] List.nodup_nil).1
theorem dd_mem {rs : List (List Int)} {x : List Int} : x ∈ dd rs ↔ x ∈ rs := by
  have := (fold_ok rs [] List.nodup_nil).2.1 x
  rw [show (x ∈ ([] : List (List Int)) ∨ x ∈ rs) ↔ x ∈ rs by simp] at this
  exact this
theorem dd_len (rs : List (List Int)) : (dd rs).length ≤ rs.length := by
  have := (fold_ok rs [] List.nodup_nil).2.2
  rw [List.length_nil, Nat.zero_add] at this
  exact this
/-- first difference, by its place -/
theorem Lx.place : ∀ {a b : List Int}, Lx a b → ∃ (k : Nat) (h1 : k < a.length) (h2 : k < b.length), (∀ (m : Nat) (_ : m < k) (g1 : m < a.length) (g2 : m < b.length), a[m] = b[m]) ∧ a[k] < b[k]
  | _, _, .here h => ⟨0, by simp, by simp, fun m hm _ _ => by omega, h⟩
  | _, _, .next (x := x) h => by
    obtain ⟨k, h1, h2, h3, h4⟩ := h.place
    refine ⟨k + 1, by simpa using h1, by simpa using h2, fun m hm g1 g2 => ?_, by simpa using h4⟩
    cases m with
    | zero => rfl
    | succ m => simpa using h3 m (by omega) (by simpa using g1) (by simpa using g2)
@[simp] theorem memD_row {r : List Int} {l : List (List Int)} : memD (.tup (r.map .int)) (.dct true (kv l)) = some (decide (r ∈ l)) := by
  have h := dget_kv r l
  show (if isKey true (iT r) = true then some (dGet (kv l) (iT r)).isSome else none) = _
  rw [if_pos (isKey_row r), h]
/-! ### rows of one length sorted -/
theorem rows_ok {l : List (List Int)} (hne : ∀ r ∈ l, r ≠ []) : keysOk (l.map fun r => iT r) = true := by
  unfold keysOk
  rw [Bool.and_eq_true, Bool.and_eq_true]
  refine ⟨⟨?_, ?_⟩, ?_⟩
  · simp
  · rw [List.all_eq_true]
    intro a ha
    obtain ⟨r, _, rfl⟩ := List.mem_map.mp ha
    rw [List.all_eq_true]
    intro b hb
    obtain ⟨s, _, rfl⟩ := List.mem_map.mp hb
    show PySem.W.alike (PyData.tuple (D.pys (iL r))) (PyData.tuple (D.pys (iL s))) = true
    simp [PySem.W.alike, alike_py]
  · rw [Bool.or_eq_true]
    left
    rw [List.all_eq_true]
    intro a ha
    obtain ⟨r, hr, rfl⟩ := List.mem_map.mp ha
    cases r with
    | nil => exact absurd rfl (hne _ hr)
    | cons x xs => rfl
theorem row_toks (ns : List Int) : PySem.W.keyToks (D.py (iT ns)) = toks [] ns := by
  have h := toks_py [] ns
  rw [List.append_nil] at h
  exact h
theorem row_le {a b : List Int} (hl : a.length = b.length) (h : lx (PySem.W.keyToks (D.py (iT b))) (PySem.W.keyToks (D.py (iT a))) = false) : a = b ∨ Lx a b := by
  rw [row_toks, row_toks] at h
  exact toks_lx [] a b hl h
theorem sort_rows {l : List (List Int)} {n : Nat} (hn : ∀ r ∈ l, r.length = n) (h0 : 1 ≤ n) (hl : l.length ≤ 1000000) :
    ∃ out : List (List Int), sortD (tB l) = some (tB out) ∧ out.Perm l ∧ out.Pairwise fun a b => a = b ∨ Lx a b := by
  let le : List Int → List Int → Bool := fun a b => PySem.W.dataLe false (fun r : List Int => D.py (iT r)) a b
  have hT : PySem.W.TotalLe le := PySem.W.sortLe_total (PyProof.Rows.listOrd PyProof.Rows.itemOrd) false (fun r : List Int => PySem.W.keyToks (D.py (iT r)))
  have hm := List.map_mergeSort (r := le) (s := PySem.W.dataLe false D.py) (f := fun r => iT r) (l := l) (fun a _ b _ => rfl)
  have hp := List.mergeSort_perm l le
  refine ⟨l.mergeSort le, ?_, hp, ?_⟩
  · show (if keysOk (l.map fun r => iT r) ∧ (l.map fun r => iT r).length ≤ sizeL then some (D.lst ((l.map fun r => iT r).mergeSort (PySem.W.dataLe false D.py))) else none) = _
    rw [if_pos ⟨rows_ok fun r hr e => by have := hn r hr; rw [e] at this; simp at this; omega, by rw [List.length_map]; exact Nat.le_trans hl (by unfold sizeL; omega)⟩, ← hm]
  · have hpw := PySem.W.sort_pairwise hT l
    refine (List.pairwise_iff_getElem).mpr fun i j hi hj hij => ?_
    have h1 := (List.pairwise_iff_getElem).mp hpw i j hi hj hij
    refine row_le ?_ ?_
    · rw [hn _ (hp.mem_iff.mp (List.getElem_mem hi)), hn _ (hp.mem_iff.mp (List.getElem_mem hj))]
    · have h1 : (!lx (PySem.W.keyToks (D.py (iT (l.mergeSort le)[j]))) (PySem.W.keyToks (D.py (iT (l.mergeSort le)[i])))) = true := h1
      simpa using h1
theorem Lx.irrefl : ∀ {a : List Int}, ¬ Lx a a
  | _, .here h => by omega
  | _, .next h => h.irrefl
theorem Lx.asymm : ∀ {a b : List Int}, Lx a b → ¬ Lx b a
  | _, _, .here h, .here h' => by omega
  | _, _, .here h, .next _ => by omega
  | _, _, .next _, .here h' => by omega
  | _, _, .next h, .next h' => h.asymm h'
theorem Lx.trans : ∀ {a b c : List Int}, Lx a b → Lx b c → Lx a c
  | _, _, _, .here h, .here h' => .here (by omega)
  | _, _, _, .here h, .next _ => .here h
  | _, _, _, .next _, .here h' => .here h'
  | _, _, _, .next h, .next h' => .next (h.trans h')
/-- strictly rising rows are told by what they hold -/
theorem rising_eq : ∀ {a b : List (List Int)}, a.Pairwise Lx → b.Pairwise Lx → (∀ x, x ∈ a ↔ x ∈ b) → a = b
  | [], [], _, _, _ => rfl
  | [], y :: b, _, _, h => absurd ((h y).mpr List.mem_cons_self) (by simp)
  | x :: a, [], _, _, h => absurd ((h x).mp List.mem_cons_self) (by simp)
  | x :: a, y :: b, ha, hb, h => by
    obtain ⟨a1, a2⟩ := List.pairwise_cons.mp ha
    obtain ⟨b1, b2⟩ := List.pairwise_cons.mp hb
    have exy : x = y := by
      rcases List.mem_cons.mp ((h x).mp List.mem_cons_self) with e | hx
      · exact e
      · rcases List.mem_cons.mp ((h y).mpr List.mem_cons_self) with e | hy
        · exact e.symm
        · exact absurd (a1 _ hy) (b1 _ hx).asymm
    subst exy
    congr 1
    refine rising_eq a2 b2 fun z => ⟨fun hz => ?_, fun hz => ?_⟩
    · rcases List.mem_cons.mp ((h z).mp (List.mem_cons_of_mem _ hz)) with e | hz2
      · subst e; exact absurd (a1 _ hz) Lx.irrefl
      · exact hz2
    · rcases List.mem_cons.mp ((h z).mpr (List.mem_cons_of_mem _ hz)) with e | hz2
      · subst e; exact absurd (b1 _ hz) Lx.irrefl
      · exact hz2
end DL
set_option Elab.async false
set_option linter.all false
set_option maxRecDepth 1000
set_option maxHeartbeats 1000000
/-! DLu: plain: the newer constructs' equations. -/
namespace DL
open PySem L2
theorem run_of {n : Nat} {b : Ss} {Φ : Fns} {ds : List D} {x : DR} (h : Wp Φ b (ds.map .fz ++ List.replicate (n - ds.length) .un) fun r => r.end = x) : (Df.mk n b).run Φ ds = x := by
  have h : GQ (fun r => r.end = x) (evSs Φ b (ds.map .fz ++ List.replicate (n - ds.length) .un)) := h.of
  show (evSs Φ b (ds.map .fz ++ List.replicate (n - ds.length) .un)).end = x
  revert h
  cases evSs Φ b (ds.map .fz ++ List.replicate (n - ds.length) .un) <;> first | exact fun h => h | exact fun h => h.elim
theorem run_ex {n : Nat} {b : Ss} {Φ : Fns} {ds : List D} {P : DR → Prop} (h : Wp Φ b (ds.map .fz ++ List.replicate (n - ds.length) .un) fun r => P r.end) : P ((Df.mk n b).run Φ ds) := by
  have h : GQ (fun r => P r.end) (evSs Φ b (ds.map .fz ++ List.replicate (n - ds.length) .un)) := h.of
  show P (evSs Φ b (ds.map .fz ++ List.replicate (n - ds.length) .un)).end
  revert h
  cases evSs Φ b (ds.map .fz ++ List.replicate (n - ds.length) .un) <;> first | exact fun h => h | exact fun h => h.elim
section
variable {α β σ : Type} {Φ : Fns} {ρ : DL.Env} {Q : SR → Prop} {ss : Ss}
@[simp] theorem eE_m1 {m : M1} {a b : E} : evE Φ (.m1 m a b) ρ = (evE Φ a ρ).bind fun x ρ1 => if m1B m x then (evE Φ b ρ1).bind fun y ρ2 => R.of (m1D m x y) ρ2 else .no := no_rfl rfl
@[simp] theorem m1B_index {xs : List D} : m1B .index (.lst xs) = true := no_rfl rfl
@[simp] theorem m1B_count {xs : List D} : m1B .count (.lst xs) = true := no_rfl rfl
@[simp] theorem m1B_sindex {x : Str} : m1B .sindex (.str x) = true := no_rfl rfl
@[simp] theorem m1B_join {x : Str} : m1B .join (.str x) = true := no_rfl rfl
@[simp] theorem strB_str {x : Str} : strB (.str x) = true := no_rfl rfl
@[simp] theorem eN_split {a b : E} : evN Φ (.split a b) ρ = (evE Φ a ρ).bind fun x ρ1 => if strB x then (evE Φ b ρ1).bind fun y ρ2 => R.of (splitD x y) ρ2 else .no := no_rfl rfl
@[simp] theorem eE_get {x : Nat} {a b : E} : evE Φ (.get x a b) ρ = (R.of (peekV x ρ) ρ).bind fun d0 ρ0 => if dctB d0 then (evE Φ a ρ0).bind fun y ρ1 => (evE Φ b ρ1).bind fun z ρ2 => R.of ((peekV x ρ2).bind fun d => getD2 d y z) ρ2 else .no := no_rfl rfl
@[simp] theorem eE_lset {a : E} : evE Φ (.lset a) ρ = (evE Φ a ρ).bind fun x ρ1 => R.of (lsetD x) ρ1 := no_rfl rfl
@[simp] theorem eE_pop {x : Nat} : evE Φ (.pop x) ρ = popS x ρ := no_rfl rfl
@[simp] theorem eE_popi {x : Nat} {a : E} : evE Φ (.popi x a) ρ = (R.of (peekV x ρ) ρ).bind fun d0 ρ0 => if lstB d0 then (evE Φ a ρ0).bind fun y ρ1 => popiS x y ρ1 else .no := no_rfl rfl
@[simp] theorem eE_call0 {f : Nat} : evE Φ (.call0 f) ρ = ((Φ f []).nx).r ρ := no_rfl rfl
@[simp] theorem nx_ok {d : D} : (DR.ok d).nx = .ok d := no_rfl rfl
@[simp] theorem lstB_lst {xs : List D} : lstB (.lst xs) = true := no_rfl rfl
@[simp] theorem dctB_dct {t : Bool} {kvs : List (D × D)} : dctB (.dct t kvs) = true := no_rfl rfl
@[simp] theorem eI_keys {e : E} : evI Φ (.keys e) ρ = (evE Φ e ρ).bind fun x ρ1 => R.of (keysDD x) ρ1 := no_rfl rfl
@[simp] theorem keysDD_dct {t : Bool} {kvs : List (D × D)} : keysDD (.dct t kvs) = some (kvs.map (·.1)) := no_rfl rfl
@[simp] theorem eN_callN {f : Nat} {es : Es} : evN Φ (.callN f es) ρ = (evEs Φ es ρ).bind fun xs ρ1 => (newD (Φ f) xs).r ρ1 := no_rfl rfl
@[simp] theorem eN_lrng {src : It} : evN Φ (.lrng src) ρ = (evI Φ src ρ).bind fun xs ρ1 => if xs.length ≤ sizeL then .ok (.lst xs) ρ1 else .no := no_rfl rfl
@[simp] theorem wp_unp {is : List Nat} {e : E} : Wp Φ (.cons (.unp is e) ss) ρ Q = WE (evE Φ e ρ) fun d ρ1 => WA (.tup is) d ρ1 fun ρ2 => Wp Φ ss ρ2 Q := by
  simp only [wp_eq, we_eq]
  rw [eSs_cons]
  show GQ Q (seqS (evSs Φ ss) ((evE Φ e ρ).st fun d ρ1 => match asg (.tup is) d ρ1 with
    | some ρ2 => .nx ρ2
    | none => .no)) = _
  cases evE Φ e ρ with
  | ok d ρ1 =>
    show GQ Q (seqS (evSs Φ ss) (match asg (.tup is) d ρ1 with
      | some ρ2 => .nx ρ2
      | none => .no)) = WA (.tup is) d ρ1 _
    unfold WA
    cases h : asg (.tup is) d ρ1 with
    | none => exact propext ⟨fun h => h.elim, fun ⟨_, h, _⟩ => by cases h⟩
    | some ρ2 => exact propext ⟨fun h => ⟨ρ2, rfl, h⟩, fun ⟨_, h, k⟩ => by cases h; exact k⟩
  | _ => rfl
theorem wa_tup {is : List Nat} {xs : List D} {k : DL.Env → Prop} (h : is.length = xs.length ∧ is.all (· < ρ.length) = true) (hk : k ((is.zip xs).foldl (fun ρ p => ρ.set p.1 (.fz p.2)) ρ)) : WA (.tup is) (.tup xs) ρ k := by
  refine ⟨_, ?_, hk⟩
  show (if is.length = xs.length ∧ is.all (· < ρ.length) then _ else none) = _
  rw [if_pos h]
@[simp] theorem wa_tupE {is : List Nat} {xs : List D} {k : DL.Env → Prop} : WA (.tup is) (.tup xs) ρ k = ((is.length = xs.length ∧ is.all (· < ρ.length) = true) ∧ k ((is.zip xs).foldl (fun ρ p => ρ.set p.1 (.fz p.2)) ρ)) := by
  apply propext
  constructor
  · rintro ⟨ρ1, h, hk⟩
    have h : (if is.length = xs.length ∧ is.all (· < ρ.length) then some ((is.zip xs).foldl (fun ρ p => ρ.set p.1 (.fz p.2)) ρ) else none) = some ρ1 := h
    split at h
    · rename_i q
      cases h
      exact ⟨q, hk⟩
    · cases h
  · rintro ⟨h, hk⟩
    exact wa_tup h hk
def WSq (d : D) (k : List D → Prop) : Prop := match seqT d with
  | some xs => k xs
  | none => False
@[simp] theorem wsq_lst {xs : List D} {k : List D → Prop} : WSq (.lst xs) k = k xs := no_rfl rfl
@[simp] theorem wsq_tup {xs : List D} {k : List D → Prop} : WSq (.tup xs) k = k xs := no_rfl rfl
@[simp] theorem wp_ext {i : Nat} {e : E} : Wp Φ (.cons (.ext i e) ss) ρ Q = WO i ρ fun _ c => WL c fun _ => WE (evE Φ e ρ) fun d ρ1 => WO i ρ1 fun t c => WL c fun xs => WSq d fun ys => xs.length + ys.length ≤ sizeL ∧ Wp Φ ss (ρ1.set i (.ow' t (.lst (xs ++ ys)))) Q := by
  simp only [wp_eq, we_eq]
  rw [eSs_cons]
  show GQ Q (seqS (evSs Φ ss) (if ownL ρ[i]? then (evE Φ e ρ).st fun d ρ1 => match ρ1[i]? with
    | some (.ow' t (.lst xs)) => match seqT d with
      | some ys => if xs.length + ys.length ≤ sizeL then .nx (ρ1.set i (.ow' t (.lst (xs ++ ys)))) else .no
      | none => .no
    | _ => .no
    else .no)) = _
  unfold WO
  cases h0 : ρ[i]? with
  | none => rfl
  | some s =>
    cases s with
    | ow' tg0 c =>
      cases c with
      | lst zs =>
        show GQ Q (seqS (evSs Φ ss) ((evE Φ e ρ).st fun d ρ1 => match ρ1[i]? with
          | some (.ow' t (.lst xs)) => match seqT d with
            | some ys => if xs.length + ys.length ≤ sizeL then .nx (ρ1.set i (.ow' t (.lst (xs ++ ys)))) else .no
            | none => .no
          | _ => .no)) = we' (evE Φ e ρ) _
        cases evE Φ e ρ with
        | ok d ρ1 =>
          show GQ Q (seqS (evSs Φ ss) (match ρ1[i]? with
            | some (.ow' t (.lst xs)) => match seqT d with
              | some ys => if xs.length + ys.length ≤ sizeL then .nx (ρ1.set i (.ow' t (.lst (xs ++ ys)))) else .no
              | none => .no
            | _ => .no)) = match ρ1[i]? with
              | some (.ow' t c) => WL c fun xs => WSq d fun ys => xs.length + ys.length ≤ sizeL ∧ GQ Q (evSs Φ ss (ρ1.set i (.ow' t (.lst (xs ++ ys)))))
              | _ => False
          cases ρ1[i]? with
          | none => rfl
          | some s =>
            cases s with
            | ow' t c =>
              cases c with
              | lst xs =>
                show GQ Q (seqS (evSs Φ ss) (match seqT d with
                  | some ys => if xs.length + ys.length ≤ sizeL then .nx (ρ1.set i (.ow' t (.lst (xs ++ ys)))) else .no
                  | none => .no)) = WSq d fun ys => xs.length + ys.length ≤ sizeL ∧ GQ Q (evSs Φ ss (ρ1.set i (.ow' t (.lst (xs ++ ys)))))
                unfold WSq
                cases seqT d with
                | none => rfl
                | some ys =>
                  dsimp only
                  by_cases hz : xs.length + ys.length ≤ sizeL
                  · rw [if_pos hz]
                    exact propext ⟨fun h => ⟨hz, h⟩, fun h => h.2⟩
                  · rw [if_neg hz]
                    exact propext ⟨fun h => h.elim, fun h => absurd h.1 hz⟩
              | _ => rfl
            | _ => rfl
        | _ => rfl
      | _ => rfl
    | _ => rfl
end
/-! ### comprehensions of two clauses -/
section
variable {α β : Type} {Φ : Fns} {ρ ρ1 : DL.Env}
theorem set_comm' {v u : Nat} (h : v ≠ u) (s t : Sl) : (ρ.set v s).set u t = (ρ.set u t).set v s := List.set_comm _ _ h
theorem lcD2_map {v u : Nat} (huv : v ≠ u) {src1 : DL.Env → R (List D)} {t e : DL.Env → R D} (em : α → D) (en : β → D) (bs : α → List β) (p : α → β → Bool) (g : α → β → D) (hv : v < ρ1.length) (hu : u < ρ1.length) : ∀ (as : List α) (acc : List D) (s s2 : Sl),
    (∀ a ∈ as, src1 ((ρ1.set v (.fz (em a))).set u .un) = .ok ((bs a).map en) ((ρ1.set v (.fz (em a))).set u .un)) →
    (∀ a ∈ as, ∀ b ∈ bs a, t ((ρ1.set v (.fz (em a))).set u (.fz (en b))) = .ok (.bl (p a b)) ((ρ1.set v (.fz (em a))).set u (.fz (en b)))) →
    (∀ a ∈ as, ∀ b ∈ bs a, p a b = true → e ((ρ1.set v (.fz (em a))).set u (.fz (en b))) = .ok (g a b) ((ρ1.set v (.fz (em a))).set u (.fz (en b)))) →
    acc.length + (as.flatMap bs).length ≤ sizeL →
    ∃ s' s2', lcD2 [v, u] (.name v) src1 (.name u) t e (as.map em) acc ((ρ1.set v s).set u s2) = .ok (acc ++ as.flatMap fun a => ((bs a).filter (p a)).map (g a)) ((ρ1.set v s').set u s2')
  | [], acc, s, s2, _, _, _, _ => ⟨s, s2, by simp [lcD2]⟩
  | a :: as, acc, s, s2, h1, h2, h3, hl => by
    have e0 : asg (.name v) (em a) (wipeE ((ρ1.set v s).set u s2) [v, u]) = some ((ρ1.set v (.fz (em a))).set u .un) := by
      show asg (.name v) (em a) ((((ρ1.set v s).set u s2).set v .un).set u .un) = _
      rw [asg_name (by simpa using hv)]
      congr 1
      rw [set_comm' (Ne.symm huv), List.set_set, set_comm' (Ne.symm huv), List.set_set, List.set_set]
    rw [List.flatMap_cons, List.length_append] at hl
    have e1 := h1 a List.mem_cons_self
    obtain ⟨s3, e2⟩ := lcD_map (v := u) (ρ1 := ρ1.set v (.fz (em a))) (t := t) (e := e) (p a) en (g a) (by simpa using hu) (bs a) acc .un (h2 a List.mem_cons_self) (h3 a List.mem_cons_self) (by omega)
    have hfl : (((bs a).filter (p a)).map (g a)).length ≤ (bs a).length := by rw [List.length_map]; exact List.length_filter_le _ _
    obtain ⟨s', s2', e3⟩ := lcD2_map huv em en bs p g hv hu as (acc ++ ((bs a).filter (p a)).map (g a)) (.fz (em a)) s3 (fun b hb => h1 b (List.mem_cons_of_mem _ hb)) (fun b hb => h2 b (List.mem_cons_of_mem _ hb)) (fun b hb => h3 b (List.mem_cons_of_mem _ hb)) (by rw [List.length_append]; omega)
    refine ⟨s', s2', ?_⟩
    rw [List.map_cons]
    unfold lcD2
    rw [e0]
    dsimp only
    rw [e1]
    simp only [nox_ok, bind_ok]
    have e2' : lcD (Tg.name u).slots (.name u) t e ((bs a).map en) acc ((ρ1.set v (.fz (em a))).set u .un) = _ := e2
    rw [e2', bind_ok, e3, List.flatMap_cons, List.append_assoc]
theorem lc2_all {v u : Nat} (huv : v ≠ u) {src src1 : It} {cs : Es} {elt : E} (as : List α) (em : α → D) (en : β → D) (bs : α → List β) (p : α → β → Bool) (g : α → β → D) (hs : evI Φ src ρ = .ok (as.map em) ρ1) (hv : v < ρ1.length) (hu : u < ρ1.length) (hw : isOw ρ1[v]? = false) (hw2 : isOw ρ1[u]? = false) (hl : (as.flatMap bs).length ≤ sizeL)
    (h1 : ∀ a ∈ as, evI Φ src1 ((ρ1.set v (.fz (em a))).set u .un) = .ok ((bs a).map en) ((ρ1.set v (.fz (em a))).set u .un))
    (h2 : ∀ a ∈ as, ∀ b ∈ bs a, evT Φ cs ((ρ1.set v (.fz (em a))).set u (.fz (en b))) = .ok (.bl (p a b)) ((ρ1.set v (.fz (em a))).set u (.fz (en b))))
    (h3 : ∀ a ∈ as, ∀ b ∈ bs a, p a b = true → evE Φ elt ((ρ1.set v (.fz (em a))).set u (.fz (en b))) = .ok (g a b) ((ρ1.set v (.fz (em a))).set u (.fz (en b)))) :
    evN Φ (.lc2 [v, u] (.name v) src (.name u) src1 cs elt) ρ = .ok (.lst (as.flatMap fun a => ((bs a).filter (p a)).map (g a))) ρ1 := by
  obtain ⟨s0, hs0⟩ : ∃ s0, ρ1[v]? = some s0 := ⟨_, List.getElem?_eq_getElem hv⟩
  obtain ⟨s1, hs1⟩ : ∃ s1, ρ1[u]? = some s1 := ⟨_, List.getElem?_eq_getElem hu⟩
  have id1 : ∀ {ρ : DL.Env} {i : Nat} {s : Sl}, ρ[i]? = some s → ρ.set i s = ρ := fun {ρ i s} h => by
    apply List.ext_getElem?
    intro j
    have hi := (List.getElem?_eq_some_iff.mp h).1
    by_cases hj : i = j
    · subst hj; rw [List.getElem?_set_self hi, h]
    · rw [List.getElem?_set_ne hj]
  obtain ⟨s', s2', e'⟩ := lcD2_map (ρ1 := ρ1) huv (src1 := evI Φ src1) (t := evT Φ cs) (e := evE Φ elt) em en bs p g hv hu as [] s0 s1 h1 h2 h3 (by simpa using hl)
  rw [id1 hs0, id1 hs1] at e'
  show ((evI Φ src ρ).bind fun xs ρ1 => if [v, u].any (fun v => isOw ρ1[v]?) then .no else (lcD2 [v, u] (.name v) (evI Φ src1) (.name u) (evT Φ cs) (evE Φ elt) xs [] ρ1).bind fun ys ρ2 => R.ok (D.lst ys) (backE ρ1 ρ2 [v, u])) = _
  rw [hs]
  simp only [bind_ok, List.any_cons, List.any_nil, hw, hw2, Bool.or_false, Bool.false_eq_true, if_false, e', List.nil_append]
  congr 1
  show (match ρ1[v]? with
    | some s => (backE ρ1 ((ρ1.set v s').set u s2') [u]).set v s
    | none => backE ρ1 ((ρ1.set v s').set u s2') [u]) = ρ1
  rw [hs0]
  dsimp only
  rw [back_one hs1, List.set_set, set_comm' (Ne.symm huv), List.set_set, id1 hs0, id1 hs1]
theorem we_lc2 {v u : Nat} {src src1 : It} {cs : Es} {elt : E} {K : D → DL.Env → Prop} (as : List α) (em : α → D) (en : β → D) (bs : α → List β) (p : α → β → Bool) (g : α → β → D) (huv : v ≠ u) (hs : evI Φ src ρ = .ok (as.map em) ρ1) (hv : v < ρ1.length) (hu : u < ρ1.length) (hw : isOw ρ1[v]? = false) (hw2 : isOw ρ1[u]? = false) (hl : (as.flatMap bs).length ≤ sizeL)
    (h1 : ∀ a ∈ as, evI Φ src1 ((ρ1.set v (.fz (em a))).set u .un) = .ok ((bs a).map en) ((ρ1.set v (.fz (em a))).set u .un))
    (h2 : ∀ a ∈ as, ∀ b ∈ bs a, evT Φ cs ((ρ1.set v (.fz (em a))).set u (.fz (en b))) = .ok (.bl (p a b)) ((ρ1.set v (.fz (em a))).set u (.fz (en b))))
    (h3 : ∀ a ∈ as, ∀ b ∈ bs a, p a b = true → evE Φ elt ((ρ1.set v (.fz (em a))).set u (.fz (en b))) = .ok (g a b) ((ρ1.set v (.fz (em a))).set u (.fz (en b))))
    (k : K (.lst (as.flatMap fun a => ((bs a).filter (p a)).map (g a))) ρ1) : WE (evN Φ (.lc2 [v, u] (.name v) src (.name u) src1 cs elt) ρ) K := by
  rw [lc2_all huv as em en bs p g hs hv hu hw hw2 hl h1 h2 h3, we_ok]
  exact k
end
section
variable {xs ys : List D} {i j : Int}
@[simp] theorem gcd_int : b2D .gcd (.int i) (.int j) = some (.int (Nat.gcd i.natAbs j.natAbs : Nat)) := no_rfl rfl
theorem comb_int : b2D .comb (.int i) (.int j) = if 0 ≤ i ∧ 0 ≤ j ∧ i ≤ 18000 then some (.int (PySem.W.mcComb i j)) else none := no_rfl rfl
theorem fact_int : b1D .fact (.int i) = if 0 ≤ i ∧ i ≤ 20000 then some (.int (facN i.toNat : Nat)) else none := no_rfl rfl
@[simp] theorem sum_tup : b1D .sum (.tup xs) = (intsOf xs).map fun ns => .int ns.sum := no_rfl rfl
@[simp] theorem intsOf_iL : ∀ ns : List Int, intsOf (ns.map .int) = some ns
  | [] => rfl
  | n :: ns => by
    show (intsOf (ns.map .int)).map (n :: ·) = _
    rw [intsOf_iL ns]
    rfl
theorem eqvs_find : ∀ (x : Int) (ns : List Int), ((ns.map D.int).findIdx? fun z => D.eqv z (.int x)) = ns.findIdx? (· == x)
  | x, [] => rfl
  | x, n :: ns => by
    rw [List.map_cons, List.findIdx?_cons, List.findIdx?_cons, eqvs_find x ns, eqv_int]
    rfl
@[simp] theorem index_int {x : Int} {ns : List Int} : m1D .index (.lst (ns.map .int)) (.int x) = (ns.findIdx? (· == x)).map fun j => .int (j : Nat) := by
  show (if D.okN 60 (.int x) && D.okN 60 (.lst (ns.map .int)) then _ else none) = _
  rw [if_pos (by simp), eqvs_find]
@[simp] theorem count_int {x : Int} {ns : List Int} : m1D .count (.lst (ns.map .int)) (.int x) = some (.int (ns.count x : Nat)) := by
  show (intsOf (ns.map .int)).map _ = _
  rw [intsOf_iL]
  rfl
theorem lset_int {ns : List Int} (h : ns.length < 1000) : lsetD (.tup (ns.map .int)) = some (.int (ns.eraseDups.length : Nat)) := by
  show (match intsOf (ns.map .int) with
    | some ns => if ns.length < 1000 then some (D.int (ns.eraseDups.length : Nat)) else none
    | none => none) = _
  rw [intsOf_iL]
  dsimp only
  rw [if_pos h]
@[simp] theorem lt_iT {ns ms : List Int} : copD .lt (.tup (ns.map .int)) (.tup (ms.map .int)) = some (HT.lexLt ns ms) := by
  show (match intsOf (ns.map .int), intsOf (ms.map .int) with
    | some ns, some ms => some (HT.lexLt ns ms)
    | _, _ => none) = _
  rw [intsOf_iL, intsOf_iL]
@[simp] theorem getD2_dct {t : Bool} {kvs : List (D × D)} {k d : D} : getD2 (.dct t kvs) k d = if isKey t k then some ((dGet kvs k).getD d) else none := no_rfl rfl
end
/-! ### the least, the greatest of some ints -/
theorem best_ints (n : Int) (ns : List Int) : bestOk (D.int n :: ns.map .int) = true := by
  unfold bestOk
  simp only [List.all_cons, List.all_map, Bool.and_eq_true]
  refine ⟨⟨⟨rfl, ?_⟩, ⟨⟨rfl, ?_⟩, ?_⟩⟩, ⟨rfl, ?_⟩⟩
  · rw [List.all_eq_true]; intro x _; rfl
  · rw [List.all_eq_true]; intro x _; rfl
  · rw [List.all_eq_true]; intro x _
    simp only [Function.comp, Bool.and_eq_true]
    refine ⟨rfl, ?_⟩
    rw [List.all_eq_true]; intro y _; rfl
  · rw [List.all_eq_true]; intro x _; rfl
def minL (n : Int) (ns : List Int) : Int := ns.foldl (fun a y => if y < a then y else a) n
def maxL (n : Int) (ns : List Int) : Int := ns.foldl (fun a y => if a < y then y else a) n
theorem minDD_ints : ∀ (ns : List Int) (n : Int), minDD (.int n) (ns.map .int) = .int (minL n ns)
  | [], n => rfl
  | m :: ns, n => by
    show minDD (if PySem.W.dataLt (PyData.int m) (PyData.int n) then .int m else .int n) (ns.map .int) = .int (minL (if m < n then m else n) ns)
    have e : PySem.W.dataLt (PyData.int m) (PyData.int n) = decide (m < n) := by
      show PyProof.Rows.lexLt PyProof.Rows.itemOrd [.inl m] [.inl n] = _
      simp [PyProof.Rows.lexLt, PyProof.Rows.itemOrd, PyProof.Rows.itemLt]
    rw [e, ← minDD_ints ns]
    congr 1
    by_cases h : m < n <;> simp [h]
theorem maxDD_ints : ∀ (ns : List Int) (n : Int), maxDD (.int n) (ns.map .int) = .int (maxL n ns)
  | [], n => rfl
  | m :: ns, n => by
    show maxDD (if PySem.W.dataLt (PyData.int n) (PyData.int m) then .int m else .int n) (ns.map .int) = .int (maxL (if n < m then m else n) ns)
    have e : PySem.W.dataLt (PyData.int n) (PyData.int m) = decide (n < m) := by
      show PyProof.Rows.lexLt PyProof.Rows.itemOrd [.inl n] [.inl m] = _
      simp [PyProof.Rows.lexLt, PyProof.Rows.itemOrd, PyProof.Rows.itemLt]
    rw [e, ← maxDD_ints ns]
    congr 1
    by_cases h : n < m <;> simp [h]
theorem min1_lst {n : Int} {ns : List Int} : b1D .min1 (.lst (.int n :: ns.map .int)) = some (.int (minL n ns)) := by
  show (if bestOk _ then some (minDD _ _) else none) = _
  rw [if_pos (best_ints n ns), minDD_ints]
theorem min1_tup {n : Int} {ns : List Int} : b1D .min1 (.tup (.int n :: ns.map .int)) = some (.int (minL n ns)) := by
  show (if bestOk _ then some (minDD _ _) else none) = _
  rw [if_pos (best_ints n ns), minDD_ints]
theorem max1_lst {n : Int} {ns : List Int} : b1D .max1 (.lst (.int n :: ns.map .int)) = some (.int (maxL n ns)) := by
  show (if bestOk _ then some (maxDD _ _) else none) = _
  rw [if_pos (best_ints n ns), maxDD_ints]
theorem max1_tup {n : Int} {ns : List Int} : b1D .max1 (.tup (.int n :: ns.map .int)) = some (.int (maxL n ns)) := by
  show (if bestOk _ then some (maxDD _ _) else none) = _
  rw [if_pos (best_ints n ns), maxDD_ints]
theorem minL_ok : ∀ (ns : List Int) (n : Int), minL n ns ∈ n :: ns ∧ ∀ x ∈ n :: ns, minL n ns ≤ x
  | [], n => ⟨List.mem_singleton.mpr rfl, fun x hx => by rw [List.mem_singleton.mp hx]; exact Int.le_refl _⟩
  | m :: ns, n => by
    obtain ⟨h1, h2⟩ := minL_ok ns (if m < n then m else n)
    have e : minL n (m :: ns) = minL (if m < n then m else n) ns := rfl
    rw [e]
    have h3 := h2 _ List.mem_cons_self
    refine ⟨?_, fun x hx => ?_⟩
    · rcases List.mem_cons.mp h1 with q | q
      · rw [q]
        split
        · exact List.mem_cons_of_mem _ List.mem_cons_self
        · exact List.mem_cons_self
      · exact List.mem_cons_of_mem _ (List.mem_cons_of_mem _ q)
    · rcases List.mem_cons.mp hx with rfl | hx
      · refine Int.le_trans h3 ?_
        split <;> omega
      · rcases List.mem_cons.mp hx with rfl | hx
        · refine Int.le_trans h3 ?_
          split <;> omega
        · exact h2 x (List.mem_cons_of_mem _ hx)
theorem maxL_ok : ∀ (ns : List Int) (n : Int), maxL n ns ∈ n :: ns ∧ ∀ x ∈ n :: ns, x ≤ maxL n ns
  | [], n => ⟨List.mem_singleton.mpr rfl, fun x hx => by rw [List.mem_singleton.mp hx]; exact Int.le_refl _⟩
  | m :: ns, n => by
    obtain ⟨h1, h2⟩ := maxL_ok ns (if n < m then m else n)
    have e : maxL n (m :: ns) = maxL (if n < m then m else n) ns := rfl
    rw [e]
    have h3 := h2 _ List.mem_cons_self
    refine ⟨?_, fun x hx => ?_⟩
    · rcases List.mem_cons.mp h1 with q | q
      · rw [q]
        split
        · exact List.mem_cons_of_mem _ List.mem_cons_self
        · exact List.mem_cons_self
      · exact List.mem_cons_of_mem _ (List.mem_cons_of_mem _ q)
    · rcases List.mem_cons.mp hx with rfl | hx
      · refine Int.le_trans ?_ h3
        split <;> omega
      · rcases List.mem_cons.mp hx with rfl | hx
        · refine Int.le_trans ?_ h3
          split <;> omega
        · exact h2 x (List.mem_cons_of_mem _ hx)
end DL
set_option Elab.async false
set_option linter.all false
set_option maxRecDepth 1000
set_option maxHeartbeats 1000000
/-! DLw: plain: periods, roots, windings. -/
namespace DL
open PySem L2
/-- a word without end, of period a -/
def Per (f : Nat → Int) (a : Nat) : Prop := ∀ k, f (k + a) = f k
theorem Per.zero (f : Nat → Int) : Per f 0 := fun k => rfl
theorem Per.mul {f : Nat → Int} {a : Nat} (h : Per f a) : ∀ m, Per f (a * m)
  | 0 => fun k => by simp
  | m + 1 => fun k => by
    rw [Nat.mul_succ, ← Nat.add_assoc, h, h.mul m]
theorem Per.sub {f : Nat → Int} {a b : Nat} (ha : Per f a) (hb : Per f b) (h : a ≤ b) : Per f (b - a) := fun k => by
  rw [← ha (k + (b - a)), show k + (b - a) + a = k + b by omega, hb]
theorem Per.mod {f : Nat → Int} {a b : Nat} (ha : Per f a) (hb : Per f b) : Per f (b % a) := by
  have h := (ha.mul (b / a)).sub hb (Nat.mul_div_le b a)
  rw [show b - a * (b / a) = b % a by have := Nat.div_add_mod b a; omega] at h
  exact h
theorem Per.gcd {f : Nat → Int} {a b : Nat} : Per f a → Per f b → Per f (Nat.gcd a b) := by
  induction a, b using Nat.gcd.induction with
  | H0 n => intro _ h; rw [Nat.gcd_zero_left]; exact h
  | H1 m n hm ih =>
    intro ha hb
    rw [Nat.gcd_rec]
    exact ih (ha.mod hb) ha
theorem Per.at_mod {f : Nat → Int} {a : Nat} (h : Per f a) (k : Nat) : f (k % a) = f k := by
  have := h.mul (k / a) (k % a)
  rw [show k % a + a * (k / a) = k by have := Nat.div_add_mod k a; omega] at this
  exact this.symm
/-- the winding of a ring -/
def wnd (r : List Int) (k : Nat) : Int := r.getD (k % r.length) 0
theorem wnd_per (r : List Int) : Per (wnd r) r.length := fun k => by
  unfold wnd
  rw [Nat.add_mod_right]
/-- d is told again and again -/
def Again (r : List Int) (d : Nat) : Prop := 1 ≤ d ∧ d ∣ r.length ∧ Per (wnd r) d
/-- the least such d -/
def IsRoot (r : List Int) (d : Nat) : Prop := Again r d ∧ ∀ e, Again r e → d ≤ e
theorem again_len {r : List Int} (h : 1 ≤ r.length) : Again r r.length := ⟨h, Nat.dvd_refl _, wnd_per r⟩
/-- two words alike at first are alike everywhere -/
theorem alike_all {f g : Nat → Int} {p q : Nat} (hf : Per f p) (hg : Per g q) (h0 : 0 < p * q) (h : ∀ k, k < p * q → f k = g k) (k : Nat) : f k = g k := by
  have h1 : Per f (p * q) := hf.mul q
  have h2 : Per g (p * q) := by rw [Nat.mul_comm]; exact hg.mul p
  rw [← h1.at_mod k, ← h2.at_mod k]
  exact h _ (Nat.mod_lt _ h0)
theorem root_le {r s : List Int} {d e c : Nat} (h1 : 1 ≤ r.length) (hr : IsRoot r d) (he : Again s e) (h : ∀ k, wnd r k = wnd s (c + k)) : d ≤ e := by
  have hp : Per (wnd r) e := fun k => by
    rw [h, h, ← Nat.add_assoc]
    exact he.2.2 (c + k)
  have hg := (wnd_per r).gcd hp
  have ha : Again r (Nat.gcd r.length e) := ⟨Nat.gcd_pos_of_pos_left _ h1, Nat.gcd_dvd_left _ _, hg⟩
  exact Nat.le_trans (hr.2 _ ha) (Nat.le_of_dvd he.1 (Nat.gcd_dvd_right _ _))
/-! ### told again -/
def Rep (r : List Int) (d : Nat) : Prop := ∀ j, j < r.length → r.getD j 0 = r.getD (j % d) 0
theorem wnd_lt {r : List Int} {k : Nat} (h : k < r.length) : wnd r k = r.getD k 0 := by
  unfold wnd
  rw [Nat.mod_eq_of_lt h]
theorem rep_shift {r : List Int} {d : Nat} : Rep r d ↔ ∀ k, k + d < r.length → r.getD (k + d) 0 = r.getD k 0 := by
  constructor
  · intro h k hk
    rw [h _ hk, h k (by omega), Nat.add_mod_right]
  · intro h j
    induction j using Nat.strongRecOn with
    | ind j ih =>
      intro hj
      by_cases hd : j < d
      · rw [Nat.mod_eq_of_lt hd]
      · by_cases h0 : d = 0
        · rw [h0, Nat.mod_zero]
        · have e := h (j - d) (by omega)
          rw [show j - d + d = j by omega] at e
          rw [e, ih (j - d) (by omega) (by omega), Nat.mod_eq_sub_mod (a := j) (by omega)]
theorem rep_per {r : List Int} {d : Nat} (hd : d ∣ r.length) (h1 : 1 ≤ r.length) : Rep r d ↔ Per (wnd r) d := by
  constructor
  · intro h k
    unfold wnd
    rw [h _ (Nat.mod_lt _ h1), h (k % r.length) (Nat.mod_lt _ h1), Nat.mod_mod_of_dvd _ hd, Nat.mod_mod_of_dvd _ hd, Nat.add_mod_right]
  · intro h
    rw [rep_shift]
    intro k hk
    rw [← wnd_lt hk, ← wnd_lt (by omega), h]
theorem flat_get (xs : List Int) : ∀ (m j : Nat), j < m * xs.length → ((List.replicate m xs).flatten).getD j 0 = xs.getD (j % xs.length) 0
  | 0, j, h => by omega
  | m + 1, j, h => by
    rw [List.replicate_succ, List.flatten_cons]
    by_cases hj : j < xs.length
    · rw [Nat.mod_eq_of_lt hj, List.getD_eq_getElem?_getD, List.getElem?_append_left hj, ← List.getD_eq_getElem?_getD]
    · rw [List.getD_eq_getElem?_getD, List.getElem?_append_right (by omega), ← List.getD_eq_getElem?_getD, flat_get xs m (j - xs.length) (by rw [Nat.succ_mul] at h; omega), Nat.mod_eq_sub_mod (a := j) (by omega)]
theorem flat_len' (xs : List Int) (n : Nat) : ((List.replicate n xs).flatten).length = n * xs.length := by
  rw [List.length_flatten, List.map_replicate, List.sum_replicate_nat]
theorem ext_getD {a b : List Int} (hl : a.length = b.length) (h : ∀ j, j < a.length → a.getD j 0 = b.getD j 0) : a = b := by
  apply List.ext_getElem hl
  intro j h1 h2
  have e := h j h1
  simpa [h1, h2] using e
theorem take_getD {r : List Int} {d j : Nat} (h : j < d) : (r.take d).getD j 0 = r.getD j 0 := by
  rw [List.getD_eq_getElem?_getD, List.getElem?_take, if_pos h, ← List.getD_eq_getElem?_getD]
/-- the beginning told again is the ring -/
theorem told_rep {r : List Int} {d : Nat} (h0 : 1 ≤ d) (hd : d ∣ r.length) (hl : d ≤ r.length) : (List.replicate (r.length / d) (r.take d)).flatten = r ↔ Rep r d := by
  have tl : (r.take d).length = d := by rw [List.length_take]; omega
  have fl : ((List.replicate (r.length / d) (r.take d)).flatten).length = r.length := by rw [flat_len', tl]; exact Nat.div_mul_cancel hd
  have fg : ∀ j, j < r.length → ((List.replicate (r.length / d) (r.take d)).flatten).getD j 0 = r.getD (j % d) 0 := fun j hj => by
    rw [flat_get _ _ _ (by rw [tl, Nat.div_mul_cancel hd]; exact hj), tl, take_getD (Nat.mod_lt _ h0)]
  constructor
  · intro h j hj
    rw [← fg j hj, h]
  · intro h
    exact ext_getD fl fun j hj => by rw [fg j (by omega), ← h j (by omega)]
/-- the winding of the root -/
theorem wnd_take {r : List Int} {d : Nat} (h1 : 1 ≤ r.length) (h : Again r d) (k : Nat) : wnd (r.take d) k = wnd r k := by
  obtain ⟨h0, hd, hp⟩ := h
  have hl := Nat.le_of_dvd h1 hd
  have tl : (r.take d).length = d := by rw [List.length_take]; omega
  rw [← hp.at_mod k]
  unfold wnd
  rw [tl, take_getD (Nat.mod_lt _ h0), Nat.mod_eq_of_lt (a := k % d) (Nat.lt_of_lt_of_le (Nat.mod_lt _ h0) hl)]
/-- the root is its own root -/
theorem root_root {r : List Int} {d e : Nat} (h1 : 1 ≤ r.length) (hr : IsRoot r d) (he : IsRoot (r.take d) e) : e = d := by
  have hl := Nat.le_of_dvd h1 hr.1.2.1
  have tl : (r.take d).length = d := by rw [List.length_take]; omega
  have h2 := he.1.2.1
  rw [tl] at h2
  have hp : Per (wnd r) e := fun k => by
    rw [← wnd_take h1 hr.1, ← wnd_take h1 hr.1, he.1.2.2]
  exact Nat.le_antisymm (Nat.le_of_dvd hr.1.1 h2) (hr.2 _ ⟨he.1.1, Nat.dvd_trans h2 hr.1.2.1, hp⟩)
theorem root_unique {r : List Int} {d e : Nat} (hr : IsRoot r d) (he : IsRoot r e) : d = e := Nat.le_antisymm (hr.2 _ he.1) (he.2 _ hr.1)
/-- windings alike from some house on -/
def Alike (r s : List Int) : Prop := ∃ c, ∀ k, wnd r k = wnd s (c + k)
theorem wnd_back {f g : Nat → Int} {c n : Nat} (h1 : 1 ≤ n) (hg : Per g n) (h : ∀ k, f k = g (c + k)) (k : Nat) : g k = f (c * (n - 1) + k) := by
  rw [h, ← hg.mul c k]
  congr 1
  obtain ⟨m, rfl⟩ : ∃ m, n = m + 1 := ⟨n - 1, by omega⟩
  rw [Nat.add_sub_cancel, Nat.mul_comm (m + 1) c, Nat.mul_succ]
  omega
theorem alike_symm {r s : List Int} (h1 : 1 ≤ s.length) (h : Alike r s) : Alike s r := by
  obtain ⟨c, hc⟩ := h
  exact ⟨_, wnd_back h1 (wnd_per s) hc⟩
theorem alike_roots {r s : List Int} {d e : Nat} (h1 : 1 ≤ r.length) (h2 : 1 ≤ s.length) (hr : IsRoot r d) (he : IsRoot s e) (h : Alike r s) : d = e := by
  obtain ⟨c, hc⟩ := h
  obtain ⟨c2, hc2⟩ := alike_symm h2 ⟨c, hc⟩
  exact Nat.le_antisymm (root_le h1 hr he.1 hc) (root_le h2 he hr.1 hc2)
theorem alike_iff {r s : List Int} (h1 : 1 ≤ r.length) (h2 : 1 ≤ s.length) : Alike r s ↔ ∃ c, c < s.length ∧ ∀ k, k < r.length * s.length → wnd r k = wnd s (c + k) := by
  constructor
  · rintro ⟨c, hc⟩
    refine ⟨c % s.length, Nat.mod_lt _ h2, fun k _ => ?_⟩
    rw [hc]
    unfold wnd
    rw [Nat.mod_add_mod]
  · rintro ⟨c, _, hc⟩
    exact ⟨c, alike_all (f := wnd r) (g := fun k => wnd s (c + k)) (wnd_per r) (fun k => by show wnd s (c + (k + s.length)) = wnd s (c + k); rw [← Nat.add_assoc]; exact wnd_per s _) (Nat.mul_pos h1 h2) hc⟩
end DL
set_option Elab.async false
set_option linter.all false
set_option maxRecDepth 1000
set_option maxHeartbeats 1000000
/-! SA: the units of rings: cells, digits, turns, roots, rows -/
namespace U
open PySem L2 DL
theorem whole_int (i : Int) : n__law_whole [.int i] = .ok (.bl true) := by
  refine run_of ?_
  simp [b__law_whole]
theorem cell_ex (ns : List Int) (k : Int) (h : 0 ≤ k) : ∃ z, n__law_cell [.ro (iL ns), .int k] = .ok (.int z) := by
  refine run_ex (P := fun r => ∃ z, r = .ok (.int z)) ?_
  simp [b__law_cell]
  by_cases hk : k < ns.length
  · obtain ⟨m, hm, rfl, e⟩ := at_int (xs := iL ns) h (by simpa using hk)
    have hm2 : m < ns.length := by simpa using hm
    simp [hm2, e]
  · simp [hk]
    refine wf_pass (fun ρ => ∃ z s, ρ = [Sl.fz (.ro (iL ns)), .fz (.int k), .fz (.int z), s] ∧ 0 ≤ z ∧ z < 1000003) ⟨_, _, rfl, by omega, by omega⟩ (fun j hj ρ ⟨z, s, hρ, hz⟩ => ?_) (fun ρ ⟨z, s, hρ, hz⟩ => ?_)
    · subst hρ
      simp [mul_int]
      omega
    · subst hρ
      have h1 : -18446744073709551616 < z + 7 := by omega
      have h2 : z + 7 < 18446744073709551616 := by omega
      simp [mul_int, h1, h2]
theorem digits_ex (z : Int) (sizes : List Int) (hl : sizes.length ≤ 900) (hs : ∀ x ∈ sizes, 0 < x ∧ x < 1073741824) : ∃ ds, n__law_digits [.int z, iB sizes] = .ok (iB ds) ∧ Dig ds sizes := by
  refine run_ex (P := fun r => ∃ ds, r = .ok (iB ds) ∧ Dig ds sizes) ?_
  have hr := rng0_len (show sizes.length ≤ 1000000 by omega)
  simp [b__law_digits, pow_int, wi_bl, hr]
  split
  · refine wf_idx (fun i ρ => ∃ (ds : List Int) (rest : Int) (s : Sl), ρ = [Sl.fz (.int z), .fz (iB sizes), .ow (iB ds), .fz (.int rest), s, .un, .un, .un] ∧ ds.length = i ∧ Dig ds (sizes.take i)) ⟨[], _, _, rfl, rfl, .nil⟩ (fun j a ha ρ ⟨ds, rest, s, hρ, hj, hd⟩ => ?_) (fun ρ ⟨ds, rest, s, hρ, hj, hd⟩ => ?_)
    · subst hρ
      obtain ⟨h1, h2⟩ := hs a (List.mem_of_getElem? ha)
      have hj2 : j < sizes.length := (List.getElem?_eq_some_iff.mp ha).1
      simp [h1, h2]
      exact ⟨lt_of (by omega), ds ++ [rest % a], iL_snoc, by simp [hj], hd.step (Int.emod_nonneg _ (by omega)) (Int.emod_lt_of_pos _ h1) ha⟩
    · subst hρ
      rw [List.take_length] at hd
      simp
      exact ⟨ds, rfl, hd⟩
  · refine wf_idx (fun i ρ => ∃ (ds : List Int) (seed : Int) (s t : Sl), ρ = [Sl.fz (.int z), .fz (iB sizes), .ow (iB ds), .fz (.int z), .un, .fz (.int seed), s, t] ∧ 0 ≤ seed ∧ seed < 4294967296 ∧ ds.length = i ∧ Dig ds (sizes.take i)) ⟨[], _, _, _, rfl, by omega, by omega, rfl, .nil⟩ (fun j a ha ρ ⟨ds, seed, s, t, hρ, h0, h1, hj, hd⟩ => ?_) (fun ρ ⟨ds, seed, s, t, hρ, h0, h1, hj, hd⟩ => ?_)
    · subst hρ
      obtain ⟨hj2, rfl⟩ := List.getElem?_eq_some_iff.mp ha
      have hj2 : j < sizes.length := by simpa using hj2
      obtain ⟨g1, g2⟩ := hs sizes[j] (List.getElem_mem hj2)
      have e1 := at_nat (xs := iL sizes) (k := j) (by simpa using hj2)
      simp at e1
      have k1 : -18446744073709551616 < ((seed * 48271 + 974711 * (j : Int) + 12345) % 2147483647) := by omega
      have k2 : ((seed * 48271 + 974711 * (j : Int) + 12345) % 2147483647) < 18446744073709551616 := by omega
      simp [mul_int, e1, g1, k1, k2]
      exact ⟨lt_of (by omega), _, _, ⟨iL_snoc, rfl⟩, by omega, by omega, by simp [hj], hd.step (Int.emod_nonneg _ (by omega)) (Int.emod_lt_of_pos _ g1) (List.getElem?_eq_getElem hj2)⟩
    · subst hρ
      simp at hd
      simp
      exact ⟨ds, rfl, hd⟩
theorem getD_at {ns : List Int} {k : Nat} (h : k < ns.length) : ns.getD k 0 = ns[k] := by simp [h]
theorem rem_nat {h : Int} {n : Nat} (hn : 1 ≤ n) : ∃ p : Nat, p < n ∧ h % (n : Int) = p := by
  have h0 := Int.emod_nonneg h (b := (n : Int)) (by omega)
  have h1 := Int.emod_lt_of_pos h (b := (n : Int)) (by omega)
  exact ⟨(h % (n : Int)).toNat, by omega, by omega⟩
def rot (r : List Int) (h : Nat) : List Int := r.drop h ++ r.take h
theorem rot_len {r : List Int} {h : Nat} (hh : h ≤ r.length) : (rot r h).length = r.length := by
  simp [rot]
  omega
theorem turned_eq (r : List Int) (h : Nat) (hh : h ≤ r.length) (hl : r.length ≤ 900) : n_turned [iT r, .int (h : Nat)] = .ok (iT (rot r h)) := by
  refine run_of ?_
  have g1 : r.length - h + min h r.length ≤ 16777216 := by omega
  simp [b_turned, cut_lo, cut_hi, g1, rot]
def IsTurns (r : List Int) (out : List (List Int)) : Prop := out.Pairwise Lx ∧ ∀ x, x ∈ out ↔ ∃ h, h < r.length ∧ x = rot r h
theorem pw_strict {l : List (List Int)} (h : l.Pairwise fun a b => a = b ∨ Lx a b) (hn : l.Nodup) : l.Pairwise Lx := by
  refine (List.pairwise_iff_getElem).mpr fun i j hi hj hij => ?_
  rcases (List.pairwise_iff_getElem).mp h i j hi hj hij with e | e
  · exact absurd e ((List.pairwise_iff_getElem).mp (List.nodup_iff_pairwise_ne.mp hn) i j hi hj hij)
  · exact e
theorem turns_ex (r : List Int) (h1 : 1 ≤ r.length) (hl : r.length ≤ 900) : ∃ out, n_turns [iT r] = .ok (tT out) ∧ IsTurns r out := by
  have hmem : ∀ x ∈ dd ((List.range r.length).map (rot r)), x.length = r.length := fun x hx => by
    obtain ⟨h, hh, rfl⟩ := List.mem_map.mp (dd_mem.mp hx)
    exact rot_len (Nat.le_of_lt (List.mem_range.mp hh))
  obtain ⟨out, e, o1, o2⟩ := sort_rows (n := r.length) hmem h1 (Nat.le_trans (dd_len _) (by simp; omega))
  refine ⟨out, ?_, pw_strict o2 (o1.nodup_iff.mpr (dd_nodup _)), fun x => ?_⟩
  · refine run_of ?_
    simp [b_turns, rng0_len (show r.length ≤ 1000000 by omega)]
    refine wf_idx (fun i ρ => ∃ s, ρ = [Sl.fz (iT r), .ow (.dct true (kv (dd (((List.range r.length).map (rot r)).take i)))), s]) ⟨_, rfl⟩ (fun j x hx ρ ⟨s, hρ⟩ => ?_) (fun ρ ⟨s, hρ⟩ => ?_)
    · subst hρ
      obtain ⟨hj, rfl⟩ := List.getElem?_eq_some_iff.mp hx
      have hj : j < r.length := by simpa using hj
      have hlen : (kv (dd (((List.range r.length).map (rot r)).take j))).length < 16777216 := by
        have := dd_len (((List.range r.length).map (rot r)).take j)
        unfold kv
        rw [List.length_map]
        rw [List.length_take] at this
        omega
      have e2 : dd (((List.range r.length).map (rot r)).take (j + 1)) = ins (dd (((List.range r.length).map (rot r)).take j)) (rot r j) := by
        rw [List.take_add_one, List.getElem?_eq_getElem (by simpa using hj)]
        simp only [List.getElem_map, List.getElem_range, Option.toList_some]
        exact dd_snoc _ _
      have e3 := dput_kv (dd (((List.range r.length).map (rot r)).take j)) (rot r j)
      have e4 := turned_eq r j (by omega) hl
      generalize dd (((List.range r.length).map (rot r)).take (j + 1)) = Dj1 at e2
      generalize dd (((List.range r.length).map (rot r)).take j) = Dj at hlen e2 e3
      simp [e4, WP, hlen, e2, e3]
    · subst hρ
      have e4 : (kv (dd ((List.range r.length).map (rot r)))).map (·.1) = (dd ((List.range r.length).map (rot r))).map fun r => iT r := by
        unfold kv
        rw [List.map_map]
        rfl
      rw [List.length_range, List.take_of_length_le (by simp)]
      simp [e4, -List.map_map]
      rw [show sortD (D.lst ((dd ((List.range r.length).map (rot r))).map fun r => iT r)) = _ from e]
      simp
  · rw [o1.mem_iff, dd_mem, List.mem_map]
    constructor
    · rintro ⟨h, hh, rfl⟩
      exact ⟨h, List.mem_range.mp hh, rfl⟩
    · rintro ⟨h, hh, rfl⟩
      exact ⟨h, List.mem_range.mpr hh, rfl⟩
theorem itm_mod {r : List Int} {i : Int} (h1 : 1 ≤ r.length) : L2.atI (iL r) (i % r.length) = some (.int (itm r (i % r.length))) ∧ itm r (i % r.length) ∈ r :=
  ⟨at_itm (Int.emod_nonneg _ (by omega)) (Int.emod_lt_of_pos _ (by omega)), itm_mem (Int.emod_nonneg _ (by omega)) (Int.emod_lt_of_pos _ (by omega))⟩
theorem rot_get {r : List Int} {h k : Nat} (hh : h ≤ r.length) (hk : k < r.length) : (rot r h)[k]? = some (if h + k < r.length then r.getD (h + k) 0 else r.getD (h + k - r.length) 0) := by
  unfold rot
  by_cases hc : h + k < r.length
  · rw [List.getElem?_append_left (by rw [List.length_drop]; omega), if_pos hc, List.getElem?_drop]
    simp [hc]
  · rw [List.getElem?_append_right (by rw [List.length_drop]; omega), if_neg hc, List.length_drop, List.getElem?_take, if_pos (by omega), show k - (r.length - h) = h + k - r.length by omega]
    simp [show h + k - r.length < r.length by omega]
theorem rot_getD {r : List Int} {h k : Nat} (hh : h ≤ r.length) (hk : k < r.length) : (rot r h).getD k 0 = if h + k < r.length then r.getD (h + k) 0 else r.getD (h + k - r.length) 0 := by
  rw [List.getD_eq_getElem?_getD, rot_get hh hk]
  rfl
theorem rot_rot {r : List Int} {k h : Nat} (hk : k < r.length) (hh : h < r.length) : rot (rot r k) h = rot r (if k + h < r.length then k + h else k + h - r.length) := by
  have l1 := rot_len (r := r) (h := k) (by omega)
  apply List.ext_getElem?
  intro i
  by_cases hi : i < r.length
  · rw [rot_get (by omega) (by omega), rot_get (by split <;> omega) hi, l1]
    congr 1
    by_cases c1 : h + i < r.length
    · rw [if_pos c1, rot_getD (by omega) c1]
      by_cases c2 : k + h < r.length
      · simp only [if_pos c2]
        split <;> split <;> first | omega | (congr 1; omega)
      · simp only [if_neg c2]
        split <;> split <;> first | omega | (congr 1; omega)
    · rw [if_neg c1, rot_getD (by omega) (by omega)]
      by_cases c2 : k + h < r.length
      · simp only [if_pos c2]
        split <;> split <;> first | omega | (congr 1; omega)
      · simp only [if_neg c2]
        split <;> split <;> first | omega | (congr 1; omega)
  · rw [List.getElem?_eq_none (by rw [rot_len (by omega)]; omega), List.getElem?_eq_none (by rw [rot_len (by split <;> omega)]; omega)]
theorem turns_rot {r : List Int} {k : Nat} (hk : k < r.length) {x : List Int} : (∃ h, h < (rot r k).length ∧ x = rot (rot r k) h) ↔ ∃ h, h < r.length ∧ x = rot r h := by
  have l1 := rot_len (r := r) (h := k) (by omega)
  rw [l1]
  constructor
  · rintro ⟨h, hh, rfl⟩
    exact ⟨_, by split <;> omega, rot_rot hk hh⟩
  · rintro ⟨h, hh, rfl⟩
    by_cases c : k ≤ h
    · refine ⟨h - k, by omega, ?_⟩
      rw [rot_rot hk (by omega), if_pos (by omega)]
      congr 1
      omega
    · refine ⟨h + r.length - k, by omega, ?_⟩
      rw [rot_rot hk (by omega), if_neg (by omega)]
      congr 1
      omega
theorem least_turn_eq (r : List Int) (h1 : 1 ≤ r.length) (out : List (List Int)) (e : n_turns [iT r] = .ok (tT out)) (x : List Int) (hx : out[0]? = some x) : n_least_turn [iT r] = .ok (iT x) := by
  obtain ⟨h0, rfl⟩ := List.getElem?_eq_some_iff.mp hx
  have e0 := at_nat (xs := out.map fun r => iT r) (k := 0) (by simpa using h0)
  have e0 : L2.atI (out.map fun r => iT r) 0 = some (iT out[0]) := by rw [show (0 : Int) = ((0 : Nat) : Int) from rfl, e0]; simp
  refine run_of ?_
  simp [b_least_turn, e, e0]
theorem rep_eq (xs : List Int) (n : Nat) (h : xs.length * n ≤ 900) (h2 : n ≤ 900) : repD (.lst (iL xs)) (.int (n : Nat)) = some (.lst (iL (List.replicate n xs).flatten)) := by
  rw [rep_lst, if_pos ⟨by omega, by omega, by simp; omega⟩]
  simp
theorem flat_len (xs : List Int) (n : Nat) : ((List.replicate n xs).flatten).length = n * xs.length := by
  rw [List.length_flatten, List.map_replicate, List.sum_replicate_nat]
theorem flat_mem {xs : List Int} {n : Nat} {x : Int} (h : x ∈ (List.replicate n xs).flatten) : x ∈ xs := by
  obtain ⟨l, m1, m2⟩ := List.mem_flatten.mp h
  rw [(List.mem_replicate.mp m1).2] at m2
  exact m2
theorem range1_map (n : Nat) (h : 1 ≤ n) : rangeD 1 (n : Nat) = (List.range (n - 1)).map fun k => .int ((1 + k : Nat) : Int) := by
  rw [rangeD_map, show ((n : Int) - 1).toNat = n - 1 by omega]
  simp
theorem told_dec (r : List Int) (d : Nat) (h0 : 1 ≤ d) (hn : d < r.length) (hd : d ∣ r.length) : ((List.replicate (r.length / d) (r.take d)).flatten = r) ↔ Again r d :=
  (told_rep h0 hd (by omega)).trans ((rep_per hd (by omega)).trans ⟨fun h => ⟨h0, hd, h⟩, fun h => h.2.2⟩)
theorem root_ex (r : List Int) (h1 : 1 ≤ r.length) (hl : r.length ≤ 400) : ∃ d, n_root [iT r] = .ok (iT (r.take d)) ∧ IsRoot r d := by
  refine run_ex (P := fun x => ∃ d, x = .ok (iT (r.take d)) ∧ IsRoot r d) ?_
  simp [b_root, rng2_int (ints62_of (i := 1) (by omega)) (ints62_of (i := (r.length : Int)) (by omega)), range1_map _ h1]
  refine wf_idx (fun i ρ => (∃ s, ρ = [Sl.fz (iT r), .fz (.int r.length), s]) ∧ ∀ e, Again r e → i < e) ⟨⟨_, rfl⟩, fun e he => he.1⟩ (fun j x hx ρ ⟨⟨s, hρ⟩, hj⟩ => ?_) (fun ρ ⟨⟨s, hρ⟩, hj⟩ => ?_)
  · subst hρ
    obtain ⟨hj2, rfl⟩ := List.getElem?_eq_some_iff.mp hx
    have hj2 : j < r.length - 1 := by simpa using hj2
    have p1 : (0 : Int) < 1 + (j : Int) := by omega
    have p2 : 1 + (j : Int) < 1073741824 := by omega
    have p3 : cutL (iL r) none (some (1 + (j : Int))) = iL (r.take (1 + j)) := by
      rw [cut_hi (by omega), show (1 + (j : Int)).toNat = 1 + j by omega]
      simp
    by_cases hd : (1 + j) ∣ r.length
    · have hm : (r.length : Int) % (1 + (j : Int)) = 0 := by
        obtain ⟨q, hq⟩ := hd
        rw [hq]
        simp
      have hq : (r.length : Int) / (1 + (j : Int)) = ((r.length / (1 + j) : Nat) : Int) := by simp
      have k1 := told_dec r (1 + j) (by omega) (by omega) hd
      have tl : (r.take (1 + j)).length = 1 + j := by rw [List.length_take]; omega
      have hql : r.length / (1 + j) ≤ r.length := Nat.div_le_self _ _
      have hqm : (r.length / (1 + j)) * (1 + j) = r.length := Nat.div_mul_cancel hd
      have k2 : bopD .mul (.tup (iL (r.take (1 + j)))) (.int ((r.length / (1 + j) : Nat) : Int)) = some (iT (List.replicate (r.length / (1 + j)) (r.take (1 + j))).flatten) := by
        have hq1 : 1 ≤ r.length / (1 + j) := Nat.div_pos (by omega) (by omega)
        generalize r.length / (1 + j) = q at hqm hql hq1
        generalize r.take (1 + j) = w at tl
        rw [mul_tup, if_pos (by simp only [Int.toNat_natCast, List.length_map]; omega)]
        simp
      rw [← hq] at k2
      generalize (List.replicate (r.length / (1 + j)) (r.take (1 + j))).flatten = told at k1 k2
      by_cases ha : Again r (1 + j)
      · have k3 := k1.mpr ha
        simp [p1, p2, p3, hm, -mul_tup, -List.map_take, k2, k3]
        exact ⟨1 + j, rfl, ha, fun e he => by have := hj e he; omega⟩
      · have k3 : ¬ told = r := fun h => ha (k1.mp h)
        simp [p1, p2, p3, hm, -mul_tup, -List.map_take, k2, k3]
        intro e he
        have := hj e he
        by_cases q : e = j + 1
        · subst q
          exact absurd (by rw [Nat.add_comm]; exact he) ha
        · omega
    · have hm : ¬ (r.length : Int) % (1 + (j : Int)) = 0 := by
        intro h
        apply hd
        have := Int.dvd_of_emod_eq_zero h
        rw [show (1 + (j : Int)) = ((1 + j : Nat) : Int) by omega] at this
        exact Int.natCast_dvd_natCast.mp this
      simp [p1, hm]
      intro e he
      have := hj e he
      by_cases q : e = j + 1
      · subst q
        exact absurd (by rw [Nat.add_comm]; exact he.2.1) hd
      · omega
  · subst hρ
    rw [List.length_range] at hj
    simp [-List.map_take]
    exact ⟨r.length, by rw [List.take_length], again_len h1, fun e he => by have := hj e he; omega⟩
theorem mod_dvd {n d : Nat} : ((n : Int) % (d : Int) = 0) ↔ d ∣ n := by
  constructor
  · intro h
    exact Int.natCast_dvd_natCast.mp (Int.dvd_of_emod_eq_zero h)
  · intro h
    exact Int.emod_eq_zero_of_dvd (Int.natCast_dvd_natCast.mpr h)
theorem root_size_ex (r : List Int) (h1 : 1 ≤ r.length) (hl : r.length ≤ 400) : ∃ d : Nat, n__law_root_size [iT r] = .ok (.int (d : Nat)) ∧ IsRoot r d := by
  refine run_ex (P := fun x => ∃ d : Nat, x = .ok (.int (d : Nat)) ∧ IsRoot r d) ?_
  simp [b__law_root_size, rng2_int (ints62_of (i := 1) (by omega)) (ints62_of (i := (r.length : Int)) (by omega)), range1_map _ h1]
  refine wf_idx (fun i ρ => (∃ s, ρ = [Sl.fz (iT r), .fz (.int r.length), s, .un]) ∧ ∀ e, Again r e → i < e) ⟨⟨_, rfl⟩, fun e he => he.1⟩ (fun j x hx ρ ⟨⟨s, hρ⟩, hj⟩ => ?_) (fun ρ ⟨⟨s, hρ⟩, hj⟩ => ?_)
  · subst hρ
    obtain ⟨hj2, rfl⟩ := List.getElem?_eq_some_iff.mp hx
    have hj2 : j < r.length - 1 := by simpa using hj2
    have p1 : (0 : Int) < 1 + (j : Int) := by omega
    have hmd : ((r.length : Int) % (1 + (j : Int)) = 0) ↔ (1 + j) ∣ r.length := by
      rw [show (1 + (j : Int)) = ((1 + j : Nat) : Int) by omega]
      exact mod_dvd
    by_cases hd : (1 + j) ∣ r.length
    · have hm := hmd.mpr hd
      have lc := lc_filter (Φ := tbl ([] : List (List D → DR))) (v := 3) (src := .rng2 (.v 2) (.v 1)) (cs := .cons (.cmp .ne (.ixv 0 (.v 3)) (.ixv 0 (.bin .sub (.v 3) (.v 2)))) .nil) (elt := .v 3) (ρ := [Sl.fz (iT r), .fz (.int r.length), .fz (.int (1 + (j : Int))), .un]) (ρ1 := [Sl.fz (iT r), .fz (.int r.length), .fz (.int (1 + (j : Int))), .un])
        (List.range (r.length - (1 + j))) (fun k => .int ((1 + j + k : Nat) : Int)) (fun k => decide (r.getD (1 + j + k) 0 ≠ r.getD k 0)) (fun k => .int ((1 + j + k : Nat) : Int))
        (by
          simp
          rw [rng2_int (ints62_of (by omega)) (ints62_of (by omega)), rangeD_map, show ((r.length : Int) - (1 + (j : Int))).toNat = r.length - (1 + j) by omega]) (by simp) rfl (by rw [List.length_range]; exact sz_of (by omega)) (fun k hk => by
            have hk := List.mem_range.mp hk
            have e1 := at_getD (ns := r) (k := 1 + j + k) (by omega)
            have e2 := at_getD (ns := r) (k := k) (by omega)
            rw [show ((1 + j + k : Nat) : Int) = 1 + (j : Int) + k by omega] at e1
            have e3 : 1 + (j : Int) + k - (1 + j) = k := by omega
            simp [e1, e2, e3]) (fun k hk _ => by simp)
      obtain ⟨F, hF⟩ : ∃ F, F = (List.range (r.length - (1 + j))).filter fun k => decide (r.getD (1 + j + k) 0 ≠ r.getD k 0) := ⟨_, rfl⟩
      have k1 : F.length = 0 ↔ Again r (1 + j) := by
        rw [List.length_eq_zero_iff, hF, List.filter_eq_nil_iff]
        have := rep_per hd h1
        rw [rep_shift] at this
        constructor
        · intro h
          refine ⟨by omega, hd, this.mp fun k hk => ?_⟩
          have := h k (List.mem_range.mpr (by omega))
          rw [show k + (1 + j) = 1 + j + k by omega]
          simpa using this
        · intro h k hk
          have hk := List.mem_range.mp hk
          have := this.mpr h.2.2 k (by omega)
          rw [show k + (1 + j) = 1 + j + k by omega] at this
          simp only [this]
          simp
      rw [← hF] at lc
      by_cases ha : Again r (1 + j)
      · have k2 : F = [] := List.length_eq_zero_iff.mp (k1.mpr ha)
        simp [p1, hm, lc, k2]
        exact ⟨1 + j, by omega, ha, fun e he => by have := hj e he; omega⟩
      · have k2 : ¬ F = [] := fun h => ha (k1.mp (by rw [h]; rfl))
        simp [p1, hm, lc, k2]
        intro e he
        have := hj e he
        by_cases q : e = j + 1
        · subst q
          exact absurd (by rw [Nat.add_comm]; exact he) ha
        · omega
    · have hm : ¬ _ := fun h => hd (hmd.mp h)
      simp [p1, hm]
      intro e he
      have := hj e he
      by_cases q : e = j + 1
      · subst q
        exact absurd (by rw [Nat.add_comm]; exact he.2.1) hd
      · omega
  · subst hρ
    rw [List.length_range] at hj
    simp
    exact ⟨r.length, rfl, again_len h1, fun e he => by have := hj e he; omega⟩
theorem wnd_rot {r : List Int} {h : Nat} (hh : h < r.length) (k : Nat) : wnd (rot r h) k = wnd r (h + k) := by
  have hk := Nat.mod_lt k (show 0 < r.length by omega)
  have e : (h + k) % r.length = (h + k % r.length) % r.length := by rw [Nat.add_mod_mod]
  unfold wnd
  rw [rot_len (by omega), rot_getD (by omega) hk, e]
  split
  · rename_i q
    rw [Nat.mod_eq_of_lt q]
  · rename_i q
    rw [Nat.mod_eq_sub_mod (a := h + k % r.length) (by omega), Nat.mod_eq_of_lt (a := h + k % r.length - r.length) (by omega)]
theorem least_ex (r : List Int) (h1 : 1 ≤ r.length) (hl : r.length ≤ 900) : ∃ out x, n_least_turn [iT r] = .ok (iT x) ∧ IsTurns r out ∧ out[0]? = some x := by
  obtain ⟨out, e, h⟩ := turns_ex r h1 hl
  have hne : 0 < out.length := List.length_pos_of_mem ((h.2 (rot r 0)).mpr ⟨0, by omega, rfl⟩)
  exact ⟨out, out[0], least_turn_eq r h1 out e out[0] (List.getElem?_eq_getElem hne), h, List.getElem?_eq_getElem hne⟩
theorem alike_turn {r s : List Int} {d : Nat} (h1 : 1 ≤ r.length) (h2 : 1 ≤ s.length) (hr : IsRoot r d) (hs : IsRoot s d) (h : Alike r s) : ∃ c, c < (s.take d).length ∧ r.take d = rot (s.take d) c := by
  obtain ⟨c, hc⟩ := h
  have h0 := hr.1.1
  have rl : (r.take d).length = d := by have := Nat.le_of_dvd h1 hr.1.2.1; rw [List.length_take]; omega
  have sl : (s.take d).length = d := by have := Nat.le_of_dvd h2 hs.1.2.1; rw [List.length_take]; omega
  have hm := Nat.mod_lt c (show 0 < d by omega)
  refine ⟨c % d, by omega, ext_getD (by rw [rot_len (by omega), rl, sl]) fun j hj => ?_⟩
  rw [← wnd_lt hj, ← wnd_lt (r := rot _ _) (by rw [rot_len (by omega)]; omega), wnd_take h1 hr.1, hc, ← wnd_take h2 hs.1, wnd_rot (by omega)]
  unfold wnd
  rw [sl, Nat.mod_add_mod]
theorem turn_alike {r s : List Int} {a b : Nat} (ha : a < r.length) (hb : b < s.length) (h : rot r a = rot s b) : Alike r s := by
  have h1 : ∀ k, wnd r (a + k) = wnd s (b + k) := fun k => by rw [← wnd_rot ha, ← wnd_rot hb, h]
  refine ⟨b + a * (r.length - 1), fun k => ?_⟩
  rw [← (wnd_per r).mul a k, Nat.add_assoc, ← h1]
  congr 1
  obtain ⟨m, hm⟩ : ∃ m, r.length = m + 1 := ⟨r.length - 1, by omega⟩
  rw [hm, Nat.add_sub_cancel, Nat.mul_comm (m + 1) a, Nat.mul_succ]
  omega
theorem alike_take {r s : List Int} {d e : Nat} (h1 : 1 ≤ r.length) (h2 : 1 ≤ s.length) (hr : IsRoot r d) (hs : IsRoot s e) : Alike (r.take d) (s.take e) ↔ Alike r s := by
  unfold Alike
  simp only [wnd_take h1 hr.1, wnd_take h2 hs.1]
theorem same_ex (r s : List Int) (h1 : 1 ≤ r.length) (h2 : 1 ≤ s.length) (hr : r.length ≤ 400) (hs : s.length ≤ 400) : ∃ b : Bool, n_same_winding [iT r, iT s] = .ok (.bl b) ∧ (b = true ↔ Alike r s) := by
  obtain ⟨d, e1, g1⟩ := root_ex r h1 hr
  obtain ⟨e, e2, g2⟩ := root_ex s h2 hs
  have rl : (r.take d).length = d := by have := Nat.le_of_dvd h1 g1.1.2.1; rw [List.length_take]; omega
  have sl : (s.take e).length = e := by have := Nat.le_of_dvd h2 g2.1.2.1; rw [List.length_take]; omega
  have d0 := g1.1.1
  have e0 := g2.1.1
  have d9 := Nat.le_of_dvd h1 g1.1.2.1
  have e9 := Nat.le_of_dvd h2 g2.1.2.1
  obtain ⟨o1, x1, e3, t1, f1⟩ := least_ex (r.take d) (by omega) (by omega)
  obtain ⟨o2, x2, e4, t2, f2⟩ := least_ex (s.take e) (by omega) (by omega)
  have key : x1 = x2 ↔ Alike r s := by
    constructor
    · intro h
      obtain ⟨a, a1, a2⟩ := (t1.2 x1).mp (List.mem_of_getElem? f1)
      obtain ⟨b, b1, b2⟩ := (t2.2 x2).mp (List.mem_of_getElem? f2)
      exact (alike_take h1 h2 g1 g2).mp (turn_alike a1 b1 (by rw [← a2, ← b2, h]))
    · intro h
      have q := alike_roots h1 h2 g1 g2 h
      subst q
      obtain ⟨c, c1, c2⟩ := alike_turn h1 h2 g1 g2 h
      have : o1 = o2 := rising_eq t1.1 t2.1 fun x => by rw [t1.2, t2.2, c2, turns_rot c1]
      subst this
      rw [f1] at f2
      exact Option.some.inj f2
  refine ⟨decide (x1 = x2), run_of ?_, by rw [decide_eq_true_iff]; exact key⟩
  generalize r.take d = w1 at e1 e3
  generalize s.take e = w2 at e2 e4
  simp [b_same_winding, e1, e2, e3, e4]
theorem wnd_flat {r : List Int} {q : Nat} (h1 : 1 ≤ r.length) (hq : 1 ≤ q) (k : Nat) : wnd (List.replicate q r).flatten k = wnd r k := by
  unfold wnd
  have hl := flat_len' r q
  have hp : 0 < q * r.length := Nat.mul_pos hq h1
  rw [flat_get r q _ (by rw [hl]; exact Nat.mod_lt _ hp), hl, Nat.mod_mod_of_dvd _ (Nat.dvd_mul_left _ _)]
theorem alike_of {r s base : List Int} {h : Nat} (hb : 1 ≤ base.length) (hr : ∀ k, wnd r k = wnd base k) (hs : ∀ k, wnd s k = wnd base (h + k)) : Alike r s := by
  refine ⟨h * (base.length - 1), fun k => ?_⟩
  rw [hr]
  exact wnd_back hb (wnd_per base) hs k

def Ring (ns : List Int) : Prop := 1 ≤ ns.length ∧ ns.length ≤ 8 ∧ ∀ x ∈ ns, 1 ≤ x ∧ x ≤ 999
theorem ring_ex (a b c : Int) (rest : List Int) (ha : 0 ≤ a) (ha2 : a < 8) (hb : 0 ≤ b) (hc : 0 ≤ c) (hl : rest.length = 8) : ∃ ns, n__law_ring [iB (a :: b :: c :: rest)] = .ok (iT ns) ∧ Ring ns := by
  refine run_ex (P := fun r => ∃ ns, r = .ok (iT ns) ∧ Ring ns) ?_
  have em : (a % 8) = a := by omega
  simp [b__law_ring]
  refine we_map (rest.take (1 + a.toNat)) D.int (fun x => .int (1 + x % 999)) ?_ (by simp) rfl ?_ (fun x hx => ?_) ?_
  · simp [em]
    rw [cut_mid (by omega) (by omega)]
    simp
    congr 1
    omega
  · rw [List.length_take]
    exact sz_of (by omega)
  · simp
  · have hm : ∀ x ∈ (rest.take (1 + a.toNat)).map (fun x => 1 + x % 999), 1 ≤ x ∧ x ≤ 999 := fun x hx => by
      obtain ⟨y, _, rfl⟩ := List.mem_map.mp hx
      omega
    have hlen : ((rest.take (1 + a.toNat)).map (fun x => 1 + x % 999)).length = 1 + a.toNat := by
      rw [List.length_map, List.length_take]
      omega
    rw [iL_map]
    generalize (rest.take (1 + a.toNat)).map (fun x => 1 + x % 999) = names at hm hlen
    simp [wi_bl]
    split
    · rename_i hb1
      have hp : (0 : Int) < (if (names.length : Int) < 2 then (names.length : Int) else 2) := by split <;> omega
      have hp2 : (if (names.length : Int) < 2 then (names.length : Int) else 2) ≤ names.length := by split <;> omega
      refine we_mapG [Sl.fz (iB (a :: b :: c :: rest)), Sl.fz (iB names), Sl.un, Sl.un, Sl.un] names D.int (fun x => .int (itm names (x % (if (names.length : Int) < 2 then (names.length : Int) else 2)))) (by simp) (by simp) rfl (sz_of (by omega)) (fun x hx => ?_) ?_
      · have e1 := at_itm (xs := names) (Int.emod_nonneg x (b := if (names.length : Int) < 2 then (names.length : Int) else 2) (by omega)) (Int.lt_of_lt_of_le (Int.emod_lt_of_pos x hp) hp2)
        simp [hp, e1]
      · subst hb1
        simp
        refine ⟨names.map fun x => itm names (x % (if (names.length : Int) < 2 then (names.length : Int) else 2)), by simp, by simp; omega, by simp; omega, fun y hy => ?_⟩
        obtain ⟨x, hx, rfl⟩ := List.mem_map.mp hy
        exact hm _ (itm_mem (Int.emod_nonneg x (by omega)) (Int.lt_of_lt_of_le (Int.emod_lt_of_pos x hp) hp2))
    · split
      · obtain ⟨sz, hsz⟩ := Int.eq_ofNat_of_zero_le (show 0 ≤ 1 + a % 4 by omega)
        have hs1 : 1 ≤ sz := by omega
        have hs4 : sz ≤ 4 := by omega
        have hsn : sz ≤ names.length := by omega
        have hd : ((8 : Int) / (sz : Nat) - 1) = ((8 / sz - 1 : Nat) : Int) := by
          have : sz = 1 ∨ sz = 2 ∨ sz = 3 ∨ sz = 4 := by omega
          rcases this with rfl | rfl | rfl | rfl <;> rfl
        have hd1 : 1 ≤ 8 / sz - 1 := by
          have : sz = 1 ∨ sz = 2 ∨ sz = 3 ∨ sz = 4 := by omega
          rcases this with rfl | rfl | rfl | rfl <;> decide
        obtain ⟨q, q1, q2⟩ := rem_nat (h := c) hd1
        have hq8 : sz * (2 + q) ≤ 8 := by
          have : sz = 1 ∨ sz = 2 ∨ sz = 3 ∨ sz = 4 := by omega
          rcases this with rfl | rfl | rfl | rfl <;> omega
        rw [← hd] at q2
        have k1 : cutL (iL names) none (some (sz : Nat)) = iL (names.take sz) := by rw [cut_hi (by omega)]; simp
        have k2 := rep_eq (names.take sz) (2 + q) (by rw [List.length_take, Nat.min_eq_left hsn]; omega) (by
          have : sz = 1 ∨ sz = 2 ∨ sz = 3 ∨ sz = 4 := by omega
          rcases this with rfl | rfl | rfl | rfl <;> omega)
        have hnm : ∀ x ∈ (List.replicate (2 + q) (names.take sz)).flatten, 1 ≤ x ∧ x ≤ 999 := fun x hx => hm x (List.mem_of_mem_take (flat_mem hx))
        have hfl := flat_len (names.take sz) (2 + q)
        rw [List.length_take, Nat.min_eq_left hsn, Nat.mul_comm] at hfl
        have hpos : (0 : Int) < 8 / (sz : Nat) - 1 := by rw [hd]; omega
        have hsp : (0 : Int) < (sz : Nat) := by omega
        generalize (List.replicate (2 + q) (names.take sz)).flatten = out at k2 hnm hfl
        have k2 : repD (.lst (iL (names.take sz))) (.int (2 + (q : Int))) = some (.lst (iL out)) := by
          rw [show (2 : Int) + (q : Int) = ((2 + q : Nat) : Int) by omega]
          exact k2
        generalize names.take sz = nt at k1 k2
        have hs0 : 0 < sz := hs1
        have hsb : ((sz : Nat) : Int) < 1073741824 := by omega
        have hgt : (1 : Int) < 8 / (sz : Nat) := by omega
        simp [hsz, k1, hpos, hsp, q2, k2, hs0, hsb, hgt]
        refine ⟨out, rfl, ?_, by omega, hnm⟩
        have : 1 * 1 ≤ sz * (2 + q) := Nat.mul_le_mul hs1 (by omega)
        omega
      · exact ⟨names, rfl, by omega, by omega, hm⟩
theorem ring_dig {ds : List Int} (h : Dig ds (8 :: 4 :: 8 :: List.replicate 8 999)) : ∃ ns, n__law_ring [iB ds] = .ok (iT ns) ∧ Ring ns := by
  cases h with
  | cons a1 a2 h =>
    cases h with
    | cons b1 b2 h =>
      cases h with
      | cons c1 c2 h => exact ring_ex _ _ _ _ a1 a2 b1 c1 (by rw [h.length, List.length_replicate])

end U
set_option Elab.async false
set_option linter.all false
set_option maxRecDepth 1000
set_option maxHeartbeats 2000000
/-! VA: fractions (law k07) -/
namespace U
open PySem L2 DL
theorem no_left {x P n : Nat} (h : x * 2 ^ n ≤ P) (hp : P < 2 ^ n) : x = 0 := by
  rcases Nat.eq_zero_or_pos x with h0 | h0
  · exact h0
  · have := Nat.mul_le_mul_right (2 ^ n) h0
    omega
theorem mod_half {h l : Nat} (h0 : 0 < l) (h1 : l ≤ h) : 2 * (h % l) ≤ h := by
  have e := Nat.div_add_mod h l
  have r := Nat.mod_lt h h0
  have q : 1 ≤ h / l := (Nat.one_le_div_iff h0).mpr h1
  have := Nat.mul_le_mul_left l q
  omega
theorem divisor2_eq (a b : Int) (hb : a.natAbs * b.natAbs < 2 ^ 3999) : n__law_divisor_v2 [.int a, .int b] = .ok (.int (Nat.gcd a.natAbs b.natAbs : Nat)) := by
  obtain ⟨g, hg⟩ : ∃ g, g = Nat.gcd a.natAbs b.natAbs := ⟨_, rfl⟩
  obtain ⟨P, hP⟩ : ∃ P, P = a.natAbs * b.natAbs := ⟨_, rfl⟩
  rw [← hg]
  rw [← hP] at hb
  have ea : b1D .abs (.int a) = some (.int (a.natAbs : Nat)) := by
    show some (D.int (if a < 0 then -a else a)) = _
    have : (if a < 0 then -a else a) = (a.natAbs : Int) := by split <;> omega
    rw [this]
  have eb : b1D .abs (.int b) = some (.int (b.natAbs : Nat)) := by
    show some (D.int (if b < 0 then -b else b)) = _
    have : (if b < 0 then -b else b) = (b.natAbs : Int) := by split <;> omega
    rw [this]
  refine run_of ?_
  have hr : ∀ ρ, rng1D (.int 4000) ρ = .ok ((List.range 4000).map fun k => D.int (k : Nat)) ρ := fun ρ => rng0_len (n := 4000) (by omega) ρ
  simp [-abs_int, b__law_divisor_v2, ea, eb, hr]
  refine wf_idx (fun i ρ => ∃ (h l : Nat) (t u : Sl), Nat.gcd h l = g ∧ (i = 0 ∧ h * l = P ∨ 1 ≤ i ∧ l ≤ h ∧ h * l * 2 ^ (i - 1) ≤ P) ∧ ρ = [Sl.fz (.int a), .fz (.int b), .fz (.int (h : Nat)), .fz (.int (l : Nat)), t, u]) ⟨a.natAbs, b.natAbs, .un, .un, hg.symm, .inl ⟨rfl, hP.symm⟩, by simp⟩ (fun i k hk ρ ⟨h, l, t, u, q1, q2, hρ⟩ => ?_) (fun ρ ⟨h, l, t, u, q1, q2, hρ⟩ => ?_)
  · subst hρ
    by_cases hl : l = 0
    · subst hl
      rw [Nat.gcd_zero_right] at q1
      simp [q1]
    · have hm : bopD .mod (.int (h : Nat)) (.int (l : Nat)) = some (.int ((h % l : Nat) : Int)) := by rw [mod_int, if_pos (by omega)]; rfl
      simp [-mod_int, hm, hl]
      refine ⟨l, h % l, ?_, ?_, rfl, rfl⟩
      · rw [← q1, Nat.gcd_comm h l, Nat.gcd_rec l h, Nat.gcd_comm]
      · have r := Nat.mod_lt h (show 0 < l by omega)
        refine ⟨Nat.le_of_lt r, ?_⟩
        rcases q2 with ⟨rfl, q2⟩ | ⟨i1, q2, q3⟩
        · rw [Nat.pow_zero, Nat.mul_one, ← q2, Nat.mul_comm h l]
          exact Nat.mul_le_mul_left l (Nat.mod_le h l)
        · obtain ⟨j, rfl⟩ : ∃ j, i = j + 1 := ⟨i - 1, by omega⟩
          rw [Nat.add_sub_cancel] at q3
          have hh := Nat.mul_le_mul_left l (mod_half (show 0 < l by omega) q2)
          have hh2 := Nat.mul_le_mul_right (2 ^ j) hh
          calc l * (h % l) * 2 ^ (j + 1) = l * (2 * (h % l)) * 2 ^ j := by rw [Nat.pow_succ, Nat.mul_left_comm l 2, Nat.mul_comm (2 ^ j) 2, ← Nat.mul_assoc, Nat.mul_comm _ 2]
            _ ≤ l * h * 2 ^ j := hh2
            _ = h * l * 2 ^ j := by rw [Nat.mul_comm l h]
            _ ≤ P := q3
  · subst hρ
    rcases q2 with ⟨q2, _⟩ | ⟨_, q2, q3⟩
    · simp at q2
    · rw [List.length_range] at q3
      have := no_left q3 hb
      have hl : l = 0 := by
        rcases Nat.mul_eq_zero.mp this with e | e
        · omega
        · exact e
      subst hl
      rw [Nat.gcd_zero_right] at q1
      simp [q1]
end U
set_option Elab.async false
set_option linter.all false
set_option maxRecDepth 1000
set_option maxHeartbeats 2000000
set_option exponentiation.threshold 100
/-! VB: fractions (law k07), ratio -/
namespace U
open PySem L2 DL
theorem wide_of {i : Int} {n : Nat} (h : i.natAbs < 2 ^ n) (hn : n ≤ 6000) : -wideB < i ∧ i < wideB := by
  have h2 : i.natAbs < 2 ^ 6000 := Nat.lt_of_lt_of_le h (Nat.pow_le_pow_right (by decide) hn)
  have e : ((2 ^ 6000 : Nat) : Int) = wideB := by rw [Int.natCast_pow]; rfl
  rw [← e]
  generalize (2 ^ 6000 : Nat) = w at h2
  omega
theorem mul_w {i j : Int} {n m : Nat} (hi : i.natAbs < 2 ^ n) (hj : j.natAbs < 2 ^ m) (hn : n ≤ 6000) (hm : m ≤ 6000) : bopD .mul (.int i) (.int j) = some (.int (i * j)) := by
  rw [mul_int]
  split
  · rfl
  · unfold mulW
    obtain ⟨a, b⟩ := wide_of hi hn
    obtain ⟨c, d⟩ := wide_of hj hm
    rw [if_pos ⟨a, b, c, d⟩]
theorem natAbs_mul_lt {i j : Int} {n m : Nat} (hi : i.natAbs < 2 ^ n) (hj : j.natAbs < 2 ^ m) : (i * j).natAbs < 2 ^ (n + m) := by
  rw [Int.natAbs_mul, Nat.pow_add]
  exact Nat.mul_lt_mul'' hi hj
theorem natAbs_add_lt {i j : Int} {n : Nat} (hi : i.natAbs < 2 ^ n) (hj : j.natAbs < 2 ^ n) : (i + j).natAbs < 2 ^ (n + 1) ∧ (i - j).natAbs < 2 ^ (n + 1) := by
  rw [Nat.pow_succ]
  generalize 2 ^ n = w at *
  omega
theorem lt_up {i : Int} {n m : Nat} (h : i.natAbs < 2 ^ n) (hm : n ≤ m) : i.natAbs < 2 ^ m := Nat.lt_of_lt_of_le h (Nat.pow_le_pow_right (by decide) hm)
theorem fdiv_w {c q : Int} {n : Nat} (h0 : c ≠ 0) (hc : c.natAbs < 2 ^ n) (hn : n ≤ 6000) : bopD .fdiv (.int (c * q)) (.int c) = some (.int q) := by
  obtain ⟨a, b⟩ := wide_of hc hn
  have e1 : c * q / c = q := Int.mul_ediv_cancel_left q h0
  have e2 : (c * q).fdiv c = q := Int.mul_fdiv_cancel_left q h0
  rw [fdiv_int]
  split
  · rw [e1]
  · unfold fdivW
    split
    · rw [e1]
    · rename_i h
      have h3 : c < 0 := by
        rcases Int.lt_trichotomy c 0 with h1 | h1 | h1
        · exact h1
        · exact absurd h1 h0
        · exact absurd ⟨h1, b⟩ h
      rw [if_pos ⟨h3, a⟩, e2]
/-- the fraction t / b in its lowest terms -/
structure Low (t b t' b' : Int) : Prop where
  pos : 1 ≤ b'
  cross : t' * b = b' * t
  gcd : Nat.gcd t'.natAbs b'.natAbs = 1
  st : t'.natAbs ≤ t.natAbs
  sb : b'.natAbs ≤ b.natAbs
theorem ratio_ex (t b : Int) {n : Nat} (hb : b ≠ 0) (ht : t.natAbs < 2 ^ n) (hbn : b.natAbs < 2 ^ n) (hn : n ≤ 6000) : ∃ t' b', n_ratio [.int t, .int b] = .ok (.tup [.int t', .int b']) ∧ Low t b t' b' := by
  obtain ⟨g, hg⟩ : ∃ g, g = Nat.gcd t.natAbs b.natAbs := ⟨_, rfl⟩
  have g0 : 0 < g := by rw [hg]; exact Nat.gcd_pos_of_pos_right _ (by omega)
  have d1 : g ∣ t.natAbs := by rw [hg]; exact Nat.gcd_dvd_left _ _
  have d2 : g ∣ b.natAbs := by rw [hg]; exact Nat.gcd_dvd_right _ _
  have gb : g ≤ b.natAbs := Nat.le_of_dvd (by omega) d2
  obtain ⟨c, hc, hs⟩ : ∃ c : Int, (c = if b < 0 then -(g : Int) else (g : Int)) ∧ c.natAbs = g := by
    refine ⟨_, rfl, ?_⟩
    split <;> omega
  have c0 : c ≠ 0 := by omega
  have cn : c.natAbs < 2 ^ n := by omega
  obtain ⟨t', et⟩ : c ∣ t := Int.natAbs_dvd_natAbs.mp (by rw [hs]; exact d1)
  obtain ⟨b', eb⟩ : c ∣ b := Int.natAbs_dvd_natAbs.mp (by rw [hs]; exact d2)
  have nt : t.natAbs = g * t'.natAbs := by rw [et, Int.natAbs_mul, hs]
  have nb : b.natAbs = g * b'.natAbs := by rw [eb, Int.natAbs_mul, hs]
  have b0 : b' ≠ 0 := fun e => hb (by rw [eb, e, Int.mul_zero])
  have bp : 1 ≤ b' := by
    rcases Int.lt_or_gt_of_ne b0 with h | h
    · exfalso
      by_cases hneg : b < 0
      · rw [if_pos hneg] at hc
        have : 0 < c * b' := Int.mul_pos_of_neg_of_neg (by omega) h
        omega
      · rw [if_neg hneg] at hc
        have : c * b' < 0 := Int.mul_neg_of_pos_of_neg (by omega) h
        omega
    · omega
  have gg : Nat.gcd t'.natAbs b'.natAbs = 1 := by
    have e := hg
    rw [nt, nb, Nat.gcd_mul_left] at e
    have : g * 1 = g * Nat.gcd t'.natAbs b'.natAbs := by omega
    exact (Nat.eq_of_mul_eq_mul_left g0 this).symm
  refine ⟨t', b', ?_, ⟨bp, ?_, gg, ?_, ?_⟩⟩
  · refine run_of ?_
    have f1 := fdiv_w (q := t') c0 cn hn
    have f2 := fdiv_w (q := b') c0 cn hn
    rw [← et] at f1
    rw [← eb] at f2
    by_cases hneg : b < 0
    · rw [if_pos hneg] at hc
      rw [hc] at f1 f2
      simp [-fdiv_int, b_ratio, ← hg, hneg, f1, f2]
    · rw [if_neg hneg] at hc
      rw [hc] at f1 f2
      simp [-fdiv_int, b_ratio, ← hg, hneg, f1, f2]
  · rw [et, eb, Int.mul_left_comm, Int.mul_comm t' b', Int.mul_left_comm]
  · rw [nt]; exact Nat.le_mul_of_pos_left _ g0
  · rw [nb]; exact Nat.le_mul_of_pos_left _ g0
end U
set_option Elab.async false
set_option linter.all false
set_option maxRecDepth 1000
set_option maxHeartbeats 2000000
set_option exponentiation.threshold 100
/-! VC: fractions (law k07), the law's questions -/
namespace U
open PySem L2 DL
theorem truth_eq (x : Bool) : n__law_truth [.bl x, .bl x] = .ok (.bl true) := by
  cases x <;> rfl
theorem is_ratio_eq {t b t' b' : Int} {n : Nat} (hl : Low t b t' b') (ht : t.natAbs < 2 ^ n) (hb : b.natAbs < 2 ^ n) (hn : n ≤ 1999) : n__law_is_ratio [.tup [.int t', .int b'], .int t, .int b] = .ok (.bl true) := by
  have h1 : t'.natAbs < 2 ^ n := Nat.lt_of_le_of_lt hl.st ht
  have h2 : b'.natAbs < 2 ^ n := Nat.lt_of_le_of_lt hl.sb hb
  have m1 := mul_w h1 hb (by omega) (by omega)
  have m2 := mul_w h2 ht (by omega) (by omega)
  have hd := divisor2_eq t' b' (by
    have := natAbs_mul_lt h1 h2
    rw [Int.natAbs_mul] at this
    exact Nat.lt_of_lt_of_le this (Nat.pow_le_pow_right (by decide) (by omega)))
  rw [hl.gcd] at hd
  have hp := hl.pos
  have hc := hl.cross
  refine run_of ?_
  rw [← hc] at m2
  simp [b__law_is_ratio, whole_int, m1, m2, hd, show ¬ b' < 1 by omega]
/-- a fraction in its lowest terms -/
def Frac (p : Int × Int) : Prop := 1 ≤ p.2
abbrev fT (p : Int × Int) : D := .tup [.int p.1, .int p.2]
theorem two_right_eq {p q : Int × Int} {n : Nat} (hp : Frac p) (hq : Frac q) (p1 : p.1.natAbs < 2 ^ n) (p2 : p.2.natAbs < 2 ^ n) (q1 : q.1.natAbs < 2 ^ n) (q2 : q.2.natAbs < 2 ^ n) (hn : n ≤ 900) : n__law_two_right [fT p, fT q] = .ok (.bl true) := by
  obtain ⟨a, b⟩ := p
  obtain ⟨c, d⟩ := q
  have hb : 1 ≤ b := hp
  have hd : 1 ≤ d := hq
  simp only at p1 p2 q1 q2
  have m1 := mul_w p1 q2 (by omega) (by omega)
  have m2 := mul_w q1 p2 (by omega) (by omega)
  have m3 := mul_w p2 q2 (by omega) (by omega)
  have m4 := mul_w p1 q1 (by omega) (by omega)
  have w1 := natAbs_mul_lt p1 q2
  have w2 := natAbs_mul_lt q1 p2
  have w3 := natAbs_mul_lt p2 q2
  have w4 := natAbs_mul_lt p1 q1
  have wb : (b * d).natAbs < 2 ^ (n + n + 1) := lt_up w3 (by omega)
  obtain ⟨wa, ws⟩ := natAbs_add_lt w1 w2
  have hbd : b * d ≠ 0 := Int.mul_ne_zero (by omega) (by omega)
  obtain ⟨t1, b1, r1, l1⟩ := ratio_ex (a * d + c * b) (b * d) hbd wa wb (by omega)
  obtain ⟨t2, b2, r2, l2⟩ := ratio_ex (a * d - c * b) (b * d) hbd ws wb (by omega)
  obtain ⟨t3, b3, r3, l3⟩ := ratio_ex (a * c) (b * d) hbd (lt_up w4 (show n + n ≤ n + n + 1 by omega)) wb (by omega)
  have i1 := is_ratio_eq l1 wa wb (by omega)
  have i2 := is_ratio_eq l2 ws wb (by omega)
  have i3 := is_ratio_eq l3 (lt_up w4 (show n + n ≤ n + n + 1 by omega)) wb (by omega)
  have e1 : n_plus [.tup [.int a, .int b], .tup [.int c, .int d]] = .ok (.tup [.int t1, .int b1]) := by
    refine run_of ?_
    simp [b_plus, m1, m2, m3, r1]
  have e2 : n_minus [.tup [.int a, .int b], .tup [.int c, .int d]] = .ok (.tup [.int t2, .int b2]) := by
    refine run_of ?_
    simp [b_minus, m1, m2, m3, r2]
  have e3 : n_times [.tup [.int a, .int b], .tup [.int c, .int d]] = .ok (.tup [.int t3, .int b3]) := by
    refine run_of ?_
    simp [b_times, m4, m3, r3]
  obtain ⟨u, hu⟩ : ∃ u, u = decide (a * d < c * b) := ⟨_, rfl⟩
  have e4 : n_is_less [.tup [.int a, .int b], .tup [.int c, .int d]] = .ok (.bl u) := by
    refine run_of ?_
    simp [b_is_less, m1, m2, hu]
  have e5 := truth_eq u
  have e6 : copD .lt (.int (a * d)) (.int (c * b)) = some u := by rw [hu]; rfl
  refine run_of ?_
  simp [-cop_lt, b__law_two_right, m1, m2, m3, m4, e1, e2, e3, e4, i1, i2, i3, e6, e5]
end U
set_option Elab.async false
set_option linter.all false
set_option maxRecDepth 1000
set_option maxHeartbeats 1000000
/-! DLy: dicts keyed by ints, ints sorted -/
namespace DL
open PySem L2
def kvi (l : List Int) : List (D × D) := l.map fun x => (.int x, .bl true)
def insi (l : List Int) (x : Int) : List Int := if x ∈ l then l else l ++ [x]
theorem any_kvi (x : Int) : ∀ l : List Int, ((kvi l).any fun p => D.eqv p.1 (.int x)) = decide (x ∈ l)
  | [] => by simp [kvi]
  | s :: l => by
    show (D.eqv (.int s) (.int x) || (kvi l).any fun p => D.eqv p.1 (.int x)) = _
    rw [any_kvi x l, eqv_int]
    simp [eq_comm]
theorem dput_kvi (l : List Int) (x : Int) : dPut (kvi l) (.int x) (.bl true) = kvi (insi l x) := by
  unfold dPut insi
  rw [any_kvi]
  by_cases h : x ∈ l
  · rw [if_pos (decide_eq_true h), if_pos h]
    unfold kvi
    rw [List.map_map]
    apply List.map_congr_left
    intro s _
    simp only [Function.comp]
    by_cases e : s = x
    · subst e; simp
    · simp [e]
  · rw [if_neg (by simpa using h), if_neg h]
    simp [kvi]
theorem dget_kvi (x : Int) : ∀ l : List Int, (dGet (kvi l) (.int x)).isSome = decide (x ∈ l)
  | [] => by simp [kvi, dGet]
  | s :: l => by
    show (dGet ((.int s, .bl true) :: kvi l) (.int x)).isSome = _
    rw [dGet_cons, eqv_int]
    by_cases h : s = x
    · subst h; simp
    · have := dget_kvi x l
      simp [h, this]
      exact fun e => absurd e.symm h
@[simp] theorem isKey_int (x : Int) : isKey false (.int x) = true := no_rfl rfl
theorem insi_nodup {l : List Int} {r : Int} (h : l.Nodup) : (insi l r).Nodup := by
  unfold insi
  split
  · exact h
  · rw [List.nodup_append]
    refine ⟨h, by simp, fun a ha b hb e => ?_⟩
    rw [List.mem_singleton] at hb
    subst hb e
    contradiction
theorem insi_mem {l : List Int} {r x : Int} : x ∈ insi l r ↔ x ∈ l ∨ x = r := by
  unfold insi
  split
  · rename_i h
    constructor
    · exact .inl
    · rintro (h2 | rfl)
      · exact h2
      · exact h
  · simp
theorem insi_len {l : List Int} {r : Int} : (insi l r).length ≤ l.length + 1 := by
  unfold insi
  split
  · omega
  · simp
/-- the different names, in the order of their first coming -/
def ddi (rs : List Int) : List Int := rs.foldl insi []
theorem ddi_snoc (rs : List Int) (r : Int) : ddi (rs ++ [r]) = insi (ddi rs) r := by simp [ddi]
theorem foldi_ok : ∀ (rs l : List Int), l.Nodup → (rs.foldl insi l).Nodup ∧ (∀ x, x ∈ rs.foldl insi l ↔ x ∈ l ∨ x ∈ rs) ∧ (rs.foldl insi l).length ≤ l.length + rs.length
  | [], l, h => ⟨h, fun x => by simp, by simp⟩
  | r :: rs, l, h => by
    obtain ⟨h1, h2, h3⟩ := foldi_ok rs (insi l r) (insi_nodup h)
    refine ⟨h1, fun x => ?_, ?_⟩
    · rw [List.foldl_cons, h2, insi_mem, List.mem_cons]
      constructor
      · rintro ((q | q) | q)
        · exact .inl q
        · exact .inr (.inl q)
        · exact .inr (.inr q)
      · rintro (q | q | q)
        · exact .inl (.inl q)
        · exact .inl (.inr q)
        · exact .inr q
    · have := insi_len (l := l) (r := r)
      rw [List.foldl_cons, List.length_cons]
      omega
theorem ddi_nodup (rs : List Int) : (ddi rs).Nodup := (foldi_ok rs [] List.nodup_nil).1
theorem ddi_mem {rs : List Int} {x : Int} : x ∈ ddi rs ↔ x ∈ rs := by
  have := (foldi_ok rs [] List.nodup_nil).2.1 x
  rw [show (x ∈ ([] : List Int) ∨ x ∈ rs) ↔ x ∈ rs by simp] at this
  exact this
theorem ddi_len (rs : List Int) : (ddi rs).length ≤ rs.length := by
  have := (foldi_ok rs [] List.nodup_nil).2.2
  rw [List.length_nil, Nat.zero_add] at this
  exact this
@[simp] theorem memD_kvi {x : Int} {l : List Int} : memD (.int x) (.dct false (kvi l)) = some (decide (x ∈ l)) := by
  have h := dget_kvi x l
  show (if isKey false (.int x) = true then some (dGet (kvi l) (.int x)).isSome else none) = _
  rw [if_pos (isKey_int x), h]
theorem kvi_keys (l : List Int) : (kvi l).map (·.1) = iL l := by
  unfold kvi
  rw [List.map_map]
  rfl
theorem ints_ok (l : List Int) : keysOk (iL l) = true := by
  unfold keysOk
  rw [Bool.and_eq_true, Bool.and_eq_true]
  refine ⟨⟨?_, ?_⟩, ?_⟩
  · rw [List.all_eq_true]
    intro a ha
    obtain ⟨r, _, rfl⟩ := List.mem_map.mp ha
    rfl
  · rw [List.all_eq_true]
    intro a ha
    obtain ⟨r, _, rfl⟩ := List.mem_map.mp ha
    rw [List.all_eq_true]
    intro b hb
    obtain ⟨s, _, rfl⟩ := List.mem_map.mp hb
    rfl
  · rw [Bool.or_eq_true]
    right
    rw [List.all_eq_true]
    intro a ha
    obtain ⟨r, _, rfl⟩ := List.mem_map.mp ha
    rfl
theorem sort_ints {l : List Int} (hl : l.length ≤ 1000000) :
    ∃ out : List Int, sortD (.lst (l.map .int)) = some (.lst (out.map .int)) ∧ out.Perm l ∧ out.Pairwise (· ≤ ·) := by
  let le : Int → Int → Bool := fun a b => PySem.W.dataLe false (fun r : Int => D.py (.int r)) a b
  have hT : PySem.W.TotalLe le := PySem.W.sortLe_total (PyProof.Rows.listOrd PyProof.Rows.itemOrd) false (fun r : Int => PySem.W.keyToks (D.py (.int r)))
  have hm := List.map_mergeSort (r := le) (s := PySem.W.dataLe false D.py) (f := fun r => D.int r) (l := l) (fun a _ b _ => rfl)
  have hp := List.mergeSort_perm l le
  refine ⟨l.mergeSort le, ?_, hp, ?_⟩
  · show (if keysOk (l.map fun r => D.int r) ∧ (l.map fun r => D.int r).length ≤ sizeL then some (D.lst ((l.map fun r => D.int r).mergeSort (PySem.W.dataLe false D.py))) else none) = _
    rw [if_pos ⟨ints_ok l, by rw [List.length_map]; exact Nat.le_trans hl (by unfold sizeL; omega)⟩, ← hm]
  · have hpw := PySem.W.sort_pairwise hT l
    refine hpw.imp fun {a b} h => ?_
    have h1 : (!lx (PySem.W.keyToks (D.py (.int b))) (PySem.W.keyToks (D.py (.int a)))) = true := h
    have e : lx (PySem.W.keyToks (D.py (.int b))) (PySem.W.keyToks (D.py (.int a))) = decide (b < a) := by
      show PyProof.Rows.lexLt PyProof.Rows.itemOrd [.inl b] [.inl a] = _
      simp [PyProof.Rows.lexLt, PyProof.Rows.itemOrd, PyProof.Rows.itemLt]
    rw [e] at h1
    have : ¬ b < a := by simpa using h1
    omega
theorem rising_int : ∀ {a b : List Int}, a.Pairwise (· < ·) → b.Pairwise (· < ·) → (∀ x, x ∈ a ↔ x ∈ b) → a = b
  | [], [], _, _, _ => rfl
  | [], y :: b, _, _, h => absurd ((h y).mpr List.mem_cons_self) (by simp)
  | x :: a, [], _, _, h => absurd ((h x).mp List.mem_cons_self) (by simp)
  | x :: a, y :: b, ha, hb, h => by
    obtain ⟨a1, a2⟩ := List.pairwise_cons.mp ha
    obtain ⟨b1, b2⟩ := List.pairwise_cons.mp hb
    have exy : x = y := by
      rcases List.mem_cons.mp ((h x).mp List.mem_cons_self) with e | hx
      · exact e
      · rcases List.mem_cons.mp ((h y).mpr List.mem_cons_self) with e | hy
        · exact e.symm
        · have := a1 _ hy
          have := b1 _ hx
          omega
    subst exy
    congr 1
    refine rising_int a2 b2 fun z => ⟨fun hz => ?_, fun hz => ?_⟩
    · rcases List.mem_cons.mp ((h z).mp (List.mem_cons_of_mem _ hz)) with e | hz2
      · subst e; have := a1 _ hz; omega
      · exact hz2
    · rcases List.mem_cons.mp ((h z).mpr (List.mem_cons_of_mem _ hz)) with e | hz2
      · subst e; have := b1 _ hz; omega
      · exact hz2
theorem le_nodup_lt {l : List Int} (h : l.Pairwise (· ≤ ·)) (hn : l.Nodup) : l.Pairwise (· < ·) := by
  have h2 := h.and hn
  exact h2.imp fun {a b} ⟨h1, h3⟩ => by
    have : a ≠ b := h3
    omega
/-! ### texts -/
theorem txt_ok (s : String) : PyData.strOk (Str.ofString s) = true := by
  rw [Str.ofString_eq_toList]
  unfold PyData.strOk
  simp
  intro c hc
  have := c.valid
  show c.val.toNat < 1114112
  rcases this with h | ⟨_, h⟩
  · exact Nat.lt_trans h (by decide)
  · exact h
theorem txt_inj {a b : String} : Str.ofString a = Str.ofString b ↔ a = b := by
  constructor
  · intro h
    rw [Str.ofString_eq_toList, Str.ofString_eq_toList] at h
    have h : (a.toList.map Char.toNat) = b.toList.map Char.toNat := by
      have := congrArg (fun x => x.cps.toList) h
      simpa using this
    have h2 := (List.map_inj_right (f := Char.toNat) (fun x y e => Char.toNat_inj.mp e)).mp h
    exact String.toList_inj.mp h2
  · intro h; rw [h]
@[simp] theorem eq_txt {a b : String} : eqD (.str (Str.ofString a)) (.str (Str.ofString b)) = some (decide (a = b)) := by
  show (if D.okN 60 (.str (Str.ofString a)) && D.okN 60 (.str (Str.ofString b)) then some (Str.ofString a == Str.ofString b) else none) = _
  rw [if_pos (by show (PyData.strOk _ && PyData.strOk _) = true; rw [txt_ok, txt_ok]; rfl)]
  congr 1
  by_cases h : a = b
  · subst h; simp
  · have : ¬ Str.ofString a = Str.ofString b := fun e => h (txt_inj.mp e)
    simp [h, this]
end DL
set_option Elab.async false
set_option linter.all false
set_option maxRecDepth 1000
set_option maxHeartbeats 2000000
set_option exponentiation.threshold 100
/-! VD: fractions and their texts (law k07) -/
namespace U
open PySem L2 DL
abbrev numS (i : Int) : Str := Str.ofString (toString i)
theorem len_ofS (s : String) : (Str.ofString s).length = s.toList.length := by
  rw [Str.ofString_eq_toList]
  show (List.toArray _).size = _
  simp
theorem num_len {i : Int} {k : Nat} (hk : 0 < k) (h : i.natAbs < 10 ^ k) : (numS i).length ≤ k + 1 := by
  have pos : ∀ n : Nat, n < 10 ^ k → (Str.ofString (toString ((n : Nat) : Int))).length ≤ k := fun n hn => PyProof.Rows.toString_length_le (v := (n : Int)) (by omega) hk (by
    have e : ((10 : Int) ^ k) = ((10 ^ k : Nat) : Int) := (Int.natCast_pow 10 k).symm
    rw [e]
    exact Int.ofNat_lt.mpr hn)
  cases i with
  | ofNat m => exact Nat.le_succ_of_le (pos m h)
  | negSucc m =>
    have h2 := pos (m + 1) h
    rw [len_ofS] at h2
    show (Str.ofString ("-" ++ toString (m + 1))).length ≤ k + 1
    rw [len_ofS, String.toList_append, List.length_append]
    have : (toString ((m + 1 : Nat) : Int)) = toString (m + 1) := rfl
    rw [this] at h2
    have e : ("-" : String).toList.length = 1 := rfl
    omega
theorem num_ok (i : Int) : PyData.strOk (numS i) = true := txt_ok _
theorem str_int {i : Int} (h : i.natAbs < 2 ^ 1900) : b1D .str (.int i) = some (.str (numS i)) := by
  show (if i.natAbs.log2 < 1920 then some (D.str (toString i)) else none) = _
  rw [if_pos (Nat.lt_of_lt_of_le (PySem.Flt.log2_lt_of (by decide) h) (by decide))]
theorem pow_up : (2 : Nat) ^ 1900 ≤ 10 ^ 1900 := Nat.pow_le_pow_left (by decide) _
theorem num_len2 {i : Int} (h : i.natAbs < 2 ^ 1900) : (numS i).length ≤ 1901 := num_len (by decide) (Nat.lt_of_lt_of_le h pow_up)
theorem strOk_app {x y : Str} (hx : PyData.strOk x = true) (hy : PyData.strOk y = true) : PyData.strOk (x ++ y) = true := by
  have e : (x ++ y).cps = x.cps ++ y.cps := rfl
  unfold PyData.strOk at *
  rw [e, Array.all_append, hx, hy]
  rfl
@[simp] theorem len_app {x y : Str} : (x ++ y).length = x.length + y.length := by
  show (x.cps ++ y.cps).size = _
  rw [Array.size_append]
  rfl
theorem ok_str {n : Nat} {x : Str} : D.okN n (.str x) = PyData.strOk x := by cases n <;> rfl
theorem eqD_str {x y : Str} (hx : PyData.strOk x = true) (hy : PyData.strOk y = true) : eqD (.str x) (.str y) = some (decide (x = y)) := by
  unfold eqD
  rw [ok_str, ok_str, hx, hy]
  show some (x == y) = _
  by_cases h : x = y <;> simp [h]
theorem add_str {x y : Str} (h : x.length + y.length ≤ 16777216) : bopD .add (.str x) (.str y) = some (.str (x ++ y)) := by
  show (if x.length + y.length ≤ sizeL then _ else _) = _
  rw [if_pos (by unfold sizeL; omega)]
theorem ratio_text_eq {a b : Int} (ha : a.natAbs < 2 ^ 1900) (hb : b.natAbs < 2 ^ 1900) : n_ratio_text [.tup [.int a, .int b]] = .ok (.str (if b = 1 then numS a else numS a ++ Str.ofString "/" ++ numS b)) := by
  have e1 := str_int ha
  have e2 := str_int hb
  have l1 := num_len2 ha
  have l2 := num_len2 hb
  have l3 : (Str.ofString "/").length = 1 := by rw [len_ofS]; rfl
  refine run_of ?_
  by_cases h : b = 1
  · simp [b_ratio_text, h, e1]
  · have c1 := add_str (x := numS a) (y := Str.ofString "/") (by omega)
    have c2 := add_str (x := numS a ++ Str.ofString "/") (y := numS b) (by rw [len_app]; omega)
    simp [b_ratio_text, h, e1, e2, c1, c2]
/-- a pair that may be made a fraction -/
structure Fit (n : Nat) (p : Int × Int) : Prop where
  ne : p.2 ≠ 0
  a : p.1.natAbs < 2 ^ n
  b : p.2.natAbs < 2 ^ n
theorem fractions_right_eq {n : Nat} (hn : n ≤ 900) (ps : List (Int × Int)) (hl : ps.length ≤ 1000) (hp : ∀ p ∈ ps, Fit n p) : n__law_fractions_right [.lst (ps.map fT)] = .ok (.bl true) := by
  refine run_of ?_
  simp [b__law_fractions_right]
  obtain ⟨PL, hPL⟩ : ∃ PL, PL = ps.map fT := ⟨_, rfl⟩
  rw [← hPL]
  have l3 : (Str.ofString "/").length = 1 := by rw [len_ofS]; rfl
  rw [hPL]
  refine wf_idx (fun i ρ => ∃ (fs : List (Int × Int)) (t u v w : Sl), fs.length = i ∧ (∀ f ∈ fs, Frac f ∧ f.1.natAbs < 2 ^ n ∧ f.2.natAbs < 2 ^ n) ∧ ρ = [Sl.fz (.lst PL), .ow (.lst (fs.map fT)), t, u, v, w, .un, .un]) ⟨[], .un, .un, .un, .un, rfl, fun f hf => by (cases hf), by rw [hPL]; rfl⟩ (fun i p hpi ρ ⟨fs, t, u, v, w, q1, q2, hρ⟩ => ?_) (fun ρ ⟨fs, t, u, v, w, q1, q2, hρ⟩ => ?_)
  · subst hρ
    have hpm := hp p (List.mem_of_getElem? hpi)
    have hil : i < ps.length := (List.getElem?_eq_some_iff.mp hpi).1
    obtain ⟨a, b⟩ := p
    obtain ⟨h0, ha, hb⟩ := hpm
    simp only at h0 ha hb
    obtain ⟨t', b', r1, lw⟩ := ratio_ex a b h0 ha hb (by omega)
    have i1 := is_ratio_eq lw ha hb (by omega)
    have wt : t'.natAbs < 2 ^ n := Nat.lt_of_le_of_lt lw.st ha
    have wb : b'.natAbs < 2 ^ n := Nat.lt_of_le_of_lt lw.sb hb
    have wt9 := lt_up wt (show n ≤ 1900 by omega)
    have wb9 := lt_up wb (show n ≤ 1900 by omega)
    have tx := ratio_text_eq wt9 wb9
    have s1 := str_int wt9
    have s2 := str_int wb9
    have n1 := num_len2 wt9
    have n2 := num_len2 wb9
    have o1 := num_ok t'
    have o2 := strOk_app (strOk_app (num_ok t') (txt_ok "/")) (num_ok b')
    have hpos := lw.pos
    have fin : ∀ f ∈ fs ++ [(t', b')], Frac f ∧ f.1.natAbs < 2 ^ n ∧ f.2.natAbs < 2 ^ n := fun f hf => by
      rcases List.mem_append.mp hf with h | h
      · exact q2 f h
      · rw [List.mem_singleton.mp h]; exact ⟨lw.pos, wt, wb⟩
    have hlen : (fs.map fT).length < 16777216 := by rw [List.length_map]; omega
    have hq1 : (fs ++ [(t', b')]).length = i + 1 := by simp [q1]
    have happ : fs.map fT ++ [.tup [.int t', .int b']] = (fs ++ [(t', b')]).map fT := by simp
    generalize fs.map fT = FL at *
    by_cases hb1 : b' = 1
    · rw [if_pos hb1] at tx
      have eq1 := eqD_str o1 o1
      subst hb1
      simp [r1, i1, s1, tx, eq1, hlen]
      exact ⟨fs ++ [(t', 1)], hq1, fun a b h => fin (a, b) h, happ⟩
    · rw [if_neg hb1] at tx
      have eq1 := eqD_str o2 o2
      have hgt : 1 < b' := by omega
      have c1 := add_str (x := numS t') (y := Str.ofString "/") (by omega)
      have c2 := add_str (x := numS t' ++ Str.ofString "/") (y := numS b') (by rw [len_app]; omega)
      simp [r1, i1, s1, s2, tx, eq1, hgt, c1, c2, hlen]
      exact ⟨fs ++ [(t', b')], hq1, fun a b h => fin (a, b) h, happ⟩
  · subst hρ
    simp
    refine wf_pass (fun ρ => ∃ s t, ρ = [Sl.fz (.lst PL), .fz (.lst (fs.map fT)), _, _, _, _, s, t]) ⟨_, _, rfl⟩ (fun f hf ρ ⟨s, t, hρ⟩ => ?_) (fun ρ ⟨s, t, hρ⟩ => ?_)
    · subst hρ
      obtain ⟨f1, f2, f3⟩ := q2 f hf
      simp
      refine wf_pass (fun ρ => ∃ t, ρ = [Sl.fz (.lst PL), .fz (.lst (fs.map fT)), _, _, _, _, .fz (fT f), t]) ⟨_, rfl⟩ (fun g hg ρ ⟨t, hρ⟩ => ?_) (fun ρ ⟨t, hρ⟩ => ?_)
      · subst hρ
        obtain ⟨g1, g2, g3⟩ := q2 g hg
        have e := two_right_eq f1 g1 f2 f3 g2 g3 hn
        simp [e]
      · subst hρ
        simp
    · subst hρ
      simp
end U
set_option Elab.async false
set_option linter.all false
set_option maxRecDepth 1000
set_option maxHeartbeats 2000000
/-! VE: texts as lists of signs -/
namespace U
open PySem L2 DL
abbrev mk (l : List Nat) : Str := ⟨l.toArray⟩
def Okl (l : List Nat) : Prop := ∀ c ∈ l, c < 1114112
theorem mk_of (w : Str) : mk w.cps.toList = w := by cases w; simp
theorem mk_inj {a b : List Nat} : mk a = mk b ↔ a = b := by
  constructor
  · intro h
    have := congrArg (fun w : Str => w.cps.toList) h
    simpa using this
  · rintro rfl; rfl
theorem mk_ok {l : List Nat} : PyData.strOk (mk l) = true ↔ Okl l := by
  unfold PyData.strOk Okl
  simp
theorem mk_len {l : List Nat} : (mk l).length = l.length := by
  show l.toArray.size = _
  simp
theorem mk_app {a b : List Nat} : mk a ++ mk b = mk (a ++ b) := by
  show (⟨a.toArray ++ b.toArray⟩ : Str) = _
  simp
theorem eqD_mk {a b : List Nat} (ha : Okl a) (hb : Okl b) : eqD (.str (mk a)) (.str (mk b)) = some (decide (a = b)) := by
  rw [eqD_str (mk_ok.mpr ha) (mk_ok.mpr hb)]
  by_cases h : a = b
  · rw [decide_eq_true h, decide_eq_true (mk_inj.mpr h)]
  · rw [decide_eq_false h, decide_eq_false (fun e => h (mk_inj.mp e))]
theorem sl_mk {l : List Nat} (hl : l.length ≤ 16777216) (lo hi : Option Int) : slD (.str (mk l)) lo hi = some (.str (mk (cutL l lo hi))) := by
  show (if (mk l).length ≤ sizeL then some (D.str (cutS (mk l) lo hi)) else none) = _
  rw [if_pos (by rw [mk_len]; unfold sizeL; exact hl)]
  have e : cutS (mk l) lo hi = mk (cutL l lo hi) := by
    unfold cutS
    have h1 : (mk l).cps.toList = l := by simp
    rw [h1, mk_len]
    rfl
  rw [e]
theorem ix_mk {l : List Nat} (hl : l.length ≤ 16777216) {i : Int} {c : Nat} (h : L2.atI l i = some c) : ixD (.str (mk l)) (.int i) = some (.str (mk [c])) := by
  show (if (mk l).length ≤ sizeL then (L2.atI (mk l).cps.toList i).map fun c => D.str ⟨#[c]⟩ else none) = _
  have h1 : (mk l).cps.toList = l := by simp
  rw [if_pos (by rw [mk_len]; unfold sizeL; exact hl), h1, h]
  rfl
theorem signs_mk {l : List Nat} : signsD (mk l) = l.map fun c => .str (mk [c]) := by
  unfold signsD
  have h1 : (mk l).cps.toList = l := by simp
  rw [h1]
theorem len_mk {l : List Nat} (hl : l.length ≤ 16777216) : b1D .len (.str (mk l)) = some (.int (l.length : Nat)) := by
  show (if (mk l).length ≤ sizeL then some (D.int (mk l).length) else none) = _
  rw [mk_len, if_pos (by unfold sizeL; exact hl)]
theorem occ_mk {l : List Nat} {c : Nat} : occB (mk [c]) (mk l) = decide (c ∈ l) := by
  have h := PySem.StrLaws.found_one (mk l) c
  have h1 : (mk l).cps.toList = l := by simp
  rw [h1] at h
  unfold occB
  first | exact h.symm | exact h
theorem mem_mk {l : List Nat} {c : Nat} : memD (.str (mk [c])) (.str (mk l)) = some (decide (c ∈ l)) := by
  show some (occB (mk [c]) (mk l)) = _
  rw [occ_mk]
/-! ### digits -/
def DIG : List Nat := [48, 49, 50, 51, 52, 53, 54, 55, 56, 57]
theorem dig_txt : Str.ofString "0123456789" = mk DIG := by decide
theorem dig_mem {c : Nat} : c ∈ DIG ↔ 48 ≤ c ∧ c ≤ 57 := by
  simp [DIG]
  omega
def isIo (x : Option D) (n : Int) : Bool := match x with
  | some (.int m) => decide (m = n)
  | _ => false
theorem isIo_eq {x : Option D} {n : Int} (h : isIo x n = true) : x = some (.int n) := by
  unfold isIo at h
  split at h
  · rw [show _ = n from of_decide_eq_true h]
  · cases h
theorem dig_all : ((List.range 10).all fun k => isIo (m1D .sindex (.str (mk DIG)) (.str (mk [48 + k]))) ((k : Nat) : Int)) = true := by decide +kernel
theorem dig_ix {c : Nat} (h : c ∈ DIG) : m1D .sindex (.str (mk DIG)) (.str (mk [c])) = some (.int ((c - 48 : Nat) : Int)) := by
  have h2 := dig_mem.mp h
  have := isIo_eq (List.all_eq_true.mp dig_all (c - 48) (List.mem_range.mpr (by omega)))
  rw [show 48 + (c - 48) = c by omega] at this
  exact this
def allD (l : List Nat) : Bool := l.all fun c => decide (c ∈ DIG)
def valD (l : List Nat) : Nat := l.foldl (fun v c => v * 10 + (c - 48)) 0
theorem val_le : ∀ (l : List Nat) (v : Nat), v ≤ l.foldl (fun v c => v * 10 + (c - 48)) v
  | [], v => Nat.le_refl _
  | c :: l, v => Nat.le_trans (by omega) (val_le l (v * 10 + (c - 48)))
theorem val_lt : ∀ (l : List Nat) (v k : Nat), v < 10 ^ k → (∀ c ∈ l, c ∈ DIG) → l.foldl (fun v c => v * 10 + (c - 48)) v < 10 ^ (k + l.length)
  | [], v, k, h, _ => by simpa using h
  | c :: l, v, k, h, hd => by
    have hc := dig_mem.mp (hd c List.mem_cons_self)
    have := val_lt l (v * 10 + (c - 48)) (k + 1) (by rw [Nat.pow_succ]; omega) fun d hd' => hd d (List.mem_cons_of_mem _ hd')
    rw [List.length_cons, show k + (l.length + 1) = k + 1 + l.length by omega]
    exact this
/-- the loop over digits -/
theorem val_snoc {l : List Nat} {c : Nat} : valD (l ++ [c]) = valD l * 10 + (c - 48) := by simp [valD]
def numW (l : List Nat) : Option Nat := if (1 ≤ l.length ∧ l.length ≤ 6) ∧ ¬ (l.getD 0 0 = 48 ∧ 1 < l.length) ∧ allD l = true then some (valD l) else none
def oD : Option Int → D
  | none => .non
  | some i => .int i
theorem take_snocV {α : Type} {l : List α} {j : Nat} {a : α} (h : l[j]? = some a) : l.take (j + 1) = l.take j ++ [a] := by
  rw [List.take_add_one, h]
  rfl
theorem num_add {v : Nat} (hv : v < 10 ^ 6) : bopD .mul (.int ((v : Nat) : Int)) (.int 10) = some (.int ((v * 10 : Nat) : Int)) := by
  rw [mul_int]
  have : small64 ((v : Nat) : Int) = true := by simp; omega
  rw [this]
  rfl
theorem digits_of_eq {l : List Nat} (hl : l.length ≤ 100000) (ho : Okl l) : n_digits_of [.str (mk l)] = .ok (oD ((numW l).map fun n => ((n : Nat) : Int))) := by
  have e0 := len_mk (l := l) (by omega)
  have z48 : Str.ofString "0" = mk [48] := by decide
  refine run_of ?_
  by_cases h1 : 1 ≤ l.length ∧ l.length ≤ 6
  · obtain ⟨c0, r, rfl⟩ : ∃ c r, l = c :: r := by
      cases l with
      | nil => simp at h1
      | cons c r => exact ⟨c, r, rfl⟩
    have ei : ixD (.str (mk (c0 :: r))) (.int 0) = some (.str (mk [c0])) := ix_mk (by omega) (at_nat (k := 0) (xs := c0 :: r) (by simp))
    have ec : eqD (.str (mk [c0])) (.str (mk [48])) = some (decide (c0 = 48)) := by
      rw [eqD_mk (fun c hc => by rw [List.mem_singleton.mp hc]; exact ho c0 List.mem_cons_self) (fun c hc => by rw [List.mem_singleton.mp hc]; omega)]
      simp
    have g0 : (c0 :: r).getD 0 0 = c0 := rfl
    by_cases h2 : c0 = 48 ∧ 1 < (c0 :: r).length
    · have en : numW (c0 :: r) = none := by
        unfold numW
        rw [if_neg]
        rw [g0]
        exact fun h => h.2.1 h2
      rw [en]
      obtain ⟨rfl, h3⟩ := h2
      have h4 : (1 : Int) < (((48 : Nat) :: r).length : Nat) := by omega
      have h5 : (1 : Int) ≤ (((48 : Nat) :: r).length : Nat) := by omega
      have h6 : ((((48 : Nat) :: r).length : Nat) : Int) ≤ 6 := by omega
      generalize (((48 : Nat) :: r).length : Nat) = n at *
      generalize mk (48 :: r) = w at *
      simp [b_digits_of, e0, ei, z48, ec, h4, h5, h6]
      rfl
    · have en : numW (c0 :: r) = if allD (c0 :: r) = true then some (valD (c0 :: r)) else none := by
        unfold numW
        rw [g0]
        by_cases q : allD (c0 :: r) = true
        · rw [if_pos ⟨h1, h2, q⟩, if_pos q]
        · rw [if_neg (fun h => q h.2.2), if_neg q]
      rw [en]
      have hld : listD (.str (mk (c0 :: r))) = some ((c0 :: r).map fun c => .str (mk [c])) := by rw [← signs_mk]; rfl
      have hx : (if c0 = 48 then D.bl (decide ((1 : Int) < ((c0 :: r).length : Nat))) else D.bl false) = .bl false := by
        by_cases q : c0 = 48
        · rw [if_pos q, decide_eq_false (fun h => h2 ⟨q, by omega⟩)]
        · rw [if_neg q]
      have hb6 : (c0 :: r).length ≤ 6 := h1.2
      have h5 : (1 : Int) ≤ ((c0 :: r).length : Nat) := by omega
      have h6 : (((c0 :: r).length : Nat) : Int) ≤ 6 := by omega
      generalize c0 :: r = l at *
      generalize mk l = w at e0 ei hld
      simp [b_digits_of, e0, ei, z48, ec, h5, h6, dig_txt, hld]
      rw [hx, wi_f]
      refine wf_idx (fun i ρ => (∀ c ∈ l.take i, c ∈ DIG) ∧ ∃ (v : Int) (t : Sl), v = ((valD (l.take i) : Nat) : Int) ∧ ρ = [Sl.fz (.str w), .fz (.int v), t]) ⟨by simp, 0, .un, by simp [valD], rfl⟩ (fun i c hc ρ ⟨hd, v, t, hv, hρ⟩ => ?_) (fun ρ ⟨hd, v, t, hv, hρ⟩ => ?_)
      · subst hρ
        have hi : i < l.length := (List.getElem?_eq_some_iff.mp hc).1
        have hvb : valD (l.take i) < 10 ^ 6 := by
          have := val_lt (l.take i) 0 0 (by decide) hd
          rw [List.length_take] at this
          exact Nat.lt_of_lt_of_le this (Nat.pow_le_pow_right (by decide) (by omega))
        have hm := mem_mk (l := DIG) (c := c)
        by_cases q : c ∈ DIG
        · have hix := dig_ix q
          have hmul := num_add hvb
          rw [← hv] at hmul
          rw [take_snocV hc, val_snoc]
          rw [decide_eq_true q] at hm
          simp [hm, hix, hmul]
          intro d hd'
          rcases hd' with h | h
          · exact hd d h
          · rw [h]; exact q
        · have : allD l = false := by
            cases h : allD l with
            | false => rfl
            | true =>
              have := List.all_eq_true.mp h c (List.mem_of_getElem? hc)
              exact absurd (of_decide_eq_true this) q
          rw [decide_eq_false q] at hm
          simp [hm, this]
          rfl
      · subst hρ
        rw [List.take_length] at hd hv
        have : allD l = true := List.all_eq_true.mpr fun c hc => decide_eq_true (hd c hc)
        simp [this, oD]
        exact hv
  · have en : numW l = none := by
      unfold numW
      rw [if_neg]
      exact fun h => h1 h.1
    rw [en]
    have hc : (decide ((1 : Int) ≤ (l.length : Nat)) && decide (((l.length : Nat) : Int) ≤ 6)) = false := by
      rw [Bool.and_eq_false_iff, decide_eq_false_iff_not, decide_eq_false_iff_not]
      omega
    generalize (l.length : Nat) = n at *
    generalize mk l = w at *
    by_cases q : (1 : Int) ≤ (n : Nat)
    · have : ¬ ((n : Nat) : Int) ≤ 6 := by omega
      simp [b_digits_of, e0, q, this]
      rfl
    · simp [b_digits_of, e0, q]
      rfl
end U
set_option Elab.async false
set_option linter.all false
set_option maxRecDepth 1000
set_option maxHeartbeats 2000000
/-! VF: numerals (law k07) -/
namespace U
open PySem L2 DL
/-- the numeral's number -/
def numI (l : List Nat) : Option Int := if l.getD 0 0 = 45 then (if (1 ≤ (l.drop 1).length ∧ (l.drop 1).length ≤ 6) ∧ allD (l.drop 1) = true ∧ (l.drop 1).getD 0 0 ≠ 48 then some (-((valD (l.drop 1) : Nat) : Int)) else none) else (numW l).map fun n => ((n : Nat) : Int)
theorem val_pos {c : Nat} {r : List Nat} (h : c ∈ DIG) (h0 : c ≠ 48) : valD (c :: r) ≠ 0 := by
  have h1 := dig_mem.mp h
  have h2 := val_le r (0 * 10 + (c - 48))
  have h3 : valD (c :: r) = r.foldl (fun v c => v * 10 + (c - 48)) (0 * 10 + (c - 48)) := rfl
  rw [h3]
  generalize r.foldl (fun v c => v * 10 + (c - 48)) (0 * 10 + (c - 48)) = z at h2
  omega
theorem okl_drop {l : List Nat} {k : Nat} (h : Okl l) : Okl (l.drop k) := fun c hc => h c (List.mem_of_mem_drop hc)
theorem okl_take {l : List Nat} {k : Nat} (h : Okl l) : Okl (l.take k) := fun c hc => h c (List.mem_of_mem_take hc)
theorem minus_txt : Str.ofString "-" = mk [45] := by decide
theorem okl_one {c : Nat} (h : c < 1114112) : Okl [c] := fun d hd => by rw [List.mem_singleton.mp hd]; exact h
theorem number_of_eq {l : List Nat} (hl : l.length ≤ 100000) (ho : Okl l) : n_number_of [.str (mk l)] = .ok (oD (numI l)) := by
  have s1 := sl_mk (l := l) (by omega) none (some 1)
  have s2 := sl_mk (l := l) (by omega) (some 1) none
  rw [cut_hi (by omega)] at s1
  rw [cut_lo (by omega)] at s2
  have hd0 := digits_of_eq hl ho
  have hd1 := digits_of_eq (l := l.drop 1) (by rw [List.length_drop]; omega) (okl_drop ho)
  have e1 := eqD_mk (a := l.take 1) (b := [45]) (okl_take ho) (okl_one (by omega))
  have ht : decide (l.take 1 = [45]) = decide (l.getD 0 0 = 45) := by
    cases l with
    | nil => rfl
    | cons c r => simp
  rw [ht] at e1
  refine run_of ?_
  by_cases q : l.getD 0 0 = 45
  · have en : numI l = if (1 ≤ (l.drop 1).length ∧ (l.drop 1).length ≤ 6) ∧ allD (l.drop 1) = true ∧ (l.drop 1).getD 0 0 ≠ 48 then some (-((valD (l.drop 1) : Nat) : Int)) else none := by
      unfold numI
      rw [if_pos q]
    rw [en]
    rw [decide_eq_true q] at e1
    have s1 : slD (.str (mk l)) none (some 1) = some (.str (mk (l.take 1))) := s1
    have s2 : slD (.str (mk l)) (some 1) none = some (.str (mk (l.drop 1))) := s2
    generalize l.take 1 = A at *
    generalize l.drop 1 = B at *
    generalize mk l = w at *
    cases hb : numW B with
    | none =>
      rw [hb] at hd1
      have : ¬ ((1 ≤ B.length ∧ B.length ≤ 6) ∧ allD B = true ∧ B.getD 0 0 ≠ 48) := fun h => by
        unfold numW at hb
        rw [if_pos ⟨h.1, fun z => h.2.2 z.1, h.2.1⟩] at hb
        cases hb
      rw [if_neg this]
      have hd1 : n_digits_of [.str (mk B)] = .ok .non := hd1
      simp [b_number_of, s1, s2, minus_txt, e1, hd1, DL.isNon]
      rfl
    | some v =>
      rw [hb] at hd1
      have hd1 : n_digits_of [.str (mk B)] = .ok (.int ((v : Nat) : Int)) := hd1
      unfold numW at hb
      split at hb
      · rename_i h
        cases hb
        by_cases q0 : B.getD 0 0 = 48
        · have hl1 : B.length = 1 := by have := h.2.1; have := h.1.1; omega
          have hv : valD B = 0 := by
            match B, hl1 with
            | [c], _ =>
              have : c = 48 := q0
              subst this
              rfl
          rw [if_neg (fun z => z.2.2 q0)]
          rw [hv] at hd1
          simp [b_number_of, s1, s2, minus_txt, e1, hd1, DL.isNon]
          rfl
        · have hv : valD B ≠ 0 := by
            match B, h.1.1 with
            | c :: r, _ =>
              have hc : c ∈ DIG := of_decide_eq_true (List.all_eq_true.mp h.2.2 c List.mem_cons_self)
              exact val_pos hc q0
          rw [if_pos ⟨h.1, h.2.2, q0⟩]
          generalize valD B = v at *
          simp [b_number_of, s1, s2, minus_txt, e1, hd1, hv, DL.isNon]
          rfl
      · cases hb
  · have en : numI l = (numW l).map fun n => ((n : Nat) : Int) := by
      unfold numI
      rw [if_neg q]
    rw [en]
    rw [decide_eq_false q] at e1
    have s1 : slD (.str (mk l)) none (some 1) = some (.str (mk (l.take 1))) := s1
    generalize l.take 1 = A at *
    generalize mk l = w at *
    simp [b_number_of, s1, minus_txt, e1, hd0]
/-- the loop over digits of the law's numeral -/
theorem numeral_eq {l : List Nat} (hl : l.length ≤ 100000) (ho : Okl l) : n__law_numeral [.str (mk l)] = .ok (oD (numI l)) := by
  obtain ⟨bw, hbw⟩ : ∃ b, b = decide (l.getD 0 0 = 45) := ⟨_, rfl⟩
  have e0 := len_mk (l := l) (by omega)
  have z48 : Str.ofString "0" = mk [48] := by decide
  have eb : ∀ ρ : DL.Env, ρ = [Sl.fz (.str (mk l)), .un, .un, .un, .un] → evE (tbl []) (.and (.cmp .gt (.lenv 0) (.c (.int 0))) (.one (.cmp .eq (.ixv 0 (.c (.int 0))) (.c (.str "-"))))) ρ = .ok (.bl bw) ρ := by
    intro ρ hρ
    subst hρ
    cases l with
    | nil =>
      simp at hbw
      subst hbw
      have e0 : b1D .len (.str (mk [])) = some (.int 0) := e0
      generalize mk [] = w at e0
      simp [e0]
    | cons c r =>
      have ei : ixD (.str (mk (c :: r))) (.int 0) = some (.str (mk [c])) := ix_mk (by omega) (at_nat (k := 0) (xs := c :: r) (by simp))
      have ec : eqD (.str (mk [c])) (.str (mk [45])) = some (decide (c = 45)) := by
        rw [eqD_mk (okl_one (ho c List.mem_cons_self)) (okl_one (by omega))]
        simp
      have g0 : (c :: r).getD 0 0 = c := rfl
      rw [g0] at hbw
      obtain ⟨N, hN⟩ : ∃ N : Int, N = ((c :: r).length : Nat) := ⟨_, rfl⟩
      have hp : (0 : Int) < N := by rw [hN, List.length_cons]; omega
      rw [← hN] at e0
      generalize mk (c :: r) = w at *
      simp [e0, ei, minus_txt, ec, hp, ← hbw]
  have ht : ∀ ρ : DL.Env, ρ = [Sl.fz (.str (mk l)), .un, .un, .un, .un] → DL.WE (evE (tbl []) (.and (.cmp .gt (.lenv 0) (.c (.int 0))) (.one (.cmp .eq (.ixv 0 (.c (.int 0))) (.c (.str "-"))))) ρ) = fun k => k (.bl bw) ρ := by
    intro ρ hρ
    rw [eb ρ hρ]
    funext k
    rw [we_ok]
  have s1 : slD (.str (mk l)) (some (if bw then 1 else 0)) none = some (.str (mk (l.drop (if bw then 1 else 0)))) := by
    rw [sl_mk (by omega), cut_lo (by split <;> omega)]
    cases bw <;> rfl
  obtain ⟨B, hB⟩ : ∃ B, B = l.drop (if bw then 1 else 0) := ⟨_, rfl⟩
  have oB : Okl B := by rw [hB]; exact okl_drop ho
  have lB : B.length ≤ 100000 := by rw [hB, List.length_drop]; omega
  have hI : numI l = if (1 ≤ B.length ∧ B.length ≤ 6) ∧ allD B = true ∧ ¬ (B.getD 0 0 = 48 ∧ (bw = true ∨ 1 < B.length)) then some (((valD B : Nat) : Int) * (1 - 2 * (if bw then 1 else 0))) else none := by
    unfold numI
    cases hq : bw with
    | true =>
      rw [hq] at hbw hB
      rw [if_pos (of_decide_eq_true hbw.symm)]
      have hB : B = l.drop 1 := hB
      rw [← hB]
      by_cases h : (1 ≤ B.length ∧ B.length ≤ 6) ∧ allD B = true ∧ B.getD 0 0 ≠ 48
      · rw [if_pos h, if_pos ⟨h.1, h.2.1, fun z => h.2.2 z.1⟩]
        simp
      · rw [if_neg h, if_neg (fun z => h ⟨z.1, z.2.1, fun e => z.2.2 ⟨e, .inl rfl⟩⟩)]
    | false =>
      rw [hq] at hbw hB
      rw [if_neg (of_decide_eq_false hbw.symm)]
      have hB : B = l := hB
      rw [hB]
      unfold numW
      by_cases h : (1 ≤ l.length ∧ l.length ≤ 6) ∧ ¬ (l.getD 0 0 = 48 ∧ 1 < l.length) ∧ allD l = true
      · rw [if_pos h, if_pos ⟨h.1, h.2.2, fun z => h.2.1 ⟨z.1, z.2.resolve_left (by simp)⟩⟩]
        simp
      · rw [if_neg h, if_neg (fun z => h ⟨z.1, fun e => z.2.2 ⟨e.1, .inr e.2⟩, z.2.1⟩)]
        rfl
  rw [hI]
  rw [← hB] at s1
  have eBl := len_mk (l := B) (by omega)
  have hbi : b1D .int (.bl bw) = some (.int (if bw then 1 else 0)) := rfl
  refine run_of ?_
  unfold b__law_numeral
  rw [wp_set]
  rw [show ([D.str (mk l)].map Sl.fz ++ List.replicate (5 - [D.str (mk l)].length) Sl.un) = [Sl.fz (.str (mk l)), .un, .un, .un, .un] from rfl]
  rw [ht _ rfl]
  have hld : listD (.str (mk B)) = some (B.map fun c => .str (mk [c])) := by rw [← signs_mk]; rfl
  by_cases h1 : 1 ≤ B.length ∧ B.length ≤ 6
  · obtain ⟨c0, r, hr⟩ : ∃ c r, B = c :: r := by
      cases hh : B with
      | nil => rw [hh] at h1; simp at h1
      | cons c r => exact ⟨c, r, rfl⟩
    have ei : ixD (.str (mk B)) (.int 0) = some (.str (mk [c0])) := by
      rw [hr]
      exact ix_mk (by rw [← hr]; omega) (at_nat (k := 0) (xs := c0 :: r) (by simp))
    have ec : eqD (.str (mk [c0])) (.str (mk [48])) = some (decide (c0 = 48)) := by
      rw [eqD_mk (okl_one (oB c0 (by rw [hr]; exact List.mem_cons_self))) (okl_one (by omega))]
      simp
    have g0 : B.getD 0 0 = c0 := by rw [hr]; rfl
    have h5 : (1 : Int) ≤ (B.length : Nat) := by omega
    have h6 : ((B.length : Nat) : Int) ≤ 6 := by omega
    rw [g0]
    clear hr
    generalize mk B = wB at *
    generalize mk l = w at *
    simp [s1, hbi, eBl, h5, h6, hld, dig_txt, h1]
    refine wf_idx (fun i ρ => (∀ c ∈ B.take i, c ∈ DIG) ∧ ∃ (v : Int) (t : Sl), v = ((valD (B.take i) : Nat) : Int) ∧ ρ = [Sl.fz (.str w), .fz (.bl bw), .fz (.str wB), .fz (.int v), t]) ⟨by simp, 0, .un, by simp [valD], rfl⟩ (fun i c hc ρ ⟨hd, v, t, hv, hρ⟩ => ?_) (fun ρ ⟨hd, v, t, hv, hρ⟩ => ?_)
    · subst hρ
      have hi : i < B.length := (List.getElem?_eq_some_iff.mp hc).1
      have hvb : valD (B.take i) < 10 ^ 6 := by
        have := val_lt (B.take i) 0 0 (by decide) hd
        rw [List.length_take] at this
        exact Nat.lt_of_lt_of_le this (Nat.pow_le_pow_right (by decide) (by omega))
      have hm := mem_mk (l := DIG) (c := c)
      by_cases q : c ∈ DIG
      · have hix := dig_ix q
        have hmul := num_add hvb
        rw [← hv] at hmul
        rw [take_snocV hc, val_snoc]
        rw [decide_eq_true q] at hm
        simp [hm, hix, hmul]
        intro d hd'
        rcases hd' with h | h
        · exact hd d h
        · rw [h]; exact q
      · have : allD B = false := by
          cases h : allD B with
          | false => rfl
          | true =>
            have := List.all_eq_true.mp h c (List.mem_of_getElem? hc)
            exact absurd (of_decide_eq_true this) q
        rw [decide_eq_false q] at hm
        simp [hm, this]
        rfl
    · subst hρ
      rw [List.take_length] at hd hv
      have ha : allD B = true := List.all_eq_true.mpr fun c hc => decide_eq_true (hd c hc)
      have hvb : valD B < 10 ^ 6 := by
        have := val_lt B 0 0 (by decide) hd
        exact Nat.lt_of_lt_of_le this (Nat.pow_le_pow_right (by decide) (by omega))
      have hmul : ∀ z : Int, bopD .mul (.int v) (.int z) = some (.int (v * z)) := fun z => by
        rw [mul_int]
        have : small64 v = true := by simp; omega
        rw [this]
        rfl
      have hm2 : ∀ z : Int, bopD .mul (.int 2) (.int z) = some (.int (2 * z)) := fun z => by
        rw [mul_int]
        rfl
      rw [ha, ← hv]
      by_cases q0 : c0 = 48
      · subst q0
        cases bw with
        | true =>
          simp [ei, z48, ec]
          rfl
        | false =>
          by_cases q1 : 1 < B.length
          · have : (1 : Int) < (B.length : Nat) := by omega
            simp [ei, z48, ec, eBl, q1, this]
            rw [if_neg (by omega)]
            rfl
          · have : ¬ (1 : Int) < (B.length : Nat) := by omega
            simp [ei, z48, ec, eBl, q1, this, hmul, hm2]
            rw [if_pos (by omega)]
            rfl
      · simp [ei, z48, ec, q0, hbi, hmul, hm2]
        cases bw <;> rfl
  · have h1' : ¬ ((1 ≤ B.length ∧ B.length ≤ 6) ∧ allD B = true ∧ ¬ (B.getD 0 0 = 48 ∧ (bw = true ∨ 1 < B.length))) := fun z => h1 z.1
    rw [if_neg h1']
    clear h1' hI
    generalize mk B = wB at *
    generalize mk l = w at *
    by_cases q : (1 : Int) ≤ (B.length : Nat)
    · have : ¬ ((B.length : Nat) : Int) ≤ 6 := by omega
      simp [s1, hbi, eBl, q, this]
      rfl
    · simp [s1, hbi, eBl, q]
      rfl
end U
set_option Elab.async false
set_option linter.all false
set_option maxRecDepth 1000
set_option maxHeartbeats 2000000
/-! VG: free words (law k07) -/
namespace U
open PySem L2 DL
def RES : List Str := ["me", "size", "item", "look", "has", "lacks", "row", "letter", "put", "send", "answer", "if", "else", "end", "rest", "start", "heard", "done", "box", "table", "stamps", "program", "is", "max", "min", "mod"]
def ABC : List Nat := (List.range 26).map (97 + ·)
theorem abc_txt : Str.ofString "abcdefghijklmnopqrstuvwxyz" = mk ABC := by decide +kernel
theorem abc_mem {c : Nat} : c ∈ ABC ↔ 97 ≤ c ∧ c ≤ 122 := by
  unfold ABC
  rw [List.mem_map]
  constructor
  · rintro ⟨k, hk, rfl⟩
    have := List.mem_range.mp hk
    omega
  · intro h
    exact ⟨c - 97, List.mem_range.mpr (by omega), by omega⟩
def isRes (x : DR) : Bool := match x with
  | .ok (.lst xs) => decide (strsOf xs = some RES)
  | _ => false
theorem strsOf_map : ∀ (xs : List D) (ys : List Str), strsOf xs = some ys → xs = ys.map .str
  | [], ys, h => by
    have h : some [] = some ys := h
    cases h
    rfl
  | .str x :: xs, ys, h => by
    have h : (strsOf xs).map (x :: ·) = some ys := h
    cases q : strsOf xs with
    | none => rw [q] at h; cases h
    | some zs =>
      rw [q] at h
      cases h
      rw [strsOf_map xs zs q]
      rfl
  | .non :: _, _, h => by cases h
  | .bl _ :: _, _, h => by cases h
  | .int _ :: _, _, h => by cases h
  | .tup _ :: _, _, h => by cases h
  | .lst _ :: _, _, h => by cases h
  | .ro _ :: _, _, h => by cases h
  | .dct _ _ :: _, _, h => by cases h
  | .obj _ _ :: _, _, h => by cases h
theorem reserved_all : isRes (n__law_reserved []) = true := by decide +kernel
theorem reserved_eq : n__law_reserved [] = .ok (.lst (RES.map .str)) := by
  have h := reserved_all
  unfold isRes at h
  split at h
  · rename_i xs e
    rw [e, strsOf_map xs RES (of_decide_eq_true h)]
  · cases h
theorem res_ok : D.okNs 59 (RES.map .str) = true := by
  refine okNs_all.mpr fun d hd => ?_
  obtain ⟨x, hx, rfl⟩ := List.mem_map.mp hd
  rw [ok_str]
  unfold RES at hx
  simp only [List.mem_cons, List.not_mem_nil, or_false] at hx
  rcases hx with h | h | h | h | h | h | h | h | h | h | h | h | h | h | h | h | h | h | h | h | h | h | h | h | h | h <;> (rw [h]; exact txt_ok _)
theorem any_res {l : List Nat} : ((RES.map D.str).any fun z => D.eqv z (.str (mk l))) = decide (mk l ∈ RES) := by
  rw [List.any_map, Bool.eq_iff_iff, List.any_eq_true, decide_eq_true_iff]
  constructor
  · rintro ⟨x, hx, h⟩
    have h : (x == mk l) = true := h
    rw [← eq_of_beq h]
    exact hx
  · intro h
    exact ⟨mk l, h, show (mk l == mk l) = true from beq_self_eq_true _⟩
theorem mem_res {l : List Nat} (ho : Okl l) : memD (.str (mk l)) (.ro (RES.map .str)) = some (decide (mk l ∈ RES)) ∧ memD (.str (mk l)) (.lst (RES.map .str)) = some (decide (mk l ∈ RES)) := by
  have h1 : D.okN 60 (.str (mk l)) = true := by rw [ok_str]; exact mk_ok.mpr ho
  have h2 : D.okN 60 (.lst (RES.map .str)) = true := res_ok
  constructor
  · show (if D.okN 60 (.str (mk l)) && D.okNs 59 (RES.map .str) then some ((RES.map D.str).any fun z => D.eqv z (.str (mk l))) else none) = _
    rw [h1, res_ok, any_res]
    rfl
  · show (if D.okN 60 (.str (mk l)) && D.okN 60 (.lst (RES.map .str)) then some ((RES.map D.str).any fun z => D.eqv z (.str (mk l))) else none) = _
    rw [h1, h2, any_res]
    rfl
def freeB (l : List Nat) : Bool := decide (1 ≤ l.length ∧ l.length ≤ 8) && !decide (mk l ∈ RES) && l.all fun c => decide (c ∈ ABC)
theorem is_free_eq {l : List Nat} (hl : l.length ≤ 100000) (ho : Okl l) : n_is_free_word [.str (mk l)] = .ok (.bl (freeB l)) := by
  have e0 := len_mk (l := l) (by omega)
  obtain ⟨m1, _⟩ := mem_res ho
  have hc : Cst.d (.tups RES) = .ro (RES.map .str) := rfl
  have hld : listD (.str (mk l)) = some (l.map fun c => .str (mk [c])) := by rw [← signs_mk]; rfl
  refine run_of ?_
  obtain ⟨q, hq⟩ : ∃ q, q = decide (mk l ∈ RES) := ⟨_, rfl⟩
  have hf : freeB l = (decide (1 ≤ l.length ∧ l.length ≤ 8) && !q && l.all fun c => decide (c ∈ ABC)) := by rw [hq]; rfl
  rw [hf]
  rw [← hq] at m1
  unfold b_is_free_word
  rw [show (Cst.tups ["me", "size", "item", "look", "has", "lacks", "row", "letter", "put", "send", "answer", "if", "else", "end", "rest", "start", "heard", "done", "box", "table", "stamps", "program", "is", "max", "min", "mod"]) = .tups RES from rfl]
  have hcd : Cst.d (.tups RES) = .ro (RES.map .str) := rfl
  clear hf hq
  generalize RES = RR at *
  generalize mk l = w at *
  by_cases h1 : 1 ≤ l.length ∧ l.length ≤ 8
  · have h5 : (1 : Int) ≤ (l.length : Nat) := by omega
    have h6 : ((l.length : Nat) : Int) ≤ 8 := by omega
    cases q with
    | true => simp [hcd, e0, h5, h6, m1]
    | false =>
      simp [hcd, e0, h5, h6, m1, hld, h1]
      refine wf_idx (fun i ρ => (∀ c ∈ l.take i, c ∈ ABC) ∧ ∃ t, ρ = [Sl.fz (.str w), t]) ⟨by simp, .un, rfl⟩ (fun i c hc ρ ⟨hd, t, hρ⟩ => ?_) (fun ρ ⟨hd, t, hρ⟩ => ?_)
      · subst hρ
        have hm := mem_mk (l := ABC) (c := c)
        by_cases q : c ∈ ABC
        · rw [decide_eq_true q] at hm
          rw [take_snocV hc]
          simp [abc_txt, hm]
          intro d hd'
          rcases hd' with h | h
          · exact hd d h
          · rw [h]; exact q
        · have : (l.all fun c => decide (c ∈ ABC)) = false := by
            cases h : (l.all fun c => decide (c ∈ ABC)) with
            | false => rfl
            | true =>
              have := List.all_eq_true.mp h c (List.mem_of_getElem? hc)
              exact absurd (of_decide_eq_true this) q
          rw [decide_eq_false q] at hm
          simp [abc_txt, hm]
          exact ⟨c, List.mem_of_getElem? hc, q⟩
      · subst hρ
        rw [List.take_length] at hd
        simp
        exact hd
  · by_cases q' : (1 : Int) ≤ (l.length : Nat)
    · have : ¬ ((l.length : Nat) : Int) ≤ 8 := by omega
      simp [hcd, e0, q', this, h1]
    · simp [hcd, e0, q', h1]
end U
set_option Elab.async false
set_option linter.all false
set_option maxRecDepth 1000
set_option maxHeartbeats 2000000
/-! VH: words of a line (law k07) -/
namespace U
open PySem L2 DL
theorem law_free_eq {l : List Nat} (hl : l.length ≤ 100000) (ho : Okl l) : n__law_free [.str (mk l)] = .ok (.bl (freeB l)) := by
  have e0 := len_mk (l := l) (by omega)
  obtain ⟨_, m1⟩ := mem_res ho
  have hld : listD (.str (mk l)) = some (l.map fun c => .str (mk [c])) := by rw [← signs_mk]; rfl
  have hr := reserved_eq
  obtain ⟨q, hq⟩ : ∃ q, q = decide (mk l ∈ RES) := ⟨_, rfl⟩
  have hf : freeB l = (decide (1 ≤ l.length ∧ l.length ≤ 8) && !q && l.all fun c => decide (c ∈ ABC)) := by rw [hq]; rfl
  rw [hf]
  rw [← hq] at m1
  clear hf hq
  refine run_of ?_
  generalize RES = RR at *
  generalize mk l = w at *
  by_cases h1 : 1 ≤ l.length ∧ l.length ≤ 8
  · have h5 : (1 : Int) ≤ (l.length : Nat) := by omega
    have h6 : ((l.length : Nat) : Int) ≤ 8 := by omega
    cases q with
    | true => simp [b__law_free, hr, e0, h5, h6, m1]
    | false =>
      simp [b__law_free, hr, e0, h5, h6, m1, hld, h1]
      refine we_filter l (fun c => .str (mk [c])) (fun c => !decide (c ∈ ABC)) (fun c => .str (mk [c])) (by simp [hld]) (by simp) rfl (sz_of (by omega)) (fun c hc => ?_) (fun c hc _ => by simp) ?_
      · have hm := mem_mk (l := ABC) (c := c)
        simp [abc_txt, hm]
      · have hlen : b1D .len (.lst ((l.filter fun c => !decide (c ∈ ABC)).map fun c => D.str (mk [c]))) = some (.int ((l.filter fun c => !decide (c ∈ ABC)).length : Nat)) := by rw [len_lst, List.length_map]
        have he : decide ((((l.filter fun c => !decide (c ∈ ABC)).length : Nat) : Int) = 0) = l.all fun c => decide (c ∈ ABC) := by
          rw [Bool.eq_iff_iff, decide_eq_true_iff, List.all_eq_true]
          constructor
          · intro h c hc
            have h0 : (l.filter fun c => !decide (c ∈ ABC)) = [] := List.length_eq_zero_iff.mp (by omega)
            have := List.filter_eq_nil_iff.mp h0 c hc
            simpa using this
          · intro h
            have h0 : (l.filter fun c => !decide (c ∈ ABC)) = [] := List.filter_eq_nil_iff.mpr fun c hc => by
              have := h c hc
              simpa using this
            rw [h0]
            rfl
        generalize D.lst ((l.filter fun c => !decide (c ∈ ABC)).map fun c => D.str (mk [c])) = L at hlen
        generalize (((l.filter fun c => !decide (c ∈ ABC)).length : Nat) : Int) = z at hlen he
        have hz : eqD (.int z) (.int 0) = some (l.all fun c => decide (c ∈ ABC)) := by rw [eqD_int, he]
        simp [-eqD_int, hlen, hz]
  · by_cases q' : (1 : Int) ≤ (l.length : Nat)
    · have : ¬ ((l.length : Nat) : Int) ≤ 8 := by omega
      simp [b__law_free, hr, e0, q', this, h1]
    · simp [b__law_free, hr, e0, q', h1]
/-- a line's parts at its spaces -/
def parts (acc : List Nat) : List Nat → List (List Nat)
  | [] => [acc]
  | c :: r => if c = 32 then acc :: parts [] r else parts (acc ++ [c]) r
theorem spl_parts : ∀ (l acc : List Nat), TL.spl [32] 0 acc l = parts acc l
  | [], acc => rfl
  | c :: r, acc => by
    by_cases h : c = 32
    · subst h
      rw [TL.spl_hit (by rfl)]
      unfold parts
      rw [if_pos rfl, ← spl_parts r []]
      rfl
    · have : TL.pre [32] (c :: r) = false := by
        show (([c] : List Nat) == [32]) = false
        simp [h]
      rw [TL.spl_miss this, spl_parts r]
      conv => rhs; unfold parts
      rw [if_neg h]
theorem parts_ok : ∀ (l acc : List Nat), Okl l → Okl acc → ∀ p ∈ parts acc l, Okl p
  | [], acc, _, ha, p, hp => by
    rw [show parts acc [] = [acc] from rfl] at hp
    rw [List.mem_singleton.mp hp]
    exact ha
  | c :: r, acc, hl, ha, p, hp => by
    have hr : Okl r := fun d hd => hl d (List.mem_cons_of_mem _ hd)
    unfold parts at hp
    split at hp
    · rcases List.mem_cons.mp hp with h | h
      · rw [h]; exact ha
      · exact parts_ok r [] hr (fun d hd => by cases hd) p h
    · exact parts_ok r (acc ++ [c]) hr (fun d hd => by
        rcases List.mem_append.mp hd with h | h
        · exact ha d h
        · rw [List.mem_singleton.mp h]; exact hl c List.mem_cons_self) p hp
theorem parts_len : ∀ (l acc : List Nat), (parts acc l).length ≤ l.length + 1
  | [], acc => by simp [parts]
  | c :: r, acc => by
    unfold parts
    split
    · have := parts_len r []
      simp
      omega
    · have := parts_len r (acc ++ [c])
      simp
      omega
theorem space_txt : Str.ofString " " = mk [32] := by decide
theorem empty_txt : Str.ofString "" = mk [] := by decide
abbrev sL (ps : List (List Nat)) : List D := ps.map fun p => .str (mk p)
theorem split_mk {l : List Nat} (hl : l.length ≤ 100000) : splitD (.str (mk l)) (.str (mk [32])) = some (.lst (sL (parts [] l))) := by
  show (if (mk [32]).length ≠ 0 ∧ (mk l).length + 2 ≤ sizeL then some (D.lst ((Txt.split (mk l) (mk [32])).map .str)) else none) = _
  rw [if_pos ⟨by rw [mk_len]; simp, by rw [mk_len]; unfold sizeL; omega⟩]
  have h1 : ∀ x : List Nat, (mk x).cps.toList = x := fun x => by simp
  have h := TL.split_spl (mk l) (mk [32]) (by show (mk [32]).cps.toList ≠ []; rw [h1]; simp) (TL.kind_ok (by show (#[32] : Array Nat).all (· < 256) = true; simp))
  have h : (Txt.split (mk l) (mk [32])).map (fun w => w.cps.toList) = TL.spl (mk [32]).cps.toList 0 [] (mk l).cps.toList := h
  rw [h1, h1, spl_parts] at h
  have e : Txt.split (mk l) (mk [32]) = (parts [] l).map mk := by
    rw [← h, List.map_map]
    have : (mk ∘ fun w : Str => w.cps.toList) = id := by
      funext w
      exact mk_of w
    rw [this, List.map_id]
  rw [e, List.map_map]
  rfl
theorem mem_parts {ps : List (List Nat)} (h : ∀ p ∈ ps, Okl p) : memD (.str (mk [])) (.tup (sL ps)) = some (decide (([] : List Nat) ∈ ps)) := by
  have o1 : D.okN 60 (.str (mk [])) = true := by rw [ok_str]; exact mk_ok.mpr fun c hc => by cases hc
  have o2 : D.okN 60 (.tup (sL ps)) = true := by
    show D.okNs 59 (sL ps) = true
    refine okNs_all.mpr fun d hd => ?_
    obtain ⟨p, hp, rfl⟩ := List.mem_map.mp hd
    rw [ok_str]
    exact mk_ok.mpr (h p hp)
  show (if D.okN 60 (.str (mk [])) && D.okN 60 (.tup (sL ps)) then some ((sL ps).any fun z => D.eqv z (.str (mk []))) else none) = _
  rw [o1, o2]
  show some ((sL ps).any fun z => D.eqv z (.str (mk []))) = _
  have e : ((sL ps).any fun z => D.eqv z (.str (mk []))) = decide (([] : List Nat) ∈ ps) := by
    rw [List.any_map, Bool.eq_iff_iff, List.any_eq_true, decide_eq_true_iff]
    constructor
    · rintro ⟨x, hx, h⟩
      have h : (mk x == mk []) = true := h
      rw [← mk_inj.mp (eq_of_beq h)]
      exact hx
    · intro h
      exact ⟨[], h, show (mk [] == mk []) = true from beq_self_eq_true _⟩
  rw [e]
theorem words_of_eq {l : List Nat} (hl : l.length ≤ 100000) (ho : Okl l) : n_words_of [.str (mk l)] = .ok (if ([] : List Nat) ∈ parts [] l then .non else .tup (sL (parts [] l))) := by
  have hs := split_mk hl
  have hm := mem_parts (parts_ok l [] ho fun c hc => by cases hc)
  refine run_of ?_
  generalize parts [] l = ps at *
  generalize sL ps = L at *
  generalize mk l = w at *
  by_cases h : ([] : List Nat) ∈ ps
  · rw [decide_eq_true h] at hm
    simp [b_words_of, space_txt, hs, empty_txt, hm, h]
  · rw [decide_eq_false h] at hm
    simp [b_words_of, space_txt, hs, empty_txt, hm, h]
theorem law_words_eq {l : List Nat} (hl : l.length ≤ 100000) (ho : Okl l) : n__law_words [.str (mk l)] = .ok (if ([] : List Nat) ∈ parts [] l then .non else .lst (sL (parts [] l))) := by
  have ha := add_str (x := mk l) (y := mk [32]) (by rw [mk_len, mk_len]; simp; omega)
  rw [mk_app] at ha
  have hld : listD (.str (mk (l ++ [32]))) = some ((l ++ [32]).map fun c => .str (mk [c])) := by rw [← signs_mk]; rfl
  have hpl := parts_len l []
  refine run_of ?_
  have oo : Okl (l ++ [32]) := fun c hc => by
    rcases List.mem_append.mp hc with h | h
    · exact ho c h
    · rw [List.mem_singleton.mp h]; omega
  generalize mk (l ++ [32]) = w2 at *
  generalize mk l = w at *
  simp [-List.map_append, b__law_words, space_txt, ha, empty_txt, hld]
  refine wf_idx (fun i ρ => ∃ (ws : List (List Nat)) (acc : List Nat) (t : Sl), (i ≤ l.length → ws ++ parts acc (l.drop i) = parts [] l) ∧ (l.length < i → ws = parts [] l) ∧ [] ∉ ws ∧ Okl acc ∧ acc.length ≤ i ∧ ws.length ≤ i ∧ ρ = [Sl.fz (.str w), .ow (.lst (sL ws)), .fz (.str (mk acc)), t]) ⟨[], [], .un, fun _ => by simp, fun h => by omega, by simp, fun c hc => by (cases hc), by simp, by simp, rfl⟩
    (fun i c hc ρ ⟨ws, acc, t, q1, q2, q3, q4, q5, q6, hρ⟩ => ?_) (fun ρ ⟨ws, acc, t, q1, q2, q3, q4, q5, q6, hρ⟩ => ?_)
  · subst hρ
    have hi : i < (l ++ [32]).length := (List.getElem?_eq_some_iff.mp hc).1
    rw [List.length_append, List.length_singleton] at hi
    have q1 := q1 (by omega)
    have hcm := List.mem_of_getElem? hc
    have oc := oo c hcm
    have e1 := eqD_mk (a := [c]) (b := [32]) (okl_one oc) (okl_one (by omega))
    have e2 := eqD_mk (a := acc) (b := []) q4 (fun c hc => by cases hc)
    have hwl : (sL ws).length < 16777216 := by rw [List.length_map]; omega
    have hadd := add_str (x := mk acc) (y := mk [c]) (by rw [mk_len, mk_len]; simp; omega)
    rw [mk_app] at hadd
    have happ : sL ws ++ [.str (mk acc)] = sL (ws ++ [acc]) := by simp
    by_cases h32 : c = 32
    · subst h32
      have e1 : eqD (.str (mk [32])) (.str (mk [32])) = some true := by rw [e1]; rfl
      by_cases ha0 : acc = []
      · -- an empty word
        subst ha0
        have e2 : eqD (.str (mk [])) (.str (mk [])) = some true := by rw [e2]; rfl
        have hmem : ([] : List Nat) ∈ parts [] l := by
          rw [← q1]
          refine List.mem_append_right _ ?_
          by_cases hl2 : i < l.length
          · rw [List.drop_eq_getElem_cons hl2]
            have : l[i] = 32 := by
              rw [List.getElem?_append_left hl2, List.getElem?_eq_getElem hl2] at hc
              exact Option.some.inj hc
            rw [this]
            unfold parts
            rw [if_pos rfl]
            exact List.mem_cons_self
          · rw [List.drop_eq_nil_of_le (by omega)]
            exact List.mem_singleton.mpr rfl
        simp [e1, e2, hmem]
      · have e2 : eqD (.str (mk acc)) (.str (mk [])) = some false := by rw [e2, decide_eq_false ha0]
        simp [-List.map_append, e1, e2, hwl]
        refine ⟨by simpa using hwl, ws ++ [acc], [], ?_, ?_, ?_, fun c hc => by (cases hc), Nat.zero_le _, by rw [List.length_append, List.length_singleton]; omega, happ, rfl⟩
        · intro hle
          rw [← q1]
          have hl2 : i < l.length := by omega
          rw [List.drop_eq_getElem_cons hl2]
          have : l[i] = 32 := by
            rw [List.getElem?_append_left hl2, List.getElem?_eq_getElem hl2] at hc
            exact Option.some.inj hc
          rw [this]
          conv => rhs; unfold parts
          rw [if_pos rfl, List.append_assoc]
          rfl
        · intro hgt
          rw [← q1, List.drop_eq_nil_of_le (by omega)]
          rfl
        · simp
          exact ⟨q3, ha0⟩
    · have e1 : eqD (.str (mk [c])) (.str (mk [32])) = some false := by rw [e1]; simp [h32]
      have hl2 : i < l.length := by
        rcases Nat.lt_or_ge i l.length with h | h
        · exact h
        · exfalso
          have : i = l.length := by omega
          subst this
          rw [List.getElem?_append_right (Nat.le_refl _), Nat.sub_self] at hc
          exact h32 (Option.some.inj hc).symm
      have hci : l[i] = c := by
        rw [List.getElem?_append_left hl2, List.getElem?_eq_getElem hl2] at hc
        exact Option.some.inj hc
      simp [-List.map_append, e1, hadd]
      refine ⟨ws, acc ++ [c], ?_, ?_, q3, ?_, by simp; omega, by omega, rfl, rfl⟩
      · intro _
        rw [← q1, List.drop_eq_getElem_cons hl2, hci]
        conv => rhs; unfold parts
        rw [if_neg h32]
      · intro h; omega
      · intro d hd
        rcases List.mem_append.mp hd with h | h
        · exact q4 d h
        · rw [List.mem_singleton.mp h]; exact oc
  · subst hρ
    have e : ws = parts [] l := q2 (by simp)
    subst e
    simp [q3]
end U
set_option Elab.async false
set_option linter.all false
set_option maxRecDepth 1000
set_option maxHeartbeats 2000000
/-! VI: a text is read right (law k07) -/
namespace U
open PySem L2 DL
theorem nl_txt : Str.ofString "\n" = mk [10] := by decide
theorem string_right_eq {l : List Nat} (hl : l.length ≤ 100000) (ho : Okl l) : n__law_string_right [.str (mk l)] = .ok (.bl true) := by
  have e1 := number_of_eq hl ho
  have e2 := numeral_eq hl ho
  have e3 := is_free_eq hl ho
  have e4 := law_free_eq hl ho
  have e5 := words_of_eq hl ho
  have e6 := law_words_eq hl ho
  have e7 := truth_eq (freeB l)
  have hm := mem_mk (l := l) (c := 10)
  have hpl := parts_len l []
  have hok := parts_ok l [] ho fun c hc => by cases hc
  generalize freeB l = fb at *
  generalize parts [] l = ps at *
  generalize numI l = o at *
  generalize mk l = w at *
  refine run_of ?_
  have hw : ∀ i : Int, n__law_whole [.int i] = .ok (.bl true) := fun i => by rfl
  by_cases hn : 10 ∈ l
  · rw [decide_eq_true hn] at hm
    cases o with
    | none => simp [b__law_string_right, e1, e2, oD, DL.isNon, hw, e3, e4, e7, nl_txt, hm]
    | some i => simp [b__law_string_right, e1, e2, oD, DL.isNon, hw, e3, e4, e7, nl_txt, hm]
  · rw [decide_eq_false hn] at hm
    by_cases hq : ([] : List Nat) ∈ ps
    · rw [if_pos hq] at e5 e6
      cases o with
      | none => simp [b__law_string_right, e1, e2, oD, DL.isNon, hw, e3, e4, e7, nl_txt, hm, e5, e6]
      | some i => simp [b__law_string_right, e1, e2, oD, DL.isNon, hw, e3, e4, e7, nl_txt, hm, e5, e6]
    · rw [if_neg hq] at e5 e6
      have key : ∀ (k : Nat), k < ps.length → ∃ p, Okl p ∧ ixD (.tup (sL ps)) (.int (k : Nat)) = some (.str (mk p)) ∧ ixD (.lst (sL ps)) (.int (k : Nat)) = some (.str (mk p)) := fun k hk => by
        have hs : k < (sL ps).length := by simp; exact hk
        have i1 : L2.atI (sL ps) (k : Nat) = some ((sL ps)[k]) := at_nat hs
        rw [List.getElem_map] at i1
        exact ⟨ps[k], hok _ (List.getElem_mem hk), i1, i1⟩
      cases o with
      | none =>
        simp [b__law_string_right, e1, e2, oD, DL.isNon, hw, e3, e4, e7, nl_txt, hm, e5, e6]
        refine we_filter (List.range ps.length) (fun k => .int (k : Nat)) (fun _ => false) (fun _ => .non) (by simp [rng0_len (n := ps.length) (by omega)]) (by simp) rfl (by unfold sizeL; simp; omega) (fun k hk => ?_) (fun _ _ h => by cases h) ?_
        · obtain ⟨p, op, i1, i2⟩ := key k (List.mem_range.mp hk)
          have e := eqD_mk op op
          generalize sL ps = L at *
          simp [i1, i2, e]
        · simp
      | some i =>
        simp [b__law_string_right, e1, e2, oD, DL.isNon, hw, e3, e4, e7, nl_txt, hm, e5, e6]
        refine we_filter (List.range ps.length) (fun k => .int (k : Nat)) (fun _ => false) (fun _ => .non) (by simp [rng0_len (n := ps.length) (by omega)]) (by simp) rfl (by unfold sizeL; simp; omega) (fun k hk => ?_) (fun _ _ h => by cases h) ?_
        · obtain ⟨p, op, i1, i2⟩ := key k (List.mem_range.mp hk)
          have e := eqD_mk op op
          generalize sL ps = L at *
          simp [i1, i2, e]
        · simp
end U
set_option Elab.async false
set_option linter.all false
set_option maxRecDepth 1000
set_option maxHeartbeats 2000000
/-! VK: words of bounded length (law k07) -/
namespace U
open PySem L2 DL
structure Ws (B : Nat) (w : Str) : Prop where
  ok : PyData.strOk w = true
  len : w.length ≤ B
theorem Ws.str {B : Nat} {w : Str} (h : Ws B w) (hB : B ≤ 100000) : n__law_string_right [.str w] = .ok (.bl true) := by
  have e := mk_of w
  rw [← e]
  refine string_right_eq ?_ ?_
  · have := h.len
    rw [← e, mk_len] at this
    omega
  · refine mk_ok.mp ?_
    rw [e]
    exact h.ok
theorem Ws.up {A B : Nat} {w : Str} (h : Ws A w) (hB : A ≤ B) : Ws B w := ⟨h.ok, Nat.le_trans h.len hB⟩
theorem Ws.lit (s : String) {B : Nat} (h : s.toList.length ≤ B) : Ws B (Str.ofString s) := ⟨txt_ok s, by rw [len_ofS]; exact h⟩
theorem Ws.add {A B C : Nat} {x y : Str} (hx : Ws A x) (hy : Ws B y) (h : A + B ≤ C) (hC : C ≤ 1000000) : Ws C (x ++ y) ∧ bopD .add (.str x) (.str y) = some (.str (x ++ y)) := by
  have h1 := hx.len
  have h2 := hy.len
  exact ⟨⟨strOk_app hx.ok hy.ok, by rw [len_app]; omega⟩, add_str (by omega)⟩
theorem cutL_sub {α : Type} {l : List α} {lo hi : Option Int} : (∀ c ∈ cutL l lo hi, c ∈ l) ∧ (cutL l lo hi).length ≤ l.length := by
  unfold cutL
  constructor
  · intro c hc
    exact List.mem_of_mem_drop (List.mem_of_mem_take hc)
  · rw [List.length_take, List.length_drop]
    omega
theorem Ws.cut {B : Nat} {w : Str} (h : Ws B w) (hB : B ≤ 1000000) (lo hi : Option Int) : ∃ v, Ws B v ∧ slD (.str w) lo hi = some (.str v) := by
  have e := mk_of w
  rw [← e] at h ⊢
  generalize w.cps.toList = l at *
  have hl := h.len
  rw [mk_len] at hl
  obtain ⟨c1, c2⟩ := cutL_sub (l := l) (lo := lo) (hi := hi)
  refine ⟨U.mk (cutL l lo hi), ⟨?_, ?_⟩, sl_mk (by omega) lo hi⟩
  · exact mk_ok.mpr fun c hc => mk_ok.mp h.ok c (c1 c hc)
  · rw [mk_len]; omega
theorem Ws.lenE {B : Nat} {w : Str} (h : Ws B w) (hB : B ≤ 1000000) : ∃ n : Nat, n ≤ B ∧ b1D .len (.str w) = some (.int (n : Nat)) := ⟨w.length, h.len, by
  show (if w.length ≤ sizeL then some (D.int w.length) else none) = _
  have := h.len
  rw [if_pos (by unfold sizeL; omega)]⟩
/-- a list of words -/
def WLs (B : Nat) (ds : List D) : Prop := ∀ d ∈ ds, ∃ w, d = .str w ∧ Ws B w
theorem WLs.nil {B : Nat} : WLs B [] := fun d h => by cases h
theorem WLs.cons {B : Nat} {w : Str} {ds : List D} (h : Ws B w) (hr : WLs B ds) : WLs B (.str w :: ds) := fun d hd => by
  rcases List.mem_cons.mp hd with e | e
  · exact ⟨w, e, h⟩
  · exact hr d e
theorem WLs.app {B : Nat} {xs ys : List D} (h : WLs B xs) (hr : WLs B ys) : WLs B (xs ++ ys) := fun d hd => by
  rcases List.mem_append.mp hd with e | e
  · exact h d e
  · exact hr d e
theorem WLs.up {A B : Nat} {xs : List D} (h : WLs A xs) (hB : A ≤ B) : WLs B xs := fun d hd => by
  obtain ⟨w, e, h⟩ := h d hd
  exact ⟨w, e, h.up hB⟩
theorem spoilt_ex {B : Nat} {w s : Str} (hw : Ws B w) (hs : Ws 1 s) (hB : B ≤ 10000) (p : Int) : ∃ ds, n__law_spoilt [.str w, .int p, .str s] = .ok (.lst ds) ∧ WLs (2 * B + 1) ds ∧ ds.length = 3 := by
  obtain ⟨n, hn, hl⟩ := hw.lenE (by omega)
  obtain ⟨a, ha⟩ : ∃ a, a = p % ((n : Int) + 1) := ⟨_, rfl⟩
  have hp : (0 : Int) < (n : Int) + 1 := by omega
  obtain ⟨A, hA, eA⟩ := hw.cut (by omega) none (some a)
  obtain ⟨C, hC, eC⟩ := hw.cut (by omega) (some a) none
  obtain ⟨E, hE, eE⟩ := hw.cut (by omega) (some (a + 1)) none
  obtain ⟨w1, e1⟩ := hA.add hs (C := B + 1) (by omega) (by omega)
  obtain ⟨w2, e2⟩ := w1.add hC (C := 2 * B + 1) (by omega) (by omega)
  obtain ⟨w3, e3⟩ := w1.add hE (C := 2 * B + 1) (by omega) (by omega)
  obtain ⟨w4, e4⟩ := hA.add hE (C := 2 * B + 1) (by omega) (by omega)
  refine ⟨_, run_of ?_, .cons w2 (.cons w3 (.cons w4 .nil)), rfl⟩
  have ha0 : 0 ≤ a := by rw [ha]; exact Int.emod_nonneg _ (by omega)
  have ha1 : a < (n : Int) + 1 := by rw [ha]; exact Int.emod_lt_of_pos _ hp
  simp [b__law_spoilt, hl, hp, ← ha, eA, eC, eE, e1, e2, e3, e4]
end U
set_option Elab.async false
set_option linter.all false
set_option maxRecDepth 1000
set_option maxHeartbeats 4000000
/-! VL: words of numerals and names (law k07) -/
namespace U
open PySem L2 DL
theorem numerals_ex {i p : Int} {s : Str} (hs : Ws 1 s) (h : i.natAbs < 10 ^ 7) : ∃ ds, n__law_numerals [.int i, .int p, .str s] = .ok (.lst ds) ∧ WLs 100 ds ∧ ds.length ≤ 1000 ∧ ∃ d r, ds = d :: r := by
  have e0 : b1D .str (.int i) = some (.str (numS i)) := str_int (Nat.lt_trans h (by decide +kernel))
  have w0 : Ws 10 (numS i) := ⟨num_ok i, by have := num_len (k := 7) (by decide) h; omega⟩
  generalize numS i = w at e0 w0
  have l1 := Ws.lit "-" (B := 1) (by decide)
  have l2 := Ws.lit "+" (B := 1) (by decide)
  have l3 := Ws.lit "0" (B := 1) (by decide)
  have l4 := Ws.lit " " (B := 1) (by decide)
  have l5 := Ws.lit "\n" (B := 1) (by decide)
  obtain ⟨a1, b1⟩ := l1.add w0 (C := 100) (by omega) (by omega)
  obtain ⟨a2, b2⟩ := l2.add w0 (C := 100) (by omega) (by omega)
  obtain ⟨a3, b3⟩ := l3.add w0 (C := 100) (by omega) (by omega)
  obtain ⟨a4, b4⟩ := l4.add w0 (C := 100) (by omega) (by omega)
  obtain ⟨a5, b5⟩ := w0.add l4 (C := 100) (by omega) (by omega)
  obtain ⟨a6, b6⟩ := w0.add l5 (C := 100) (by omega) (by omega)
  obtain ⟨a7, b7⟩ := l5.add w0 (C := 100) (by omega) (by omega)
  obtain ⟨a8, b8⟩ := w0.add l1 (C := 100) (by omega) (by omega)
  obtain ⟨d1, f1, g1, n1⟩ := spoilt_ex (Ws.lit "123456" (B := 10) (by decide)) hs (by omega) p
  obtain ⟨d2, f2, g2, n2⟩ := spoilt_ex (Ws.lit "-98765" (B := 10) (by decide)) hs (by omega) p
  obtain ⟨d3, f3, g3, n3⟩ := spoilt_ex w0 hs (by omega) p
  have g1 := g1.up (B := 100) (by omega)
  have g2 := g2.up (B := 100) (by omega)
  have g3 := g3.up (B := 100) (by omega)
  have w0 := w0.up (B := 100) (by omega)
  have k1 := Ws.lit "" (B := 100) (by decide)
  have k2 := Ws.lit "-" (B := 100) (by decide)
  have k3 := Ws.lit "0" (B := 100) (by decide)
  have k4 := Ws.lit "-0" (B := 100) (by decide)
  have k5 := Ws.lit "00" (B := 100) (by decide)
  have k6 := Ws.lit "-00" (B := 100) (by decide)
  have k7 := Ws.lit "999999" (B := 100) (by decide)
  have k8 := Ws.lit "1000000" (B := 100) (by decide)
  have k9 := Ws.lit "-999999" (B := 100) (by decide)
  have k10 := Ws.lit "-1000000" (B := 100) (by decide)
  have k11 := Ws.lit "0000007" (B := 100) (by decide)
  have k12 := Ws.lit "1_0" (B := 100) (by decide)
  have k13 := Ws.lit "1.0" (B := 100) (by decide)
  have W1 := WLs.cons w0 (.cons k1 (.cons k2 (.cons k3 (.cons k4 (.cons k5 (.cons k6 (.cons k7 (.cons k8 (.cons k9 (.cons k10 (.cons k11 (.cons k12 (.cons k13 .nil)))))))))))))
  have W2 := WLs.cons a1 (.cons a2 (.cons a3 (.cons a4 (.cons a5 (.cons a6 (.cons a7 (.cons a8 .nil)))))))
  obtain ⟨L1, hL1⟩ : ∃ L, L = [D.str w, .str (Str.ofString ""), .str (Str.ofString "-"), .str (Str.ofString "0"), .str (Str.ofString "-0"), .str (Str.ofString "00"), .str (Str.ofString "-00"), .str (Str.ofString "999999"), .str (Str.ofString "1000000"), .str (Str.ofString "-999999"), .str (Str.ofString "-1000000"), .str (Str.ofString "0000007"), .str (Str.ofString "1_0"), .str (Str.ofString "1.0")] := ⟨_, rfl⟩
  refine ⟨(((_ ++ _) ++ d1) ++ d2) ++ d3, run_of ?_, ((((W1.app W2).app g1).app g2).app g3), by simp [n1, n2, n3], _, _, rfl⟩
  simp [b__law_numerals, e0, b1, b2, b3, b4, b5, b6, b7, b8, f1, f2, f3, n1, n2, n3]
end U
set_option Elab.async false
set_option linter.all false
set_option maxRecDepth 1000
set_option maxHeartbeats 4000000
/-! VM: joined words, repeated words, upper words; names (law k07) -/
namespace U
open PySem L2 DL
theorem join_plain (sep : Str) (l : List Str) : Txt.join sep l = Str.join sep l := by
  have h := PyProof.Rows.join_plain_closes sep l
  exact eq_of_beq h
theorem mem_join {sep : Str} : ∀ (l : List Str), ∀ c ∈ (Str.join sep l).cps.toList, c ∈ sep.cps.toList ∨ ∃ x ∈ l, c ∈ x.cps.toList
  | [], c, h => by simp [Str.join, Str.empty] at h
  | [x], c, h => .inr ⟨x, List.mem_cons_self, h⟩
  | x :: y :: r, c, h => by
    have h : c ∈ ((x.cps ++ sep.cps) ++ (Str.join sep (y :: r)).cps).toList := h
    rw [Array.toList_append, Array.toList_append] at h
    rcases List.mem_append.mp h with h | h
    · rcases List.mem_append.mp h with h | h
      · exact .inr ⟨x, List.mem_cons_self, h⟩
      · exact .inl h
    · rcases mem_join (y :: r) c h with h | ⟨z, hz, h⟩
      · exact .inl h
      · exact .inr ⟨z, List.mem_cons_of_mem _ hz, h⟩
theorem strOk_mem {w : Str} : PyData.strOk w = true ↔ ∀ c ∈ w.cps.toList, c < 1114112 := by
  have e := mk_of w
  rw [← e]
  generalize w.cps.toList = l
  rw [mk_ok]
  simp [Okl]
theorem strsOf_str : ∀ xs : List Str, strsOf (xs.map .str) = some xs
  | [] => rfl
  | x :: r => by
    show (strsOf (r.map .str)).map (x :: ·) = _
    rw [strsOf_str r]
    rfl
theorem sum_le_len {A : Nat} : ∀ xs : List Str, (∀ x ∈ xs, x.length ≤ A) → (xs.map (·.length)).sum ≤ xs.length * A
  | [], _ => by simp
  | x :: r, h => by
    have h1 := h x List.mem_cons_self
    have h2 := sum_le_len r fun y hy => h y (List.mem_cons_of_mem _ hy)
    rw [List.map_cons, List.sum_cons, List.length_cons, Nat.add_mul]
    omega
theorem wls_strs {B : Nat} : ∀ ds : List D, WLs B ds → ∃ xs : List Str, ds = xs.map .str ∧ ∀ x ∈ xs, Ws B x
  | [], _ => ⟨[], rfl, fun x h => by cases h⟩
  | d :: r, h => by
    obtain ⟨w, e, hw⟩ := h d List.mem_cons_self
    obtain ⟨xs, e2, hx⟩ := wls_strs r fun z hz => h z (List.mem_cons_of_mem _ hz)
    refine ⟨w :: xs, by rw [e, e2]; rfl, fun x hx' => ?_⟩
    rcases List.mem_cons.mp hx' with q | q
    · rw [q]; exact hw
    · exact hx x q
theorem join_ex {A S n C : Nat} {sep : Str} {ds : List D} (hs : Ws S sep) (hd : WLs A ds) (hn : ds.length ≤ n) (hC : n * (A + S) ≤ C) (hb : C ≤ 1000000) : ∃ v, Ws C v ∧ m1D .join (.str sep) (.lst ds) = some (.str v) := by
  obtain ⟨xs, rfl, hx⟩ := wls_strs ds hd
  have h1 := sum_le_len xs fun x hx' => (hx x hx').len
  have h2 := hs.len
  rw [List.length_map] at hn
  have h3 : xs.length * sep.length ≤ n * S := Nat.mul_le_mul hn h2
  have h4 : xs.length * A ≤ n * A := Nat.mul_le_mul_right _ hn
  rw [Nat.mul_add] at hC
  refine ⟨Txt.join sep xs, ⟨?_, ?_⟩, ?_⟩
  · rw [join_plain]
    refine strOk_mem.mpr fun c hc => ?_
    rcases mem_join xs c hc with h | ⟨x, hx', h⟩
    · exact strOk_mem.mp hs.ok c h
    · exact strOk_mem.mp (hx x hx').ok c h
  · rw [join_plain]
    have := StrLaws.join_length_le sep xs
    omega
  · show ((strsOf (xs.map .str)).bind fun ys => if (ys.map (·.length)).sum + ys.length * sep.length ≤ 16777216 then some (D.str (Txt.join sep ys)) else none) = _
    rw [strsOf_str]
    show (if (xs.map (·.length)).sum + xs.length * sep.length ≤ 16777216 then some (D.str (Txt.join sep xs)) else none) = _
    rw [if_pos (by omega)]
/-- words of plain signs -/
structure Wa (B : Nat) (w : Str) : Prop where
  lo : ∀ c ∈ w.cps.toList, c < 128
  len : w.length ≤ B
theorem Wa.ws {B : Nat} {w : Str} (h : Wa B w) : Ws B w := ⟨strOk_mem.mpr fun c hc => Nat.lt_trans (h.lo c hc) (by decide), h.len⟩
theorem Wa.upper {B : Nat} {w : Str} (h : Wa B w) (hB : B ≤ 100000) : ∃ v, Ws B v ∧ b1D .upper (.str w) = some (.str v) := by
  have hl := h.len
  refine ⟨Txt.upper w, ?_, ?_⟩
  · rw [PyProof.Rows.upper_ascii h.lo]
    refine ⟨strOk_mem.mpr fun c hc => ?_, ?_⟩
    · have hc : c ∈ (w.cps.map PyProof.Rows.up1).toList := hc
      rw [Array.toList_map] at hc
      obtain ⟨d, hd, rfl⟩ := List.mem_map.mp hc
      have := h.lo d hd
      unfold PyProof.Rows.up1
      split <;> omega
    · show (w.cps.map PyProof.Rows.up1).size ≤ B
      rw [Array.size_map]
      exact hl
  · show (if w.length ≤ 5592405 then some (D.str (Txt.upper w)) else none) = _
    rw [if_pos (by omega)]
theorem rep_mem {x : Array Nat} : ∀ (k : Nat) (a : Array Nat), (∀ c ∈ ((List.replicate k x).foldl (· ++ ·) a).toList, c ∈ a.toList ∨ c ∈ x.toList)
  | 0, a, c, h => .inl h
  | k + 1, a, c, h => by
    rw [List.replicate_succ, List.foldl_cons] at h
    rcases rep_mem k _ c h with h | h
    · rw [Array.toList_append] at h
      rcases List.mem_append.mp h with h | h
      · exact .inl h
      · exact .inr h
    · exact .inr h
theorem rep_size {x : Array Nat} : ∀ (k : Nat) (a : Array Nat), ((List.replicate k x).foldl (· ++ ·) a).size = a.size + k * x.size
  | 0, a => by simp
  | k + 1, a => by
    rw [List.replicate_succ, List.foldl_cons, rep_size k, Array.size_append, Nat.add_mul]
    omega
theorem Wa.rep {B : Nat} {w : Str} (h : Wa B w) (hB : B ≤ 1000) (h1 : 1 ≤ w.length) {k : Nat} (k1 : 2 ≤ k) (k2 : k ≤ 1000) : ∃ v, Wa (k * B) v ∧ bopD .mul (.str w) (.int (k : Nat)) = some (.str v) := by
  have hl := h.len
  refine ⟨strRep w k, ⟨fun c hc => ?_, ?_⟩, ?_⟩
  · rcases rep_mem k #[] c hc with h' | h'
    · cases h'
    · exact h.lo c h'
  · show ((List.replicate k w.cps).foldl (· ++ ·) #[]).size ≤ _
    rw [rep_size]
    have : k * w.cps.size ≤ k * B := Nat.mul_le_mul_left _ hl
    simpa using this
  · show mulS w (k : Nat) = _
    unfold mulS
    rw [if_pos ⟨by omega, by omega, h1, by omega⟩]
    rfl
end U
set_option Elab.async false
set_option linter.all false
set_option maxRecDepth 1000
set_option maxHeartbeats 4000000
/-! VN: names (law k07) -/
namespace U
open PySem L2 DL
theorem join_lo {n : Nat} {xs : List Str} (hx : ∀ x ∈ xs, Wa 1 x ∧ x.length = 1) (h1 : 1 ≤ xs.length) (hn : xs.length ≤ n) (hb : n ≤ 100000) : ∃ v, Wa n v ∧ 1 ≤ v.length ∧ m1D .join (.str (Str.ofString "")) (.lst (xs.map .str)) = some (.str v) := by
  have e0 : Str.ofString "" = mk [] := by decide
  have l0 : (Str.ofString "").length = 0 := by rw [e0]; rfl
  have h2 := sum_le_len (A := 1) xs fun x h => (hx x h).1.len
  have h3 := PyProof.Rows.len_join_ge_sum (Str.ofString "") xs
  have h4 : xs.length ≤ (xs.map (·.length)).sum := by
    clear h1 hn h2 h3
    induction xs with
    | nil => simp
    | cons x r ih =>
      have := ih fun y hy => hx y (List.mem_cons_of_mem _ hy)
      have q := (hx x List.mem_cons_self).2
      rw [List.map_cons, List.sum_cons, List.length_cons]
      omega
  have h5 := StrLaws.join_length_le (Str.ofString "") xs
  rw [l0] at h5
  refine ⟨Txt.join (Str.ofString "") xs, ⟨?_, ?_⟩, by omega, ?_⟩
  · rw [join_plain]
    intro c hc
    rcases mem_join xs c hc with h | ⟨x, hx', h⟩
    · rw [e0] at h
      simp at h
    · exact (hx x hx').1.lo c h
  · rw [join_plain]; omega
  · show ((strsOf (xs.map .str)).bind fun ys => if (ys.map (·.length)).sum + ys.length * (Str.ofString "").length ≤ 16777216 then some (D.str (Txt.join (Str.ofString "") ys)) else none) = _
    rw [strsOf_str]
    show (if (xs.map (·.length)).sum + xs.length * (Str.ofString "").length ≤ 16777216 then some (D.str (Txt.join (Str.ofString "") xs)) else none) = _
    rw [if_pos (by rw [l0]; omega)]
theorem abc_ix {k : Int} (h0 : 0 ≤ k) (h1 : k < 26) : ∃ x : Str, (Wa 1 x ∧ x.length = 1) ∧ ixD (.str (mk ABC)) (.int k) = some (.str x) := by
  obtain ⟨m, rfl⟩ := Int.eq_ofNat_of_zero_le h0
  have hm : m < ABC.length := by show m < 26; omega
  refine ⟨mk [ABC[m]], ⟨⟨fun c hc => ?_, by simp [mk_len]⟩, by simp [mk_len]⟩, ix_mk (by show 26 ≤ _; decide) (at_nat hm)⟩
  have hc : c ∈ [ABC[m]] := by simpa using hc
  rw [List.mem_singleton.mp hc]
  have := abc_mem.mp (List.getElem_mem hm)
  omega
theorem res_wa : ∀ w ∈ RES, Wa 10 w ∧ 1 ≤ w.length := by
  have h : (RES.all fun w => (w.cps.toList.all fun c => decide (c < 128)) && decide (w.length ≤ 10) && decide (1 ≤ w.length)) = true := by decide +kernel
  intro w hw
  have := List.all_eq_true.mp h w hw
  simp only [Bool.and_eq_true, decide_eq_true_iff] at this
  obtain ⟨⟨a, b⟩, c⟩ := this
  exact ⟨⟨fun d hd => of_decide_eq_true (List.all_eq_true.mp a d hd), b⟩, c⟩
theorem names_ex {r : List Int} {p : Int} {s : Str} (hs : Ws 1 s) (hr : r.length = 9) (h0 : ∀ x ∈ r, 0 ≤ x) : ∃ ds, n__law_names_v3 [.lst (iL r), .int p, .str s] = .ok (.lst ds) ∧ WLs 200 ds ∧ ds.length ≤ 1000 := by
  obtain ⟨a, ha⟩ : ∃ a, r[0]? = some a := ⟨r[0], List.getElem?_eq_getElem (by omega)⟩
  have hix : L2.atI (iL r) 0 = some (.int a) := by
    have := at_nat (xs := iL r) (k := 0) (by simp; omega)
    rw [show ((0 : Nat) : Int) = 0 from rfl] at this
    rw [this, List.getElem_map]
    rw [List.getElem?_eq_getElem (by omega)] at ha
    rw [Option.some.inj ha]
  have hcut : cutL (iL r) (some 1) (some (2 + a % 8)) = iL ((r.drop 1).take (2 + a % 8 - 1).toNat) := by
    have q0 : 0 ≤ a % 8 := Int.emod_nonneg _ (by omega)
    rw [cut_mid (by omega) (by omega)]
    rw [← List.map_drop, ← List.map_take]
    congr 2
    omega
  have hns : ∀ x ∈ (r.drop 1).take (2 + a % 8 - 1).toNat, 0 ≤ x := fun x hx => h0 x (List.mem_of_mem_drop (List.mem_of_mem_take hx))
  have hnl : 1 ≤ ((r.drop 1).take (2 + a % 8 - 1).toNat).length ∧ ((r.drop 1).take (2 + a % 8 - 1).toNat).length ≤ 8 := by
    have q0 : 0 ≤ a % 8 := Int.emod_nonneg _ (by omega)
    have q1 : a % 8 < 8 := Int.emod_lt_of_pos _ (by omega)
    rw [List.length_take, List.length_drop]
    omega
  generalize (r.drop 1).take (2 + a % 8 - 1).toNat = ns at *
  have hf : ∃ f : Int → Str, ∀ n, 0 ≤ n → ((Wa 1 (f n) ∧ (f n).length = 1) ∧ ixD (.str (mk ABC)) (.int (n % 26)) = some (.str (f n))) := by
    refine ⟨fun n => if h : 0 ≤ n % 26 ∧ n % 26 < 26 then (abc_ix h.1 h.2).choose else mk [], fun n hn => ?_⟩
    have h : 0 ≤ n % 26 ∧ n % 26 < 26 := by omega
    simp only [dif_pos h]
    exact (abc_ix h.1 h.2).choose_spec
  obtain ⟨f, hf⟩ := hf
  obtain ⟨w, hw, hw1, hj⟩ := join_lo (n := 8) (xs := ns.map f) (fun x hx => by
    obtain ⟨n, hn, rfl⟩ := List.mem_map.mp hx
    exact (hf n (hns n hn)).1) (by simp; omega) (by simp; omega) (by omega)
  rw [List.map_map] at hj
  obtain ⟨w9, hw9, e9⟩ := hw.rep (by omega) hw1 (k := 9) (by omega) (by omega)
  rw [show ((9 : Nat) : Int) = 9 from rfl] at e9
  obtain ⟨lo, hlo, elo⟩ := hw9.ws.cut (by omega) none (some 8)
  have hw := hw
  obtain ⟨up, hup, eup⟩ := hw.upper (by omega)
  have W := hw.ws
  obtain ⟨c1, d1⟩ := hlo.add (Ws.lit "z" (B := 1) (by decide)) (C := 200) (by omega) (by omega)
  obtain ⟨c2, d2⟩ := W.add (Ws.lit "\n" (B := 1) (by decide)) (C := 200) (by omega) (by omega)
  obtain ⟨c3, d3⟩ := W.add (Ws.lit " " (B := 1) (by decide)) (C := 10) (by omega) (by omega)
  obtain ⟨c4, d4⟩ := c3.add W (C := 200) (by omega) (by omega)
  obtain ⟨c5, d5⟩ := W.add (Ws.lit "0" (B := 1) (by decide)) (C := 200) (by omega) (by omega)
  obtain ⟨c6, d6⟩ := W.add (Ws.lit "_" (B := 1) (by decide)) (C := 200) (by omega) (by omega)
  obtain ⟨g, hg, eg⟩ := W.cut (by omega) none (some 1)
  obtain ⟨s1, f1, g1, n1⟩ := spoilt_ex W hs (by omega) p
  obtain ⟨s2, f2, g2, n2⟩ := spoilt_ex hlo hs (by omega) p
  have g1 := g1.up (B := 200) (by omega)
  have g2 := g2.up (B := 200) (by omega)
  have W1 : WLs 200 [.str w, .str lo, .str (lo ++ Str.ofString "z"), .str up, .str (w ++ Str.ofString "\n"), .str (w ++ Str.ofString " " ++ w), .str (w ++ Str.ofString "0"), .str (w ++ Str.ofString "_"), .str (Str.ofString "{")] :=
    .cons (W.up (by omega)) (.cons (hlo.up (by omega)) (.cons c1 (.cons (hup.up (by omega)) (.cons c2 (.cons c4 (.cons c5 (.cons c6 (.cons (Ws.lit "{" (by decide)) .nil))))))))
  have step : ∀ x ∈ RES, ∃ (n : Nat) (x1 x2 x3 x4 x5 : Str), b1D .len (.str x) = some (.int (n : Nat)) ∧ bopD .add (.str x) (.str g) = some (.str x1) ∧ slD (.str x) none (some ((n : Int) - 1)) = some (.str x2) ∧ slD (.str x) (some 1) none = some (.str x3) ∧ bopD .add (.str g) (.str x3) = some (.str x4) ∧ b1D .upper (.str x) = some (.str x5) ∧ WLs 200 [.str x, .str x1, .str x2, .str x4, .str x5] := fun x hx => by
    obtain ⟨wx, _⟩ := res_wa x hx
    have X := wx.ws
    obtain ⟨n, hn, el⟩ := X.lenE (by omega)
    obtain ⟨a1, b1⟩ := X.add hg (C := 200) (by omega) (by omega)
    obtain ⟨x2, a2, b2⟩ := X.cut (by omega) none (some ((n : Int) - 1))
    obtain ⟨x3, a3, b3⟩ := X.cut (by omega) (some 1) none
    obtain ⟨a4, b4⟩ := hg.add a3 (C := 200) (by omega) (by omega)
    obtain ⟨x5, a5, b5⟩ := wx.upper (by omega)
    exact ⟨n, _, x2, x3, _, x5, el, b1, b2, b3, b4, b5, .cons (X.up (by omega)) (.cons a1 (.cons (a2.up (by omega)) (.cons a4 (.cons (a5.up (by omega)) .nil))))⟩
  have hres := reserved_eq
  have rl : RES.length = 26 := by decide
  refine run_ex (P := fun r => ∃ ds, r = .ok (.lst ds) ∧ WLs 200 ds ∧ ds.length ≤ 1000) ?_
  obtain ⟨T0, hT0⟩ : ∃ T0, T0 = [D.str w, .str lo, .str (lo ++ Str.ofString "z"), .str up, .str (w ++ Str.ofString "\n"), .str (w ++ Str.ofString " " ++ w), .str (w ++ Str.ofString "0"), .str (w ++ Str.ofString "_"), .str (Str.ofString "{")] := ⟨_, rfl⟩
  rw [← hT0] at W1
  have l0 : T0.length = 9 := by rw [hT0]; rfl
  generalize RES = RR at *
  simp [b__law_names_v3, abc_txt, hix, hcut]
  refine we_map ns (fun n => .int n) (fun n => .str (f n)) (by simp [hix, hcut]) (by simp) rfl (sz_of (by omega)) (fun n hn => by simp [(hf n (hns n hn)).2]) ?_
  have hj : m1D .join (.str (Str.ofString "")) (.lst (ns.map fun n => .str (f n))) = some (.str w) := hj
  simp [hj, e9, elo, d1, eup, d2, d3, d4, d5, d6, hres, ← hT0]
  clear hT0
  refine wf_idx (fun i ρ => ∃ (ds : List D) (t u : Sl), WLs 200 ds ∧ ds.length = 9 + 5 * i ∧ ρ = [Sl.fz (.lst (iL r)), .fz (.int p), .fz (.str s), .fz (.str (mk ABC)), .fz (.str w), .fz (.str lo), .ow (.lst ds), t, u]) ⟨T0, _, _, W1, by omega, rfl⟩
    (fun i x hx ρ ⟨ds, t, u, q1, q2, hρ⟩ => ?_) (fun ρ ⟨ds, t, u, q1, q2, hρ⟩ => ?_)
  · subst hρ
    have hi : i < RR.length := (List.getElem?_eq_some_iff.mp hx).1
    obtain ⟨n, x1, x2, x3, x4, x5, b1, b2, b3, b4, b5, b6, b7⟩ := step x (List.mem_of_getElem? hx)
    have hlen : ds.length + 5 ≤ 16777216 := by omega
    have := q1.app b7
    simp [b1, b2, b3, b4, b5, b6, eg, hlen]
    exact ⟨this, by omega⟩
  · subst hρ
    have hlen : ds.length = 9 + 5 * 26 := by rw [q2, rl]
    simp [f1, f2, hlen, n1, n2]
    exact q1.app (g1.app g2)
end U
set_option Elab.async false
set_option linter.all false
set_option maxRecDepth 1000
set_option maxHeartbeats 4000000
/-! VO: lines (law k07) -/
namespace U
open PySem L2 DL
def SG : Str := Str.ofString " !\"#$&'()*+,-./0123456789:;<=>?@ABCDEFGHIJKLMNOPQRSTUVWXYZ[\\]^_`" ++ Str.ofString "abcdefghijklmnopqrstuvwxyz{|}~"
theorem signs_eq : n__law_signs [] = .ok (.str SG) := by
  have h := add_str (x := Str.ofString " !\"#$&'()*+,-./0123456789:;<=>?@ABCDEFGHIJKLMNOPQRSTUVWXYZ[\\]^_`") (y := Str.ofString "abcdefghijklmnopqrstuvwxyz{|}~") (by rw [len_ofS, len_ofS]; decide)
  refine run_of ?_
  simp [b__law_signs, h, SG]
theorem sg_len : SG.length = 94 := by
  unfold SG
  rw [len_app, len_ofS, len_ofS]
  decide
theorem sg_ws : Ws 94 SG := ⟨strOk_app (txt_ok _) (txt_ok _), by rw [sg_len]; omega⟩
theorem sg_ix {k : Int} (h0 : 0 ≤ k) (h1 : k < 94) : ∃ x : Str, Ws 1 x ∧ ixD (.str SG) (.int k) = some (.str x) := by
  obtain ⟨m, rfl⟩ := Int.eq_ofNat_of_zero_le h0
  have e := mk_of SG
  have hl := sg_len
  have hw := sg_ws
  rw [← e] at hl hw ⊢
  generalize SG.cps.toList = l at *
  rw [mk_len] at hl
  have hm : m < l.length := by omega
  refine ⟨mk [l[m]], ⟨mk_ok.mpr ?_, by simp [mk_len]⟩, ix_mk (by omega) (at_nat hm)⟩
  exact okl_one (mk_ok.mp hw.ok _ (List.getElem_mem hm))
theorem WLs.cut {B : Nat} {ds : List D} (h : WLs B ds) (lo hi : Option Int) : WLs B (cutL ds lo hi) ∧ (cutL ds lo hi).length ≤ ds.length := by
  obtain ⟨c1, c2⟩ := cutL_sub (l := ds) (lo := lo) (hi := hi)
  exact ⟨fun d hd => h d (c1 d hd), c2⟩
theorem WLs.at {B : Nat} {ds : List D} (h : WLs B ds) {i : Int} (h0 : 0 ≤ i) (h1 : i < ds.length) : ∃ w, Ws B w ∧ L2.atI ds i = some (.str w) := by
  obtain ⟨m, rfl⟩ := Int.eq_ofNat_of_zero_le h0
  have hm : m < ds.length := by omega
  obtain ⟨w, e, hw⟩ := h _ (List.getElem_mem hm)
  exact ⟨w, hw, by rw [← e]; exact at_nat hm⟩
theorem WLs.rep {B : Nat} {w : Str} (h : Ws B w) (k : Nat) : WLs B (List.replicate k (.str w)) := fun d hd => ⟨w, List.eq_of_mem_replicate hd, h⟩
theorem WLs.map {B : Nat} {xs : List Int} {f : Int → Str} (h : ∀ x ∈ xs, Ws B (f x)) : WLs B (xs.map fun x => .str (f x)) := fun d hd => by
  obtain ⟨x, hx, rfl⟩ := List.mem_map.mp hd
  exact ⟨_, rfl, h x hx⟩
theorem sg_fun (lo : Int) (w : Int) (h0 : 0 ≤ lo) (hw : 0 < w) (h : lo + w ≤ 94) : ∃ f : Int → Str, ∀ n, Ws 1 (f n) ∧ ixD (.str SG) (.int (lo + n % w)) = some (.str (f n)) := by
  have key : ∀ n : Int, ∃ x : Str, Ws 1 x ∧ ixD (.str SG) (.int (lo + n % w)) = some (.str x) := fun n => by
    have a := Int.emod_nonneg n (b := w) (by omega)
    have b := Int.emod_lt_of_pos n hw
    exact sg_ix (by omega) (by omega)
  exact ⟨fun n => (key n).choose, fun n => (key n).choose_spec⟩
theorem lines_ex {r : List Int} {p : Int} (hr : r.length = 49) (hp : 0 ≤ p) : ∃ ds, n__law_lines [.lst (iL r), .int p, .str SG] = .ok (.lst ds) ∧ WLs 20000 ds ∧ ds.length ≤ 1000 := by
  obtain ⟨a, ha⟩ : ∃ a, r[0]? = some a := ⟨r[0], List.getElem?_eq_getElem (by omega)⟩
  have hix : L2.atI (iL r) 0 = some (.int a) := by
    have := at_nat (xs := iL r) (k := 0) (by simp; omega)
    rw [show ((0 : Nat) : Int) = 0 from rfl] at this
    rw [this, List.getElem_map]
    rw [List.getElem?_eq_getElem (by omega)] at ha
    rw [Option.some.inj ha]
  obtain ⟨m, hm1, hm8, hm⟩ : ∃ m : Nat, 1 ≤ m ∧ m ≤ 8 ∧ (1 + a % 8) = (m : Nat) := ⟨(1 + a % 8).toNat, by omega, by omega, by omega⟩
  obtain ⟨f, hf⟩ := sg_fun 1 93 (by omega) (by omega) (by omega)
  have hrow : ∀ k : Nat, k < 8 → ∃ q, L2.atI (iL r) (1 + (k : Int)) = some (.int q) := fun k hk => by
    have hk2 : k + 1 < (iL r).length := by simp; omega
    have := at_nat (xs := iL r) (k := k + 1) hk2
    rw [List.getElem_map] at this
    rw [show (1 + (k : Int)) = ((k + 1 : Nat) : Int) by omega]
    exact ⟨_, this⟩
  have hseg : ∀ lo hi : Option Int, ∃ v, Ws 49 v ∧ m1D .join (.str (Str.ofString "")) (.lst ((cutL r lo hi).map fun n => .str (f n))) = some (.str v) := fun lo hi => by
    have := (cutL_sub (l := r) (lo := lo) (hi := hi)).2
    exact join_ex (n := 49) (Ws.lit "" (B := 0) (by decide)) (WLs.map (B := 1) fun x _ => (hf x).1) (by simp; omega) (by omega) (by omega)
  have hcm : ∀ lo hi : Option Int, cutL (iL r) lo hi = iL (cutL r lo hi) := fun lo hi => cut_map _ _ _ _
  refine run_ex (P := fun r => ∃ ds, r = .ok (.lst ds) ∧ WLs 20000 ds ∧ ds.length ≤ 1000) ?_
  have hrng : ∀ ρ, rng1D (.int (m : Nat)) ρ = .ok ((List.range m).map fun k => D.int (k : Nat)) ρ := fun ρ => rng0_len (by omega) ρ
  have sgf := sg_fun
  generalize SG = S at *
  simp [b__law_lines, hix, hm, hrng]
  refine wf_idx (fun i ρ => ∃ (ws : List D) (t u : Sl), WLs 49 ws ∧ ws.length = i ∧ ρ = [Sl.fz (.lst (iL r)), .fz (.int p), .fz (.str S), .ow (.lst ws), t, u, .un, .un, .un, .un, .un, .un, .un]) ⟨[], _, _, .nil, rfl, rfl⟩
    (fun i k hk ρ ⟨ws, t, u, q1, q2, hρ⟩ => ?_) (fun ρ ⟨ws, t, u, q1, q2, hρ⟩ => ?_)
  · subst hρ
    obtain ⟨hk1, rfl⟩ := List.getElem?_eq_some_iff.mp hk
    rw [List.getElem_range]
    have hi : i < m := by simpa using hk1
    obtain ⟨q, hq⟩ := hrow i (by omega)
    have m5 : bopD .mul (.int 5) (.int (i : Nat)) = some (.int (5 * (i : Nat))) := by rw [mul_int]; rfl
    obtain ⟨v, hv, ev⟩ := hseg (some (9 + 5 * (i : Int))) (some (10 + 5 * (i : Int) + q % 5))
    have hnl := (cutL_sub (l := r) (lo := some (9 + 5 * (i : Int))) (hi := some (10 + 5 * (i : Int) + q % 5))).2
    simp [m5, hq, hcm]
    generalize cutL r (some (9 + 5 * (i : Int))) (some (10 + 5 * (i : Int) + q % 5)) = ns at *
    refine we_mapG [Sl.fz (.lst (iL r)), .fz (.int p), .fz (.str S), .ow (.lst ws), .fz (.int (i : Nat)), .fz (.lst (iL ns)), .un, .un, .un, .un, .un, .un, .un] ns (fun n => .int n) (fun n => .str (f n)) (by simp) (by simp) rfl (by unfold sizeL; omega) (fun n hn => by simp [(hf n).2]) ?_
    have hlen : ws.length < 16777216 := by omega
    have W := q1.app (WLs.cons hv .nil)
    simp [ev, q2, hlen]
    exact ⟨by omega, W⟩
  · subst hρ
    rw [List.length_range] at q2
    obtain ⟨g, hg⟩ : ∃ g, g = p % (m : Int) := ⟨_, rfl⟩
    have hm0 : (0 : Int) < (m : Nat) := by omega
    have g0 : 0 ≤ g := by rw [hg]; exact Int.emod_nonneg _ (by omega)
    have g1 : g < (m : Nat) := by rw [hg]; exact Int.emod_lt_of_pos _ hm0
    have sp := Ws.lit " " (B := 1) (by decide)
    have sp2 := Ws.lit "  " (B := 2) (by decide)
    have em := Ws.lit "" (B := 49) (by decide)
    obtain ⟨L, hL, eL⟩ := join_ex (n := 8) sp q1 (by omega) (C := 400) (by omega) (by omega)
    obtain ⟨c1, n1⟩ := q1.cut none (some g)
    obtain ⟨c2, n2⟩ := q1.cut (some g) none
    have cw : WLs 49 (cutL ws none (some g) ++ .str (Str.ofString "") :: cutL ws (some g) none) := c1.app (WLs.cons em c2)
    obtain ⟨X, hX, eX⟩ := join_ex (n := 17) sp cw (by simp; omega) (C := 850) (by omega) (by omega)
    obtain ⟨wg, hwg, egg⟩ := q1.at g0 (by omega)
    obtain ⟨wd, hwd, ewd⟩ : ∃ wd : Int, (0 < wd ∧ 0 + wd ≤ 94) ∧ L2.atI ([.int 94, .int 3, .int 20] : List D) (p % 3) = some (.int wd) := by
      rcases (show p % 3 = 0 ∨ p % 3 = 1 ∨ p % 3 = 2 by omega) with h | h | h <;> rw [h]
      · exact ⟨94, by omega, rfl⟩
      · exact ⟨3, by omega, rfl⟩
      · exact ⟨20, by omega, rfl⟩
    obtain ⟨f2, hf2⟩ := sgf 0 wd (by omega) hwd.1 hwd.2
    have hf2 : ∀ n, Ws 1 (f2 n) ∧ ixD (.str S) (.int (n % wd)) = some (.str (f2 n)) := fun n => by
      have := hf2 n
      rwa [Int.zero_add] at this
    have hnl := (cutL_sub (l := r) (lo := some 9) (hi := some (9 + p))).2
    obtain ⟨V, hV, eV⟩ := join_ex (ds := (cutL r (some 9) (some (9 + p))).map fun n => .str (f2 n)) (n := 49) (Ws.lit "" (B := 0) (by decide)) (WLs.map (B := 1) fun x _ => (hf2 x).1) (by simp; omega) (C := 49) (by omega) (by omega)
    obtain ⟨a1, b1⟩ := sp.add hL (C := 20000) (by omega) (by omega)
    obtain ⟨a2, b2⟩ := hL.add sp (C := 20000) (by omega) (by omega)
    obtain ⟨a3, b3⟩ := hL.add sp2 (C := 402) (by omega) (by omega)
    obtain ⟨a4, b4⟩ := a3.add hL (C := 20000) (by omega) (by omega)
    obtain ⟨a5, b5⟩ := hL.add sp (C := 401) (by omega) (by omega)
    obtain ⟨a6, b6⟩ := a5.add hL (C := 20000) (by omega) (by omega)
    obtain ⟨y1, a7, b7⟩ := join_ex (ds := List.replicate 40 (.str L)) (n := 40) sp (WLs.rep hL 40) (by simp) (C := 20000) (by omega) (by omega)
    have eme := em.up (B := 400) (by omega)
    obtain ⟨y2, a8, b8⟩ := join_ex (ds := List.replicate 20 (.str L) ++ [.str (Str.ofString ""), .str L]) (n := 22) sp ((WLs.rep hL 20).app (WLs.cons eme (WLs.cons hL .nil))) (by simp) (C := 20000) (by omega) (by omega)
    obtain ⟨y3, a9, b9⟩ := join_ex (ds := List.replicate 20 (.str L) ++ [.str X]) (n := 21) sp (((WLs.rep hL 20).up (by omega)).app (WLs.cons hX .nil)) (by simp) (C := 20000) (by omega) (by omega)
    have r40 : repD (.lst [.str L]) (.int 40) = some (.lst (List.replicate 40 (.str L))) := rfl
    have r20 : repD (.lst [.str L]) (.int 20) = some (.lst (List.replicate 20 (.str L))) := rfl
    have k20 : (List.replicate 20 (D.str L)).length = 20 := by simp
    generalize List.replicate 40 (D.str L) = R40 at *
    generalize List.replicate 20 (D.str L) = R20 at *
    have hcut9 := hcm (some 9) (some (9 + p))
    generalize cutL r (some 9) (some (9 + p)) = ns at *
    obtain ⟨A, hA⟩ : ∃ A, A = cutL ws none (some g) := ⟨_, rfl⟩
    obtain ⟨B, hB⟩ : ∃ B, B = cutL ws (some g) none := ⟨_, rfl⟩
    rw [← hA, ← hB] at eX
    rw [← hA] at n1
    rw [← hB] at n2
    have hmN : 0 < m := by omega
    have z1 : A.length ≤ 16777215 := by omega
    have z2 : A.length + 1 + B.length ≤ 16777216 := by omega
    simp [q2, hmN, ← hg, eL, z1, z2, eX, ewd, ← hA, ← hB]
    refine we_map ns (fun n => .int n) (fun n => .str (f2 n)) (by simp [hcut9]) (by simp) rfl (by unfold sizeL; omega) (fun n hn => by simp [(hf2 n).2, hwd.1]) ?_
    simp [eV, b1, b2, b3, b4, b5, b6, egg, r40, r20, b7, b8, b9, k20]
    exact .cons (hL.up (by omega)) (.cons (hX.up (by omega)) (.cons a1 (.cons a2 (.cons (sp.up (by omega)) (.cons (sp2.up (by omega)) (.cons (hwg.up (by omega)) (.cons (hV.up (by omega)) (.cons a4 (.cons a6 (.cons a7 (.cons a8 (.cons a9 .nil))))))))))))
end U
set_option Elab.async false
set_option linter.all false
set_option maxRecDepth 1000
set_option maxHeartbeats 2000000
set_option exponentiation.threshold 100
/-! VJ: wide digits; numbers and pairs (law k07) -/
namespace U
open PySem L2 DL
theorem fdiv_200 {i j : Int} (h0 : 0 < j) (h1 : j < 2 ^ 200) : bopD .fdiv (.int i) (.int j) = some (.int (i / j)) := by
  show (if 0 < j ∧ j < 1073741824 then some (D.int (i / j)) else fdivW i j) = _
  split
  · rfl
  · unfold fdivW
    have h2 : (2 : Int) ^ 200 ≤ wideB := by unfold wideB; decide +kernel
    rw [if_pos ⟨h0, Int.lt_of_lt_of_le h1 h2⟩]
theorem digits_exW (z : Int) (sizes : List Int) (hl : sizes.length ≤ 900) (hs : ∀ x ∈ sizes, 0 < x ∧ x < 2 ^ 200) : ∃ ds, n__law_digits [.int z, iB sizes] = .ok (iB ds) ∧ Dig ds sizes := by
  refine run_ex (P := fun r => ∃ ds, r = .ok (iB ds) ∧ Dig ds sizes) ?_
  have hr := rng0_len (show sizes.length ≤ 1000000 by omega)
  simp [b__law_digits, pow_int, wi_bl, hr]
  split
  · refine wf_idx (fun i ρ => ∃ (ds : List Int) (rest : Int) (s : Sl), ρ = [Sl.fz (.int z), .fz (iB sizes), .ow (iB ds), .fz (.int rest), s, .un, .un, .un] ∧ ds.length = i ∧ Dig ds (sizes.take i)) ⟨[], _, _, rfl, rfl, .nil⟩ (fun j a ha ρ ⟨ds, rest, s, hρ, hj, hd⟩ => ?_) (fun ρ ⟨ds, rest, s, hρ, hj, hd⟩ => ?_)
    · subst hρ
      obtain ⟨h1, h2⟩ := hs a (List.mem_of_getElem? ha)
      have hj2 : j < sizes.length := (List.getElem?_eq_some_iff.mp ha).1
      have hf := fdiv_200 (i := rest) h1 h2
      simp [h1, -fdiv_int, hf]
      exact ⟨lt_of (by omega), ds ++ [rest % a], iL_snoc, by simp [hj], hd.step (Int.emod_nonneg _ (by omega)) (Int.emod_lt_of_pos _ h1) ha⟩
    · subst hρ
      rw [List.take_length] at hd
      simp
      exact ⟨ds, rfl, hd⟩
  · refine wf_idx (fun i ρ => ∃ (ds : List Int) (seed : Int) (s t : Sl), ρ = [Sl.fz (.int z), .fz (iB sizes), .ow (iB ds), .fz (.int z), .un, .fz (.int seed), s, t] ∧ 0 ≤ seed ∧ seed < 4294967296 ∧ ds.length = i ∧ Dig ds (sizes.take i)) ⟨[], _, _, _, rfl, by omega, by omega, rfl, .nil⟩ (fun j a ha ρ ⟨ds, seed, s, t, hρ, h0, h1, hj, hd⟩ => ?_) (fun ρ ⟨ds, seed, s, t, hρ, h0, h1, hj, hd⟩ => ?_)
    · subst hρ
      obtain ⟨hj2, rfl⟩ := List.getElem?_eq_some_iff.mp ha
      have hj2 : j < sizes.length := by simpa using hj2
      obtain ⟨g1, g2⟩ := hs sizes[j] (List.getElem_mem hj2)
      have e1 := at_nat (xs := iL sizes) (k := j) (by simpa using hj2)
      simp at e1
      have k1 : -18446744073709551616 < ((seed * 48271 + 974711 * (j : Int) + 12345) % 2147483647) := by omega
      have k2 : ((seed * 48271 + 974711 * (j : Int) + 12345) % 2147483647) < 18446744073709551616 := by omega
      simp [mul_int, e1, g1, k1, k2]
      exact ⟨lt_of (by omega), _, _, ⟨iL_snoc, rfl⟩, by omega, by omega, by simp [hj], hd.step (Int.emod_nonneg _ (by omega)) (Int.emod_lt_of_pos _ g1) (List.getElem?_eq_getElem hj2)⟩
    · subst hρ
      simp at hd
      simp
      exact ⟨ds, rfl, hd⟩
theorem number_ex (z : Int) : ∃ r d, n__law_digits [.int z, .lst [.int 4, .int 2, .int 13, .int 1000000, .int 10000000000000000000000000000000000000000, .int 12]] = .ok r ∧ n__law_number [r] = .ok (.int d) ∧ d.natAbs < 2 ^ 140 := by
  obtain ⟨ds, e, g⟩ := digits_exW z [4, 2, 13, 1000000, 10000000000000000000000000000000000000000, 12] (by simp) (fun x hx => by
    have h2 : (2 : Int) ^ 200 = 1606938044258990275541962092341162602522202993782792835301376 := by decide +kernel
    rw [h2]
    simp at hx
    omega)
  cases g with
  | @cons a0 _ _ _ p0 q0 g => cases g with
  | @cons a1 _ _ _ p1 q1 g => cases g with
  | @cons a2 _ _ _ p2 q2 g => cases g with
  | @cons a3 _ _ _ p3 q3 g => cases g with
  | @cons a4 _ _ _ p4 q4 g => cases g with
  | @cons a5 _ _ _ p5 q5 g =>
  cases g
  refine ⟨_, [a2, a3, a4, a2 * a5].getD a0.toNat 0 * (1 - 2 * a1), e, ?_, ?_⟩
  · refine run_of ?_
    have hm : bopD .mul (.int a2) (.int a5) = some (.int (a2 * a5)) := by
      rw [mul_int]
      have : small64 a2 = true := by simp; omega
      rw [this]
      rfl
    have hat : L2.atI ([.int a2, .int a3, .int a4, .int (a2 * a5)] : List D) a0 = some (.int ([a2, a3, a4, a2 * a5].getD a0.toNat 0)) := by
      obtain ⟨k, rfl⟩ := Int.eq_ofNat_of_zero_le p0
      have hk : k < 4 := by omega
      have := at_nat (xs := ([.int a2, .int a3, .int a4, .int (a2 * a5)] : List D)) (k := k) (by simpa using hk)
      rw [this]
      match k, hk with
      | 0, _ => rfl
      | 1, _ => rfl
      | 2, _ => rfl
      | 3, _ => rfl
    generalize [a2, a3, a4, a2 * a5].getD a0.toNat 0 = sz at hat ⊢
    have hs : bopD .mul (.int sz) (.int (1 - 2 * a1)) = some (.int (sz * (1 - 2 * a1))) := by
      rw [mul_int]
      have : small64 (1 - 2 * a1) = true := by simp; omega
      rw [this, Bool.or_true]
      rfl
    have h2 : bopD .mul (.int 2) (.int a1) = some (.int (2 * a1)) := by
      rw [mul_int]
      rfl
    simp [b__law_number, hm, hat, hs, h2]
  · have b : ([a2, a3, a4, a2 * a5].getD a0.toNat 0).natAbs < 2 ^ 138 := by
      obtain ⟨k, rfl⟩ := Int.eq_ofNat_of_zero_le p0
      have hk : k < 4 := by omega
      have h4 : (a4 : Int) < 10000000000000000000000000000000000000000 := q4
      have z1 : a2 * a5 ≤ 13 * 12 := Int.mul_le_mul (by omega) (by omega) p5 (by omega)
      have z0 : 0 ≤ a2 * a5 := Int.mul_nonneg p2 p5
      match k, hk with
      | 0, _ => show a2.natAbs < _; omega
      | 1, _ => show a3.natAbs < _; omega
      | 2, _ => show a4.natAbs < _; omega
      | 3, _ => show (a2 * a5).natAbs < _; omega
    generalize [a2, a3, a4, a2 * a5].getD a0.toNat 0 = sz at b
    rcases (show a1 = 0 ∨ a1 = 1 by omega) with rfl | rfl
    · simp; omega
    · simp; omega
theorem pair_ex {a b c : Int} (ha : a.natAbs < 2 ^ 140) (hb : b.natAbs < 2 ^ 140) (h1 : 2 ≤ c) (h2 : c ≤ 100) : ∃ p : Int × Int, n__law_pair_v2 [.int a, .int b, .int c] = .ok (fT p) ∧ Fit 150 p := by
  have sm : small64 c = true := by simp; omega
  have m1 : bopD .mul (.int a) (.int c) = some (.int (a * c)) := by
    rw [mul_int, sm, Bool.or_true]; rfl
  have m2 : bopD .mul (.int b) (.int c) = some (.int (b * c)) := by
    rw [mul_int, sm, Bool.or_true]; rfl
  have w : ∀ x : Int, x.natAbs < 2 ^ 140 → (x * c).natAbs < 2 ^ 150 := fun x hx => by
    rw [Int.natAbs_mul]
    have hc : c.natAbs ≤ 100 := by omega
    exact Nat.lt_of_le_of_lt (Nat.mul_le_mul (Nat.le_of_lt hx) hc) (by decide)
  by_cases h : b = 0
  · refine ⟨(a * c, c), run_of ?_, ⟨by simp; omega, w a ha, by simp; omega⟩⟩
    subst h
    simp [b__law_pair_v2, m1, fT]
  · refine ⟨(a * c, b * c), run_of ?_, ⟨?_, w a ha, w b hb⟩⟩
    · simp [b__law_pair_v2, m1, m2, h, fT]
    · exact Int.mul_ne_zero h (by omega)
end U
set_option Elab.async false
set_option linter.all false
set_option maxRecDepth 1000
set_option maxHeartbeats 4000000
/-! VP: a comprehension whose first turn freezes a list -/
namespace DL
open PySem L2
theorem we_map2 {α : Type} {Φ : Fns} {ρ ρ1 : Env} (ρ2 : Env) {v : Nat} {src : It} {elt : E} {K : D → Env → Prop} (a : α) (as : List α) (em g : α → D) (hs : evI Φ src ρ = .ok (em a :: as.map em) ρ1) (hv : v < ρ1.length) (hv2 : v < ρ2.length) (hw : isOw ρ1[v]? = false) (h12 : ρ1[v]? = ρ2[v]?) (hl : as.length + 1 ≤ sizeL)
    (h1 : evE Φ elt (ρ1.set v (.fz (em a))) = .ok (g a) (ρ2.set v (.fz (em a)))) (he : ∀ a ∈ as, evE Φ elt (ρ2.set v (.fz (em a))) = .ok (g a) (ρ2.set v (.fz (em a)))) (k : K (.lst (g a :: as.map g)) ρ2) : WE (evN Φ (.lc [v] (.name v) src .nil elt) ρ) K := by
  obtain ⟨s0, hs0⟩ : ∃ s0, ρ1[v]? = some s0 := ⟨_, List.getElem?_eq_getElem hv⟩
  have hs2 : ρ2[v]? = some s0 := by rw [← h12, hs0]
  obtain ⟨s', e'⟩ := lcD_map (t := evT Φ .nil) (e := evE Φ elt) (fun _ => true) em g hv2 as [g a] (.fz (em a)) (fun _ _ => rfl) (fun a ha _ => he a ha) (by simp only [List.length_singleton]; omega)
  have e0 : ∀ (r : Env), r[v]? = some s0 → r.set v s0 = r := fun r hr => by
    apply List.ext_getElem?
    intro j
    by_cases hj : v = j
    · subst hj
      rw [hr]
      have : v < r.length := (List.getElem?_eq_some_iff.mp hr).1
      rw [List.getElem?_set_self this]
    · rw [List.getElem?_set_ne hj]
  have e2 : evN Φ (.lc [v] (.name v) src .nil elt) ρ = .ok (.lst (g a :: as.map g)) ρ2 := by
    show ((evI Φ src ρ).bind fun xs ρ1 => if [v].any (fun v => isOw ρ1[v]?) then .no else (lcD [v] (.name v) (evT Φ .nil) (evE Φ elt) xs [] ρ1).bind fun ys ρ2 => R.ok (D.lst ys) (backE ρ1 ρ2 [v])) = _
    rw [hs]
    simp only [bind_ok, List.any_cons, List.any_nil, hw, Bool.or_false, Bool.false_eq_true, if_false]
    have a1 : asg (.name v) (em a) (wipeE ρ1 [v]) = some (ρ1.set v (.fz (em a))) := by
      rw [wipe_one, asg_name (by simpa using hv), List.set_set]
    rw [List.filter_eq_self.mpr (fun _ _ => rfl)] at e'
    unfold lcD
    rw [a1]
    simp only
    rw [show evT Φ Es.nil (ρ1.set v (.fz (em a))) = .ok (.bl true) (ρ1.set v (.fz (em a))) from rfl]
    simp [h1, e', show 0 < sizeL by unfold sizeL; omega]
    rw [back_one hs0, List.set_set, e0 _ hs2]
  rw [e2, we_ok]
  exact k
end DL
set_option Elab.async false
set_option linter.all false
set_option maxRecDepth 100000
set_option maxHeartbeats 4000000
/-! the defs of law_k07_fractions_and_words, as gen2.py prints them -/
namespace K07
open PySem PySem.Spec PyProof.Rows L2 DL
def top (i : Nat) : Stmt := PySem.Challenge.pw_oneturn_k07_fractions_and_words.main.body.getD i (.Pass ⟨0, 0, 0, 0⟩)
def d__law_cell : DefT := ⟨top 18, ["script", "k", "seed", "cell"], ["script", "k"], ["len", "int"], U.b__law_cell, [], [], []⟩
def l__law_cell : Fl := []
def d__law_digits : DefT := ⟨top 19, ["cell", "sizes", "row", "rest", "size", "seed", "k", "twice"], ["cell", "sizes"], ["int", "range", "len"], U.b__law_digits, [], [], []⟩
def l__law_digits : Fl := []
def d__law_number : DefT := ⟨top 23, ["row", "size"], ["row"], [], U.b__law_number, [], [], []⟩
def l__law_number : Fl := []
def d__law_pair : DefT := ⟨top 24, ["top", "bottom", "common"], ["top", "bottom", "common"], [], U.b__law_pair_v2, [], [], []⟩
def l__law_pair : Fl := []
def d_ratio : DefT := ⟨top 2, ["top", "bottom", "common"], ["top", "bottom"], [], U.b_ratio, [], [("gcd", "math.gcd")], []⟩
def l_ratio : Fl := []
def d__law_whole : DefT := ⟨top 17, ["value"], ["value"], ["isinstance", "bool", "int"], U.b__law_whole, [], [], []⟩
def l__law_whole : Fl := []
def d__law_divisor : DefT := ⟨top 21, ["one", "two", "high", "low", "step", "rest"], ["one", "two"], ["abs", "range", "int"], U.b__law_divisor_v2, [], [], []⟩
def l__law_divisor : Fl := []
def d__law_is_ratio : DefT := ⟨top 22, ["value", "top", "bottom"], ["value", "top", "bottom"], ["len", "isinstance", "tuple"], U.b__law_is_ratio, [], [], []⟩
def l__law_is_ratio : Fl := [("_law_whole", 1, U.n__law_whole), ("_law_divisor", 2, U.n__law_divisor_v2)]
def d_ratio_text : DefT := ⟨top 7, ["fraction"], ["fraction"], ["str"], U.b_ratio_text, [], [], []⟩
def l_ratio_text : Fl := []
def d_plus : DefT := ⟨top 3, ["one", "two"], ["one", "two"], [], U.b_plus, [], [], []⟩
def l_plus : Fl := [("ratio", 2, U.n_ratio)]
def d_minus : DefT := ⟨top 4, ["one", "two"], ["one", "two"], [], U.b_minus, [], [], []⟩
def l_minus : Fl := [("ratio", 2, U.n_ratio)]
def d_times : DefT := ⟨top 5, ["one", "two"], ["one", "two"], [], U.b_times, [], [], []⟩
def l_times : Fl := [("ratio", 2, U.n_ratio)]
def d_is_less : DefT := ⟨top 6, ["one", "two"], ["one", "two"], [], U.b_is_less, [], [], []⟩
def l_is_less : Fl := []
def d__law_truth : DefT := ⟨top 20, ["value", "due"], ["value", "due"], [], U.b__law_truth, [], [], []⟩
def l__law_truth : Fl := []
def d__law_two_right : DefT := ⟨top 25, ["one", "two", "top", "other", "bottom"], ["one", "two"], [], U.b__law_two_right, [], [], []⟩
def l__law_two_right : Fl := [("plus", 2, U.n_plus), ("_law_is_ratio", 3, U.n__law_is_ratio), ("minus", 2, U.n_minus), ("times", 2, U.n_times), ("is_less", 2, U.n_is_less), ("_law_truth", 2, U.n__law_truth)]
def d__law_fractions_right : DefT := ⟨top 26, ["pairs", "fractions", "pair", "fraction", "due", "text", "one", "two"], ["pairs"], ["str", "isinstance"], U.b__law_fractions_right, [], [], []⟩
def l__law_fractions_right : Fl := [("ratio", 2, U.n_ratio), ("_law_is_ratio", 3, U.n__law_is_ratio), ("ratio_text", 1, U.n_ratio_text), ("_law_two_right", 2, U.n__law_two_right)]
def d__law_signs : DefT := ⟨top 27, [], [], [], U.b__law_signs, [], [], []⟩
def l__law_signs : Fl := []
def d__law_spoilt : DefT := ⟨top 33, ["word", "place", "sign", "at"], ["word", "place", "sign"], ["int", "len"], U.b__law_spoilt, [], [], []⟩
def l__law_spoilt : Fl := []
def d__law_numerals : DefT := ⟨top 34, ["number", "place", "sign", "word", "words"], ["number", "place", "sign"], ["str"], U.b__law_numerals, [], [], []⟩
def l__law_numerals : Fl := [("_law_spoilt", 3, U.n__law_spoilt)]
def d__law_reserved : DefT := ⟨top 29, ["words"], [], [], U.b__law_reserved, [], [], []⟩
def l__law_reserved : Fl := []
def d__law_names : DefT := ⟨top 35, ["row", "place", "sign", "letters", "word", "longest", "words", "other", "number"], ["row", "place", "sign"], ["int", "len"], U.b__law_names_v3, [], [], []⟩
def l__law_names : Fl := [("_law_reserved", 0, U.n__law_reserved), ("_law_spoilt", 3, U.n__law_spoilt)]
def d__law_lines : DefT := ⟨top 36, ["row", "place", "signs", "words", "k", "numbers", "gap", "line", "wide", "width", "drawn", "lines", "number"], ["row", "place", "signs"], ["range", "int", "len"], U.b__law_lines, [], [], []⟩
def l__law_lines : Fl := []
def d_digits_of : DefT := ⟨top 13, ["word", "value", "sign"], ["word"], ["len"], U.b_digits_of, [("DIGITS", (.str "0123456789"))], [], []⟩
def l_digits_of : Fl := []
def d_number_of : DefT := ⟨top 14, ["word", "value"], ["word"], [], U.b_number_of, [], [], []⟩
def l_number_of : Fl := [("digits_of", 1, U.n_digits_of)]
def d__law_numeral : DefT := ⟨top 28, ["word", "below", "digits", "value", "sign"], ["word"], ["len", "int"], U.b__law_numeral, [], [], []⟩
def l__law_numeral : Fl := []
def d__law_free : DefT := ⟨top 30, ["word", "sign"], ["word"], ["len"], U.b__law_free, [], [], []⟩
def l__law_free : Fl := [("_law_reserved", 0, U.n__law_reserved)]
def d_is_free_word : DefT := ⟨top 15, ["word", "sign"], ["word"], ["len"], U.b_is_free_word, [("RESERVED", (.tups ["me", "size", "item", "look", "has", "lacks", "row", "letter", "put", "send", "answer", "if", "else", "end", "rest", "start", "heard", "done", "box", "table", "stamps", "program", "is", "max", "min", "mod"])), ("LETTERS", (.str "abcdefghijklmnopqrstuvwxyz"))], [], []⟩
def l_is_free_word : Fl := []
def d_words_of : DefT := ⟨top 12, ["line", "words"], ["line"], ["tuple"], U.b_words_of, [], [], []⟩
def l_words_of : Fl := []
def d__law_words : DefT := ⟨top 31, ["line", "words", "word", "sign"], ["line"], [], U.b__law_words, [], [], []⟩
def l__law_words : Fl := []
def d__law_string_right : DefT := ⟨top 32, ["word", "value", "due", "words", "dues", "k"], ["word"], ["len", "isinstance", "tuple", "range", "str"], U.b__law_string_right, [], [], []⟩
def l__law_string_right : Fl := [("number_of", 1, U.n_number_of), ("_law_numeral", 1, U.n__law_numeral), ("_law_whole", 1, U.n__law_whole), ("_law_free", 1, U.n__law_free), ("is_free_word", 1, U.n_is_free_word), ("_law_truth", 2, U.n__law_truth), ("words_of", 1, U.n_words_of), ("_law_words", 1, U.n__law_words)]
def b_law : Ss := (.cons (.setN 1 (.disp (.cons (.c (.int 4)) (.cons (.c (.int 2)) (.cons (.c (.int 13)) (.cons (.bin .pow (.c (.int 10)) (.c (.int 6))) (.cons (.bin .pow (.c (.int 10)) (.c (.int 40))) (.cons (.c (.int 12)) .nil))))))))
  (.cons (.setN 2 (.lc [11] (.name 11) (.rng1 (.c (.int 4))) .nil (.call 2 (.cons (.call 1 (.cons (.call 0 (.cons (.v 0) (.cons (.v 11) .nil))) (.cons (.v 1) .nil))) .nil))))
  (.cons (.set 3 (.call 1 (.cons (.call 0 (.cons (.v 0) (.cons (.c (.int 4)) .nil))) (.cons (.new (.disp (.cons (.c (.int 97)) (.cons (.c (.int 97)) (.cons (.c (.int 97)) (.cons (.c (.int 24)) (.cons (.c (.int 94)) (.cons (.c (.int 24)) (.cons (.c (.int 1999999)) (.cons (.c (.int 24)) (.cons (.c (.int 94)) .nil))))))))))) .nil))))
  (.cons (.set 4 (.call 3 (.cons (.ixv 2 (.c (.int 0))) (.cons (.ixv 2 (.c (.int 1))) (.cons (.bin .add (.c (.int 2)) (.ixv 3 (.c (.int 0)))) .nil)))))
  (.cons (.set 5 (.call 3 (.cons (.ixv 2 (.c (.int 2))) (.cons (.ixv 2 (.c (.int 3))) (.cons (.bin .add (.c (.int 2)) (.ixv 3 (.c (.int 1)))) .nil)))))
  (.cons (.set 6 (.bin .sub (.bin .sub (.c (.int 0)) (.c (.int 1))) (.ixv 3 (.c (.int 2)))))
  (.cons (.setN 7 (.disp (.cons (.v 4) (.cons (.v 5) (.cons (.tup (.cons (.bin .mul (.ixv 4 (.c (.int 0))) (.v 6)) (.cons (.bin .mul (.ixv 4 (.c (.int 1))) (.v 6)) .nil))) (.cons (.tup (.cons (.bin .sub (.c (.int 0)) (.ixv 4 (.c (.int 0)))) (.cons (.ixv 4 (.c (.int 1))) .nil))) (.cons (.tup (.cons (.c (.int 0)) (.cons (.ixv 5 (.c (.int 1))) .nil))) (.cons (.tup (.cons (.ixv 2 (.c (.int 2))) (.cons (.c (.int 1)) .nil))) .nil))))))))
  (.cons (.ife (.not (.call 4 (.cons (.v 7) .nil)))
  (.cons (.ret (.c (.bl false)))
  .nil)
  .nil)
  (.cons (.set 8 (.call0 5))
  (.cons (.set 9 (.call 6 (.cons (.bin .sub (.ixv 3 (.c (.int 6))) (.c (.int 999999))) (.cons (.ixv 3 (.c (.int 3))) (.cons (.ixv 8 (.ixv 3 (.c (.int 4)))) .nil)))))
  (.cons (.setN 9 (.cat (.v 9) (.call 7 (.cons (.call 1 (.cons (.call 0 (.cons (.v 0) (.cons (.c (.int 5)) .nil))) (.cons (.new (.cat (.new (.disp (.cons (.c (.int 8)) .nil))) (.new (.rep (.new (.disp (.cons (.c (.int 26)) .nil))) (.c (.int 8)))))) .nil))) (.cons (.ixv 3 (.c (.int 5))) (.cons (.ixv 8 (.ixv 3 (.c (.int 8)))) .nil))))))
  (.cons (.setN 9 (.cat (.v 9) (.call 8 (.cons (.call 1 (.cons (.call 0 (.cons (.v 0) (.cons (.c (.int 6)) .nil))) (.cons (.new (.cat (.new (.cat (.new (.disp (.cons (.c (.int 8)) .nil))) (.new (.rep (.new (.disp (.cons (.c (.int 5)) .nil))) (.c (.int 8)))))) (.new (.rep (.new (.disp (.cons (.c (.int 93)) .nil))) (.c (.int 40)))))) .nil))) (.cons (.ixv 3 (.c (.int 7))) (.cons (.v 8) .nil))))))
  (.cons (.for (.name 10) (.seq (.v 9))
  (.cons (.ife (.not (.call 9 (.cons (.v 10) .nil)))
  (.cons (.ret (.c (.bl false)))
  .nil)
  .nil)
  .nil))
  (.cons (.ret (.and (.call 9 (.cons (.ixv 9 (.c (.int 0))) .nil)) (.one (.call 4 (.cons (.new (.disp (.cons (.v 4) .nil))) .nil)))))
  .nil))))))))))))))
def d_law : DefT := ⟨top 37, ["script", "sizes", "numbers", "head", "one", "two", "below", "pairs", "signs", "words", "word", "k"], ["script"], ["range"], b_law, [], [], []⟩
def l_law : Fl := [("_law_cell", 2, U.n__law_cell), ("_law_digits", 2, U.n__law_digits), ("_law_number", 1, U.n__law_number), ("_law_pair", 3, U.n__law_pair_v2), ("_law_fractions_right", 1, U.n__law_fractions_right), ("_law_signs", 0, U.n__law_signs), ("_law_numerals", 3, U.n__law_numerals), ("_law_names", 3, U.n__law_names_v3), ("_law_lines", 3, U.n__law_lines), ("_law_string_right", 1, U.n__law_string_right)]
def n_law : List D → DR := d_law.den l_law
def glo : List Str := (["ratio", "plus", "minus", "times", "is_less", "ratio_text", "words_of", "digits_of", "number_of", "is_free_word", "_law_whole", "_law_cell", "_law_digits", "_law_truth", "_law_divisor", "_law_is_ratio", "_law_number", "_law_pair", "_law_two_right", "_law_fractions_right", "_law_signs", "_law_numeral", "_law_reserved", "_law_free", "_law_words", "_law_string_right", "_law_spoilt", "_law_numerals", "_law_names", "_law_lines"] : List Str) ++ (["law"] : List Str)
def free : List Str := ["len", "int", "range", "isinstance", "bool", "abs", "tuple", "str"]
def cs : List (Str × Cst) := [("DIGITS", (.str "0123456789")), ("RESERVED", (.tups ["me", "size", "item", "look", "has", "lacks", "row", "letter", "put", "send", "answer", "if", "else", "end", "rest", "start", "heard", "done", "box", "table", "stamps", "program", "is", "max", "min", "mod"])), ("LETTERS", (.str "abcdefghijklmnopqrstuvwxyz"))]
def bv : List (Str × String) := [("gcd", "math.gcd")]
def fn : List He.DefD := ([d_ratio.hd "ratio", d_plus.hd "plus", d_minus.hd "minus", d_times.hd "times", d_is_less.hd "is_less", d_ratio_text.hd "ratio_text", d_words_of.hd "words_of", d_digits_of.hd "digits_of", d_number_of.hd "number_of", d_is_free_word.hd "is_free_word", d__law_whole.hd "_law_whole", d__law_cell.hd "_law_cell", d__law_digits.hd "_law_digits", d__law_truth.hd "_law_truth", d__law_divisor.hd "_law_divisor", d__law_is_ratio.hd "_law_is_ratio", d__law_number.hd "_law_number", d__law_pair.hd "_law_pair", d__law_two_right.hd "_law_two_right", d__law_fractions_right.hd "_law_fractions_right", d__law_signs.hd "_law_signs", d__law_numeral.hd "_law_numeral", d__law_reserved.hd "_law_reserved", d__law_free.hd "_law_free", d__law_words.hd "_law_words", d__law_string_right.hd "_law_string_right", d__law_spoilt.hd "_law_spoilt", d__law_numerals.hd "_law_numerals", d__law_names.hd "_law_names", d__law_lines.hd "_law_lines"] : List He.DefD) ++ ([d_law.hd "law"] : List He.DefD)
section
variable {P : Program} {w : World} {K : PySem.W.Frag} {mg : Str → Option Value}
theorem c__law_cell : d__law_cell.all l__law_cell = true := by decide +kernel
theorem g__law_cell {base : Heap} (M : Mo K mg fn glo free cs bv) : Good P w K mg base 3 "_law_cell" 2 U.n__law_cell :=
  M.good (d := d__law_cell) (l := l__law_cell) (List.mem_of_getElem? (i := 11) rfl) (by decide +kernel) (by decide +kernel) (by decide +kernel) trivial c__law_cell (fun _ _ _ _ _ _ us hl => match us, hl with | [_, _], _ => rfl)
theorem c__law_digits : d__law_digits.all l__law_digits = true := by decide +kernel
theorem g__law_digits {base : Heap} (M : Mo K mg fn glo free cs bv) : Good P w K mg base 3 "_law_digits" 2 U.n__law_digits :=
  M.good (d := d__law_digits) (l := l__law_digits) (List.mem_of_getElem? (i := 12) rfl) (by decide +kernel) (by decide +kernel) (by decide +kernel) trivial c__law_digits (fun _ _ _ _ _ _ us hl => match us, hl with | [_, _], _ => rfl)
theorem c__law_number : d__law_number.all l__law_number = true := by decide +kernel
theorem g__law_number {base : Heap} (M : Mo K mg fn glo free cs bv) : Good P w K mg base 3 "_law_number" 1 U.n__law_number :=
  M.good (d := d__law_number) (l := l__law_number) (List.mem_of_getElem? (i := 16) rfl) (by decide +kernel) (by decide +kernel) (by decide +kernel) trivial c__law_number (fun _ _ _ _ _ _ us hl => match us, hl with | [_], _ => rfl)
theorem c__law_pair : d__law_pair.all l__law_pair = true := by decide +kernel
theorem g__law_pair {base : Heap} (M : Mo K mg fn glo free cs bv) : Good P w K mg base 3 "_law_pair" 3 U.n__law_pair_v2 :=
  M.good (d := d__law_pair) (l := l__law_pair) (List.mem_of_getElem? (i := 17) rfl) (by decide +kernel) (by decide +kernel) (by decide +kernel) trivial c__law_pair (fun _ _ _ _ _ _ us hl => match us, hl with | [_, _, _], _ => rfl)
theorem c_ratio : d_ratio.all l_ratio = true := by decide +kernel
theorem g_ratio {base : Heap} (M : Mo K mg fn glo free cs bv) : Good P w K mg base 3 "ratio" 2 U.n_ratio :=
  M.good (d := d_ratio) (l := l_ratio) (List.mem_of_getElem? (i := 0) rfl) (by decide +kernel) (by decide +kernel) (by decide +kernel) trivial c_ratio (fun _ _ _ _ _ _ us hl => match us, hl with | [_, _], _ => rfl)
theorem c__law_whole : d__law_whole.all l__law_whole = true := by decide +kernel
theorem g__law_whole {base : Heap} (M : Mo K mg fn glo free cs bv) : Good P w K mg base 3 "_law_whole" 1 U.n__law_whole :=
  M.good (d := d__law_whole) (l := l__law_whole) (List.mem_of_getElem? (i := 10) rfl) (by decide +kernel) (by decide +kernel) (by decide +kernel) trivial c__law_whole (fun _ _ _ _ _ _ us hl => match us, hl with | [_], _ => rfl)
theorem c__law_divisor : d__law_divisor.all l__law_divisor = true := by decide +kernel
theorem g__law_divisor {base : Heap} (M : Mo K mg fn glo free cs bv) : Good P w K mg base 3 "_law_divisor" 2 U.n__law_divisor_v2 :=
  M.good (d := d__law_divisor) (l := l__law_divisor) (List.mem_of_getElem? (i := 14) rfl) (by decide +kernel) (by decide +kernel) (by decide +kernel) trivial c__law_divisor (fun _ _ _ _ _ _ us hl => match us, hl with | [_, _], _ => rfl)
theorem c__law_is_ratio : d__law_is_ratio.all l__law_is_ratio = true := by decide +kernel
theorem g__law_is_ratio {base : Heap} (M : Mo K mg fn glo free cs bv) : Good P w K mg base 6 "_law_is_ratio" 3 U.n__law_is_ratio :=
  M.good (d := d__law_is_ratio) (l := l__law_is_ratio) (List.mem_of_getElem? (i := 15) rfl) (by decide +kernel) (by decide +kernel) (by decide +kernel) ⟨(g__law_whole M).mono (by decide), (g__law_divisor M).mono (by decide), trivial⟩ c__law_is_ratio (fun _ _ _ _ _ _ us hl => match us, hl with | [_, _, _], _ => rfl)
theorem c_ratio_text : d_ratio_text.all l_ratio_text = true := by decide +kernel
theorem g_ratio_text {base : Heap} (M : Mo K mg fn glo free cs bv) : Good P w K mg base 3 "ratio_text" 1 U.n_ratio_text :=
  M.good (d := d_ratio_text) (l := l_ratio_text) (List.mem_of_getElem? (i := 5) rfl) (by decide +kernel) (by decide +kernel) (by decide +kernel) trivial c_ratio_text (fun _ _ _ _ _ _ us hl => match us, hl with | [_], _ => rfl)
theorem c_plus : d_plus.all l_plus = true := by decide +kernel
theorem g_plus {base : Heap} (M : Mo K mg fn glo free cs bv) : Good P w K mg base 6 "plus" 2 U.n_plus :=
  M.good (d := d_plus) (l := l_plus) (List.mem_of_getElem? (i := 1) rfl) (by decide +kernel) (by decide +kernel) (by decide +kernel) ⟨(g_ratio M).mono (by decide), trivial⟩ c_plus (fun _ _ _ _ _ _ us hl => match us, hl with | [_, _], _ => rfl)
theorem c_minus : d_minus.all l_minus = true := by decide +kernel
theorem g_minus {base : Heap} (M : Mo K mg fn glo free cs bv) : Good P w K mg base 6 "minus" 2 U.n_minus :=
  M.good (d := d_minus) (l := l_minus) (List.mem_of_getElem? (i := 2) rfl) (by decide +kernel) (by decide +kernel) (by decide +kernel) ⟨(g_ratio M).mono (by decide), trivial⟩ c_minus (fun _ _ _ _ _ _ us hl => match us, hl with | [_, _], _ => rfl)
theorem c_times : d_times.all l_times = true := by decide +kernel
theorem g_times {base : Heap} (M : Mo K mg fn glo free cs bv) : Good P w K mg base 6 "times" 2 U.n_times :=
  M.good (d := d_times) (l := l_times) (List.mem_of_getElem? (i := 3) rfl) (by decide +kernel) (by decide +kernel) (by decide +kernel) ⟨(g_ratio M).mono (by decide), trivial⟩ c_times (fun _ _ _ _ _ _ us hl => match us, hl with | [_, _], _ => rfl)
theorem c_is_less : d_is_less.all l_is_less = true := by decide +kernel
theorem g_is_less {base : Heap} (M : Mo K mg fn glo free cs bv) : Good P w K mg base 3 "is_less" 2 U.n_is_less :=
  M.good (d := d_is_less) (l := l_is_less) (List.mem_of_getElem? (i := 4) rfl) (by decide +kernel) (by decide +kernel) (by decide +kernel) trivial c_is_less (fun _ _ _ _ _ _ us hl => match us, hl with | [_, _], _ => rfl)
theorem c__law_truth : d__law_truth.all l__law_truth = true := by decide +kernel
theorem g__law_truth {base : Heap} (M : Mo K mg fn glo free cs bv) : Good P w K mg base 3 "_law_truth" 2 U.n__law_truth :=
  M.good (d := d__law_truth) (l := l__law_truth) (List.mem_of_getElem? (i := 13) rfl) (by decide +kernel) (by decide +kernel) (by decide +kernel) trivial c__law_truth (fun _ _ _ _ _ _ us hl => match us, hl with | [_, _], _ => rfl)
theorem c__law_two_right : d__law_two_right.all l__law_two_right = true := by decide +kernel
theorem g__law_two_right {base : Heap} (M : Mo K mg fn glo free cs bv) : Good P w K mg base 9 "_law_two_right" 2 U.n__law_two_right :=
  M.good (d := d__law_two_right) (l := l__law_two_right) (List.mem_of_getElem? (i := 18) rfl) (by decide +kernel) (by decide +kernel) (by decide +kernel) ⟨(g_plus M).mono (by decide), (g__law_is_ratio M).mono (by decide), (g_minus M).mono (by decide), (g_times M).mono (by decide), (g_is_less M).mono (by decide), (g__law_truth M).mono (by decide), trivial⟩ c__law_two_right (fun _ _ _ _ _ _ us hl => match us, hl with | [_, _], _ => rfl)
theorem c__law_fractions_right : d__law_fractions_right.all l__law_fractions_right = true := by decide +kernel
theorem g__law_fractions_right {base : Heap} (M : Mo K mg fn glo free cs bv) : Good P w K mg base 12 "_law_fractions_right" 1 U.n__law_fractions_right :=
  M.good (d := d__law_fractions_right) (l := l__law_fractions_right) (List.mem_of_getElem? (i := 19) rfl) (by decide +kernel) (by decide +kernel) (by decide +kernel) ⟨(g_ratio M).mono (by decide), (g__law_is_ratio M).mono (by decide), (g_ratio_text M).mono (by decide), (g__law_two_right M).mono (by decide), trivial⟩ c__law_fractions_right (fun _ _ _ _ _ _ us hl => match us, hl with | [_], _ => rfl)
theorem c__law_signs : d__law_signs.all l__law_signs = true := by decide +kernel
theorem g__law_signs {base : Heap} (M : Mo K mg fn glo free cs bv) : Good P w K mg base 3 "_law_signs" 0 U.n__law_signs :=
  M.good (d := d__law_signs) (l := l__law_signs) (List.mem_of_getElem? (i := 20) rfl) (by decide +kernel) (by decide +kernel) (by decide +kernel) trivial c__law_signs (fun _ _ _ _ _ _ us hl => match us, hl with | [], _ => rfl)
theorem c__law_spoilt : d__law_spoilt.all l__law_spoilt = true := by decide +kernel
theorem g__law_spoilt {base : Heap} (M : Mo K mg fn glo free cs bv) : Good P w K mg base 3 "_law_spoilt" 3 U.n__law_spoilt :=
  M.good (d := d__law_spoilt) (l := l__law_spoilt) (List.mem_of_getElem? (i := 26) rfl) (by decide +kernel) (by decide +kernel) (by decide +kernel) trivial c__law_spoilt (fun _ _ _ _ _ _ us hl => match us, hl with | [_, _, _], _ => rfl)
theorem c__law_numerals : d__law_numerals.all l__law_numerals = true := by decide +kernel
theorem g__law_numerals {base : Heap} (M : Mo K mg fn glo free cs bv) : Good P w K mg base 6 "_law_numerals" 3 U.n__law_numerals :=
  M.good (d := d__law_numerals) (l := l__law_numerals) (List.mem_of_getElem? (i := 27) rfl) (by decide +kernel) (by decide +kernel) (by decide +kernel) ⟨(g__law_spoilt M).mono (by decide), trivial⟩ c__law_numerals (fun _ _ _ _ _ _ us hl => match us, hl with | [_, _, _], _ => rfl)
theorem c__law_reserved : d__law_reserved.all l__law_reserved = true := by decide +kernel
theorem g__law_reserved {base : Heap} (M : Mo K mg fn glo free cs bv) : Good P w K mg base 3 "_law_reserved" 0 U.n__law_reserved :=
  M.good (d := d__law_reserved) (l := l__law_reserved) (List.mem_of_getElem? (i := 22) rfl) (by decide +kernel) (by decide +kernel) (by decide +kernel) trivial c__law_reserved (fun _ _ _ _ _ _ us hl => match us, hl with | [], _ => rfl)
theorem c__law_names : d__law_names.all l__law_names = true := by decide +kernel
theorem g__law_names {base : Heap} (M : Mo K mg fn glo free cs bv) : Good P w K mg base 6 "_law_names" 3 U.n__law_names_v3 :=
  M.good (d := d__law_names) (l := l__law_names) (List.mem_of_getElem? (i := 28) rfl) (by decide +kernel) (by decide +kernel) (by decide +kernel) ⟨(g__law_reserved M).mono (by decide), (g__law_spoilt M).mono (by decide), trivial⟩ c__law_names (fun _ _ _ _ _ _ us hl => match us, hl with | [_, _, _], _ => rfl)
theorem c__law_lines : d__law_lines.all l__law_lines = true := by decide +kernel
theorem g__law_lines {base : Heap} (M : Mo K mg fn glo free cs bv) : Good P w K mg base 3 "_law_lines" 3 U.n__law_lines :=
  M.good (d := d__law_lines) (l := l__law_lines) (List.mem_of_getElem? (i := 29) rfl) (by decide +kernel) (by decide +kernel) (by decide +kernel) trivial c__law_lines (fun _ _ _ _ _ _ us hl => match us, hl with | [_, _, _], _ => rfl)
theorem c_digits_of : d_digits_of.all l_digits_of = true := by decide +kernel
theorem g_digits_of {base : Heap} (M : Mo K mg fn glo free cs bv) : Good P w K mg base 3 "digits_of" 1 U.n_digits_of :=
  M.good (d := d_digits_of) (l := l_digits_of) (List.mem_of_getElem? (i := 7) rfl) (by decide +kernel) (by decide +kernel) (by decide +kernel) trivial c_digits_of (fun _ _ _ _ _ _ us hl => match us, hl with | [_], _ => rfl)
theorem c_number_of : d_number_of.all l_number_of = true := by decide +kernel
theorem g_number_of {base : Heap} (M : Mo K mg fn glo free cs bv) : Good P w K mg base 6 "number_of" 1 U.n_number_of :=
  M.good (d := d_number_of) (l := l_number_of) (List.mem_of_getElem? (i := 8) rfl) (by decide +kernel) (by decide +kernel) (by decide +kernel) ⟨(g_digits_of M).mono (by decide), trivial⟩ c_number_of (fun _ _ _ _ _ _ us hl => match us, hl with | [_], _ => rfl)
theorem c__law_numeral : d__law_numeral.all l__law_numeral = true := by decide +kernel
theorem g__law_numeral {base : Heap} (M : Mo K mg fn glo free cs bv) : Good P w K mg base 3 "_law_numeral" 1 U.n__law_numeral :=
  M.good (d := d__law_numeral) (l := l__law_numeral) (List.mem_of_getElem? (i := 21) rfl) (by decide +kernel) (by decide +kernel) (by decide +kernel) trivial c__law_numeral (fun _ _ _ _ _ _ us hl => match us, hl with | [_], _ => rfl)
theorem c__law_free : d__law_free.all l__law_free = true := by decide +kernel
theorem g__law_free {base : Heap} (M : Mo K mg fn glo free cs bv) : Good P w K mg base 6 "_law_free" 1 U.n__law_free :=
  M.good (d := d__law_free) (l := l__law_free) (List.mem_of_getElem? (i := 23) rfl) (by decide +kernel) (by decide +kernel) (by decide +kernel) ⟨(g__law_reserved M).mono (by decide), trivial⟩ c__law_free (fun _ _ _ _ _ _ us hl => match us, hl with | [_], _ => rfl)
theorem c_is_free_word : d_is_free_word.all l_is_free_word = true := by decide +kernel
theorem g_is_free_word {base : Heap} (M : Mo K mg fn glo free cs bv) : Good P w K mg base 3 "is_free_word" 1 U.n_is_free_word :=
  M.good (d := d_is_free_word) (l := l_is_free_word) (List.mem_of_getElem? (i := 9) rfl) (by decide +kernel) (by decide +kernel) (by decide +kernel) trivial c_is_free_word (fun _ _ _ _ _ _ us hl => match us, hl with | [_], _ => rfl)
theorem c_words_of : d_words_of.all l_words_of = true := by decide +kernel
theorem g_words_of {base : Heap} (M : Mo K mg fn glo free cs bv) : Good P w K mg base 3 "words_of" 1 U.n_words_of :=
  M.good (d := d_words_of) (l := l_words_of) (List.mem_of_getElem? (i := 6) rfl) (by decide +kernel) (by decide +kernel) (by decide +kernel) trivial c_words_of (fun _ _ _ _ _ _ us hl => match us, hl with | [_], _ => rfl)
theorem c__law_words : d__law_words.all l__law_words = true := by decide +kernel
theorem g__law_words {base : Heap} (M : Mo K mg fn glo free cs bv) : Good P w K mg base 3 "_law_words" 1 U.n__law_words :=
  M.good (d := d__law_words) (l := l__law_words) (List.mem_of_getElem? (i := 24) rfl) (by decide +kernel) (by decide +kernel) (by decide +kernel) trivial c__law_words (fun _ _ _ _ _ _ us hl => match us, hl with | [_], _ => rfl)
theorem c__law_string_right : d__law_string_right.all l__law_string_right = true := by decide +kernel
theorem g__law_string_right {base : Heap} (M : Mo K mg fn glo free cs bv) : Good P w K mg base 9 "_law_string_right" 1 U.n__law_string_right :=
  M.good (d := d__law_string_right) (l := l__law_string_right) (List.mem_of_getElem? (i := 25) rfl) (by decide +kernel) (by decide +kernel) (by decide +kernel) ⟨(g_number_of M).mono (by decide), (g__law_numeral M).mono (by decide), (g__law_whole M).mono (by decide), (g__law_free M).mono (by decide), (g_is_free_word M).mono (by decide), (g__law_truth M).mono (by decide), (g_words_of M).mono (by decide), (g__law_words M).mono (by decide), trivial⟩ c__law_string_right (fun _ _ _ _ _ _ us hl => match us, hl with | [_], _ => rfl)
theorem c_law : d_law.all l_law = true := by decide +kernel
end
abbrev R : PySem.W.OpenRow := PySem.W.OpenLaw.row PySem.Challenge.rw_oneturn_k07_fractions_and_words
abbrev hk : PySem.W.Hook := hookX 6 (faOf glo free cs) fn bv cs
def ob (s : PySem.W.SharedT) : AlX := obsXG 6 (faOf glo free cs) fn bv cs (HandSHeadRun.getT s)
theorem ob_eq (s : PySem.W.SharedT) : ob s = hk.obs s.abs := obsXG_eq (HandSHeadRun.getT_eq s)
def loose : List Str := (["ratio", "plus", "minus", "times", "is_less", "ratio_text", "words_of", "digits_of", "number_of", "is_free_word", "_law_whole", "_law_cell", "_law_digits", "_law_truth", "_law_divisor", "_law_is_ratio", "_law_number", "_law_pair", "_law_two_right", "_law_fractions_right", "_law_signs", "_law_numeral", "_law_reserved", "_law_free", "_law_words", "_law_string_right", "_law_spoilt", "_law_numerals", "_law_names", "_law_lines"] : List Str) ++ (["RESERVED", "LETTERS", "DIGITS", "gcd"] : List Str)
theorem run (w : World) : HandSHeadRun.RunEqI R (PySem.W.view R.prog [37]) hk ob 20000 loose w := by
  unfold HandSHeadRun.RunEqI
  kernel_rfl
end K07
open PySem PySem.W PySem.Calls PyProof.Rows in
theorem K07.holds (hlaw : ∀ ns : List Int, ns.length ≤ 63 → K07.n_law [.ro (ns.map .int)] = .ok (.bl true)) : PySem.Challenge.rw_oneturn_k07_fractions_and_words.Holds := by
  w_on; o_law
  refine HandSHeadRun.head_imp (r := OpenLaw.row PySem.Challenge.rw_oneturn_k07_fractions_and_words) (q := view (OpenLaw.row PySem.Challenge.rw_oneturn_k07_fractions_and_words).prog [37]) (H := K07.hk) (ob := K07.ob) (M := 20000) (loose := K07.loose) (d := HandSHeadRun.topDef (OpenLaw.row PySem.Challenge.rw_oneturn_k07_fractions_and_words).prog 37) (kwd := []) K07.ob_eq
    K07.run (by kernel_rfl) (by kernel_rfl) (by kernel_rfl) (by rfl) (by first | assumption | decide +kernel) (by decide +kernel) ⟨rfl, rfl, rfl, rfl, rfl, by decide +kernel⟩ ?hw ?hc
  case hw => w_witness2
  case hc =>
    refine L2.walk_ofE (l := PySem.Challenge.rw_oneturn_k07_fractions_and_words) (n := 63) (k := 15) (x := "script") (CX := L2.CX0) rfl (by decide) (by kernel_rfl) ⟨rfl, by decide, by decide⟩ ?F (fun _ _ _ _ z => z)
    intro w mg fa h Y G hmg0
    obtain ⟨K, KX, c, hbv⟩ := Y
    have hmg : mg ("law" : PySem.Str) = some (.ref fa) := by
      have e : (HandSHeadRun.topDef (OpenLaw.row PySem.Challenge.rw_oneturn_k07_fractions_and_words).prog 37).name = ("law" : PySem.Str) := by kernel_rfl
      rw [← e]
      exact hmg0
    have M := DL.mo_of KX G c hbv (by decide +kernel)
    exact DL.Mo.law (d := K07.d_law) (l := K07.l_law) M KX hmg (List.mem_of_getElem? (i := 30) rfl) (by decide +kernel) rfl (by decide +kernel) (fun base => ⟨(K07.g__law_cell M).mono (by decide), (K07.g__law_digits M).mono (by decide), (K07.g__law_number M).mono (by decide), (K07.g__law_pair M).mono (by decide), (K07.g__law_fractions_right M).mono (by decide), (K07.g__law_signs M).mono (by decide), (K07.g__law_numerals M).mono (by decide), (K07.g__law_names M).mono (by decide), (K07.g__law_lines M).mono (by decide), (K07.g__law_string_right M).mono (by decide), trivial⟩) K07.c_law (fun _ _ _ _ _ _ us hl => match us, hl with | [_], _ => rfl) hlaw
set_option Elab.async false
set_option linter.all false
set_option maxRecDepth 1000
set_option maxHeartbeats 4000000
/-! P07: law k07 -/
namespace K07
open PySem L2 DL U
theorem fit_up {m n : Nat} {p : Int × Int} (h : Fit m p) (hn : m ≤ n) : Fit n p := ⟨h.ne, Nat.lt_of_lt_of_le h.a (Nat.pow_le_pow_right (by decide) hn), Nat.lt_of_lt_of_le h.b (Nat.pow_le_pow_right (by decide) hn)⟩
theorem dig_nn : ∀ {ds ss : List Int}, Dig ds ss → ∀ x ∈ ds, 0 ≤ x
  | _, _, .nil, x, h => by cases h
  | _, _, .cons a b r, x, h => by
    rcases List.mem_cons.mp h with e | e
    · rw [e]; exact a
    · exact dig_nn r x e
theorem law_ok (ns : List Int) (hns : ns.length ≤ 63) : n_law [.ro (ns.map .int)] = .ok (.bl true) := by
  have key : ∀ k : Nat, ∃ d : Int, d.natAbs < 2 ^ 140 ∧ ∃ z r, n__law_cell [.ro (ns.map .int), .int (k : Nat)] = .ok (.int z) ∧ n__law_digits [.int z, .lst [.int 4, .int 2, .int 13, .int 1000000, .int 10000000000000000000000000000000000000000, .int 12]] = .ok r ∧ n__law_number [r] = .ok (.int d) := fun k => by
    obtain ⟨z, hz⟩ := cell_ex ns (k : Nat) (by omega)
    obtain ⟨r, d, a, b, c⟩ := number_ex z
    exact ⟨d, c, z, r, hz, a, b⟩
  obtain ⟨f, hf⟩ : ∃ f : Nat → Int, ∀ k : Nat, (f k).natAbs < 2 ^ 140 ∧ ∃ z r, n__law_cell [.ro (ns.map .int), .int (k : Nat)] = .ok (.int z) ∧ n__law_digits [.int z, .lst [.int 4, .int 2, .int 13, .int 1000000, .int 10000000000000000000000000000000000000000, .int 12]] = .ok r ∧ n__law_number [r] = .ok (.int (f k)) := ⟨fun k => (key k).choose, fun k => (key k).choose_spec⟩
  obtain ⟨z4, c4⟩ := cell_ex ns 4 (by omega)
  obtain ⟨z5, c5⟩ := cell_ex ns 5 (by omega)
  obtain ⟨z6, c6⟩ := cell_ex ns 6 (by omega)
  obtain ⟨hd, e4, gd⟩ := digits_ex z4 [97, 97, 97, 24, 94, 24, 1999999, 24, 94] (by simp) (by simp)
  cases gd with
  | @cons h0 _ _ _ a0 b0 gd => cases gd with
  | @cons h1 _ _ _ a1 b1 gd => cases gd with
  | @cons h2 _ _ _ a2 b2 gd => cases gd with
  | @cons h3 _ _ _ a3 b3 gd => cases gd with
  | @cons h4 _ _ _ a4 b4 gd => cases gd with
  | @cons h5 _ _ _ a5 b5 gd => cases gd with
  | @cons h6 _ _ _ a6 b6 gd => cases gd with
  | @cons h7 _ _ _ a7 b7 gd => cases gd with
  | @cons h8 _ _ _ a8 b8 gd =>
  cases gd
  have e4 : n__law_digits [.int z4, .lst [.int 97, .int 97, .int 97, .int 24, .int 94, .int 24, .int 1999999, .int 24, .int 94]] = .ok (.lst [.int h0, .int h1, .int h2, .int h3, .int h4, .int h5, .int h6, .int h7, .int h8]) := e4
  obtain ⟨d5, e5, g5⟩ := digits_ex z5 [8, 26, 26, 26, 26, 26, 26, 26, 26] (by simp) (by simp)
  have e5 : n__law_digits [.int z5, .lst [.int 8, .int 26, .int 26, .int 26, .int 26, .int 26, .int 26, .int 26, .int 26]] = .ok (.lst (iL d5)) := e5
  have l5 : d5.length = 9 := g5.length
  obtain ⟨N6, hN6⟩ : ∃ N : List Int, N = [8] ++ List.replicate 8 5 ++ List.replicate 40 93 := ⟨_, rfl⟩
  obtain ⟨d6, e6, g6⟩ := digits_ex z6 N6 (by rw [hN6]; decide) (fun x hx => by rw [hN6] at hx; simp at hx; omega)
  have l6 : d6.length = 49 := by rw [g6.length, hN6]; rfl
  obtain ⟨p1, r1, w1⟩ := pair_ex (hf 0).1 (hf 1).1 (c := 2 + h0) (by omega) (by omega)
  obtain ⟨p2, r2, w2⟩ := pair_ex (hf 2).1 (hf 3).1 (c := 2 + h1) (by omega) (by omega)
  obtain ⟨x4, hx4, i4⟩ := sg_ix a4 b4
  obtain ⟨x8, hx8, i8⟩ := sg_ix a8 b8
  obtain ⟨m1, u1, v1, y1, ⟨dd, rr, yy⟩⟩ := numerals_ex (i := h6 - 999999) (p := h3) hx4 (by omega)
  obtain ⟨m2, u2, v2, y2⟩ := names_ex (r := d5) (p := h5) hx8 l5 (dig_nn g5)
  obtain ⟨m3, u3, v3, y3⟩ := lines_ex (r := d6) (p := h7) l6 a7
  have W : WLs 20000 (m1 ++ (m2 ++ m3)) := (v1.up (by omega)).app ((v2.up (by omega)).app v3)
  obtain ⟨bl, hbl⟩ : ∃ b, b = -1 - h2 := ⟨_, rfl⟩
  have sb : small64 bl = true := by simp; omega
  have mb : ∀ x : Int, bopD .mul (.int x) (.int bl) = some (.int (x * bl)) := fun x => by
    rw [mul_int, sb, Bool.or_true]; rfl
  have wb : ∀ x : Int, x.natAbs < 2 ^ 150 → (x * bl).natAbs < 2 ^ 160 := fun x hx => by
    rw [Int.natAbs_mul]
    have hc : bl.natAbs ≤ 100 := by omega
    exact Nat.lt_of_le_of_lt (Nat.mul_le_mul (Nat.le_of_lt hx) hc) (by decide)
  have hbn : bl ≠ 0 := by omega
  have F : n__law_fractions_right [.lst ([p1, p2, (p1.1 * bl, p1.2 * bl), (-p1.1, p1.2), (0, p2.2), (f 2, 1)].map fT)] = .ok (.bl true) := fractions_right_eq (n := 160) (by omega) _ (by simp) fun p hp => by
    simp only [List.mem_cons, List.not_mem_nil, or_false] at hp
    rcases hp with rfl | rfl | rfl | rfl | rfl | rfl
    · exact fit_up w1 (by omega)
    · exact fit_up w2 (by omega)
    · exact ⟨Int.mul_ne_zero w1.ne hbn, wb _ w1.a, wb _ w1.b⟩
    · exact ⟨w1.ne, by have := (fit_up w1 (n := 160) (by omega)).a; show (-p1.1).natAbs < _; omega, (fit_up w1 (by omega)).b⟩
    · exact ⟨w2.ne, by show (0 : Int).natAbs < _; decide, (fit_up w2 (by omega)).b⟩
    · exact ⟨by show (1 : Int) ≠ 0; decide, Nat.lt_trans (hf 2).1 (by decide), by show (1 : Int).natAbs < _; decide⟩
  have F1 : n__law_fractions_right [.lst ([p1].map fT)] = .ok (.bl true) := fractions_right_eq (n := 160) (by omega) _ (by simp) fun p hp => by
    rw [List.mem_singleton.mp hp]
    exact fit_up w1 (by omega)
  obtain ⟨P1a, P1b⟩ := p1
  obtain ⟨P2a, P2b⟩ := p2
  simp only [List.map_cons, List.map_nil] at F F1
  have q0 := signs_eq
  refine den_of ?_
  generalize hΦ : tbl _ = Φ
  have t0 : Φ 0 = n__law_cell := by rw [← hΦ]; rfl
  have t1 : Φ 1 = n__law_digits := by rw [← hΦ]; rfl
  have t2 : Φ 2 = n__law_number := by rw [← hΦ]; rfl
  have t3 : Φ 3 = n__law_pair_v2 := by rw [← hΦ]; rfl
  have t4 : Φ 4 = n__law_fractions_right := by rw [← hΦ]; rfl
  have t5 : Φ 5 = n__law_signs := by rw [← hΦ]; rfl
  have t6 : Φ 6 = n__law_numerals := by rw [← hΦ]; rfl
  have t7 : Φ 7 = n__law_names_v3 := by rw [← hΦ]; rfl
  have t8 : Φ 8 = n__law_lines := by rw [← hΦ]; rfl
  have t9 : Φ 9 = n__law_string_right := by rw [← hΦ]; rfl
  clear hΦ
  unfold d_law b_law
  generalize SG = S at *
  have hr4 : ∀ ρ, rng1D (.int 4) ρ = .ok ((List.range 4).map fun k => D.int (k : Nat)) ρ := fun ρ => rng0_len (n := 4) (by omega) ρ
  simp [pow_int]
  obtain ⟨SZ, hSZ⟩ : ∃ SZ, SZ = D.lst [.int 4, .int 2, .int 13, .int 1000000, .int 10000000000000000000000000000000000000000, .int 12] := ⟨_, rfl⟩
  simp only [← hSZ] at hf ⊢
  refine we_map2 (ρ1 := [Sl.fz (.ro (ns.map .int)), .ow SZ, .un, .un, .un, .un, .un, .un, .un, .un, .un, .un]) [Sl.fz (.ro (ns.map .int)), .fz SZ, .un, .un, .un, .un, .un, .un, .un, .un, .un, .un] 0 [1, 2, 3] (fun k => .int (k : Nat)) (fun k => .int (f k)) (by simp [hr4]; rfl) (by simp) (by simp) rfl rfl (by unfold sizeL; simp) ?_ (fun k hk => ?_) ?_
  · obtain ⟨_, z, r, e1, e2, e3⟩ := hf 0
    have e1 : n__law_cell [.ro (ns.map .int), .int 0] = .ok (.int z) := e1
    simp [t0, t1, t2, e1, e2, e3]
  · obtain ⟨_, z, r, e1, e2, e3⟩ := hf k
    simp [t0, t1, t2, e1, e2, e3]
  · clear key hf
    simp [t0, t1, t3, c4, e4, fT, r1, r2, mb, ← hbl]
    have F : n__law_fractions_right [.lst [.tup [.int P1a, .int P1b], .tup [.int P2a, .int P2b], .tup [.int (P1a * bl), .int (P1b * bl)], .tup [.int (-P1a), .int P1b], .tup [.int 0, .int P2b], .tup [.int (f 2), .int 1]]] = .ok (.bl true) := F
    have F1 : n__law_fractions_right [.lst [.tup [.int P1a, .int P1b]]] = .ok (.bl true) := F1
    have r26 : repD (.lst [.int 26]) (.int 8) = some (.lst [.int 26, .int 26, .int 26, .int 26, .int 26, .int 26, .int 26, .int 26]) := rfl
    obtain ⟨R5, hR5⟩ : ∃ R5, R5 = List.replicate 8 (D.int 5) := ⟨_, rfl⟩
    obtain ⟨R93, hR93⟩ : ∃ R93, R93 = List.replicate 40 (D.int 93) := ⟨_, rfl⟩
    have r5 : repD (.lst [.int 5]) (.int 8) = some (.lst R5) := by rw [hR5]; rfl
    have r93 : repD (.lst [.int 93]) (.int 40) = some (.lst R93) := by rw [hR93]; rfl
    have k5 : R5.length = 8 := by rw [hR5]; rfl
    have k93 : R93.length = 40 := by rw [hR93]; rfl
    have e6 : n__law_digits [.int z6, .lst (.int 8 :: (R5 ++ R93))] = .ok (.lst (iL d6)) := by
      rw [hR5, hR93, ← e6, hN6]
      rfl
    have z1 : m1.length + m2.length ≤ 16777216 := by omega
    have z2 : m1.length + m2.length + m3.length ≤ 16777216 := by omega
    have z3 : m1.length + (m2.length + m3.length) ≤ 16777216 := by omega
    have hix0 : ixD (.lst (m1 ++ (m2 ++ m3))) (.int 0) = some dd := by
      rw [yy, List.cons_append]
      exact at_nat (k := 0) (xs := dd :: (rr ++ (m2 ++ m3))) (by simp)
    have hW := W
    obtain ⟨w0, ew0, hw0⟩ := W dd (by rw [yy]; exact List.mem_cons_self)
    subst ew0
    have last := hw0.str (by omega)
    clear yy hR5 hR93 hN6 e4
    simp [t4, F, t5, q0, t6, i4, u1, t1, c5, r26, e5, t7, i8, u2, z1, c6, r5, r93, k5, k93, e6, t8, u3, z2, z3]
    obtain ⟨ML, hML⟩ : ∃ ML, ML = m1 ++ (m2 ++ m3) := ⟨_, rfl⟩
    rw [← hML] at W hix0 ⊢
    obtain ⟨xs, eML, hx⟩ := wls_strs ML W
    clear hML
    subst eML
    refine wf_idx (fun i ρ => ∃ t, ρ = [Sl.fz (.ro (ns.map .int)), .fz SZ, .ow (.lst [.int (f 0), .int (f 1), .int (f 2), .int (f 3)]), .fz (.lst [.int h0, .int h1, .int h2, .int h3, .int h4, .int h5, .int h6, .int h7, .int h8]), .fz (.tup [.int P1a, .int P1b]), .fz (.tup [.int P2a, .int P2b]), .fz (.int bl), .fz (.lst [.tup [.int P1a, .int P1b], .tup [.int P2a, .int P2b], .tup [.int (P1a * bl), .int (P1b * bl)], .tup [.int (-P1a), .int P1b], .tup [.int 0, .int P2b], .tup [.int (f 2), .int 1]]), .fz (.str S), .fz (.lst (xs.map .str)), t, .un]) ⟨_, rfl⟩ (fun i d hd ρ ⟨t, hρ⟩ => ?_) (fun ρ ⟨t, hρ⟩ => ?_)
    · subst hρ
      have := (hx d (List.mem_of_getElem? hd)).str (by omega)
      simp [t9, this]
    · subst hρ
      simp [t9, hix0, last, t4, F1]
end K07
theorem PySem.Challenge.cw_oneturn_k07_fractions_and_words_holds : PySem.Challenge.rw_oneturn_k07_fractions_and_words.Holds := by
  exact K07.holds K07.law_ok
