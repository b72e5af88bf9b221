import PyProof.Rows.All
import PySem.Syntax
import Wide.All
import OpenK.AllK
import Wide.FinOn
import HandS.Base
import HandS.Call
import HandS.List
import HandS.Dict
import HandS.More
import HandS.TupAny
import HandS.TupMul
import HandS.Wide
import HandS.TupLe
import HandS.Text
import HandS.Style
import PyProof.P3In
import HandS.Flow
import HandS.IsInst
import HandS.SortInts
import HandS.SortRule
import HandS.TupLen
import HandS.WordsDict
import HandS.RaiseMore
import HandS.Conv
import HandS.Small
import HandS.Iter
import HandS.Comp
import HandS.DictComp
import PyProof.DictFindH
import KE.GoesEnum
import KE.GoesDict
import HandS.DictTup
import KE.KDictCopyH
import KE.KDictKeyed
import KE.KDictDisplayH
import PyProof.ReprRoads
import PyProof.CallFns
import HandS.HeadHook1
import HandS.HeadHook2
import HandS.HeadHook3
import HandS.HeadHook4
import HandS.HeadEnd
import HandS.Defaults
import HandS.Ends
import PyProof.ReprBulk
import KE.KStateDown
import Lean
import HandS.Head0
import HandS.Head1
import HandS.Head2
import PySem.Challenge.RW_handles_k13_spans_judged
set_option Elab.async false
section
set_option Elab.async false
set_option linter.all false
set_option maxRecDepth 100000
/-! Mini: a small pure interpreter for the Python subset of the laws. Values are trees; a mutable container is owned by one slot. -/
namespace Mini
open PySem (Str)

abbrev Key := Sum Int Str

inductive PV where
  | non | bl (b : Bool) | int (i : Int) | str (s : Str)
  | tup (xs : List PV) | lst (xs : List PV)
  | dk (kvs : List (Key × PV)) | dt (kvs : List (List Key × PV))
  | rng (lo hi : Int)
  | ins (c : Nat) (fs : List (Nat × PV))
  | clo (k : Nat) (vs : List PV)
  /-- a tuple, a dict with text keys of the module's top -/
  | ktup (xs : List PV) | kdk (kvs : List (Key × PV))
  deriving Inhabited

/-- a slot's content: shared, an own container, an own instance -/
inductive W where
  | sh (v : PV)
  | own (v : PV)
  | obj (c : Nat) (fs : List (Nat × W))
  deriving Inhabited

mutual
def W.frz : W → PV
  | .sh v => v
  | .own v => v
  | .obj c fs => .ins c (W.frzs fs)
def W.frzs : List (Nat × W) → List (Nat × PV)
  | [] => []
  | p :: r => W.frzF p :: W.frzs r
def W.frzF : Nat × W → Nat × PV
  | (f, w) => (f, w.frz)
end

structure Exn where
  cls : Nat
  flds : List (Nat × PV)
  deriving Inhabited

abbrev Sl := List (Option W)

inductive R (α : Type) where
  | ok (a : α) (s : Sl)
  | ex (x : Exn) (s : Sl)
  | no

abbrev M (α : Type) := Sl → R α
@[simp] def R.bind {α β : Type} (r : R α) (f : α → Sl → R β) : R β := match r with
  | .ok a s => f a s
  | .ex x s => .ex x s
  | .no => .no
instance : Monad M where
  pure a := fun s => .ok a s
  bind m f := fun s => (m s).bind f
def fail {α : Type} : M α := fun _ => .no
def get : M Sl := fun s => .ok s s
def put (s : Sl) : M Unit := fun _ => .ok () s
@[simp] theorem pure_run {α} (a : α) (s : Sl) : (pure a : M α) s = .ok a s := rfl
@[simp] theorem bind_run {α β} (m : M α) (f : α → M β) (s : Sl) : (m >>= f) s = (m s).bind f := rfl
@[simp] theorem fail_run {α} (s : Sl) : (fail : M α) s = .no := rfl
@[simp] theorem get_run (s : Sl) : get s = .ok s s := rfl
@[simp] theorem put_run (s s' : Sl) : put s' s = .ok () s' := rfl
def ofO {α : Type} : Option α → M α
  | some a => pure a
  | none => fail
@[simp] theorem ofO_some {α} (a : α) (s : Sl) : ofO (some a) s = .ok a s := rfl
@[simp] theorem ofO_none {α} (s : Sl) : (ofO none : M α) s = .no := rfl

abbrev SZ : Nat := 16777216

/-! ### operators on values -/
inductive BOp | add | sub | mul | fdiv | mod | pow
  deriving DecidableEq, Repr
inductive COp | eq | ne | lt | le | gt | ge | is_ | isnt | in_ | notin
  deriving DecidableEq, Repr
inductive Ty | int | bool | str | list | tuple | dict | cls (c : Nat)
  deriving DecidableEq, Repr

mutual
/-- == of data: None, bools, intsM, texts, lists, tuples -/
def deq : PV → PV → Bool
  | .non, .non => true
  | .bl a, .bl b => a == b
  | .bl a, .int j => (if a then 1 else 0) == j
  | .int i, .bl b => i == (if b then 1 else 0)
  | .int i, .int j => i == j
  | .str x, .str y => x == y
  | .lst xs, .lst ys => deqs xs ys
  | .tup xs, .tup ys => deqs xs ys
  | _, _ => false
def deqs : List PV → List PV → Bool
  | [], [] => true
  | x :: xs, y :: ys => deq x y && deqs xs ys
  | _, _ => false
end
mutual
/-- the depth of data; none for what is no data -/
def dep : PV → Option Nat
  | .non | .bl _ | .int _ | .str _ => some 0
  | .lst xs => (deps xs).map (· + 1)
  | .tup xs => (deps xs).map (· + 1)
  | _ => none
def deps : List PV → Option Nat
  | [] => some 0
  | x :: xs => match dep x, deps xs with
    | some a, some b => some (max a b)
    | _, _ => none
end
def isData (v : PV) : Bool := match dep v with
  | some d => d ≤ 60
  | none => false

def small (i : Int) : Bool := -(2 ^ 64) < i && i < 2 ^ 64
def binop : BOp → PV → PV → Option PV
  | .add, .int i, .int j => some (.int (i + j))
  | .sub, .int i, .int j => some (.int (i - j))
  | .mul, .int i, .int j => if small i || small j then some (.int (i * j)) else none
  | .fdiv, .int i, .int j => if j != 0 && j.natAbs < 1073741824 then some (.int (i.fdiv j)) else none
  | .mod, .int i, .int j => if j != 0 then some (.int (i.fmod j)) else none
  | .pow, .int i, .int j => if 0 ≤ j && j ≤ 1000000 && i.natAbs < 2 ^ 64 then some (.int (i ^ j.toNat)) else none
  | .add, .str x, .str y => if x.length + y.length ≤ SZ then some (.str (x ++ y)) else none
  | .add, .lst xs, .lst ys => if xs.length + ys.length ≤ SZ then some (.lst (xs ++ ys)) else none
  | .add, .tup xs, .tup ys => if xs.length + ys.length ≤ SZ then some (.tup (xs ++ ys)) else none
  | .mul, .lst xs, .int k => if -(2 ^ 63) ≤ k && k < 2 ^ 63 && xs.length * k.toNat ≤ SZ then some (.lst (List.replicate k.toNat xs).flatten) else none
  | .mul, .tup xs, .int k => if !xs.isEmpty && (decide (2 ≤ k) && (decide (k ≤ 1000) && decide (xs.length ≤ 1000))) then some (.tup (List.replicate k.toNat xs).flatten) else none
  | _, _, _ => none

/-- a op= b of intsM -/
def augI : BOp → Int → Int → Option Int
  | .add, i, j => some (i + j)
  | .sub, i, j => some (i - j)
  | .mul, i, j => if small i || small j then some (i * j) else none
  | _, _, _ => none
def keyOf : PV → Option Key
  | .int i => some (.inl i)
  | .str x => some (.inr x)
  | _ => none
def keysOf : List PV → Option (List Key)
  | [] => some []
  | x :: xs => match keyOf x, keysOf xs with
    | some k, some ks => some (k :: ks)
    | _, _ => none
def tkeyOf : PV → Option (List Key)
  | .tup xs => keysOf xs
  | _ => none
def pvKey : Key → PV
  | .inl i => .int i
  | .inr x => .str x
def look {κ : Type} [DecidableEq κ] (k : κ) : List (κ × PV) → Option PV
  | [] => none
  | (j, v) :: r => if j = k then some v else look k r
def putK {κ : Type} [DecidableEq κ] (k : κ) (v : PV) (kvs : List (κ × PV)) : List (κ × PV) :=
  if kvs.any (fun p => decide (p.1 = k)) then kvs.map (fun p => if p.1 = k then (p.1, v) else p) else kvs ++ [(k, v)]
def dropK {κ : Type} [DecidableEq κ] (k : κ) (kvs : List (κ × PV)) : List (κ × PV) := kvs.filter fun p => decide (p.1 ≠ k)

/-- order of texts, of tuples of intsM and texts -/
def sLt (x y : Str) : Bool := decide (x.cps.toList < y.cps.toList)
/-! < of two things that sort together: intsM (bools not), texts, tuples of such of any arity -/
mutual
def vlt : PV → PV → Option Bool
  | .int i, .int j => some (decide (i < j))
  | .str x, .str y => some (sLt x y)
  | .tup xs, .tup ys => vlts xs ys
  | _, _ => none
def vlts : List PV → List PV → Option Bool
  | [], [] => some false
  | [], _ :: _ => some true
  | _ :: _, [] => some false
  | x :: xs, y :: ys => if deq x y then vlts xs ys else vlt x y
end

/-- pairs of intsM -/
def intsM : List PV → Option (List Int)
  | [] => some []
  | .int i :: r => (intsM r).map (i :: ·)
  | _ => none
def lexLt : List Int → List Int → Bool
  | [], [] => false
  | [], _ :: _ => true
  | _ :: _, [] => false
  | x :: xs, y :: ys => if x = y then lexLt xs ys else decide (x < y)
def lexLe : List Int → List Int → Bool
  | [], _ => true
  | _ :: _, [] => false
  | x :: xs, y :: ys => if x = y then lexLe xs ys else decide (x ≤ y)

def isNon : PV → Bool
  | .non => true
  | _ => false
def cmpop : COp → PV → PV → Option Bool
  | .eq, x, y => if isData x && isData y then some (deq x y) else none
  | .ne, x, y => if isData x && isData y then some (!deq x y) else none
  | .lt, .int i, .int j => some (decide (i < j))
  | .le, .int i, .int j => some (decide (i ≤ j))
  | .gt, .int i, .int j => some (decide (j < i))
  | .ge, .int i, .int j => some (decide (j ≤ i))
  | .lt, .tup xs, .tup ys => match intsM xs, intsM ys with
    | some a, some b => some (lexLt a b)
    | _, _ => none
  | .le, .tup xs, .tup ys => match intsM xs, intsM ys with
    | some a, some b => some (lexLe a b)
    | _, _ => none
  | .is_, x, .non => some (isNon x)
  | .isnt, x, .non => some !(isNon x)
  | .is_, .bl a, .bl b => some (a == b)
  | .isnt, .bl a, .bl b => some (a != b)
  | .in_, .str x, .str y => match x.cps.toList with
    | [c] => some (y.cps.toList.contains c)
    | _ => none
  | .notin, .str x, .str y => match x.cps.toList with
    | [c] => some (!y.cps.toList.contains c)
    | _ => none
  | .in_, x, .lst ys => if isData x && ys.all isData then some (ys.any fun y => deq y x) else none
  | .notin, x, .lst ys => if isData x && ys.all isData then some (!(ys.any fun y => deq y x)) else none
  | .in_, x, .tup ys => if isData x && ys.all isData then some (ys.any fun y => deq y x) else none
  | .notin, x, .tup ys => if isData x && ys.all isData then some (!(ys.any fun y => deq y x)) else none
  | .in_, x, .ktup ys => if isData x && ys.all isData then some (ys.any fun y => deq y x) else none
  | .in_, .str x, .kdk kvs => some (look (.inr x) kvs).isSome
  | .notin, .str x, .kdk kvs => some (!(look (.inr x) kvs).isSome)
  | .in_, x, .dk kvs => match keyOf x with | some k => some (look k kvs).isSome | none => none
  | .notin, x, .dk kvs => match keyOf x with | some k => some (!(look k kvs).isSome) | none => none
  | .in_, x, .dt kvs => match tkeyOf x with | some k => some (look k kvs).isSome | none => none
  | .notin, x, .dt kvs => match tkeyOf x with | some k => some (!(look k kvs).isSome) | none => none
  | _, _, _ => none

def truth : PV → Option Bool
  | .non => some false
  | .bl b => some b
  | .int i => some (i != 0)
  | .str x => if x.length ≤ SZ then some (x.length != 0) else none
  | .lst xs => some !xs.isEmpty
  | .tup xs => some !xs.isEmpty
  | .ktup xs => some !xs.isEmpty
  | _ => none

/-- the place of an index -/
def ixN (n : Nat) (i : Int) : Option Nat :=
  if 0 ≤ i then (if i < n then some i.toNat else none)
  else (if -(n : Int) ≤ i then some (i + n).toNat else none)
def index : PV → PV → Option PV
  | .lst xs, .int i => (ixN xs.length i).bind fun k => xs[k]?
  | .tup xs, .int i => (ixN xs.length i).bind fun k => xs[k]?
  | .str x, .int i => if x.length ≤ SZ then (ixN x.length i).bind fun k => (x.cps.toList[k]?).map fun c => .str ⟨#[c]⟩ else none
  | .ktup xs, .int i => (ixN xs.length i).bind fun k => xs[k]?
  | .kdk kvs, .str x => look (.inr x) kvs
  | .dk kvs, k => (keyOf k).bind fun k => look k kvs
  | .dt kvs, k => (tkeyOf k).bind fun k => look k kvs
  | _, _ => none
/-- the end of a slice -/
def cutAt (n : Nat) (d : Nat) : PV → Option Nat
  | .non => some d
  | .int i => some (if i < 0 then (i + n).toNat else min i.toNat n)
  | _ => none
def cut {α : Type} (xs : List α) (lo hi : PV) : Option (List α) :=
  match cutAt xs.length 0 lo, cutAt xs.length xs.length hi with
  | some a, some b => some ((xs.take b).drop a)
  | _, _ => none
def slice : PV → PV → PV → Option PV
  | .lst xs, lo, hi => (cut xs lo hi).map .lst
  | .tup xs, lo, hi => (cut xs lo hi).map .tup
  | .str x, lo, hi => if x.length ≤ SZ then (cut x.cps.toList lo hi).map fun l => .str ⟨l.toArray⟩ else none
  | _, _, _ => none
def revs : PV → Option PV
  | .lst xs => some (.lst xs.reverse)
  | .tup xs => some (.tup xs.reverse)
  | _ => none

/-- .. of the classes that may be asked for (ok) -/
def typeOk (ok : Nat → Bool) : PV → Bool
  | .ins c _ => ok c
  | .rng _ _ => false
  | .clo _ _ => false
  | .dt _ => false
  | .kdk _ => false
  | _ => true
def typeIs : PV → Ty → Bool
  | .bl _, .int => true
  | .int _, .int => true
  | .bl _, .bool => true
  | .str _, .str => true
  | .lst _, .list => true
  | .tup _, .tuple => true
  | .ktup _, .tuple => true
  | .dk _, .dict => true
  | .dt _, .dict => true
  | .ins c _, .cls d => c == d
  | _, _ => false

/-- what is walked, as a list -/
def items : PV → Option (List PV)
  | .lst xs => some xs
  | .tup xs => some xs
  | .ktup xs => some xs
  | .str x => some (x.cps.toList.map fun c => .str ⟨#[c]⟩)
  | .rng lo hi => some ((List.range (hi - lo).toNat).map fun (k : Nat) => .int (lo + k))
  | .dk kvs => some (kvs.map fun p => pvKey p.1)
  | .dt kvs => some (kvs.map fun p => .tup (p.1.map pvKey))
  | _ => none
/-- of a list, a tuple -/
def itemsQ : PV → Option (List PV)
  | .lst xs => some xs
  | .tup xs => some xs
  | .ktup xs => some xs
  | _ => none
/-- of what is walked without more ado -/
def itemsS : PV → Option (List PV)
  | .lst xs => some xs
  | .tup xs => some xs
  | .ktup xs => some xs
  | .str x => some (x.cps.toList.map fun c => .str ⟨#[c]⟩)
  | _ => none
def pairs : PV → Option (List PV)
  | .dt kvs => some (kvs.map fun p => .tup [.tup (p.1.map pvKey), p.2])
  | _ => none
def enumFrom (n : Nat) : List PV → List PV
  | [] => []
  | x :: xs => .tup [.int n, x] :: enumFrom (n + 1) xs
def zip2 : List PV → List PV → List PV
  | x :: xs, y :: ys => .tup [x, y] :: zip2 xs ys
  | _, _ => []
def zip3 : List PV → List PV → List PV → List PV
  | x :: xs, y :: ys, z :: zs => .tup [x, y, z] :: zip3 xs ys zs
  | _, _, _ => []

/-- a stable sort by vlt -/
def sIns (x : PV) : List PV → Option (List PV)
  | [] => some [x]
  | y :: ys => match vlt y x with
    | some true => (sIns x ys).map (y :: ·)
    | some false => some (x :: y :: ys)
    | none => none
def sortV : List PV → Option (List PV)
  | [] => some []
  | x :: xs => match sortV xs with
    | some l => sIns x l
    | none => none
def minV : PV → List PV → Option PV
  | m, [] => some m
  | m, x :: xs => match vlt x m with
    | some true => minV x xs
    | some false => minV m xs
    | none => none
def maxV : PV → List PV → Option PV
  | m, [] => some m
  | m, x :: xs => match vlt m x with
    | some true => maxV x xs
    | some false => maxV m xs
    | none => none
def strsM : List PV → Option (List Str)
  | [] => some []
  | .str x :: r => (strsM r).map (x :: ·)
  | _ => none
def bools : List PV → Option (List Bool)
  | [] => some []
  | .bl b :: r => (bools r).map (b :: ·)
  | _ => none
/-- the pairs of a dict; text and int keys (false), or tuples (true) -/
def mkDK : List PV → List (Key × PV) → Option (List (Key × PV))
  | [], acc => some acc
  | .tup [k, v] :: r, acc => match keyOf k with
    | some k => mkDK r (putK k v acc)
    | none => none
  | _, _ => none
def mkDT : List PV → List (List Key × PV) → Option (List (List Key × PV))
  | [], acc => some acc
  | .tup [k, v] :: r, acc => match tkeyOf k with
    | some k => mkDT r (putK k v acc)
    | none => none
  | _, _ => none
def dedup : List PV → List PV → List PV
  | [], acc => acc
  | x :: r, acc => if acc.any (fun y => deq y x) then dedup r acc else dedup r (acc ++ [x])

/-- a stable sort by a test -/
def insB {α : Type} (lt : α → α → Bool) (x : α) : List α → List α
  | [] => [x]
  | y :: ys => if lt y x then y :: insB lt x ys else x :: y :: ys
def isort {α : Type} (lt : α → α → Bool) : List α → List α
  | [] => []
  | x :: xs => insB lt x (isort lt xs)
def lexP (p q : Int × Int) : Bool := if p.1 = q.1 then decide (p.2 < q.2) else decide (p.1 < q.1)
def ltI (a b : Int) : Bool := decide (a < b)
def prV (p : Int × Int) : PV := .tup [.int p.1, .int p.2]
def pairsI : List PV → Option (List (Int × Int))
  | [] => some []
  | .tup [.int i, .int j] :: r => (pairsI r).map ((i, j) :: ·)
  | _ => none
def pairsK : List (List Key) → Option (List (Int × Int))
  | [] => some []
  | [.inl i, .inl j] :: r => (pairsK r).map ((i, j) :: ·)
  | _ => none
inductive Bi | len | int | abs | str | repr | bool | min | max | sum | sorted | tuple | list | dictK | dictT | lenSet | all | any | rng
  deriving DecidableEq, Repr
inductive Me | join | get | getD | index | count | split | partition | replace | find | upper
  deriving DecidableEq, Repr
inductive Mu | append | extend | pop | pop0 | popAt | insert | update
  deriving DecidableEq, Repr

/-- keys whose hashes differ (dict(d) asks it of tuples) -/
def smallK : List Key → Bool
  | [.inl i, .inl j] => decide (0 ≤ i) && (decide (i < 32) && (decide (0 ≤ j) && decide (j < 32)))
  | _ => false
def toStrI (i : Int) : Str := Str.ofString (toString i)
/-- a built-in's value; the Bool: is it a new container (own) -/
def builtin (rp : PV → Option Str) : Bi → List PV → Option W
  | .len, [.str x] => if x.length ≤ SZ then some (.sh (.int x.length)) else none
  | .len, [.lst xs] => some (.sh (.int xs.length))
  | .len, [.tup xs] => some (.sh (.int xs.length))
  | .len, [.ktup xs] => some (.sh (.int xs.length))
  | .len, [.dk kvs] => some (.sh (.int kvs.length))
  | .len, [.dt kvs] => some (.sh (.int kvs.length))
  | .int, [.int i] => some (.sh (.int i))
  | .int, [.bl b] => some (.sh (.int (if b then 1 else 0)))
  | .abs, [.int i] => some (.sh (.int (if i < 0 then -i else i)))
  | .str, [.int i] => if i.natAbs.log2 < 1920 then some (.sh (.str (toStrI i))) else none
  | .str, [.str x] => some (.sh (.str x))
  | .repr, [v] => (rp v).map fun x => .sh (.str x)
  | .bool, [.int i] => some (.sh (.bl (i != 0)))
  | .bool, [.bl b] => some (.sh (.bl b))
  | .min, [.int i, .int j] => some (.sh (.int (if j < i then j else i)))
  | .max, [.int i, .int j] => some (.sh (.int (if j > i then j else i)))
  | .sum, [.lst xs] => (intsM xs).map fun ns => .sh (.int ns.sum)
  | .sorted, [.lst xs] => match pairsI xs with
    | some ps => some (.own (.lst ((isort lexP ps).map prV)))
    | none => (intsM xs).map fun ns => .own (.lst ((isort ltI ns).map .int))
  | .sorted, [.dt kvs] => (pairsK (kvs.map (·.1))).map fun ps => .own (.lst ((isort lexP ps).map prV))
  | .tuple, [.tup xs] => some (.sh (.tup xs))
  | .tuple, [.lst xs] => some (.sh (.tup xs))
  | .list, [.lst xs] => some (.own (.lst xs))
  | .list, [.tup xs] => some (.own (.lst xs))
  | .list, [.ktup xs] => some (.own (.lst xs))
  | .list, [.dt kvs] => some (.own (.lst (kvs.map fun p => .tup (p.1.map pvKey))))
  | .dictK, [.dk kvs] => some (.own (.dk kvs))
  | .dictK, [.lst xs] => (mkDK xs []).map fun l => .own (.dk l)
  | .dictT, [.dt kvs] => if (kvs.map (·.1)).all smallK then some (.own (.dt kvs)) else none
  | .dictT, [.lst xs] => (mkDT xs []).map fun l => .own (.dt l)
  | .lenSet, [v] => match items v with
    | some xs => if xs.all isData then some (.sh (.int (dedup xs []).length)) else none
    | none => none
  | .all, [.lst xs] => (bools xs).map fun bs => .sh (.bl (bs.all id))
  | .any, [.lst xs] => (bools xs).map fun bs => .sh (.bl (bs.any id))
  | .rng, [.int a] => if -(2 ^ 62) ≤ a && a < 2 ^ 62 then some (.sh (.rng 0 a)) else none
  | .rng, [.int a, .int b] => if -(2 ^ 62) ≤ a && a < 2 ^ 62 && (-(2 ^ 62) ≤ b && b < 2 ^ 62) then some (.sh (.rng a b)) else none
  | _, _ => none

def idxOf (x : PV) : List PV → Nat → Option Nat
  | [], _ => none
  | y :: r, n => if deq y x then some n else idxOf x r (n + 1)
/-- a built-in type's method that changes nothing -/
def method (spl : Str → Str → Option (List Str)) : Me → PV → List PV → Option W
  | .join, .str s, [.lst xs] => (strsM xs).bind fun l => if (l.map (·.length)).sum + l.length * s.length ≤ SZ then some (.sh (.str (PySem.Str.join s l))) else none
  | .join, .str s, [.tup xs] => (strsM xs).bind fun l => if (l.map (·.length)).sum + l.length * s.length ≤ SZ then some (.sh (.str (PySem.Str.join s l))) else none
  | .get, .dk kvs, [k] => (keyOf k).map fun k => .sh ((look k kvs).getD .non)
  | .get, .dt kvs, [k] => (tkeyOf k).map fun k => .sh ((look k kvs).getD .non)
  | .getD, .dk kvs, [k, d] => (keyOf k).map fun k => .sh ((look k kvs).getD d)
  | .getD, .dt kvs, [k, d] => (tkeyOf k).map fun k => .sh ((look k kvs).getD d)
  | .index, .lst xs, [x] => if isData x && xs.all isData then (idxOf x xs 0).map fun n => .sh (.int n) else none
  | .index, .tup xs, [x] => if isData x && xs.all isData then (idxOf x xs 0).map fun n => .sh (.int n) else none
  | .count, .lst xs, [x] => if isData x && xs.all isData then some (.sh (.int (xs.filter fun y => deq y x).length)) else none
  | .split, .str x, [.str s] => (spl x s).map fun l => .own (.lst (l.map .str))
  | _, _, _ => none

/-- a method that changes an own container: the value told, the container behind -/
def mutate : Mu → PV → List PV → Option (PV × PV)
  | .append, .lst xs, [v] => if xs.length < SZ then some (.non, .lst (xs ++ [v])) else none
  | .extend, .lst xs, [v] => match v with
    | .lst ys => if xs.length + ys.length ≤ SZ then some (.non, .lst (xs ++ ys)) else none
    | _ => none
  | .pop, .lst xs, [] => (xs.getLast?).map fun y => (y, .lst xs.dropLast)
  | .popAt, .lst xs, [.int i] => if -(2 ^ 63) ≤ i && i < 2 ^ 63 then (ixN xs.length i).bind fun k => (xs[k]?).map fun y => (y, .lst (xs.eraseIdx k)) else none
  | .popAt, .dk kvs, [k] => (keyOf k).bind fun k => (look k kvs).map fun v => (v, .dk (dropK k kvs))
  | .popAt, .dt kvs, [k] => (tkeyOf k).bind fun k => (look k kvs).map fun v => (v, .dt (dropK k kvs))
  | .update, .dk kvs, [.dk more] => some (.non, .dk (more.foldl (fun acc p => putK p.1 p.2 acc) kvs))
  | _, _, _ => none
def setItem : PV → PV → PV → Option PV
  | .lst xs, .int i, v => if -(2 ^ 63) ≤ i && i < 2 ^ 63 then (ixN xs.length i).map fun k => .lst (xs.set k v) else none
  | .dk kvs, k, v => (keyOf k).bind fun k => if kvs.length < SZ then some (.dk (putK k v kvs)) else none
  | .dt kvs, k, v => (tkeyOf k).bind fun k => if kvs.length < SZ then some (.dt (putK k v kvs)) else none
  | _, _, _ => none

/-! ### the text -/
/-- a target: a name (kept own or not), a tuple of targets -/
inductive Tg where
  | nm (i : Nat) (k : Bool)
  | tp (ts : List Tg)
inductive E where
  | var (i : Nat) | mov (i : Nat) | lit (v : PV) | glb (g : Nat)
  | tup (es : List E) | lst (es : List E) | dct (t : Bool) (ks vs : List E)
  | bin (o : BOp) (a b : E) | neg (a : E) | not_ (a : E) | and_ (a b : E) | or_ (a b : E)
  | cmp (o : COp) (a b : E) | chn (o p : COp) (a b c : E) | ite (c a b : E)
  | idx (a i : E) | slc (a lo hi : E) | rev (a : E) | fld (a : E) (f : Nat)
  | isi (a : E) (ts : List Ty)
  | call (f : Nat) (es : List E) | ofIt (b : Bi) (a : E) | blt (b : Bi) (es : List E) | new (c : Nat) (es : List E)
  | meth (m : Me) (a : E) (es : List E) | mut (m : Mu) (i : Nat) (f : Option Nat) (es : List E) | omth (m : Nat) (a : E) (es : List E)
  | comp (elt : E) (own : List Nat) (tg : Tg) (it : E) (ifs : List E)
  | comp2 (elt : E) (own : List Nat) (tg : Tg) (it : E) (ifs : List E) (tg2 : Tg) (it2 : E) (ifs2 : List E)
  | dcomp (t : Bool) (k v : E) (own : List Nat) (tg : Tg) (it : E) (ifs : List E)
  /-- what is walked: enumerate, zip, d.items() -/
  | enm (a : E) | zp2 (a b : E) | zp3 (a b c : E) | prs (a : E)
  | lam (k : Nat) (vs : List Nat) | cloc (i : Nat) (es : List E)
inductive S where
  | asg (t : Tg) (e : E) | par (is : List (Nat × Bool)) (es : List E)
  | seti (i : Nat) (f : Option Nat) (k v : E) | setf (i : Nat) (f : Nat) (v : E)
  | aug (i : Nat) (o : BOp) (e : E)
  | exp (e : E) | ret (e : E) | retN
  | ifs (c : E) (t e : List S) | fors (t : Tg) (it : E) (b : List S) | whl (c : E) (b : List S)
  | pass | brk | cnt | rais (e : E) | stop

structure Fn where
  np : Nat
  ns : Nat
  lend : List Bool
  body : List S

inductive CR where
  | ok (w : W) (outs : List (Option W))
  | ex (x : Exn) (outs : List (Option W))
  | no

structure Ctx where
  call : Nat → List W → CR
  glb : Nat → Option PV
  fuel : Nat
  /-- the method of a class -/
  meth : Nat → Nat → Option Nat
  /-- __init__ of a class -/
  init : Nat → Option Nat
  /-- a class has this field -/
  fok : Nat → Nat → Bool
  cok : Nat → Bool
  rp : PV → Option Str
  spl : Str → Str → Option (List Str)

/-! ### slots -/
def rdVar (i : Nat) : M W := fun s => match s[i]? with
  | some (some w) => .ok (.sh w.frz) (s.set i (some (.sh w.frz)))
  | _ => .no
def movVar (i : Nat) : M W := fun s => match s[i]? with
  | some (some w) => .ok w (s.set i none)
  | _ => .no
/-- without freezing -/
def viewVar (i : Nat) : M PV := fun s => match s[i]? with
  | some (some w) => .ok w.frz s
  | _ => .no
def lookF {α : Type} (f : Nat) : List (Nat × α) → Option α
  | [] => none
  | (g, x) :: r => if g = f then some x else lookF f r
def putF {α : Type} (f : Nat) (x : α) : List (Nat × α) → List (Nat × α)
  | [] => [(f, x)]
  | (g, y) :: r => if g = f then (g, x) :: r else (g, y) :: putF f x r
def fieldV (ok : Nat → Nat → Bool) (f : Nat) : PV → Option PV
  | .ins c fs => if ok c f then lookF f fs else none
  | _ => none
/-- x.f where x is a slot -/
def rdFld (ok : Nat → Nat → Bool) (i f : Nat) : M W := fun s => match s[i]? with
  | some (some (.obj c fs)) => if ok c f then match lookF f fs with
    | some (.sh u) => .ok (.sh u) s
    | _ => .no
    else .no
  | some (some (.sh v)) => match fieldV ok f v with
    | some u => .ok (.sh u) s
    | none => .no
  | _ => .no
/-- the kind of a thing that has methods -/
def kd : PV → Nat
  | .str _ => 1
  | .lst _ => 2
  | .tup _ => 3
  | .dk _ => 4
  | .dt _ => 5
  | _ => 0
def isLst : PV → Bool
  | .lst _ => true
  | _ => false
/-- an own container is changed in its place -/
def modPlace {α : Type} (i : Nat) (f : Option Nat) (g : PV → Option (α × PV)) : M α := fun s => match f, s[i]? with
  | none, some (some (.own v)) => match g v with
    | some (a, v') => .ok a (s.set i (some (.own v')))
    | none => .no
  | _, _ => .no

def stVar (i : Nat) (k : Bool) (w : W) : M Unit := fun s => if i < s.length then .ok () (s.set i (some (if k then w else .sh w.frz))) else .no
mutual
def stTg : Tg → W → M Unit
  | .nm i k, w => stVar i k w
  | .tp ts, w => match w.frz with
    | .tup xs => stTgs ts xs
    | .ktup xs => stTgs ts xs
    | _ => fail
def stTgs : List Tg → List PV → M Unit
  | [], [] => pure ()
  | t :: ts, x :: xs => do stTg t (.sh x); stTgs ts xs
  | _, _ => fail
end
def wipe : List Nat → Sl → Sl
  | [], s => s
  | v :: vs, s => (wipe vs s).set v none
def wipeM (own : List Nat) : M Unit := fun s => .ok () (wipe own s)

/-! ### evaluation -/
def truthM (v : PV) : M Bool := ofO (truth v)
inductive Arg where
  | rf (i : Nat) | vl (w : W)
/-- the arguments at the call: an own thing of a slot is lent -/
def lendA : List Arg → Sl → Option (List W × Sl)
  | [], s => some ([], s)
  | .vl w :: r, s => (lendA r s).map fun p => (w :: p.1, p.2)
  | .rf i :: r, s => match s[i]? with
    | some (some (.sh v)) => (lendA r s).map fun p => (.sh v :: p.1, p.2)
    | some (some w) => (lendA r (s.set i none)).map fun p => (w :: p.1, p.2)
    | _ => none
def backA : List Arg → List (Option W) → Sl → Sl
  | .rf i :: r, o :: os, s => match s[i]? with
    | some none => backA r os (s.set i o)
    | _ => backA r os s
  | .vl _ :: r, _ :: os, s => backA r os s
  | _, _, s => s
def callM (c : List W → CR) (as : List Arg) : M W := fun s => match lendA as s with
  | some (ws, s1) => match c ws with
    | .ok w outs => .ok w (backA as outs s1)
    | .ex x outs => .ex x (backA as outs s1)
    | .no => .no
  | none => .no
def Arg.val : Arg → M W
  | .rf i => rdVar i
  | .vl w => pure w
def frzR (m : M W) : M PV := do let w ← m; pure w.frz

def compLoop (own : List Nat) (tg : Tg) (test : M Bool) (elt : M PV) : List PV → List PV → M (List PV)
  | [], acc => pure acc
  | x :: xs, acc => do
    wipeM own
    stTg tg (.sh x)
    let b ← test
    if b then
      let v ← elt
      if acc.length < SZ then compLoop own tg test elt xs (acc ++ [v]) else fail
    else compLoop own tg test elt xs acc
def dcLoop (own : List Nat) (tg : Tg) (test : M Bool) (kv : M (PV × PV)) : List PV → PV → M PV
  | [], acc => pure acc
  | x :: xs, acc => do
    wipeM own
    stTg tg (.sh x)
    let b ← test
    if b then
      let p ← kv
      let acc' ← ofO (setItem acc p.1 p.2)
      dcLoop own tg test kv xs acc'
    else dcLoop own tg test kv xs acc
def comp2Loop (tg : Tg) (test : M Bool) (it2 : M (List PV)) (inner : List PV → List PV → M (List PV)) : List PV → List PV → M (List PV)
  | [], acc => pure acc
  | x :: xs, acc => do
    stTg tg (.sh x)
    let b ← test
    if b then
      let ys ← it2
      let acc ← inner ys acc
      comp2Loop tg test it2 inner xs acc
    else comp2Loop tg test it2 inner xs acc
def inBlock (own : List Nat) {α : Type} (m : M α) : M α := fun old => match m (wipe own old) with
  | .ok a s => .ok a (wipe own s)
  | .ex x s => .ex x (wipe own s)
  | .no => .no
def isVarE : E → Option Nat
  | .var i => some i
  | _ => none

/-- the ways in which an expression is asked: its value; looked at; as a test; walked; handed to a def -/
structure Sem where
  v : M W
  b : M PV
  t : M Bool
  it : M (List PV)
  arg : M Arg
def mk (m : M W) : Sem where
  v := m
  b := frzR m
  t := do let v ← frzR m; truthM v
  it := do let v ← frzR m; ofO (itemsS v)
  arg := do let w ← m; pure (.vl w)
/-- for what is walked alone -/
def mkIt (m : M (List PV)) : Sem := { mk fail with it := m }
/-- range is there to be walked alone -/
def bltSem (b : Bi) (m : M W) : Sem := match b with
  | .rng => mkIt do let v ← frzR m; ofO (items v)
  | _ => mk m
/-- the pairs of a dict display -/
def evPs : List (M W) → List (M W) → M (List PV)
  | [], [] => pure []
  | k :: ks, v :: vs => do let a ← k; let b ← v; let r ← evPs ks vs; pure (.tup [a.frz, b.frz] :: r)
  | _, _ => fail
def isPlace : E → Option Nat
  | .var j => some j
  | _ => none
/-- an end of a slice: none at all, or an int -/
def isNoPart : E → Bool
  | .lit .non => true
  | _ => false
def partM (e : E) (m : M W) : M PV := if isNoPart e then pure .non else do
  let w ← m
  match w.frz with
  | .int i => pure (.int i)
  | _ => fail
def ownIf (v : PV) : W := match v with
  | .lst _ => .own v
  | _ => .sh v
def newM (C : Ctx) (c : Nat) (as : List Arg) : M W := match C.init c with
  | some f => fun s => match lendA as s with
    | some (ws, s1) => match C.call f (.obj c [] :: ws) with
      | .ok (.sh .non) (some w :: outs) => .ok w (backA as outs s1)
      | .ex x (_ :: outs) => .ex x (backA as outs s1)
      | _ => .no
    | none => .no
  | none => fail
def clsVar (j : Nat) : M Nat := fun s => match s[j]? with
  | some (some (.obj c _)) => .ok c s
  | some (some (.sh (.ins c _))) => .ok c s
  | _ => .no
def lamM (k : Nat) (is : List Nat) : M W := fun s => match is.mapM (fun i => s.getD i none) with
  | some ws => .ok (.sh (.clo k (ws.map W.frz))) (is.foldl (fun s i => s.set i ((s.getD i none).map fun w => .sh w.frz)) s)
  | none => .no
def clocM (C : Ctx) (i : Nat) (as : List Arg) : M W := do
  let c ← viewVar i
  match c with
  | .clo k vs => fun s => match lendA as s with
    | some (ws, s1) => match C.call k (ws ++ vs.map .sh) with
      | .ok w outs => .ok w (backA as outs s1)
      | .ex x outs => .ex x (backA as outs s1)
      | .no => .no
    | none => .no
  | _ => fail
mutual
def sem (C : Ctx) : E → Sem
  | .var i => { mk (rdVar i) with b := viewVar i, t := do { let v ← viewVar i; truthM v }, arg := do { let _ ← viewVar i; pure (.rf i) } }
  | .mov i => mk (movVar i)
  | .lit v => mk (pure (.sh v))
  | .glb g => mk (ofO ((C.glb g).map .sh))
  | .tup es => mk do let vs ← evs C es; if vs.length ≤ SZ then pure (.sh (.tup vs)) else fail
  | .lst es => mk do let vs ← evs C es; if vs.length ≤ SZ then pure (.own (.lst vs)) else fail
  | .dct t ks vs => mk (if t then (match ks with
    | [] => pure (.own (.dt []))
    | _ => do
      let ps ← evPs (evL C ks) (evL C vs)
      ofO ((mkDT ps []).map fun l => .own (.dt l))) else do
    let ps ← evPs (evL C ks) (evL C vs)
    ofO ((mkDK ps []).map fun l => .own (.dk l)))
  | .bin o a b => mk do
    let x ← (sem C a).v
    let y ← (sem C b).v
    let v ← ofO (binop o x.frz y.frz)
    pure (ownIf v)
  | .neg a => mk do let x ← (sem C a).v; match x.frz with
    | .int i => pure (.sh (.int (-i)))
    | _ => fail
  | .not_ a => { mk (do let x ← (sem C a).v; let b ← truthM x.frz; pure (.sh (.bl !b))) with t := do let b ← (sem C a).t; pure !b }
  | .and_ a b => { mk (do
      let x ← (sem C a).v
      let t ← truthM x.frz
      if t then (sem C b).v else pure (.sh x.frz)) with t := do let t ← (sem C a).t; if t then (sem C b).t else pure false }
  | .or_ a b => { mk (do
      let x ← (sem C a).v
      let t ← truthM x.frz
      if t then pure (.sh x.frz) else (sem C b).v) with t := do let t ← (sem C a).t; if t then pure true else (sem C b).t }
  | .cmp o a b => mk do
    let x ← (sem C a).v
    let y ← (sem C b).b
    let r ← ofO (cmpop o x.frz y)
    pure (.sh (.bl r))
  | .chn o p a b c => mk do
    let x ← (sem C a).v
    let y ← (sem C b).v
    let r ← ofO (cmpop o x.frz y.frz)
    if r then
      let z ← (sem C c).v
      let r ← ofO (cmpop p y.frz z.frz)
      pure (.sh (.bl r))
    else pure (.sh (.bl false))
  | .ite c a b => { mk (do let t ← (sem C c).t; if t then (sem C a).v else (sem C b).v) with t := do let t ← (sem C c).t; if t then (sem C a).t else (sem C b).t }
  | .idx a i => mk (match isPlace a with
    | some j => do let _ ← viewVar j; let k ← (sem C i).v; let v ← viewVar j; let r ← ofO (index v k.frz); pure (.sh r)
    | none => do let x ← (sem C a).v; let k ← (sem C i).v; let r ← ofO (index x.frz k.frz); pure (.sh r))
  | .slc a lo hi => mk (match isPlace a with
    | some j => do let _ ← viewVar j; let l ← partM lo (sem C lo).v; let h ← partM hi (sem C hi).v; let x ← viewVar j; let r ← ofO (slice x l h); pure (ownIf r)
    | none => do let x ← (sem C a).v; let l ← partM lo (sem C lo).v; let h ← partM hi (sem C hi).v; let r ← ofO (slice x.frz l h); pure (ownIf r))
  | .rev a => mk do
    let x ← (sem C a).b
    let r ← ofO (revs x)
    pure (ownIf r)
  | .fld a f => match isPlace a with
    | some j => mk (rdFld C.fok j f)
    | _ => mk do let x ← frzR (sem C a).v; let r ← ofO (fieldV C.fok f x); pure (.sh r)
  | .isi a ts => mk do let x ← (sem C a).b; if typeOk C.cok x then pure (.sh (.bl (ts.any fun t => typeIs x t))) else fail
  | .call f es => mk do let as ← evArgs C es; callM (C.call f) as
  | .blt b es => bltSem b (match es with
      | [e] => do let v ← (sem C e).b; ofO (builtin C.rp b [v])
      | es => do let vs ← evs C es; ofO (builtin C.rp b vs))
  | .ofIt b a => mk do let xs ← (sem C a).it; ofO (builtin C.rp b [.lst xs])
  | .new c es => mk do let as ← evArgs C es; newM C c as
  | .meth m a es => mk (match isPlace a with
    | some j => do let x0 ← viewVar j; let vs ← evs C es; let x ← viewVar j; if kd x0 == kd x then ofO (method C.spl m x vs) else fail
    | none => do let x ← (sem C a).v; let vs ← evs C es; ofO (method C.spl m x.frz vs))
  | .mut m i f es => mk do
    let v0 ← viewVar i
    if isLst v0 then
      let vs ← evs C es
      let v ← modPlace i f fun c => if isLst c then mutate m c vs else none
      pure (.sh v)
    else fail
  | .omth m a es => mk (match isPlace a with
    | some j => do
      let c ← clsVar j
      match C.meth c m with
      | some f => do let as ← evArgs C es; callM (C.call f) (.rf j :: as)
      | none => fail
    | none => fail)
  | .comp elt own tg it is => mk do
    let xs ← (sem C it).it
    let r ← inBlock own (compLoop own tg (evTs C is) (frzR (sem C elt).v) xs [])
    pure (.own (.lst r))
  | .comp2 elt own tg it is tg2 it2 is2 => mk do
    let xs ← (sem C it).it
    let r ← inBlock own (comp2Loop tg (evTs C is) (sem C it2).it (fun ys acc => compLoop [] tg2 (evTs C is2) (frzR (sem C elt).v) ys acc) xs [])
    pure (.own (.lst r))
  | .dcomp t k v own tg it is => mk do
    let xs ← (sem C it).it
    let r ← inBlock own (dcLoop own tg (evTs C is) (do let a ← (sem C k).v; let b ← (sem C v).v; pure (a.frz, b.frz)) xs (if t then .dt [] else .dk []))
    pure (.own r)
  | .enm a => mkIt do let x ← (sem C a).v; let xs ← ofO (itemsS x.frz); pure (enumFrom 0 xs)
  | .zp2 a b => mkIt do
    let x ← (sem C a).v
    let y ← (sem C b).v
    let xs ← ofO (itemsQ x.frz)
    let ys ← ofO (itemsQ y.frz)
    pure (zip2 xs ys)
  | .zp3 a b c => mkIt do
    let x ← (sem C a).v
    let y ← (sem C b).v
    let z ← (sem C c).v
    let xs ← ofO (itemsQ x.frz)
    let ys ← ofO (itemsQ y.frz)
    let zs ← ofO (itemsQ z.frz)
    pure (zip3 xs ys zs)
  | .prs a => mkIt do let x ← frzR (sem C a).v; ofO (pairs x)
  | .lam k is => mk (lamM k is)
  | .cloc i es => mk do let as ← evArgs C es; clocM C i as
def evs (C : Ctx) : List E → M (List PV)
  | [] => pure []
  | e :: es => do let w ← (sem C e).v; let vs ← evs C es; pure (w.frz :: vs)
def evL (C : Ctx) : List E → List (M W)
  | [] => []
  | e :: es => (sem C e).v :: evL C es
def evArgs (C : Ctx) : List E → M (List Arg)
  | [] => pure []
  | e :: es => do let a ← (sem C e).arg; let as ← evArgs C es; pure (a :: as)
def evTs (C : Ctx) : List E → M Bool
  | [] => pure true
  | e :: es => do let b ← (sem C e).t; if b then evTs C es else pure false
end
abbrev ev (C : Ctx) (e : E) : M W := (sem C e).v

/-! ### statements -/
inductive Fl where
  | nx | rt (w : W) | bk | ct
def forLoop (tg : Tg) (body : M Fl) : List PV → M Fl
  | [] => pure .nx
  | x :: xs => do
    stTg tg (.sh x)
    let f ← body
    match f with
    | .nx => forLoop tg body xs
    | .ct => forLoop tg body xs
    | .bk => pure .nx
    | .rt w => pure (.rt w)
def whileLoop (test : M Bool) (body : M Fl) : Nat → M Fl
  | 0 => fail
  | n + 1 => do
    let b ← test
    if b then
      let f ← body
      match f with
      | .nx => whileLoop test body n
      | .ct => whileLoop test body n
      | .bk => pure .nx
      | .rt w => pure (.rt w)
    else pure .nx
def evWs (C : Ctx) : List E → M (List W)
  | [] => pure []
  | e :: es => do let w ← ev C e; let ws ← evWs C es; pure (w :: ws)
def stPar : List (Nat × Bool) → List W → M Unit
  | [], [] => pure ()
  | (i, k) :: r, w :: ws => do stVar i k w; stPar r ws
  | _, _ => fail
mutual
def exS (C : Ctx) : S → M Fl
  | .asg t e => do let w ← ev C e; stTg t w; pure .nx
  | .par is es => do let ws ← evWs C es; stPar is ws; pure .nx
  | .seti i f k v => do
    let v ← ev C v
    let _ ← viewVar i
    let k ← ev C k
    modPlace i f fun c => (setItem c k.frz v.frz).map fun c' => ((), c')
    pure .nx
  | .setf i f v => do
    let v ← ev C v
    fun s => match s[i]? with
      | some (some (.obj c fs)) => if C.fok c f && fs.length < 1000 then .ok .nx (s.set i (some (.obj c (putF f (.sh v.frz) fs)))) else .no
      | _ => .no
  | .aug i o e => do
    let x ← rdVar i
    let y ← ev C e
    match x.frz, y.frz with
    | .int a, .int b => (do let v ← ofO (augI o a b); stVar i false (.sh (.int v)); pure .nx)
    | _, _ => fail
  | .exp e => do let _ ← ev C e; pure .nx
  | .ret e => do let w ← ev C e; pure (.rt w)
  | .retN => pure (.rt (.sh .non))
  | .ifs c t e => do let b ← (sem C c).t; if b then exSs C t else exSs C e
  | .fors t it b => do let xs ← (sem C it).it; forLoop t (exSs C b) xs
  | .whl c b => whileLoop (sem C c).t (exSs C b) C.fuel
  | .pass => pure .nx
  | .brk => pure .bk
  | .cnt => pure .ct
  | .rais _ => fail
  | .stop => fail
def exSs (C : Ctx) : List S → M Fl
  | [] => pure .nx
  | s :: r => do
    let f ← exS C s
    match f with
    | .nx => exSs C r
    | f => pure f
end

/-! ### functions -/
def inits : Nat → List Bool → List W → List (Option W)
  | _, _, [] => []
  | k, ls, w :: ws => some (if ls.getD k false then w else .sh w.frz) :: inits (k + 1) ls ws
def outsOf : Nat → List Bool → List W → Sl → List (Option W)
  | _, _, [], _ => []
  | k, ls, w :: ws, s => (if ls.getD k false then s.getD k none else some (.sh w.frz)) :: outsOf (k + 1) ls ws s
def runFn (C : Ctx) (f : Fn) (args : List W) : CR :=
  if args.length = f.np then
    match exSs C f.body (inits 0 f.lend args ++ List.replicate (f.ns - f.np) none) with
    | .ok (.rt w) s => .ok w (outsOf 0 f.lend args s)
    | .ok .nx s => .ok (.sh .non) (outsOf 0 f.lend args s)
    | .ok _ _ => .no
    | .ex x s => .ex x (outsOf 0 f.lend args s)
    | .no => .no
  else .no

structure Prog where
  fn : Nat → Option Fn
  glb : Nat → Option PV
  fuel : Nat
  meth : Nat → Nat → Option Nat
  init : Nat → Option Nat
  /-- a class has this field -/
  fok : Nat → Nat → Bool
  cok : Nat → Bool
  rp : PV → Option Str
  spl : Str → Str → Option (List Str)
/-- a def called, with room for so many calls one in another -/
def callF (P : Prog) : Nat → Nat → List W → CR
  | 0, _, _ => .no
  | n + 1, f, args => match P.fn f with
    | some d => runFn { call := callF P n, glb := P.glb, fuel := P.fuel, meth := P.meth, init := P.init, fok := P.fok, cok := P.cok, rp := P.rp, spl := P.spl } d args
    | none => .no
end Mini
end

section
set_option Elab.async false
set_option linter.all false
set_option maxRecDepth 100000
/-! S0: what a tree value is worth in the abstract heap; own things stand apart. -/
namespace Snd
open PySem PySem.Spec L2
open PyProof.Rows hiding St
open Mini (PV W)

/-- the written part, the classes by number, the fields by number -/
structure Gb where
  K : PySem.W.Frag
  cad : Nat → Addr
  fnm : Nat → Str
  /-- what is locked: a dict that a loop walks -/
  Z : Addr → Option (Obj × HO) := fun _ => none
  /-- written dicts with text keys -/
  kd : Addr → Prop := fun _ => False

/-- a thing of the written part -/
def KTu (K : PySem.W.Frag) (a : Addr) (xs : List V) : Prop :=
  ∃ (o : Obj) (its : Array Value) (n : Nat), K.lookup a = some o ∧ o.cls = .type "tuple" ∧ o.data = .seq its n ∧ its.size ≤ sizeLine ∧ Vals xs its.toList

def kOk : Mini.Key → Bool
  | .inl _ => true
  | .inr x => PyData.strOk x
abbrev Fz := Addr → Prop
variable (G : Gb) (H : Hp) (F : Fz)
mutual
/-- the value x bears the tree; what it stands on is shared (F) or written -/
def Rp : PV → V → Prop
  | .non, x => x = .non
  | .bl b, x => x = .bl b
  | .int i, x => x = .int i
  | .str s, x => x = .str s ∧ PyData.strOk s = true
  | .tup ts, x => ∃ a vs, x = .ref a ∧ (F a ∧ H a = some (.tup vs)) ∧ Rps ts vs
  | .lst ts, x => ∃ a vs, x = .ref a ∧ (F a ∧ Rd H a (.lst vs)) ∧ Rps ts vs
  | .dk ts, x => ∃ a us, x = .ref a ∧ (F a ∧ Rd H a (.dK us)) ∧ RpK ts us
  | .dt ts, x => ∃ a us, x = .ref a ∧ (F a ∧ Rd H a (.dT us)) ∧ RpT ts us
  | .rng lo hi, x => ∃ a, x = .ref a ∧ F a ∧ Rd H a (.rng lo hi)
  | .ins c fs, x => ∃ a dx us, x = .ref a ∧ F a ∧ H a = some (.ins (G.cad c) dx us) ∧ RpF fs us
  | .clo _ _, _ => False
  | .ktup ts, x => ∃ a vs, x = .ref a ∧ KTu G.K a vs ∧ Rps ts vs
  | .kdk ts, x => ∃ a us, x = .ref a ∧ (G.kd a ∧ ∀ z, ∃ r, PySem.W.nsIn G.K a z = some r ∧ RelO (valV us (.inr z)) r) ∧ RpK ts us
def Rps : List PV → List V → Prop
  | [], vs => vs = []
  | t :: ts, vs => ∃ x r, vs = x :: r ∧ Rp t x ∧ Rps ts r
def RpK : List (Mini.Key × PV) → List (Key × V) → Prop
  | [], us => us = []
  | t :: ts, us => ∃ x r, us = (t.1, x) :: r ∧ kOk t.1 = true ∧ RpP t x ∧ RpK ts r
def RpT : List (List Mini.Key × PV) → List (List Key × V) → Prop
  | [], us => us = []
  | t :: ts, us => ∃ x r, us = (t.1, x) :: r ∧ t.1.all kOk = true ∧ RpQ t x ∧ RpT ts r
def RpF : List (Nat × PV) → List (Str × V) → Prop
  | [], us => us = []
  | t :: ts, us => ∃ x r, us = (G.fnm t.1, x) :: r ∧ RpN t x ∧ RpF ts r
def RpP : Mini.Key × PV → V → Prop
  | (_, t), x => Rp t x
def RpQ : List Mini.Key × PV → V → Prop
  | (_, t), x => Rp t x
def RpN : Nat × PV → V → Prop
  | (_, t), x => Rp t x
end

/-- H' reads as H did at the shared places -/
structure Kp1 (H H' : Hp) (a : Addr) : Prop where
  rd : ∀ u, (∀ o v, u ≠ .frz o v) → Rd H a u → Rd H' a u
  ins : ∀ C dx us, H a = some (.ins C dx us) → H' a = some (.ins C dx us)
  tup : ∀ vs, H a = some (.tup vs) → H' a = some (.tup vs)
  the : H a ≠ none → H' a ≠ none
def Kp (H H' : Hp) (F : Fz) : Prop := ∀ a, F a → Kp1 H H' a

variable {G H F}
section
variable {H' : Hp} {F' : Fz}
mutual
theorem Rp.mono (k : Kp H H' F) (f : ∀ a, F a → F' a) : ∀ (t : PV) (x : V), Rp G H F t x → Rp G H' F' t x
  | .non, _, h => h
  | .bl _, _, h => h
  | .int _, _, h => h
  | .str _, _, h => h
  | .tup ts, x, ⟨a, vs, e, q, r⟩ => ⟨a, vs, e, ⟨f a q.1, (k a q.1).tup _ q.2⟩, Rps.mono k f ts vs r⟩
  | .lst ts, x, ⟨a, vs, e, q, r⟩ => ⟨a, vs, e, ⟨f a q.1, (k a q.1).rd _ (fun _ _ z => by cases z) q.2⟩, Rps.mono k f ts vs r⟩
  | .dk ts, x, ⟨a, us, e, q, r⟩ => ⟨a, us, e, ⟨f a q.1, (k a q.1).rd _ (fun _ _ z => by cases z) q.2⟩, RpK.mono k f ts us r⟩
  | .dt ts, x, ⟨a, us, e, q, r⟩ => ⟨a, us, e, ⟨f a q.1, (k a q.1).rd _ (fun _ _ z => by cases z) q.2⟩, RpT.mono k f ts us r⟩
  | .rng _ _, x, ⟨a, e, q1, q2⟩ => ⟨a, e, f a q1, (k a q1).rd _ (fun _ _ z => by cases z) q2⟩
  | .ins c fs, x, ⟨a, dx, us, e, q, h, r⟩ => ⟨a, dx, us, e, f a q, (k a q).ins _ _ _ h, RpF.mono k f fs us r⟩
  | .clo _ _, _, h => h
  | .ktup ts, x, ⟨a, vs, e, q, r⟩ => ⟨a, vs, e, q, Rps.mono k f ts vs r⟩
  | .kdk ts, x, ⟨a, us, e, q, r⟩ => ⟨a, us, e, q, RpK.mono k f ts us r⟩
theorem Rps.mono (k : Kp H H' F) (f : ∀ a, F a → F' a) : ∀ (ts : List PV) (vs : List V), Rps G H F ts vs → Rps G H' F' ts vs
  | [], _, h => h
  | t :: ts, _, ⟨x, r, e, h, g⟩ => ⟨x, r, e, Rp.mono k f t x h, Rps.mono k f ts r g⟩
theorem RpK.mono (k : Kp H H' F) (f : ∀ a, F a → F' a) : ∀ (ts : List (Mini.Key × PV)) (vs : List (Key × V)), RpK G H F ts vs → RpK G H' F' ts vs
  | [], _, h => h
  | (n, t) :: ts, _, ⟨x, r, e, o, h, g⟩ => ⟨x, r, e, o, Rp.mono k f t x h, RpK.mono k f ts r g⟩
theorem RpT.mono (k : Kp H H' F) (f : ∀ a, F a → F' a) : ∀ (ts : List (List Mini.Key × PV)) (vs : List (List Key × V)), RpT G H F ts vs → RpT G H' F' ts vs
  | [], _, h => h
  | (n, t) :: ts, _, ⟨x, r, e, o, h, g⟩ => ⟨x, r, e, o, Rp.mono k f t x h, RpT.mono k f ts r g⟩
theorem RpF.mono (k : Kp H H' F) (f : ∀ a, F a → F' a) : ∀ (ts : List (Nat × PV)) (vs : List (Str × V)), RpF G H F ts vs → RpF G H' F' ts vs
  | [], _, h => h
  | (n, t) :: ts, _, ⟨x, r, e, h, g⟩ => ⟨x, r, e, Rp.mono k f t x h, RpF.mono k f ts r g⟩
end
end
theorem Kp.refl : Kp H H F := fun a _ => ⟨fun _ _ h => h, fun _ _ _ h => h, fun _ h => h, fun h => h⟩
/-- a place that is not shared is written -/
theorem Kp.upd {p : Addr} {o : HO} (h : ¬ F p) : Kp H (upd H p o) F := fun a fa => by
  have ne : a ≠ p := fun e => h (e ▸ fa)
  refine ⟨fun u _ r => ?_, fun C dx us r => by rw [upd_ne ne]; exact r, fun vs r => by rw [upd_ne ne]; exact r, fun r => by rw [upd_ne ne]; exact r⟩
  rcases r with r | ⟨o', r⟩
  · exact .inl (by rw [upd_ne ne]; exact r)
  · exact .inr ⟨o', by rw [upd_ne ne]; exact r⟩

/-! ### own things -/
/-- an own container -/
def Own (G : Gb) (H : Hp) (F : Fz) : PV → V → Prop
  | .lst ts, x => ∃ a vs, x = .ref a ∧ H a = some (.lst vs) ∧ Rps G H F ts vs
  | .dk ts, x => ∃ a us, x = .ref a ∧ H a = some (.dK us) ∧ RpK G H F ts us
  | .dt ts, x => ∃ a us, x = .ref a ∧ H a = some (.dT us) ∧ RpT G H F ts us
  | _, _ => False
mutual
def RW (G : Gb) (H : Hp) (F : Fz) : W → V → Prop
  | .sh v, x => Rp G H F v x
  | .own v, x => Own G H F v x
  | .obj c fs, x => ∃ a dx us, x = .ref a ∧ H a = some (.ins (G.cad c) dx us) ∧ RWs G H F fs us
def RWs (G : Gb) (H : Hp) (F : Fz) : List (Nat × W) → List (Str × V) → Prop
  | [], us => us = []
  | t :: ts, us => ∃ x r, us = (G.fnm t.1, x) :: r ∧ RWN G H F t x ∧ RWs G H F ts r
def RWN (G : Gb) (H : Hp) (F : Fz) : Nat × W → V → Prop
  | (_, w), x => RW G H F w x
end
mutual
/-- the places that it owns -/
def oA (H : Hp) : W → V → List Addr
  | .sh _, _ => []
  | .own _, .ref a => [a]
  | .own _, _ => []
  | .obj _ fs, .ref a => a :: oAs H fs (match H a with
    | some (.ins _ _ us) => us
    | _ => [])
  | .obj _ _, _ => []
def oAs (H : Hp) : List (Nat × W) → List (Str × V) → List Addr
  | t :: ts, u :: us => oAn H t u.2 ++ oAs H ts us
  | _, _ => []
def oAn (H : Hp) : Nat × W → V → List Addr
  | (_, w), x => oA H w x
end
abbrev WV := W × V
/-- something that can be locked -/
def Lockable : HO → Prop
  | .dK _ => True
  | .dT _ => True
  | _ => False
def oL (H : Hp) (L : List WV) : List Addr := L.flatMap fun p => oA H p.1 p.2
/-- all of these stand, own things apart from each other and from what is shared -/
structure Gd (G : Gb) (H : Hp) (F : Fz) (L : List WV) : Prop where
  rel : ∀ p ∈ L, RW G H F p.1 p.2
  nod : (oL H L).Nodup
  out : ∀ a ∈ oL H L, ¬ F a
  the : ∀ a, F a → H a ≠ none
  lck : ∀ a o u, G.Z a = some (o, u) → F a ∧ H a = some (.frz o u)
  nfz : ∀ a o u, F a → H a = some (.frz o u) → Lockable u → G.Z a = some (o, u)
def Good (G : Gb) (H : Hp) (L : List WV) : Prop := ∃ F, Gd G H F L
end Snd
end

section
set_option Elab.async false
set_option linter.all false
set_option maxRecDepth 100000
/-! S1: the algebra of Good. -/
namespace Snd
open PySem PySem.Spec L2
open PyProof.Rows hiding St
open Mini (PV W)
variable {G : Gb} {H H' : Hp} {F F' : Fz} {L L' : List WV}

mutual
theorem RW.frame (k : Kp H H' F) (f : ∀ a, F a → F' a) : ∀ (w : W) (x : V), (∀ a ∈ oA H w x, H' a = H a) → RW G H F w x → RW G H' F' w x ∧ oA H' w x = oA H w x
  | .sh v, x, _, h => ⟨Rp.mono k f v x h, rfl⟩
  | .own v, x, ha, h => by
    have h : Own G H F v x := h
    cases v with
    | lst ts =>
      obtain ⟨a, vs, rfl, e, r⟩ := h
      exact ⟨⟨a, vs, rfl, (ha a (by simp [oA])).trans e, Rps.mono k f ts vs r⟩, rfl⟩
    | dk ts =>
      obtain ⟨a, vs, rfl, e, r⟩ := h
      exact ⟨⟨a, vs, rfl, (ha a (by simp [oA])).trans e, RpK.mono k f ts vs r⟩, rfl⟩
    | dt ts =>
      obtain ⟨a, vs, rfl, e, r⟩ := h
      exact ⟨⟨a, vs, rfl, (ha a (by simp [oA])).trans e, RpT.mono k f ts vs r⟩, rfl⟩
    | _ => exact (show False from h).elim
  | .obj c fs, x, ha, h => by
    obtain ⟨a, dx, us, rfl, e, r⟩ := h
    have e' : H' a = some (.ins (G.cad c) dx us) := (ha a (by simp [oA])).trans e
    obtain ⟨r', o'⟩ := RWs.frame k f fs us (fun b hb => ha b (by simp only [oA, e]; exact List.mem_cons_of_mem _ hb)) r
    refine ⟨⟨a, dx, us, rfl, e', r'⟩, ?_⟩
    simp only [oA, e, e', o']
theorem RWs.frame (k : Kp H H' F) (f : ∀ a, F a → F' a) : ∀ (fs : List (Nat × W)) (us : List (Str × V)), (∀ a ∈ oAs H fs us, H' a = H a) → RWs G H F fs us → RWs G H' F' fs us ∧ oAs H' fs us = oAs H fs us
  | [], us, _, h => ⟨h, by cases us <;> rfl⟩
  | (n, w) :: ts, us, ha, h => by
    obtain ⟨x, r, rfl, hw, hr⟩ := h
    obtain ⟨w', ow⟩ := RW.frame k f w x (fun b hb => ha b (by simp only [oAs, oAn]; exact List.mem_append_left _ hb)) hw
    obtain ⟨r', orr⟩ := RWs.frame k f ts r (fun b hb => ha b (by simp only [oAs]; exact List.mem_append_right _ hb)) hr
    exact ⟨⟨x, r, rfl, w', r'⟩, by simp only [oAs, oAn, ow, orr]⟩
end

mutual
theorem own_there : ∀ {w : W} {x : V} {a : Addr}, RW G H F w x → a ∈ oA H w x → H a = none → False
  | .sh _, _, a, _, h, _ => by simp [oA] at h
  | .own v, x, a, r, h, z => by
    have r : Own G H F v x := r
    cases v with
    | lst ts =>
      obtain ⟨b, vs, rfl, e, _⟩ := r
      have : a = b := by simpa [oA] using h
      rw [this, e] at z; cases z
    | dk ts =>
      obtain ⟨b, vs, rfl, e, _⟩ := r
      have : a = b := by simpa [oA] using h
      rw [this, e] at z; cases z
    | dt ts =>
      obtain ⟨b, vs, rfl, e, _⟩ := r
      have : a = b := by simpa [oA] using h
      rw [this, e] at z; cases z
    | _ => exact (show False from r).elim
  | .obj c fs, x, a, r, h, z => by
    obtain ⟨b, dx, us, rfl, e, r⟩ := r
    simp only [oA, e] at h
    rcases List.mem_cons.mp h with h | h
    · rw [h, e] at z; cases z
    · exact owns_there r h z
theorem owns_there : ∀ {fs : List (Nat × W)} {us : List (Str × V)} {a : Addr}, RWs G H F fs us → a ∈ oAs H fs us → H a = none → False
  | [], us, a, _, h, _ => by cases us <;> simp [oAs] at h
  | (n, w) :: ts, us, a, r, h, z => by
    obtain ⟨x, t, rfl, hw, hr⟩ := r
    simp only [oAs, oAn] at h
    rcases List.mem_append.mp h with h | h
    · exact own_there hw h z
    · exact owns_there hr h z
end

theorem oL_cons (p : WV) (L : List WV) : oL H (p :: L) = oA H p.1 p.2 ++ oL H L := by simp [oL]
theorem oL_append (L L' : List WV) : oL H (L ++ L') = oL H L ++ oL H L' := by simp [oL]
theorem oL_frame (h : ∀ p ∈ L, oA H' p.1 p.2 = oA H p.1 p.2) : oL H' L = oL H L := by
  induction L with
  | nil => rfl
  | cons p L ih => rw [oL_cons, oL_cons, h p List.mem_cons_self, ih fun q hq => h q (List.mem_cons_of_mem _ hq)]

theorem mem_oL {a : Addr} : a ∈ oL H L ↔ ∃ p ∈ L, a ∈ oA H p.1 p.2 := by simp [oL, List.mem_flatMap]
theorem Gd.perm (g : Gd G H F L) (h : L.Perm L') : Gd G H F L' where
  rel := fun p hp => g.rel p (h.mem_iff.mpr hp)
  nod := (h.flatMap_right _).nodup_iff.mp g.nod
  out := fun a ha => g.out a (by
    obtain ⟨p, hp, q⟩ := mem_oL.mp ha
    exact mem_oL.mpr ⟨p, h.mem_iff.mpr hp, q⟩)
  the := g.the
  lck := g.lck
  nfz := g.nfz
theorem Gd.tail {p : WV} (g : Gd G H F (p :: L)) : Gd G H F L where
  rel := fun q hq => g.rel q (List.mem_cons_of_mem _ hq)
  nod := by
    have := g.nod
    rw [oL_cons] at this
    exact (List.nodup_append.mp this).2.1
  out := fun a ha => g.out a (by rw [oL_cons]; exact List.mem_append_right _ ha)
  the := g.the
  lck := g.lck
  nfz := g.nfz
theorem Gd.drop : ∀ {T : List WV}, Gd G H F (T ++ L) → Gd G H F L
  | [], g => g
  | _ :: T, g => Gd.drop (T := T) g.tail
theorem Gd.sh {v : PV} {x : V} (g : Gd G H F L) (h : Rp G H F v x) : Gd G H F ((.sh v, x) :: L) where
  rel := fun q hq => by
    rcases List.mem_cons.mp hq with rfl | hq
    · exact h
    · exact g.rel q hq
  nod := by rw [oL_cons]; exact g.nod
  out := fun a ha => g.out a (by rw [oL_cons] at ha; exact ha)
  the := g.the
  lck := g.lck
  nfz := g.nfz
theorem Gd.frame (g : Gd G H F L) (k : Kp H H' F) (z : ∀ a, F a → H' a = H a) (ha : ∀ a ∈ oL H L, H' a = H a) : Gd G H' F L := by
  have e : ∀ p ∈ L, RW G H' F p.1 p.2 ∧ oA H' p.1 p.2 = oA H p.1 p.2 := fun p hp => RW.frame k (fun _ z => z) p.1 p.2 (fun a q => ha a (mem_oL.mpr ⟨p, hp, q⟩)) (g.rel p hp)
  have eo : oL H' L = oL H L := oL_frame fun p hp => (e p hp).2
  refine ⟨fun p hp => (e p hp).1, by rw [eo]; exact g.nod, fun a q => g.out a (by rw [← eo]; exact q), fun a fa q => ?_, fun a o u hz => ⟨(g.lck a o u hz).1, (z _ (g.lck a o u hz).1).trans (g.lck a o u hz).2⟩, fun a o u fa hz lu => g.nfz a o u fa ((z a fa).symm.trans hz) lu⟩
  exact (k a fa).the (g.the a fa) q
theorem Gd.alloc {p : Addr} {o : HO} (g : Gd G H F L) (hp : H p = none) : Gd G (upd H p o) F L :=
  g.frame (.upd fun fp => g.the p fp hp) (fun a fa => upd_ne (show a ≠ p from fun z => g.the p (z ▸ fa) hp)) fun a ha => upd_ne fun e => by
    obtain ⟨q, hq, hm⟩ := mem_oL.mp ha
    subst e
    exact own_there (g.rel q hq) hm hp
end Snd
end

section
set_option Elab.async false
set_option linter.all false
set_option maxRecDepth 100000
/-! S2: freezing, new things, things changed. -/
namespace Snd
open PySem PySem.Spec L2
open PyProof.Rows hiding St
open Mini (PV W)
variable {G : Gb} {H H' : Hp} {F F' : Fz} {L L' : List WV}

/-- F and these places -/
def Fz.more (F : Fz) (l : List Addr) : Fz := fun a => F a ∨ a ∈ l
theorem Rp.up {v : PV} {x : V} (h : Rp G H F v x) (f : ∀ a, F a → F' a) : Rp G H F' v x := Rp.mono .refl f v x h
theorem Rps.up {v : List PV} {x : List V} (h : Rps G H F v x) (f : ∀ a, F a → F' a) : Rps G H F' v x := Rps.mono .refl f v x h
theorem RpK.up {v : List (Mini.Key × PV)} {x : List (Key × V)} (h : RpK G H F v x) (f : ∀ a, F a → F' a) : RpK G H F' v x := RpK.mono .refl f v x h
theorem RpT.up {v : List (List Mini.Key × PV)} {x : List (List Key × V)} (h : RpT G H F v x) (f : ∀ a, F a → F' a) : RpT G H F' v x := RpT.mono .refl f v x h
mutual
theorem RW.frz : ∀ (w : W) (x : V), RW G H F w x → (∀ a ∈ oA H w x, F' a) → (∀ a, F a → F' a) → Rp G H F' w.frz x
  | .sh v, x, h, _, f => Rp.up h f
  | .own v, x, h, o, f => by
    have h : Own G H F v x := h
    cases v with
    | lst ts =>
      obtain ⟨a, vs, rfl, e, r⟩ := h
      exact ⟨a, vs, rfl, ⟨o a (by simp [oA]), .inl e⟩, Rps.up r f⟩
    | dk ts =>
      obtain ⟨a, vs, rfl, e, r⟩ := h
      exact ⟨a, vs, rfl, ⟨o a (by simp [oA]), .inl e⟩, RpK.up r f⟩
    | dt ts =>
      obtain ⟨a, vs, rfl, e, r⟩ := h
      exact ⟨a, vs, rfl, ⟨o a (by simp [oA]), .inl e⟩, RpT.up r f⟩
    | _ => exact (show False from h).elim
  | .obj c fs, x, h, o, f => by
    obtain ⟨a, dx, us, rfl, e, r⟩ := h
    exact ⟨a, dx, us, rfl, o a (by simp [oA]), e, RWs.frz fs us r (fun b hb => o b (by simp only [oA, e]; exact List.mem_cons_of_mem _ hb)) f⟩
theorem RWs.frz : ∀ (fs : List (Nat × W)) (us : List (Str × V)), RWs G H F fs us → (∀ a ∈ oAs H fs us, F' a) → (∀ a, F a → F' a) → RpF G H F' (W.frzs fs) us
  | [], us, h, _, _ => h
  | (n, w) :: ts, us, h, o, f => by
    obtain ⟨x, r, rfl, hw, hr⟩ := h
    exact ⟨x, r, rfl, RW.frz w x hw (fun b hb => o b (by simp only [oAs, oAn]; exact List.mem_append_left _ hb)) f, RWs.frz ts r hr (fun b hb => o b (by simp only [oAs]; exact List.mem_append_right _ hb)) f⟩
end
/-- what can be own -/
def Oty : Option HO → Prop
  | some (.lst _) => True
  | some (.dK _) => True
  | some (.dT _) => True
  | some (.ins _ _ _) => True
  | _ => False
mutual
theorem own_is : ∀ {w : W} {x : V} {a : Addr}, RW G H F w x → a ∈ oA H w x → Oty (H a)
  | .sh _, _, a, _, h => by simp [oA] at h
  | .own v, x, a, r, h => by
    have r : Own G H F v x := r
    cases v with
    | lst ts =>
      obtain ⟨b, vs, rfl, e, _⟩ := r
      have : a = b := by simpa [oA] using h
      rw [this, e]; trivial
    | dk ts =>
      obtain ⟨b, vs, rfl, e, _⟩ := r
      have : a = b := by simpa [oA] using h
      rw [this, e]; trivial
    | dt ts =>
      obtain ⟨b, vs, rfl, e, _⟩ := r
      have : a = b := by simpa [oA] using h
      rw [this, e]; trivial
    | _ => exact (show False from r).elim
  | .obj c fs, x, a, r, h => by
    obtain ⟨b, dx, us, rfl, e, r⟩ := r
    simp only [oA, e] at h
    rcases List.mem_cons.mp h with h | h
    · rw [h, e]; trivial
    · exact owns_is r h
theorem owns_is : ∀ {fs : List (Nat × W)} {us : List (Str × V)} {a : Addr}, RWs G H F fs us → a ∈ oAs H fs us → Oty (H a)
  | [], us, a, _, h => by cases us <;> simp [oAs] at h
  | (n, w) :: ts, us, a, r, h => by
    obtain ⟨x, t, rfl, hw, hr⟩ := r
    simp only [oAs, oAn] at h
    rcases List.mem_append.mp h with h | h
    · exact own_is hw h
    · exact owns_is hr h
end
theorem Oty.nfz {o : Option HO} (h : Oty o) (od : Obj) (u : HO) : o ≠ some (.frz od u) := fun e => by rw [e] at h; exact h
theorem Gd.mono (g : Gd G H F L) (f : ∀ a, F a → F' a) (o : ∀ a ∈ oL H L, ¬ F' a) (t : ∀ a, F' a → H a ≠ none) (n : ∀ a, F' a → F a ∨ ∀ o u, H a ≠ some (.frz o u)) : Gd G H F' L where
  rel := fun p hp => (RW.frame (H' := H) .refl f p.1 p.2 (fun _ _ => rfl) (g.rel p hp)).1
  nod := g.nod
  out := o
  the := t
  lck := fun a o u z => ⟨f a (g.lck a o u z).1, (g.lck a o u z).2⟩
  nfz := fun a o u fa e lu => (n a fa).elim (fun q => g.nfz a o u q e lu) fun q => absurd e (q o u)
theorem Gd.freeze {w : W} {x : V} (g : Gd G H F ((w, x) :: L)) : Gd G H (F.more (oA H w x)) ((.sh w.frz, x) :: L) := by
  have hw : RW G H F w x := g.rel (w, x) List.mem_cons_self
  have nd := g.nod
  rw [oL_cons] at nd
  obtain ⟨_, n2, n3⟩ := List.nodup_append.mp nd
  refine Gd.sh (g.tail.mono (fun a h => .inl h) (fun a h z => ?_) (fun a h => ?_) fun a h => ?_) (RW.frz w x hw (fun a h => .inr h) fun a h => .inl h)
  · rcases z with z | z
    · exact g.tail.out a h z
    · exact n3 a z a h rfl
  · rcases h with h | h
    · exact g.the a h
    · exact fun z => own_there hw h z
  · rcases h with h | h
    · exact .inl h
    · exact .inr (own_is hw h).nfz
theorem Good.freeze {w : W} {x : V} (g : Good G H ((w, x) :: L)) : Good G H ((.sh w.frz, x) :: L) := let ⟨_, g⟩ := g; ⟨_, g.freeze⟩
theorem Good.perm (g : Good G H L) (h : L.Perm L') : Good G H L' := let ⟨F, g⟩ := g; ⟨F, g.perm h⟩
theorem Good.tail {p : WV} (g : Good G H (p :: L)) : Good G H L := let ⟨F, g⟩ := g; ⟨F, g.tail⟩
theorem Good.drop {T : List WV} (g : Good G H (T ++ L)) : Good G H L := let ⟨F, g⟩ := g; ⟨F, g.drop⟩
theorem Good.alloc {p : Addr} {o : HO} (g : Good G H L) (hp : H p = none) : Good G (upd H p o) L := let ⟨F, g⟩ := g; ⟨F, g.alloc hp⟩
theorem Good.swap {p q : WV} (g : Good G H (p :: q :: L)) : Good G H (q :: p :: L) := g.perm (.swap _ _ _)
theorem Good.mid {p : WV} {T : List WV} (g : Good G H (T ++ p :: L)) : Good G H (p :: (T ++ L)) := g.perm List.perm_middle
theorem Good.back {p : WV} {T : List WV} (g : Good G H (p :: (T ++ L))) : Good G H (T ++ p :: L) := g.perm List.perm_middle.symm
theorem Good.dup {v : PV} {x : V} (g : Good G H ((.sh v, x) :: L)) : Good G H ((.sh v, x) :: (.sh v, x) :: L) := let ⟨F, g⟩ := g; ⟨F, g.sh (g.rel _ List.mem_cons_self)⟩
theorem Good.flat {v : PV} {x : V} (g : Good G H L) (h : ∀ F, Rp G H F v x) : Good G H ((.sh v, x) :: L) := let ⟨F, g⟩ := g; ⟨F, g.sh (h F)⟩
theorem Good.non (g : Good G H L) : Good G H ((.sh .non, .non) :: L) := g.flat fun _ => rfl
theorem Good.bl {b : Bool} (g : Good G H L) : Good G H ((.sh (.bl b), .bl b) :: L) := g.flat fun _ => rfl
theorem Good.int {i : Int} (g : Good G H L) : Good G H ((.sh (.int i), .int i) :: L) := g.flat fun _ => rfl
theorem Good.str {s : Str} (g : Good G H L) (h : PyData.strOk s = true) : Good G H ((.sh (.str s), .str s) :: L) := g.flat fun _ => ⟨rfl, h⟩

/-- what a place other than the shared ones becomes: all else stays -/
theorem Gd.write {p : Addr} {o : HO} (g : Gd G H F L) (hf : ¬ F p) (hn : p ∉ oL H L) : Gd G (upd H p o) F L :=
  g.frame (.upd hf) (fun a fa => upd_ne (show a ≠ p from fun z => hf (z ▸ fa))) fun a ha => upd_ne fun e => hn (e ▸ ha)
/-- a new own container -/
theorem Gd.newOwn {p : Addr} {o : HO} {v : PV} (g : Gd G H F L) (hp : H p = none) (h : Own G (upd H p o) F v (.ref p)) : Gd G (upd H p o) F ((.own v, .ref p) :: L) := by
  have g' := g.alloc (o := o) hp
  refine ⟨fun q hq => ?_, ?_, fun a ha => ?_, g'.the, g'.lck, g'.nfz⟩
  · rcases List.mem_cons.mp hq with rfl | hq
    · exact h
    · exact g'.rel q hq
  · rw [oL_cons]
    refine List.nodup_append.mpr ⟨by simp [oA], g'.nod, fun a ha b hb e => ?_⟩
    have : a = p := by simpa [oA] using ha
    subst this
    subst e
    obtain ⟨q, hq, hm⟩ := mem_oL.mp hb
    have e2 : oL (upd H a o) L = oL H L := oL_frame fun q hq => (RW.frame (F' := F) (.upd (p := a) (o := o) fun fp => g.the a fp hp) (fun _ z => z) q.1 q.2 (fun b hb => upd_ne fun z => own_there (g.rel q hq) hb (z ▸ hp)) (g.rel q hq)).2
    rw [e2] at hb
    obtain ⟨q, hq, hm⟩ := mem_oL.mp hb
    exact own_there (g.rel q hq) hm hp
  · rw [oL_cons] at ha
    rcases List.mem_append.mp ha with ha | ha
    · have : a = p := by simpa [oA] using ha
      subst this
      exact fun fp => g.the a fp hp
    · exact g'.out a ha
/-- a new shared thing -/
theorem Gd.newSh {p : Addr} {o : HO} {v : PV} (no : ∀ od u, o ≠ .frz od u) (g : Gd G H F L) (hp : H p = none) (h : Rp G (upd H p o) (F.more [p]) v (.ref p)) : Gd G (upd H p o) (F.more [p]) ((.sh v, .ref p) :: L) := by
  have e2 : oL (upd H p o) L = oL H L := oL_frame fun q hq => (RW.frame (F' := F) (.upd (p := p) (o := o) fun fp => g.the p fp hp) (fun _ z => z) q.1 q.2 (fun b hb => upd_ne fun z => own_there (g.rel q hq) hb (z ▸ hp)) (g.rel q hq)).2
  refine Gd.sh ((g.alloc (o := o) hp).mono (fun a z => .inl z) (fun a ha z => ?_) (fun a z => ?_) fun a z => ?_) h
  · rcases z with z | z
    · exact (g.alloc (o := o) hp).out a ha z
    · have : a = p := by simpa using z
      subst this
      rw [e2] at ha
      obtain ⟨q, hq, hm⟩ := mem_oL.mp ha
      exact own_there (g.rel q hq) hm hp
  · rcases z with z | z
    · exact (g.alloc (o := o) hp).the a z
    · have : a = p := by simpa using z
      subst this
      rw [upd_same]
      exact fun z => nomatch z
  · rcases z with z | z
    · exact .inl z
    · have : a = p := by simpa using z
      subst this
      rw [upd_same]
      exact .inr fun od u e => no od u (Option.some.inj e)
theorem Fz.more_self {p : Addr} : (F.more [p]) p := .inr (by simp)
theorem Rps.alloc {p : Addr} {o : HO} {ts : List PV} {vs : List V} (g : Gd G H F L) (hp : H p = none) (r : Rps G H F ts vs) : Rps G (upd H p o) F ts vs := Rps.mono (.upd fun fp => g.the p fp hp) (fun _ z => z) ts vs r
theorem Rps.allocM {p : Addr} {o : HO} {ts : List PV} {vs : List V} (g : Gd G H F L) (hp : H p = none) (r : Rps G H F ts vs) : Rps G (upd H p o) (F.more [p]) ts vs := Rps.mono (.upd fun fp => g.the p fp hp) (fun _ z => .inl z) ts vs r
theorem Gd.newTup {p : Addr} {ts : List PV} {vs : List V} (g : Gd G H F L) (hp : H p = none) (r : Rps G H F ts vs) : Gd G (upd H p (.tup vs)) (F.more [p]) ((.sh (.tup ts), .ref p) :: L) :=
  g.newSh (fun _ _ z => nomatch z) hp ⟨p, vs, rfl, ⟨Fz.more_self, upd_same⟩, r.allocM g hp⟩
theorem Gd.newLst {p : Addr} {ts : List PV} {vs : List V} (g : Gd G H F L) (hp : H p = none) (r : Rps G H F ts vs) : Gd G (upd H p (.lst vs)) F ((.own (.lst ts), .ref p) :: L) :=
  g.newOwn hp ⟨p, vs, rfl, upd_same, r.alloc g hp⟩
theorem Gd.newDK {p : Addr} {ts : List (Mini.Key × PV)} {vs : List (Key × V)} (g : Gd G H F L) (hp : H p = none) (r : RpK G H F ts vs) : Gd G (upd H p (.dK vs)) F ((.own (.dk ts), .ref p) :: L) :=
  g.newOwn hp ⟨p, vs, rfl, upd_same, RpK.mono (.upd fun fp => g.the p fp hp) (fun _ z => z) ts vs r⟩
theorem Gd.newDT {p : Addr} {ts : List (List Mini.Key × PV)} {vs : List (List Key × V)} (g : Gd G H F L) (hp : H p = none) (r : RpT G H F ts vs) : Gd G (upd H p (.dT vs)) F ((.own (.dt ts), .ref p) :: L) :=
  g.newOwn hp ⟨p, vs, rfl, upd_same, RpT.mono (.upd fun fp => g.the p fp hp) (fun _ z => z) ts vs r⟩
/-- an own container is changed -/
theorem Gd.chg {a : Addr} {o : HO} {v v' : PV} (g : Gd G H F ((.own v, .ref a) :: L)) (h : Own G (upd H a o) F v' (.ref a)) : Gd G (upd H a o) F ((.own v', .ref a) :: L) := by
  have nd := g.nod
  rw [oL_cons] at nd
  obtain ⟨n1, n2, n3⟩ := List.nodup_append.mp nd
  have na : a ∉ oL H L := fun z => n3 a (by simp [oA]) a z rfl
  have nf : ¬ F a := g.out a (by rw [oL_cons]; exact List.mem_append_left _ (by simp [oA]))
  have g' := g.tail.write (o := o) nf na
  have e2 : oL (upd H a o) L = oL H L := oL_frame fun q hq => (RW.frame (F' := F) (.upd (p := a) (o := o) nf) (fun _ z => z) q.1 q.2 (fun b hb => upd_ne fun z => na (z ▸ mem_oL.mpr ⟨q, hq, hb⟩)) (g.tail.rel q hq)).2
  refine ⟨fun q hq => ?_, ?_, fun b hb => ?_, g'.the, g'.lck, g'.nfz⟩
  · rcases List.mem_cons.mp hq with rfl | hq
    · exact h
    · exact g'.rel q hq
  · rw [oL_cons, e2]
    exact List.nodup_append.mpr ⟨by simp [oA], n2, fun b hb c hc e => n3 b (by simpa [oA] using hb) c hc e⟩
  · rw [oL_cons] at hb
    rcases List.mem_append.mp hb with hb | hb
    · have : b = a := by simpa [oA] using hb
      subst this; exact nf
    · exact g'.out b hb
theorem Gd.notF {a : Addr} {v : PV} (g : Gd G H F ((.own v, .ref a) :: L)) : ¬ F a := g.out a (by rw [oL_cons]; exact List.mem_append_left _ (by simp [oA]))
end Snd
end

section
set_option Elab.async false
set_option linter.all false
set_option maxRecDepth 100000
/-! S3: slots; what is asked of an expression, a statement. -/
namespace Snd
open PySem PySem.Spec L2
open PyProof.Rows hiding St
open Mini (PV W Sl)
variable {G : Gb} {H H' : Hp} {F F' : Fz} {L L' : List WV}

def prs : Sl → St → List WV
  | some w :: sl, some x :: σ => (w, x) :: prs sl σ
  | none :: sl, _ :: σ => prs sl σ
  | some _ :: sl, none :: σ => prs sl σ
  | _, _ => []
def Fit : Sl → St → Prop
  | [], [] => True
  | a :: sl, b :: σ => (a.isSome = true → b.isSome = true) ∧ Fit sl σ
  | _, _ => False
theorem Fit.length : ∀ {sl : Sl} {σ : St}, Fit sl σ → sl.length = σ.length
  | [], [], _ => rfl
  | _ :: _, _ :: _, h => congrArg (· + 1) (Fit.length h.2)
  | [], _ :: _, h => h.elim
  | _ :: _, [], h => h.elim
theorem Fit.get : ∀ {sl : Sl} {σ : St} {i : Nat} {w : W}, Fit sl σ → sl[i]? = some (some w) → ∃ x, σ[i]? = some (some x)
  | [], [], _, _, _, e => by simp at e
  | a :: _, b :: _, 0, w, h, e => by
    have e : a = some w := by simpa using e
    subst e
    obtain ⟨x, hx⟩ := Option.isSome_iff_exists.mp (h.1 rfl)
    exact ⟨x, by simp [hx]⟩
  | _ :: _, _ :: _, i + 1, w, h, e => by
    obtain ⟨x, hx⟩ := Fit.get (i := i) (w := w) h.2 (by simpa using e)
    exact ⟨x, by simpa using hx⟩
  | [], _ :: _, _, _, h, _ => h.elim
  | _ :: _, [], _, _, h, _ => h.elim
theorem Fit.unset : ∀ {sl : Sl} {σ : St} {i : Nat}, Fit sl σ → Fit (sl.set i none) σ
  | [], [], _, _ => trivial
  | _ :: _, _ :: _, 0, h => ⟨fun z => absurd z (by simp), h.2⟩
  | _ :: _, _ :: _, i + 1, h => ⟨h.1, Fit.unset (i := i) h.2⟩
  | [], _ :: _, _, h => h.elim
  | _ :: _, [], _, h => h.elim
theorem Fit.set : ∀ {sl : Sl} {σ : St} {i : Nat} {o : Option W} {x : V}, Fit sl σ → σ[i]? = some (some x) → Fit (sl.set i o) σ
  | [], [], _, _, _, _, _ => trivial
  | _ :: _, b :: _, 0, o, x, h, e => by
    have e : b = some x := by simpa using e
    exact ⟨fun _ => by rw [e]; rfl, h.2⟩
  | _ :: _, _ :: _, i + 1, o, x, h, e => ⟨h.1, Fit.set (i := i) (x := x) h.2 (by simpa using e)⟩
  | [], _ :: _, _, _, _, h, _ => h.elim
  | _ :: _, [], _, _, _, h, _ => h.elim
theorem Fit.store : ∀ {sl : Sl} {σ : St} {i : Nat} {w : W} {x : V}, Fit sl σ → Fit (sl.set i (some w)) (σ.set i (some x))
  | [], [], _, _, _, _ => trivial
  | _ :: _, _ :: _, 0, _, _, h => ⟨fun _ => rfl, h.2⟩
  | _ :: _, _ :: _, i + 1, _, _, h => ⟨h.1, Fit.store (i := i) h.2⟩
  | [], _ :: _, _, _, _, h => h.elim
  | _ :: _, [], _, _, _, h => h.elim
theorem Fit.wipe1 : ∀ {sl : Sl} {σ : St} {i : Nat} {o : Option V}, Fit sl σ → Fit (sl.set i none) (σ.set i o)
  | [], [], _, _, _ => trivial
  | _ :: _, _ :: _, 0, _, h => ⟨fun z => absurd z (by simp), h.2⟩
  | _ :: _, _ :: _, i + 1, _, h => ⟨h.1, Fit.wipe1 (i := i) h.2⟩
  | [], _ :: _, _, _, h => h.elim
  | _ :: _, [], _, _, h => h.elim
theorem prs_get : ∀ {sl : Sl} {σ : St} {i : Nat} {w : W} {x : V}, sl[i]? = some (some w) → σ[i]? = some (some x) → (prs sl σ).Perm ((w, x) :: prs (sl.set i none) σ)
  | [], _, _, _, _, e, _ => by simp at e
  | _ :: _, [], _, _, _, _, e => by simp at e
  | a :: sl, b :: σ, 0, w, x, e1, e2 => by
    have e1 : a = some w := by simpa using e1
    have e2 : b = some x := by simpa using e2
    subst e1 e2
    exact .refl _
  | a :: sl, b :: σ, i + 1, w, x, e1, e2 => by
    have ih := prs_get (sl := sl) (σ := σ) (i := i) (w := w) (x := x) (by simpa using e1) (by simpa using e2)
    cases a with
    | none => exact ih
    | some w' =>
      cases b with
      | none => exact ih
      | some x' => exact (ih.cons _).trans (.swap _ _ _)
theorem prs_set {sl : Sl} {σ : St} {i : Nat} {w : W} {x : V} (hi : i < sl.length) (e2 : σ[i]? = some (some x)) : (prs (sl.set i (some w)) σ).Perm ((w, x) :: prs (sl.set i none) σ) := by
  have := prs_get (sl := sl.set i (some w)) (σ := σ) (i := i) (w := w) (x := x) (by simp [hi]) e2
  simpa using this
theorem prs_none : ∀ {sl : Sl} {σ : St} {i : Nat} {o : Option V}, prs (sl.set i none) (σ.set i o) = prs (sl.set i none) σ
  | [], _, _, _ => by simp [prs]
  | _ :: _, [], _, _ => by simp
  | _ :: _, _ :: _, 0, _ => rfl
  | a :: sl, b :: σ, i + 1, o => by
    have ih := prs_none (sl := sl) (σ := σ) (i := i) (o := o)
    cases a with
    | none => exact ih
    | some w' =>
      cases b with
      | none => exact ih
      | some x' => exact congrArg ((w', x') :: ·) ih
theorem prs_store {sl : Sl} {σ : St} {i : Nat} {w : W} {x : V} (hi : i < sl.length) (h : Fit sl σ) : (prs (sl.set i (some w)) (σ.set i (some x))).Perm ((w, x) :: prs (sl.set i none) σ) := by
  have hi' : i < σ.length := by rw [← h.length]; exact hi
  have := prs_get (sl := sl.set i (some w)) (σ := σ.set i (some x)) (i := i) (w := w) (x := x) (by simp [hi]) (by simp [hi'])
  rw [List.set_set, prs_none] at this
  exact this
/-- a slot gives up what it has -/
theorem prs_drop : ∀ {sl : Sl} {σ : St} {i : Nat}, ∃ T, (prs sl σ).Perm (T ++ prs (sl.set i none) σ)
  | [], _, _ => ⟨[], .refl _⟩
  | a :: sl, [], i => ⟨[], by cases i <;> cases a <;> simp [prs]⟩
  | a :: sl, b :: σ, 0 => by
    cases a with
    | none => exact ⟨[], .refl _⟩
    | some w =>
      cases b with
      | none => exact ⟨[], .refl _⟩
      | some x => exact ⟨[(w, x)], .refl _⟩
  | a :: sl, b :: σ, i + 1 => by
    obtain ⟨T, h⟩ := prs_drop (sl := sl) (σ := σ) (i := i)
    cases a with
    | none => exact ⟨T, h⟩
    | some w =>
      cases b with
      | none => exact ⟨T, h⟩
      | some x => exact ⟨T, (h.cons _).trans List.perm_middle.symm⟩

/-! ### what is asked -/
section
variable (X : Cx)
def wE (e : Expr) : TE := fun σ H Q => ∀ (pins : List (Addr × Obj)) (s : Shared), Inv X pins σ H s → wpAny (model X.prog X.w) X.A (eval e X.env) (EP X pins σ Q) X.xe s
def wT (e : Expr) : TT := fun σ H Q => ∀ (pins : List (Addr × Obj)) (s : Shared), Inv X pins σ H s → wpAny (model X.prog X.w) X.A (isTrue e X.env (eval e X.env)) (TP X pins σ Q) X.xe s
def wA (es : List Expr) : TA := fun σ H Q => ∀ (pos : Pos) (pins : List (Addr × Obj)) (s : Shared), Inv X pins σ H s → wpAny (model X.prog X.w) X.A (spliced (backTo pos (starEach es X.env))) (AP X pins σ Q) X.xe s
def wS (st : Stmt) : TS := fun D σ H => ∀ (pins : List (Addr × Obj)) (s : Shared), Inv X pins σ H s → wpAny (model X.prog X.w) X.A (exec st X.env) (SP X pins D) X.xe s
def wSs (st : List Stmt) : TS := fun D σ H => ∀ (pins : List (Addr × Obj)) (s : Shared), Inv X pins σ H s → wpAny (model X.prog X.w) X.A (execs st X.env) (SP X pins D) X.xe s
end
section
variable {X : Cx} {e : Expr} {es : List Expr} {st : Stmt} {sts : List Stmt} {σ : St} {Q Q' : VK}
theorem pe_w : PE X e (wE X e) := ⟨fun pins s σ H Q I h => h pins s I⟩
theorem pt_w : PT X e (wT X e) := ⟨fun pins s σ H Q I h => h pins s I⟩
theorem pa_w : PA X es (wA X es) := ⟨fun pos pins s σ H Q I h => h pos pins s I⟩
theorem ps_w : PS X st (wS X st) := ⟨fun pins s σ H Q I h => h pins s I⟩
theorem pss_w : PSs X sts (wSs X sts) := ⟨fun pins s σ H Q I h => h pins s I⟩
theorem _root_.L2.PE.w {t : TE} (h : PE X e t) (q : t σ H Q) : wE X e σ H Q := fun pins s I => h.run pins s σ H Q I q
theorem _root_.L2.PT.w {t : TT} {Q : Bool → Hp → Prop} (h : PT X e t) (q : t σ H Q) : wT X e σ H Q := fun pins s I => h.run pins s σ H Q I q
theorem _root_.L2.PA.w {t : TA} {Q : List V → Hp → Prop} (h : PA X es t) (q : t σ H Q) : wA X es σ H Q := fun pos pins s I => h.run pos pins s σ H Q I q
theorem _root_.L2.PS.w {t : TS} {D : Ends} (h : PS X st t) (q : t D σ H) : wS X st D σ H := fun pins s I => h.run pins s σ H D I q
theorem _root_.L2.PSs.w {t : TS} {D : Ends} (h : PSs X sts t) (q : t D σ H) : wSs X sts D σ H := fun pins s I => h.run pins s σ H D I q
theorem wE.mono (h : wE X e σ H Q) (f : ∀ x H', Q x H' → Q' x H') : wE X e σ H Q' := fun pins s I => thn (h pins s I) fun _ _ ⟨x, H', I', r, q⟩ => ⟨x, H', I', r, f x H' q⟩
theorem wT.mono {Q Q' : Bool → Hp → Prop} (h : wT X e σ H Q) (f : ∀ x H', Q x H' → Q' x H') : wT X e σ H Q' := fun pins s I => thn (h pins s I) fun _ _ ⟨H', I', q⟩ => ⟨H', I', f _ H' q⟩
theorem wA.mono {Q Q' : List V → Hp → Prop} (h : wA X es σ H Q) (f : ∀ x H', Q x H' → Q' x H') : wA X es σ H Q' := fun pos pins s I => thn (h pos pins s I) fun _ _ ⟨x, H', I', r, q⟩ => ⟨x, H', I', r, f x H' q⟩
end
/-- what is read now, shared or not -/
def Lk (G : Gb) (H : Hp) (v : PV) (x : V) : Prop := Rp G H (fun _ => True) v x
theorem Rp.lk {v : PV} {x : V} (h : Rp G H F v x) : Lk G H v x := Rp.mono .refl (fun _ _ => trivial) v x h
theorem RW.lk {w : W} {x : V} (h : RW G H F w x) : Lk G H w.frz x := RW.frz (F' := fun _ => True) w x h (fun _ _ => trivial) fun _ _ => trivial
theorem Good.lk {w : W} {x : V} (g : Good G H ((w, x) :: L)) : Lk G H w.frz x := let ⟨_, g⟩ := g; (g.rel _ List.mem_cons_self).lk

/-- what is read, its top in no need to be shared -/
def Vw (G : Gb) (H : Hp) (F : Fz) : PV → V → Prop
  | .lst ts, x => ∃ a vs, x = .ref a ∧ Rd H a (.lst vs) ∧ Rps G H F ts vs
  | .dk ts, x => ∃ a us, x = .ref a ∧ Rd H a (.dK us) ∧ RpK G H F ts us
  | .dt ts, x => ∃ a us, x = .ref a ∧ Rd H a (.dT us) ∧ RpT G H F ts us
  | .ins c fs, x => Lk G H (.ins c fs) x
  | v, x => Rp G H F v x
theorem Rp.vw {v : PV} {x : V} (h : Rp G H F v x) : Vw G H F v x := by
  cases v with
  | lst ts => obtain ⟨a, vs, e, q, r⟩ := h; exact ⟨a, vs, e, q.2, r⟩
  | dk ts => obtain ⟨a, vs, e, q, r⟩ := h; exact ⟨a, vs, e, q.2, r⟩
  | dt ts => obtain ⟨a, vs, e, q, r⟩ := h; exact ⟨a, vs, e, q.2, r⟩
  | ins c fs => exact h.lk
  | _ => exact h
theorem Vw.lk {v : PV} {x : V} (h : Vw G H F v x) : Lk G H v x := by
  cases v with
  | lst ts => obtain ⟨a, vs, e, q, r⟩ := h; exact ⟨a, vs, e, ⟨trivial, q⟩, r.up fun _ _ => trivial⟩
  | dk ts => obtain ⟨a, vs, e, q, r⟩ := h; exact ⟨a, vs, e, ⟨trivial, q⟩, r.up fun _ _ => trivial⟩
  | dt ts => obtain ⟨a, vs, e, q, r⟩ := h; exact ⟨a, vs, e, ⟨trivial, q⟩, r.up fun _ _ => trivial⟩
  | ins c fs => exact h
  | _ => exact Rp.lk (F := F) h
theorem RW.vw {w : W} {x : V} (h : RW G H F w x) : Vw G H F w.frz x := by
  cases w with
  | sh v => exact Rp.vw h
  | obj c fs => exact h.lk
  | own v =>
    have h : Own G H F v x := h
    cases v with
    | lst ts => obtain ⟨a, vs, e, q, r⟩ := h; exact ⟨a, vs, e, .inl q, r⟩
    | dk ts => obtain ⟨a, vs, e, q, r⟩ := h; exact ⟨a, vs, e, .inl q, r⟩
    | dt ts => obtain ⟨a, vs, e, q, r⟩ := h; exact ⟨a, vs, e, .inl q, r⟩
    | _ => exact (show False from h).elim
theorem Good.vw {w : W} {x : V} (g : Good G H ((w, x) :: L)) : ∃ F, Gd G H F L ∧ Vw G H F w.frz x := let ⟨F, g⟩ := g; ⟨F, g.tail, (g.rel _ List.mem_cons_self).vw⟩
section
variable (G : Gb) (X : Cx)
/-- an expression's value by m -/
def SEv (e : Expr) (m : Mini.M W) : Prop := ∀ (sl sl' : Sl) (σ : St) (H : Hp) (T : List WV) (w : W), Fit sl σ → Good G H (prs sl σ ++ T) → m sl = .ok w sl' →
  wE X e σ H fun x H' => Fit sl' σ ∧ Good G H' ((w, x) :: (prs sl' σ ++ T))
/-- looked at -/
def SEb (e : Expr) (m : Mini.M PV) : Prop := ∀ (sl sl' : Sl) (σ : St) (H : Hp) (T : List WV) (v : PV), Fit sl σ → Good G H (prs sl σ ++ T) → m sl = .ok v sl' →
  wE X e σ H fun x H' => Fit sl' σ ∧ ∃ F, Gd G H' F (prs sl' σ ++ T) ∧ Vw G H' F v x
/-- as a test -/
def SEt (e : Expr) (m : Mini.M Bool) : Prop := ∀ (sl sl' : Sl) (σ : St) (H : Hp) (T : List WV) (b : Bool), Fit sl σ → Good G H (prs sl σ ++ T) → m sl = .ok b sl' →
  wT X e σ H fun c H' => c = b ∧ Fit sl' σ ∧ Good G H' (prs sl' σ ++ T)
/-- values one behind another, frozen -/
def shs : List PV → List V → List WV
  | v :: vs, x :: xs => (.sh v, x) :: shs vs xs
  | _, _ => []
def SEs (es : List Expr) (m : Mini.M (List PV)) : Prop := ∀ (sl sl' : Sl) (σ : St) (H : Hp) (T : List WV) (vs : List PV), Fit sl σ → Good G H (prs sl σ ++ T) → m sl = .ok vs sl' →
  wA X es σ H fun xs H' => Fit sl' σ ∧ vs.length = xs.length ∧ Good G H' (shs vs xs ++ (prs sl' σ ++ T))
end
end Snd
end

section
set_option Elab.async false
set_option linter.all false
set_option maxRecDepth 100000
/-! S4: operators on values. -/
namespace Snd
open PySem PySem.Spec L2
open PyProof.Rows hiding St
open Mini (PV W Sl)
variable {G : Gb} {H H' : Hp} {F F' : Fz} {L L' : List WV}

/-! ### readings -/
theorem Lk.flatI {i : Int} {x : V} (h : Lk G H (.int i) x) : x = .int i := h
theorem Lk.flatB {i : Bool} {x : V} (h : Lk G H (.bl i) x) : x = .bl i := h
theorem Lk.flatS {i : Str} {x : V} (h : Lk G H (.str i) x) : x = .str i := h.1
theorem ok_app {x y : Str} (h : PyData.strOk x = true) (h' : PyData.strOk y = true) : PyData.strOk (x ++ y) = true := by
  have e : (x ++ y).cps = x.cps ++ y.cps := rfl
  unfold PyData.strOk at *
  rw [e, Array.all_append, h, h', Bool.and_true]
theorem Lk.flatN {x : V} (h : Lk G H .non x) : x = .non := h
theorem Rps.length : ∀ {ts : List PV} {vs : List V}, Rps G H F ts vs → ts.length = vs.length
  | [], vs, h => by
    have h : vs = [] := h
    rw [h]; rfl
  | _ :: ts, _, ⟨x, r, e, _, h⟩ => by rw [e, List.length_cons, List.length_cons, Rps.length h]
theorem Rps.get : ∀ {ts : List PV} {vs : List V} {i : Nat} {t : PV}, Rps G H F ts vs → ts[i]? = some t → ∃ x, vs[i]? = some x ∧ Rp G H F t x
  | [], _, _, _, _, e => by simp at e
  | t :: ts, _, 0, u, ⟨x, r, e, h, _⟩, q => by
    have q : t = u := by simpa using q
    subst q
    exact ⟨x, by rw [e]; rfl, h⟩
  | t :: ts, _, i + 1, u, ⟨x, r, e, _, h⟩, q => by
    obtain ⟨y, hy, ry⟩ := Rps.get (i := i) (t := u) h (by simpa using q)
    exact ⟨y, by rw [e]; simpa using hy, ry⟩
theorem Rps.append : ∀ {ts ts' : List PV} {vs vs' : List V}, Rps G H F ts vs → Rps G H F ts' vs' → Rps G H F (ts ++ ts') (vs ++ vs')
  | [], _, _, _, h, h' => by rw [show _ = [] from h]; exact h'
  | t :: ts, _, _, _, ⟨x, r, e, q, h⟩, h' => by rw [e]; exact ⟨x, r ++ _, rfl, q, Rps.append h h'⟩
theorem Rps.take : ∀ {ts : List PV} {vs : List V} (n : Nat), Rps G H F ts vs → Rps G H F (ts.take n) (vs.take n)
  | _, _, 0, _ => by simp [Rps]
  | [], _, n + 1, h => by rw [show _ = [] from h]; simp [Rps]
  | t :: ts, _, n + 1, ⟨x, r, e, q, h⟩ => by rw [e]; exact ⟨x, _, rfl, q, Rps.take n h⟩
theorem Rps.drop : ∀ {ts : List PV} {vs : List V} (n : Nat), Rps G H F ts vs → Rps G H F (ts.drop n) (vs.drop n)
  | _, _, 0, h => by simpa using h
  | [], _, n + 1, h => by rw [show _ = [] from h]; simp [Rps]
  | t :: ts, _, n + 1, ⟨x, r, e, q, h⟩ => by rw [e]; exact Rps.drop n h
theorem Rps.reverse : ∀ {ts : List PV} {vs : List V}, Rps G H F ts vs → Rps G H F ts.reverse vs.reverse
  | [], _, h => by rw [show _ = [] from h]; simp [Rps]
  | t :: ts, _, ⟨x, r, e, q, h⟩ => by
    rw [e, List.reverse_cons, List.reverse_cons]
    exact Rps.append (Rps.reverse h) ⟨x, [], rfl, q, rfl⟩
theorem Rps.set : ∀ {ts : List PV} {vs : List V} {t : PV} {x : V} (n : Nat), Rps G H F ts vs → Rp G H F t x → Rps G H F (ts.set n t) (vs.set n x)
  | [], _, _, _, _, h, _ => by rw [show _ = [] from h]; simp [Rps]
  | t :: ts, _, _, _, 0, ⟨x, r, e, q, h⟩, h' => by rw [e]; exact ⟨_, r, rfl, h', h⟩
  | t :: ts, _, _, _, n + 1, ⟨x, r, e, q, h⟩, h' => by rw [e]; exact ⟨x, _, rfl, q, Rps.set n h h'⟩
theorem Rps.dropLast {ts : List PV} {vs : List V} (h : Rps G H F ts vs) : Rps G H F ts.dropLast vs.dropLast := by
  rw [List.dropLast_eq_take, List.dropLast_eq_take, h.length]
  exact h.take _
theorem Rps.eraseIdx : ∀ {ts : List PV} {vs : List V} (n : Nat), Rps G H F ts vs → Rps G H F (ts.eraseIdx n) (vs.eraseIdx n)
  | [], _, _, h => by rw [show _ = [] from h]; simp [Rps]
  | t :: ts, _, 0, ⟨x, r, e, q, h⟩ => by rw [e]; exact h
  | t :: ts, _, n + 1, ⟨x, r, e, q, h⟩ => by rw [e]; exact ⟨x, _, rfl, q, Rps.eraseIdx n h⟩
theorem Rps.rep {ts : List PV} {vs : List V} (h : Rps G H F ts vs) : ∀ k : Nat, Rps G H F (List.replicate k ts).flatten (List.replicate k vs).flatten
  | 0 => rfl
  | k + 1 => by
    rw [List.replicate_succ, List.replicate_succ, List.flatten_cons, List.flatten_cons]
    exact h.append (Rps.rep h k)
theorem Rps.one {t : PV} {x : V} (h : Rp G H F t x) : Rps G H F [t] [x] := ⟨x, [], rfl, h, rfl⟩
theorem Rps.ofAll : ∀ {ts : List PV} {vs : List V}, ts.length = vs.length → (∀ (i : Nat) (t : PV) (x : V), ts[i]? = some t → vs[i]? = some x → Rp G H F t x) → Rps G H F ts vs
  | [], vs, e, _ => List.eq_nil_of_length_eq_zero (by simpa using e.symm)
  | t :: ts, [], e, _ => by simp at e
  | t :: ts, x :: vs, e, h => ⟨x, vs, rfl, h 0 t x rfl rfl, Rps.ofAll (by simpa using e) fun i u y a b => h (i + 1) u y (by simpa using a) (by simpa using b)⟩

theorem RpT.sqt {a : Addr} {vs : List V} {K : PySem.W.Frag} (h : F a ∧ H a = some (.tup vs)) : SqT K H a vs := .inl (.inl h.2)

/-! ### a two-place operation at values -/
section
variable {X : Cx}
def OpW (X : Cx) (f : Value → Value → Sem Value) : R2 := fun x y H Q => ∀ (pins : List (Addr × Obj)) (s : Shared) (σ : St) (v u : Value), Inv X pins σ H s → RelV x v → RelV y u → wpAny (model X.prog X.w) X.A (f v u) (EP X pins σ Q) X.xe s
theorem op_w {f : Value → Value → Sem Value} : OpR X f (OpW X f) := fun pins s σ H x y v u Q I rx ry q => q pins s σ v u I rx ry
theorem _root_.L2.OpR.w {f : Value → Value → Sem Value} {r : R2} (h : OpR X f r) {x y : V} {Q : VK} (q : r x y H Q) : OpW X f x y H Q := fun pins s σ v u I rx ry => h pins s σ H x y v u Q I rx ry q

/-- lists as they are read: op_cat, op_rep over Rd -/
theorem lst_rd {pins : List (Addr × Obj)} {σ : St} {s : Shared} {p : Addr} {xs : List V} (I : Inv X pins σ H s) (h : Rd H p (.lst xs)) :
    xs.length ≤ sizeLine ∧ ∃ (its : List Value) (n : Nat), Vals xs its ∧ xs.length = its.length ∧ s.heap.get? p = some { cls := .type "list", data := .seq its.toArray n } := by
  obtain ⟨z, its, n, r, e⟩ := h.ok I.hok
  exact ⟨z, its, n, r, r.length, e⟩
def rCatR : R2 := fun x y H Q => ∃ l b xs zs, x = .ref l ∧ y = .ref b ∧ Rd H l (.lst xs) ∧ Rd H b (.lst zs) ∧ xs.length + zs.length ≤ sizeLine ∧ ∀ p, H p = none → Q (.ref p) (upd H p (.lst (xs ++ zs)))
theorem op_catR : OpR X (binaryOp .Add) rCatR := by
  intro pins s σ H x y v u Q I rx ry h
  obtain ⟨l, b, xs, zs, rfl, rfl, hH, hB, hz, q⟩ := h
  cases rx
  cases ry
  obtain ⟨z, its, n, r, hl, e⟩ := lst_rd I hH
  obtain ⟨z2, its2, n2, r2, hl2, e2⟩ := lst_rd I hB
  refine PySem.P.add_list e e2 ?_ (by rw [List.size_toArray, List.size_toArray]; omega)
  have ea : its.toArray ++ its2.toArray = (its ++ its2).toArray := by simp
  rw [ea]
  exact ⟨.ref _, _, I.lnew (t' := s.toks) (r.append r2) (by rw [List.length_append]; omega), rfl, q _ I.fresh⟩
def rRepR : R2 := fun x y H Q => ∃ l k xs, x = .ref l ∧ y = .int k ∧ Rd H l (.lst xs) ∧ -(2 ^ 63) ≤ k ∧ k < 2 ^ 63 ∧ xs.length * k.toNat ≤ sizeLine ∧
  ∀ p, H p = none → Q (.ref p) (upd H p (.lst (List.replicate k.toNat xs).flatten))
theorem op_repR : OpR X (binaryOp .Mult) rRepR := by
  intro pins s σ H x y v u Q I rx ry h
  obtain ⟨l, k, xs, rfl, rfl, hH, h1, h2, hz, q⟩ := h
  cases rx
  obtain ⟨t, rfl⟩ := ry
  obtain ⟨z, its, n, r, hl, e⟩ := lst_rd I hH
  have hlen : its.toArray.size * k.toNat ≤ sizeLine := by rw [List.size_toArray, ← hl]; exact hz
  have hcap : ¬ its.toArray.size * k.toNat > (2 ^ 63 - 1) / 8 := by
    have : (sizeLine : Nat) ≤ (2 ^ 63 - 1) / 8 := by decide
    omega
  have hfit : ¬ (!Builtin.List.listFitsIndex k) = true := by
    rw [fitsIndex_both h1 h2]
    exact Bool.false_ne_true
  have hlong : ¬ Builtin.List.listTooLong (its.toArray.size * k.toNat) = true := by
    rw [notLongL hlen]
    exact Bool.false_ne_true
  have hnew : List.foldl (fun x1 x2 => x1 ++ x2) #[] (List.replicate (if its.toArray.isEmpty = true then 0 else k.toNat) its.toArray) = (List.replicate k.toNat its).flatten.toArray := by
    have f0 : ∀ m : Nat, List.foldl (fun x1 x2 => x1 ++ x2) #[] (List.replicate m its.toArray) = (List.replicate m its).flatten.toArray := fun m => by
      have := foldl_rep its m []
      rw [List.nil_append] at this
      exact this
    rw [f0]
    cases its with
    | nil => simp
    | cons a r' => rw [if_neg (by simp)]
  refine wpAny_binaryOp_repeat_ref (T := "list") (U := "int") (by decide) ⟨_, e, rfl⟩ (fun s' => typeIs_int s' k t) noFill_list_mul F.fills_int_mul F.slot_int_rmul repeat_list F.slot_int_index.lookup
    (call_meets F.slot_int_rmul (typeIs_int s k t) F.entry_int_rmul (F.args_int_rmul_2 _ _) (int___rmul___int_list k t l its.toArray n)
      ⟨e, rfl, ⟨_, e, rfl⟩, call_meets F.slot_list_mul ⟨_, e, rfl⟩ F.entry_list_mul (F.args_list_mul_2 _ _) (AutoListH.list___mul___list_int_3 l its.toArray n k t hfit hcap hlong) ⟨e, ?_⟩⟩)
  rw [hnew]
  exact ⟨.ref _, _, I.lnew (t' := s.toks) (r.rep k.toNat) (by rw [PyProof.Rows.lm_len_rep_flat, Nat.mul_comm]; exact hz), rfl, q _ I.fresh⟩

def opOf : Mini.BOp → Operator
  | .add => .Add | .sub => .Sub | .mul => .Mult | .fdiv => .FloorDiv | .mod => .Mod | .pow => .Pow
theorem small_iff {i : Int} (h : Mini.small i = true) : -(2 ^ 64) < i ∧ i < 2 ^ 64 := by
  simpa [Mini.small] using h
theorem Good.newTup {p : Addr} {ts : List PV} {vs : List V} (g : Gd G H F L) (hp : H p = none) (r : Rps G H F ts vs) : Good G (upd H p (.tup vs)) ((.sh (.tup ts), .ref p) :: L) := ⟨_, g.newTup hp r⟩
theorem Good.newLst {p : Addr} {ts : List PV} {vs : List V} (g : Gd G H F L) (hp : H p = none) (r : Rps G H F ts vs) : Good G (upd H p (.lst vs)) ((.own (.lst ts), .ref p) :: L) := ⟨_, g.newLst hp r⟩
theorem SZ_eq : sizeLine = Mini.SZ := sizeLine_eq
/-- what the rules ask of the place where we stand -/
structure Bs (G : Gb) (X : Cx) : Prop where
  K : G.K = X.K
  calm : X.calm = true
  un : X.A.units + 64 < cLine
  kd : ∀ a, G.kd a → ∃ es n, KDict X.K X.w a es n
theorem Good.rp2 {w1 w2 : W} {x y : V} (g : Good G H ((w1, x) :: (w2, y) :: L)) : ∃ F, Gd G H F ((.sh w1.frz, x) :: (.sh w2.frz, y) :: L) ∧ Rp G H F w1.frz x ∧ Rp G H F w2.frz y := by
  obtain ⟨F, g⟩ := g.freeze.swap.freeze.swap
  exact ⟨F, g, g.rel _ List.mem_cons_self, g.rel _ (List.mem_cons_of_mem _ List.mem_cons_self)⟩
/-- x op y -/
theorem binop_ok (b : Bs G X) {o : Mini.BOp} {w1 w2 : W} {r : PV} {x y : V} {Q : VK} (g : Good G H ((w1, x) :: (w2, y) :: L)) (e : Mini.binop o w1.frz w2.frz = some r)
    (q : ∀ z H', Good G H' ((Mini.ownIf r, z) :: L) → Q z H') : OpW X (binaryOp (opOf o)) x y H Q := by
  obtain ⟨F, g, r1, r2⟩ := g.rp2
  have gL : Gd G H F L := g.tail.tail
  generalize w1.frz = a at *
  generalize w2.frz = c at *
  have hK := b.K
  have hz := SZ_eq
  unfold Mini.binop at e
  split at e
  · cases e; obtain rfl := r1; obtain rfl := r2
    exact op_add.w ⟨_, _, rfl, rfl, q _ _ (Good.int ⟨F, gL⟩)⟩
  · cases e; obtain rfl := r1; obtain rfl := r2
    exact op_sub.w ⟨_, _, rfl, rfl, q _ _ (Good.int ⟨F, gL⟩)⟩
  · split at e
    · rename_i h
      cases e; obtain rfl := r1; obtain rfl := r2
      refine op_mul.w ⟨_, _, rfl, rfl, ?_, q _ _ (Good.int ⟨F, gL⟩)⟩
      rcases Bool.or_eq_true_iff.mp h with h | h
      · exact .inl (small_iff h)
      · exact .inr (small_iff h)
    · cases e
  · split at e
    · rename_i h
      cases e; obtain rfl := r1; obtain rfl := r2
      have h := Bool.and_eq_true_iff.mp h
      exact op_fdivN.w ⟨_, _, rfl, rfl, ⟨by simpa using h.1, of_decide_eq_true h.2⟩, q _ _ (Good.int ⟨F, gL⟩)⟩
    · cases e
  · split at e
    · rename_i h
      cases e; obtain rfl := r1; obtain rfl := r2
      exact op_modN.w ⟨_, _, rfl, rfl, (by simpa using h), q _ _ (Good.int ⟨F, gL⟩)⟩
    · cases e
  · split at e
    · rename_i h
      cases e; obtain rfl := r1; obtain rfl := r2
      simp only [Bool.and_eq_true, decide_eq_true_eq] at h
      exact op_pow.w ⟨_, _, rfl, rfl, ⟨h.1.1, h.1.2, h.2⟩, q _ _ (Good.int ⟨F, gL⟩)⟩
    · cases e
  · split at e
    · rename_i h
      cases e; obtain ⟨rfl, k1⟩ := r1; obtain ⟨rfl, k2⟩ := r2
      exact op_add_str.w ⟨_, _, rfl, rfl, by rw [hz]; exact h, q _ _ (Good.str ⟨F, gL⟩ (ok_app k1 k2))⟩
    · cases e
  · split at e
    · rename_i h
      cases e
      obtain ⟨a, vs, rfl, h1, r1⟩ := r1
      obtain ⟨a', vs', rfl, h2, r2⟩ := r2
      refine op_catR.w ⟨_, _, _, _, rfl, rfl, h1.2, h2.2, by rw [hz, ← r1.length, ← r2.length]; exact h, fun p hp => q _ _ (Good.newLst gL hp (r1.append r2))⟩
    · cases e
  · rename_i xs ys
    split at e
    · rename_i h
      cases e
      have r1' := r1
      have r2' := r2
      obtain ⟨a, vs, rfl, h1, r1⟩ := r1
      obtain ⟨a', vs', rfl, h2, r2⟩ := r2
      refine op_catA.w ⟨_, _, _, _, rfl, rfl, RpT.sqt h1, RpT.sqt h2, by rw [hz, ← r1.length, ← r2.length]; exact h, fun e => ?_, fun _ e => ?_, fun _ _ p hp => q _ _ (Good.newTup gL hp (r1.append r2))⟩
      · have : xs = [] := List.eq_nil_of_length_eq_zero (by rw [r1.length, e]; rfl)
        subst this
        exact q _ _ ⟨F, gL.sh r2'⟩
      · have : ys = [] := List.eq_nil_of_length_eq_zero (by rw [r2.length, e]; rfl)
        subst this
        refine q _ _ ⟨F, gL.sh ?_⟩
        rw [List.append_nil]
        exact r1'
    · cases e
  · split at e
    · rename_i h
      cases e
      simp only [Bool.and_eq_true, decide_eq_true_eq] at h
      obtain ⟨a, vs, rfl, h1, r1⟩ := r1
      obtain rfl := r2
      refine op_repR.w ⟨_, _, _, rfl, rfl, h1.2, h.1.1, h.1.2, by rw [hz, ← r1.length]; exact h.2, fun p hp => q _ _ (Good.newLst gL hp (r1.rep _))⟩
    · cases e
  · rename_i xs k
    split at e
    · rename_i h
      cases e
      simp only [Bool.and_eq_true, decide_eq_true_eq] at h
      obtain ⟨a, vs, rfl, h1, r1⟩ := r1
      obtain rfl := r2
      refine op_repT.w ⟨_, _, _, rfl, rfl, RpT.sqt h1, fun e => ?_, h.2.1, h.2.2.1, by rw [← r1.length]; exact h.2.2.2, fun p hp => q _ _ (Good.newTup gL hp (r1.rep _))⟩
      have : xs = [] := List.eq_nil_of_length_eq_zero (by rw [r1.length, e]; rfl)
      rw [this] at h
      simp at h
    · cases e
  · cases e

end
end Snd
end

section
set_option Elab.async false
set_option linter.all false
set_option maxRecDepth 100000
/-! S5: comparisons, truth, items. -/
namespace Snd
open PySem PySem.Spec L2
open PyProof.Rows hiding St
open Mini (PV W Sl)
variable {G : Gb} {H H' : Hp} {F F' : Fz} {L L' : List WV}

mutual
def toD : PV → PyData
  | .bl b => .bool b
  | .int i => .int i
  | .str s => .str s
  | .lst xs => .list (toDs xs)
  | .tup xs => .tuple (toDs xs)
  | _ => .none
def toDs : List PV → List PyData
  | [] => []
  | x :: xs => toD x :: toDs xs
end
theorem toDs_eq : ∀ xs : List PV, toDs xs = xs.map toD
  | [] => rfl
  | x :: xs => by rw [toDs, toDs_eq xs, List.map_cons]
theorem dep_lst {xs : List PV} {n : Nat} (h : Mini.dep (.lst xs) = some n) : ∃ k, Mini.deps xs = some k ∧ n = k + 1 := by
  unfold Mini.dep at h
  obtain ⟨k, hk, e⟩ := Option.map_eq_some_iff.mp h
  exact ⟨k, hk, e.symm⟩
theorem dep_tup {xs : List PV} {n : Nat} (h : Mini.dep (.tup xs) = some n) : ∃ k, Mini.deps xs = some k ∧ n = k + 1 := by
  unfold Mini.dep at h
  obtain ⟨k, hk, e⟩ := Option.map_eq_some_iff.mp h
  exact ⟨k, hk, e.symm⟩
theorem deps_cons {x : PV} {xs : List PV} {n : Nat} (h : Mini.deps (x :: xs) = some n) : ∃ a b, Mini.dep x = some a ∧ Mini.deps xs = some b ∧ n = max a b := by
  unfold Mini.deps at h
  split at h
  · rename_i a b h1 h2
    cases h
    exact ⟨a, b, h1, h2, rfl⟩
  · cases h
mutual
theorem Rp.dp {K : PySem.W.Frag} : ∀ (v : PV) (x : V) (n : Nat), Mini.dep v = some n → Rp G H F v x → Dp K H x (toD v) ∧ PyData.canLay0 (toD v) = true ∧ PyData.depth (toD v) ≤ n
  | .non, _, _, _, rfl => ⟨.non, rfl, Nat.zero_le _⟩
  | .bl b, _, _, _, rfl => ⟨.bl b, rfl, Nat.zero_le _⟩
  | .int i, _, _, _, rfl => ⟨.int i, rfl, Nat.zero_le _⟩
  | .str s, _, _, _, ⟨e, o⟩ => by
    rw [e]
    exact ⟨.str s, o, Nat.zero_le _⟩
  | .lst xs, _, n, hd, ⟨a, vs, e, q, r⟩ => by
    obtain ⟨k, hk, rfl⟩ := dep_lst hd
    obtain ⟨h1, h2, h3⟩ := Rps.dp xs vs k hk r
    rw [e]
    refine ⟨.lst (.inl q.2) h1, h2, ?_⟩
    show PyData.depthAll (toDs xs) + 1 ≤ k + 1
    omega
  | .tup xs, _, n, hd, ⟨a, vs, e, q, r⟩ => by
    obtain ⟨k, hk, rfl⟩ := dep_tup hd
    obtain ⟨h1, h2, h3⟩ := Rps.dp xs vs k hk r
    rw [e]
    refine ⟨.tup (.inl (.inl q.2)) h1, h2, ?_⟩
    show PyData.depthAll (toDs xs) + 1 ≤ k + 1
    omega
  | .dk _, _, _, hd, _ | .dt _, _, _, hd, _ | .rng _ _, _, _, hd, _ | .ins _ _, _, _, hd, _ | .clo _ _, _, _, hd, _ | .ktup _, _, _, hd, _ | .kdk _, _, _, hd, _ => by simp [Mini.dep] at hd
theorem Rps.dp {K : PySem.W.Frag} : ∀ (vs : List PV) (xs : List V) (n : Nat), Mini.deps vs = some n → Rps G H F vs xs → DpAll K H xs (toDs vs) ∧ PyData.canLayAll0 (toDs vs) = true ∧ PyData.depthAll (toDs vs) ≤ n
  | [], xs, _, _, h => by
    have h : xs = [] := h
    rw [h]
    exact ⟨.nil, rfl, Nat.zero_le _⟩
  | v :: vs, _, n, hd, ⟨x, r, e, h, h'⟩ => by
    obtain ⟨a, b, e1, e2, rfl⟩ := deps_cons hd
    obtain ⟨h1, h2, h3⟩ := Rp.dp v x a e1 h
    obtain ⟨g1, g2, g3⟩ := Rps.dp vs r b e2 h'
    rw [e]
    refine ⟨.cons h1 g1, by show (PyData.canLay0 (toD v) && PyData.canLayAll0 (toDs vs)) = true; rw [h2, g2]; rfl, ?_⟩
    show max (PyData.depth (toD v)) (PyData.depthAll (toDs vs)) ≤ max a b
    omega
end
mutual
theorem deq_toD : ∀ (v u : PV) (n m : Nat), Mini.dep v = some n → Mini.dep u = some m → Mini.deq v u = PyData.eqv (toD v) (toD u)
  | .lst xs, .lst ys, n, m, h1, h2 => by
    obtain ⟨k, hk, _⟩ := dep_lst h1
    obtain ⟨j, hj, _⟩ := dep_lst h2
    exact deqs_toD xs ys k j hk hj
  | .tup xs, .tup ys, n, m, h1, h2 => by
    obtain ⟨k, hk, _⟩ := dep_tup h1
    obtain ⟨j, hj, _⟩ := dep_tup h2
    exact deqs_toD xs ys k j hk hj
  | .non, u, _, _, _, h2 => by cases u <;> first | rfl | simp [Mini.dep] at h2
  | .bl _, u, _, _, _, h2 => by cases u <;> first | rfl | simp [Mini.dep] at h2
  | .int _, u, _, _, _, h2 => by cases u <;> first | rfl | simp [Mini.dep] at h2
  | .str _, u, _, _, _, h2 => by cases u <;> first | rfl | simp [Mini.dep] at h2
  | .lst _, .non, _, _, _, _ | .lst _, .bl _, _, _, _, _ | .lst _, .int _, _, _, _, _ | .lst _, .str _, _, _, _, _ | .lst _, .tup _, _, _, _, _ => by rfl
  | .tup _, .non, _, _, _, _ | .tup _, .bl _, _, _, _, _ | .tup _, .int _, _, _, _, _ | .tup _, .str _, _, _, _, _ | .tup _, .lst _, _, _, _, _ => by rfl
  | .dk _, _, _, _, h1, _ | .dt _, _, _, _, h1, _ | .rng _ _, _, _, _, h1, _ | .ins _ _, _, _, _, h1, _ | .clo _ _, _, _, _, h1, _ | .ktup _, _, _, _, h1, _ | .kdk _, _, _, _, h1, _ => by simp [Mini.dep] at h1
  | _, .dk _, _, _, _, h1 | _, .dt _, _, _, _, h1 | _, .rng _ _, _, _, _, h1 | _, .ins _ _, _, _, _, h1 | _, .clo _ _, _, _, _, h1 | _, .ktup _, _, _, _, h1 | _, .kdk _, _, _, _, h1 => by simp [Mini.dep] at h1
theorem deqs_toD : ∀ (vs us : List PV) (n m : Nat), Mini.deps vs = some n → Mini.deps us = some m → Mini.deqs vs us = PyData.eqvAll (toDs vs) (toDs us)
  | [], [], _, _, _, _ => rfl
  | [], _ :: _, _, _, _, _ => rfl
  | _ :: _, [], _, _, _, _ => rfl
  | v :: vs, u :: us, n, m, h1, h2 => by
    obtain ⟨a, b, e1, e2, _⟩ := deps_cons h1
    obtain ⟨c, d, e3, e4, _⟩ := deps_cons h2
    show (Mini.deq v u && Mini.deqs vs us) = (PyData.eqv (toD v) (toD u) && PyData.eqvAll (toDs vs) (toDs us))
    rw [deq_toD v u a c e1 e3, deqs_toD vs us b d e2 e4]
end
theorem isData_dep {v : PV} (h : Mini.isData v = true) : ∃ n, Mini.dep v = some n ∧ n ≤ 60 := by
  unfold Mini.isData at h
  split at h
  · rename_i d e
    exact ⟨d, e, by simpa using h⟩
  · cases h
/-- data as the rules of == want it -/
theorem Rp.data {K : PySem.W.Frag} {v : PV} {x : V} (d : Mini.isData v = true) (h : Rp G H F v x) : Dp K H x (toD v) ∧ SeqAt.shaped (toD v) = true := by
  obtain ⟨n, e, hn⟩ := isData_dep d
  obtain ⟨h1, h2, h3⟩ := Rp.dp (K := K) v x n e h
  refine ⟨h1, ?_⟩
  unfold SeqAt.shaped
  rw [h2, Bool.true_and]
  exact decide_eq_true (by omega)
theorem deq_data {v u : PV} (d : Mini.isData v = true) (d' : Mini.isData u = true) : Mini.deq v u = PyData.eqv (toD v) (toD u) := by
  obtain ⟨n, e, _⟩ := isData_dep d
  obtain ⟨m, e', _⟩ := isData_dep d'
  exact deq_toD v u n m e e'
theorem Rps.data {K : PySem.W.Frag} : ∀ {vs : List PV} {xs : List V}, vs.all Mini.isData = true → Rps G H F vs xs → DpAll K H xs (vs.map toD) ∧ PyData.canLayAll0 (vs.map toD) = true ∧ PyData.depthAll (vs.map toD) ≤ 60
  | [], xs, _, h => by
    have h : xs = [] := h
    rw [h]
    exact ⟨.nil, rfl, Nat.zero_le _⟩
  | v :: vs, _, d, ⟨x, r, e, h, h'⟩ => by
    rw [List.all_cons, Bool.and_eq_true] at d
    obtain ⟨n, e1, hn⟩ := isData_dep d.1
    obtain ⟨h1, h2, h3⟩ := Rp.dp (K := K) v x n e1 h
    obtain ⟨g1, g2, g3⟩ := Rps.data (K := K) d.2 h'
    rw [e]
    refine ⟨.cons h1 g1, by show (PyData.canLay0 (toD v) && PyData.canLayAll0 (vs.map toD)) = true; rw [h2, g2]; rfl, ?_⟩
    show max (PyData.depth (toD v)) (PyData.depthAll (vs.map toD)) ≤ 60
    omega
theorem any_data {a : PV} (d : Mini.isData a = true) : ∀ {ys : List PV}, ys.all Mini.isData = true → ((ys.map toD).any fun y => PyData.eqv y (toD a)) = ys.any fun y => Mini.deq y a
  | [], _ => rfl
  | y :: ys, h => by
    rw [List.all_cons, Bool.and_eq_true] at h
    rw [List.map_cons, List.any_cons, List.any_cons, deq_data h.1 d, any_data d h.2]

/-! ### tuples of intsM -/
theorem ints_eq : ∀ {xs : List PV} {ns : List Int}, Mini.intsM xs = some ns → xs = ns.map .int
  | [], ns, h => by cases h; rfl
  | .int i :: xs, ns, h => by
    simp only [Mini.intsM] at h
    obtain ⟨m, hm, e⟩ := Option.map_eq_some_iff.mp h
    rw [← e, ints_eq hm]; rfl
  | .non :: _, _, h | .bl _ :: _, _, h | .str _ :: _, _, h | .tup _ :: _, _, h | .lst _ :: _, _, h | .dk _ :: _, _, h | .dt _ :: _, _, h | .rng _ _ :: _, _, h | .ins _ _ :: _, _, h | .clo _ _ :: _, _, h | .ktup _ :: _, _, h | .kdk _ :: _, _, h => by simp [Mini.intsM] at h
theorem Rps.intsM : ∀ {ns : List Int} {xs : List V}, Rps G H F (ns.map .int) xs → xs = ns.map V.int
  | [], xs, h => h
  | n :: ns, _, ⟨x, r, e, h, h'⟩ => by
    rw [e, Rps.intsM h', show x = V.int n from h]; rfl
theorem lexLt_eq : ∀ ns ms : List Int, Mini.lexLt ns ms = HT.lexLt ns ms
  | [], [] => rfl
  | [], _ :: _ => rfl
  | _ :: _, [] => rfl
  | x :: xs, y :: ys => by rw [Mini.lexLt, HT.lexLt_cons, lexLt_eq xs ys]
theorem getD_app {A ns : List Int} {i : Nat} (h : A.length = i) (j : Nat) : (A ++ ns).getD (i + j) 0 = ns.getD j 0 := by
  simp [List.getD_eq_getElem?_getD, List.getElem?_append, h, show ¬ (i + j < i) by omega]
theorem lexAt_le : ∀ (ns ms A B : List Int) (i : Nat), A.length = i → B.length = i →
    Ob.lexAt (fun j => decide ((A ++ ns).getD j 0 = (B ++ ms).getD j 0)) (fun j => decide ((A ++ ns).getD j 0 ≤ (B ++ ms).getD j 0)) (decide (ns.length ≤ ms.length)) i (min ns.length ms.length) = Mini.lexLe ns ms
  | [], ms, A, B, i, _, _ => by
    rw [show min ([] : List Int).length ms.length = 0 by simp, Ob.lexAt_zero]
    simp [Mini.lexLe]
  | x :: xs, [], A, B, i, _, _ => by
    rw [show min (x :: xs).length ([] : List Int).length = 0 by simp, Ob.lexAt_zero]
    simp [Mini.lexLe]
  | x :: xs, y :: ys, A, B, i, ha, hb => by
    rw [show min (x :: xs).length (y :: ys).length = min xs.length ys.length + 1 by simp only [List.length_cons]; omega, Ob.lexAt_succ]
    have e1 : (A ++ x :: xs).getD i 0 = x := by have := getD_app (ns := x :: xs) ha 0; simpa using this
    have e2 : (B ++ y :: ys).getD i 0 = y := by have := getD_app (ns := y :: ys) hb 0; simpa using this
    rw [e1, e2, Mini.lexLe]
    have ih := lexAt_le xs ys (A ++ [x]) (B ++ [y]) (i + 1) (by simp [ha]) (by simp [hb])
    simp only [List.append_assoc, List.cons_append, List.nil_append] at ih
    have hl : decide ((x :: xs).length ≤ (y :: ys).length) = decide (xs.length ≤ ys.length) := by simp
    by_cases e : x = y
    · rw [if_pos (by simpa using e), if_pos e, hl]
      exact ih
    · rw [if_neg (by simpa using e), if_neg e]

/-! ### a comparison -/
section
variable {X : Cx}
def cmOf : Mini.COp → CmpOp
  | .eq => .Eq | .ne => .NotEq | .lt => .Lt | .le => .LtE | .gt => .Gt | .ge => .GtE | .is_ => .Is | .isnt => .IsNot | .in_ => .In | .notin => .NotIn
theorem in_seq {x y : V} {d : PyData} {ds : List PyData} {neg : Bool} {Q : VK} (hu : X.A.units + 64 < cLine) (hx : Dp X.K H x d) (hy : Dp X.K H y (.list ds) ∨ Dp X.K H y (.tuple ds)) (k1 : PyData.canLay0 d = true) (k2 : PyData.canLayAll0 ds = true) (hd : PyData.depthAll ds ≤ 60)
    (q : Q (.bl (if neg then !(ds.any fun y => PyData.eqv y d) else ds.any fun y => PyData.eqv y d)) H) : OpW X (compareOp (if neg then .NotIn else .In)) x y H Q := by
  intro pins s σ v u I rx ry
  obtain ⟨as, r1⟩ := Dp.reads I _ x v hx rx
  have hr : X.A.units + 1 + min (PyData.depthAll ds) (PyData.depth d) < cLine := by
    have := Nat.min_le_left (PyData.depthAll ds) (PyData.depth d)
    omega
  rcases hy with hy | hy
  · obtain ⟨bs, r2⟩ := Dp.reads I _ y u hy ry
    cases neg with
    | false => exact SeqAt.in_list_reads r2 r1 k2 k1 hr ⟨.bl _, H, I, rfl, q⟩
    | true => exact SeqAt.notIn_list_reads r2 r1 k2 k1 hr ⟨.bl _, H, I, rfl, q⟩
  · obtain ⟨bs, r2⟩ := Dp.reads I _ y u hy ry
    cases neg with
    | false => exact SeqAt.in_tuple_reads r2 r1 k2 k1 hr ⟨.bl _, H, I, rfl, q⟩
    | true => exact SeqAt.notIn_tuple_reads r2 r1 k2 k1 hr ⟨.bl _, H, I, rfl, q⟩

/-! ### dicts -/
theorem RpK.look {k : Mini.Key} : ∀ {kvs : List (Mini.Key × PV)} {us : List (Key × V)}, RpK G H F kvs us → match Mini.look k kvs with
    | some t => ∃ x, valV us k = some x ∧ Rp G H F t x
    | none => valV us k = none
  | [], us, h => by
    have h : us = [] := h
    rw [h]; rfl
  | (j, t) :: kvs, _, ⟨x, r, e, _, h, h'⟩ => by
    rw [e]
    unfold Mini.look
    by_cases q : j = k
    · rw [if_pos q]
      exact ⟨x, valV_pos q, h⟩
    · rw [if_neg q, valV_neg q]
      exact RpK.look h'
theorem RpT.look {k : List Mini.Key} : ∀ {kvs : List (List Mini.Key × PV)} {us : List (List Key × V)}, RpT G H F kvs us → match Mini.look k kvs with
    | some t => ∃ x, valV us k = some x ∧ Rp G H F t x
    | none => valV us k = none
  | [], us, h => by
    have h : us = [] := h
    rw [h]; rfl
  | (j, t) :: kvs, _, ⟨x, r, e, _, h, h'⟩ => by
    rw [e]
    unfold Mini.look
    by_cases q : j = k
    · rw [if_pos q]
      exact ⟨x, valV_pos q, h⟩
    · rw [if_neg q, valV_neg q]
      exact RpT.look h'
theorem keyOf_kV {v : PV} {x : V} {k : Mini.Key} (e : Mini.keyOf v = some k) (h : Lk G H v x) : x = kV k ∧ kOk k = true := by
  unfold Mini.keyOf at e
  split at e
  · cases e; exact ⟨h, rfl⟩
  · cases e; exact h
  · cases e
theorem keysOf_kV : ∀ {vs : List PV} {xs : List V} {ks : List Mini.Key}, Mini.keysOf vs = some ks → Rps G H F vs xs → xs = ks.map kV ∧ ks.all kOk = true
  | [], xs, ks, e, h => by
    have h : xs = [] := h
    cases e; rw [h]; exact ⟨rfl, rfl⟩
  | v :: vs, _, ks, e, ⟨x, r, e', h, h'⟩ => by
    unfold Mini.keysOf at e
    split at e
    · rename_i k ks' h1 h2
      cases e
      obtain ⟨a1, a2⟩ := keysOf_kV h2 h'
      obtain ⟨b1, b2⟩ := keyOf_kV h1 h.lk
      rw [e', a1, b1]
      exact ⟨rfl, by rw [List.all_cons, b2, a2]; rfl⟩
    · cases e
theorem tkeyOf_kV {v : PV} {x : V} {k : List Mini.Key} (e : Mini.tkeyOf v = some k) (h : Lk G H v x) : ∃ b, x = .ref b ∧ H b = some (.tup (k.map kV)) ∧ k.all kOk = true := by
  unfold Mini.tkeyOf at e
  split at e
  · obtain ⟨a, vs, rfl, q, r⟩ := h
    obtain ⟨rfl, h2⟩ := keysOf_kV e r
    exact ⟨a, rfl, q.2, h2⟩
  · cases e
/-- what a dict holds at a key -/
theorem dict_get {d k : PV} {x y : V} {o : Option PV} (hd : Lk G H d x) (hk : Lk G H k y)
    (e : (∃ kvs j, d = .dk kvs ∧ Mini.keyOf k = some j ∧ o = Mini.look j kvs) ∨ ∃ kvs j, d = .dt kvs ∧ Mini.tkeyOf k = some j ∧ o = Mini.look j kvs) :
    ∃ a r, x = .ref a ∧ DGet H a y r ∧ (∀ t, o = some t → ∃ z, r = some z ∧ Lk G H t z) ∧ (o = none → r = none) := by
  rcases e with ⟨kvs, j, rfl, h1, rfl⟩ | ⟨kvs, j, rfl, h1, rfl⟩
  · obtain ⟨a, us, rfl, q, r⟩ := hd
    obtain ⟨rfl, _⟩ := keyOf_kV h1 hk
    have l := RpK.look (k := j) r
    refine ⟨a, valV us j, rfl, .inl ⟨us, j, q.2, rfl, rfl⟩, fun t e => ?_, fun e => ?_⟩
    · rw [e] at l; exact l
    · rw [e] at l; exact l
  · obtain ⟨a, us, rfl, q, r⟩ := hd
    obtain ⟨b, rfl, hb, _⟩ := tkeyOf_kV h1 hk
    have l := RpT.look (k := j) r
    refine ⟨a, valV us j, rfl, .inr ⟨us, j, b, q.2, rfl, hb, rfl⟩, fun t e => ?_, fun e => ?_⟩
    · rw [e] at l; exact l
    · rw [e] at l; exact l
theorem dict_in {d k : PV} {x y : V} {o : Option PV} {Q : VK} (hu : X.A.units + 64 < cLine) (hd : Lk G H d x) (hk : Lk G H k y)
    (e : (∃ kvs j, d = .dk kvs ∧ Mini.keyOf k = some j ∧ o = Mini.look j kvs) ∨ ∃ kvs j, d = .dt kvs ∧ Mini.tkeyOf k = some j ∧ o = Mini.look j kvs) :
    (Q (.bl o.isSome) H → OpW X (compareOp .In) y x H Q) ∧ (Q (.bl (!o.isSome)) H → OpW X (compareOp .NotIn) y x H Q) := by
  obtain ⟨a, r, rfl, g, h1, h2⟩ := dict_get hd hk e
  have er : r.isSome = o.isSome := by
    cases o with
    | none => rw [h2 rfl]; rfl
    | some t =>
      obtain ⟨z, hz, _⟩ := h1 t rfl
      rw [hz]; rfl
  refine ⟨fun q pins s σ v u I rv ru => ?_, fun q pins s σ v u I rv ru => ?_⟩
  · cases (show u = Value.ref a from ru)
    exact d_in (by omega) I g rv fun s' I' => ⟨.bl r.isSome, H, I', rfl, by rw [er]; exact q⟩
  · cases (show u = Value.ref a from ru)
    exact d_notIn (by omega) I g rv fun s' I' => ⟨.bl (!r.isSome), H, I', rfl, by rw [er]; exact q⟩

theorem isNon_eq {a : PV} {x : V} (h : Lk G H a x) : decide (x = .non) = Mini.isNon a := by
  cases a with
  | non => obtain rfl := h; rfl
  | bl _ => obtain rfl := h; rfl
  | int _ => obtain rfl := h; rfl
  | str _ => obtain ⟨rfl, _⟩ := h; rfl
  | tup _ => obtain ⟨_, _, rfl, _⟩ := h; rfl
  | lst _ => obtain ⟨_, _, rfl, _⟩ := h; rfl
  | dk _ => obtain ⟨_, _, rfl, _⟩ := h; rfl
  | dt _ => obtain ⟨_, _, rfl, _⟩ := h; rfl
  | rng _ _ => obtain ⟨_, rfl, _⟩ := h; rfl
  | ins _ _ => obtain ⟨_, _, _, rfl, _⟩ := h; rfl
  | clo _ _ => exact (show False from h).elim
  | ktup _ => obtain ⟨_, _, rfl, _⟩ := h; rfl
  | kdk _ => obtain ⟨_, _, rfl, _⟩ := h; rfl
/-- a written dict: what it holds at a text -/
theorem kdk_get {kvs : List (Mini.Key × PV)} {x : V} {z : Str} (b : Bs G X) (hd : Rp G H F (.kdk kvs) x) : ∃ a es n r, x = .ref a ∧ KDict X.K X.w a es n ∧ PySem.W.nsIn X.K a z = some r ∧ match Mini.look (.inr z) kvs with
    | some t => ∃ u v, r = some u ∧ RelV v u ∧ Rp G H F t v
    | none => r = none := by
  obtain ⟨a, us, rfl, ⟨k, h⟩, rr⟩ := hd
  obtain ⟨es, n, D⟩ := b.kd a k
  obtain ⟨r, e, ro⟩ := h z
  refine ⟨a, es, n, r, rfl, D, by rw [← b.K]; exact e, ?_⟩
  have l := RpK.look (k := .inr z) rr
  cases q : Mini.look (.inr z) kvs with
  | none =>
    rw [q] at l
    have l : valV us (.inr z) = none := l
    rw [l] at ro
    cases r with
    | none => rfl
    | some _ => exact ro.elim
  | some t =>
    rw [q] at l
    obtain ⟨v, l, hv⟩ := (show ∃ x, valV us (.inr z) = some x ∧ Rp G H F t x from l)
    rw [l] at ro
    cases r with
    | none => exact ro.elim
    | some u => exact ⟨u, v, rfl, ro, hv⟩
theorem cmpop_ok (b : Bs G X) {o : Mini.COp} {a c : PV} {r : Bool} {x y : V} {Q : VK} (h1 : Lk G H a x) (h2 : Lk G H c y) (e : Mini.cmpop o a c = some r) (q : Q (.bl r) H) : OpW X (compareOp (cmOf o)) x y H Q := by
  have hu := b.un
  unfold Mini.cmpop at e
  split at e
  · split at e
    · rename_i hd
      cases e
      rw [Bool.and_eq_true] at hd
      obtain ⟨d1, s1⟩ := Rp.data (K := X.K) hd.1 h1
      obtain ⟨d2, s2⟩ := Rp.data (K := X.K) hd.2 h2
      exact (op_eqD hu).w ⟨_, _, d1, d2, s1, s2, by rw [← deq_data hd.1 hd.2]; exact q⟩
    · cases e
  · split at e
    · rename_i hd
      cases e
      rw [Bool.and_eq_true] at hd
      obtain ⟨d1, s1⟩ := Rp.data (K := X.K) hd.1 h1
      obtain ⟨d2, s2⟩ := Rp.data (K := X.K) hd.2 h2
      exact (op_neD hu).w ⟨_, _, d1, d2, s1, s2, by rw [← deq_data hd.1 hd.2]; exact q⟩
    · cases e
  · cases e; obtain rfl := h1; obtain rfl := h2
    exact op_lt.w ⟨_, _, rfl, rfl, q⟩
  · cases e; obtain rfl := h1; obtain rfl := h2
    exact op_le.w ⟨_, _, rfl, rfl, q⟩
  · cases e; obtain rfl := h1; obtain rfl := h2
    exact op_gt.w ⟨_, _, rfl, rfl, q⟩
  · cases e; obtain rfl := h1; obtain rfl := h2
    exact op_ge.w ⟨_, _, rfl, rfl, q⟩
  · split at e
    · rename_i ns ms e1 e2
      cases e
      obtain ⟨p, vs, rfl, f1, r1⟩ := h1
      obtain ⟨p', vs', rfl, f2, r2⟩ := h2
      rw [ints_eq e1] at r1
      rw [ints_eq e2] at r2
      rw [Rps.intsM r1] at f1
      rw [Rps.intsM r2] at f2
      exact (op_ltT (by omega)).w ⟨_, _, ns, ms, rfl, rfl, (.inl (.inl f1.2)), (.inl (.inl f2.2)), by rw [← lexLt_eq]; exact q⟩
    · cases e
  · split at e
    · rename_i ns ms e1 e2
      cases e
      obtain ⟨p, vs, rfl, f1, r1⟩ := h1
      obtain ⟨p', vs', rfl, f2, r2⟩ := h2
      rw [ints_eq e1] at r1
      rw [ints_eq e2] at r2
      rw [Rps.intsM r1] at f1
      rw [Rps.intsM r2] at f2
      have l := lexAt_le ns ms [] [] 0 rfl rfl
      simp only [List.nil_append] at l
      exact (op_leT (by omega)).w ⟨_, _, ns, ms, rfl, rfl, (.inl (.inl f1.2)), (.inl (.inl f2.2)), by rw [l]; exact q⟩
    · cases e
  · cases e
    obtain rfl := h2
    exact op_isN.w ⟨rfl, by rw [isNon_eq h1]; exact q⟩
  · cases e
    obtain rfl := h2
    exact op_notN.w ⟨rfl, by rw [isNon_eq h1]; exact q⟩
  · cases e; obtain rfl := h1; obtain rfl := h2
    refine op_isBl.w ⟨_, _, rfl, rfl, ?_⟩
    rw [← Bool.beq_eq_decide_eq]; exact q
  · cases e; obtain rfl := h1; obtain rfl := h2
    refine op_notBl.w ⟨_, _, rfl, rfl, ?_⟩
    rw [← Bool.beq_eq_decide_eq]; exact q
  · rename_i z1 z2
    split at e
    · rename_i c hc
      cases e
      obtain rfl : z1 = ⟨#[c]⟩ := by cases z1; simp only [Str.mk.injEq]; exact Array.toList_inj.mp hc
      have e1 := Lk.flatS h1
      have e2 := Lk.flatS h2
      subst e1 e2
      exact op_in_sign.w ⟨_, _, rfl, rfl, by rw [← List.contains_eq_mem]; exact q⟩
    · cases e
  · rename_i z1 z2
    split at e
    · rename_i c hc
      cases e
      obtain rfl : z1 = ⟨#[c]⟩ := by cases z1; simp only [Str.mk.injEq]; exact Array.toList_inj.mp hc
      have e1 := Lk.flatS h1
      have e2 := Lk.flatS h2
      subst e1 e2
      exact op_notIn_sign.w ⟨_, _, rfl, rfl, by rw [← List.contains_eq_mem]; exact q⟩
    · cases e
  · split at e
    · rename_i hd
      cases e
      rw [Bool.and_eq_true] at hd
      obtain ⟨d1, s1⟩ := Rp.data (K := X.K) hd.1 h1
      obtain ⟨p, vs, rfl, f, r⟩ := h2
      obtain ⟨d2, k2, n2⟩ := Rps.data (K := X.K) hd.2 r
      exact in_seq (neg := false) hu d1 (.inl (.lst (.inl f.2) d2)) (SeqAt.canLay_of_shaped s1) k2 n2 (by rw [any_data hd.1 hd.2]; exact q)
    · cases e
  · split at e
    · rename_i hd
      cases e
      rw [Bool.and_eq_true] at hd
      obtain ⟨d1, s1⟩ := Rp.data (K := X.K) hd.1 h1
      obtain ⟨p, vs, rfl, f, r⟩ := h2
      obtain ⟨d2, k2, n2⟩ := Rps.data (K := X.K) hd.2 r
      exact in_seq (neg := true) hu d1 (.inl (.lst (.inl f.2) d2)) (SeqAt.canLay_of_shaped s1) k2 n2 (by rw [any_data hd.1 hd.2]; exact q)
    · cases e
  · split at e
    · rename_i hd
      cases e
      rw [Bool.and_eq_true] at hd
      obtain ⟨d1, s1⟩ := Rp.data (K := X.K) hd.1 h1
      obtain ⟨p, vs, rfl, f, r⟩ := h2
      obtain ⟨d2, k2, n2⟩ := Rps.data (K := X.K) hd.2 r
      exact in_seq (neg := false) hu d1 (.inr (.tup (.inl (.inl f.2)) d2)) (SeqAt.canLay_of_shaped s1) k2 n2 (by rw [any_data hd.1 hd.2]; exact q)
    · cases e
  · split at e
    · rename_i hd
      cases e
      rw [Bool.and_eq_true] at hd
      obtain ⟨d1, s1⟩ := Rp.data (K := X.K) hd.1 h1
      obtain ⟨p, vs, rfl, f, r⟩ := h2
      obtain ⟨d2, k2, n2⟩ := Rps.data (K := X.K) hd.2 r
      exact in_seq (neg := true) hu d1 (.inr (.tup (.inl (.inl f.2)) d2)) (SeqAt.canLay_of_shaped s1) k2 n2 (by rw [any_data hd.1 hd.2]; exact q)
    · cases e
  · split at e
    · rename_i hd
      cases e
      rw [Bool.and_eq_true] at hd
      obtain ⟨d1, s1⟩ := Rp.data (K := X.K) hd.1 h1
      obtain ⟨p, vs, rfl, f, r⟩ := h2
      obtain ⟨d2, k2, n2⟩ := Rps.data (K := X.K) hd.2 r
      exact in_seq (neg := false) hu d1 (.inr (.tup (.inr (b.K ▸ f)) d2)) (SeqAt.canLay_of_shaped s1) k2 n2 (by rw [any_data hd.1 hd.2]; exact q)
    · cases e
  · rename_i z kvs
    cases e
    obtain ⟨rfl, _⟩ := h1
    obtain ⟨d, es, n, r, rfl, D, hn, l⟩ := kdk_get (z := z) b h2
    have er : r.isSome = (Mini.look (.inr z) kvs).isSome := by
      cases q' : Mini.look (.inr z) kvs with
      | none => rw [q'] at l; rw [show r = none from l]; rfl
      | some t => rw [q'] at l; obtain ⟨u, v, e, _⟩ := l; rw [e]; rfl
    exact (op_in_kd D).w ⟨z, r, rfl, rfl, hn, by rw [er]; exact q⟩
  · rename_i z kvs
    cases e
    obtain ⟨rfl, _⟩ := h1
    obtain ⟨d, es, n, r, rfl, D, hn, l⟩ := kdk_get (z := z) b h2
    have er : r.isSome = (Mini.look (.inr z) kvs).isSome := by
      cases q' : Mini.look (.inr z) kvs with
      | none => rw [q'] at l; rw [show r = none from l]; rfl
      | some t => rw [q'] at l; obtain ⟨u, v, e, _⟩ := l; rw [e]; rfl
    exact (op_notIn_kd D).w ⟨z, r, rfl, rfl, hn, by rw [er]; exact q⟩
  · split at e
    · rename_i k hk
      cases e
      exact (dict_in hu h2 h1 (.inl ⟨_, k, rfl, hk, rfl⟩)).1 q
    · cases e
  · split at e
    · rename_i k hk
      cases e
      exact (dict_in hu h2 h1 (.inl ⟨_, k, rfl, hk, rfl⟩)).2 q
    · cases e
  · split at e
    · rename_i k hk
      cases e
      exact (dict_in hu h2 h1 (.inr ⟨_, k, rfl, hk, rfl⟩)).1 q
    · cases e
  · split at e
    · rename_i k hk
      cases e
      exact (dict_in hu h2 h1 (.inr ⟨_, k, rfl, hk, rfl⟩)).2 q
    · cases e
  · cases e
end
end Snd
end

section
set_option Elab.async false
set_option linter.all false
set_option maxRecDepth 100000
/-! S6: expressions. -/
namespace Snd
open PySem PySem.Spec L2
open PyProof.Rows hiding St
open Mini (PV W Sl M)
variable {G : Gb} {H H' : Hp} {F F' : Fz} {L L' : List WV}

theorem bind_ok {α β : Type} {m : M α} {f : α → M β} {s s' : Sl} {b : β} : (m >>= f) s = .ok b s' ↔ ∃ a s1, m s = .ok a s1 ∧ f a s1 = .ok b s' := by
  show (m s).bind f = _ ↔ _
  cases h : m s with
  | ok a s1 =>
    constructor
    · intro e; exact ⟨a, s1, rfl, e⟩
    · rintro ⟨a', s1', e, e'⟩; cases e; exact e'
  | ex x s1 =>
    constructor
    · intro e; cases e
    · rintro ⟨_, _, e, _⟩; cases e
  | no =>
    constructor
    · intro e; cases e
    · rintro ⟨_, _, e, _⟩; cases e
theorem pure_ok {α : Type} {a b : α} {s s' : Sl} : (pure a : M α) s = .ok b s' ↔ a = b ∧ s = s' := by
  show Mini.R.ok a s = .ok b s' ↔ _
  constructor
  · intro e; cases e; exact ⟨rfl, rfl⟩
  · rintro ⟨rfl, rfl⟩; rfl
theorem ofO_ok {α : Type} {o : Option α} {b : α} {s s' : Sl} : Mini.ofO o s = .ok b s' ↔ o = some b ∧ s = s' := by
  cases o with
  | none =>
    constructor
    · intro e; cases e
    · rintro ⟨e, _⟩; cases e
  | some a =>
    rw [show Mini.ofO (some a) = (pure a : M α) from rfl, pure_ok]
    constructor
    · rintro ⟨rfl, rfl⟩; exact ⟨rfl, rfl⟩
    · rintro ⟨e, rfl⟩; cases e; exact ⟨rfl, rfl⟩
theorem fail_ok {α : Type} {b : α} {s s' : Sl} : (Mini.fail : M α) s = .ok b s' ↔ False := ⟨fun e => (nomatch e), False.elim⟩

theorem Good.takeS {sl : Sl} {σ : St} {T : List WV} {i : Nat} {w : W} {x : V} (g : Good G H (prs sl σ ++ T)) (e1 : sl[i]? = some (some w)) (e2 : σ[i]? = some (some x)) : Good G H ((w, x) :: (prs (sl.set i none) σ ++ T)) :=
  g.perm ((prs_get e1 e2).append_right T)
theorem Good.giveS {sl : Sl} {σ : St} {T : List WV} {i : Nat} {w : W} {x : V} (g : Good G H ((w, x) :: (prs (sl.set i none) σ ++ T))) (hi : i < sl.length) (e2 : σ[i]? = some (some x)) : Good G H (prs (sl.set i (some w)) σ ++ T) :=
  g.perm ((prs_set hi e2).append_right T).symm
theorem Good.give2 {sl : Sl} {σ : St} {T : List WV} {i : Nat} {w : W} {x : V} {p : WV} (g : Good G H (p :: (w, x) :: (prs (sl.set i none) σ ++ T))) (hi : i < sl.length) (e2 : σ[i]? = some (some x)) : Good G H (p :: (prs (sl.set i (some w)) σ ++ T)) :=
  g.perm (((prs_set hi e2).append_right T).symm.cons _)
theorem lt_of_get {sl : Sl} {i : Nat} {o : Option W} (h : sl[i]? = some o) : i < sl.length := (List.getElem?_eq_some_iff.mp h).1

section
variable {X : Cx} {e a c : Expr} {m ma mc : M W} {pos : Pos}
theorem wE.var {i : Nat} {x : Str} {v : V} {σ : St} {Q : VK} (hN : X.N[i]? = some x) (hv : Vis X.env.scope x) (hd : (x == ("__debug__" : Str)) = false) (hcd : (x == ("__classdict__" : Str)) = false) (e : σ[i]? = some (some v)) (q : Q v H) : wE X (.Name x pos) σ H Q :=
  (pe_var hN hv hd hcd).w ⟨v, e, q⟩
theorem sv_var {i : Nat} {x : Str} (hN : X.N[i]? = some x) (hv : Vis X.env.scope x) (hd : (x == ("__debug__" : Str)) = false) (hcd : (x == ("__classdict__" : Str)) = false) : SEv G X (.Name x pos) (Mini.rdVar i) := by
  intro sl sl' σ H T w ft g h
  unfold Mini.rdVar at h
  split at h
  · rename_i w0 e1
    cases h
    obtain ⟨x0, e2⟩ := ft.get e1
    exact wE.var hN hv hd hcd e2 ⟨ft.set e2, ((g.takeS e1 e2).freeze.dup).give2 (lt_of_get e1) e2⟩
  · cases h
theorem sb_var {i : Nat} {x : Str} (hN : X.N[i]? = some x) (hv : Vis X.env.scope x) (hd : (x == ("__debug__" : Str)) = false) (hcd : (x == ("__classdict__" : Str)) = false) : SEb G X (.Name x pos) (Mini.viewVar i) := by
  intro sl sl' σ H T w ft g h
  unfold Mini.viewVar at h
  split at h
  · rename_i w0 e1
    cases h
    obtain ⟨x0, e2⟩ := ft.get e1
    refine wE.var hN hv hd hcd e2 ⟨ft, ?_⟩
    obtain ⟨F, g⟩ := g
    exact ⟨F, g, ((g.perm ((prs_get e1 e2).append_right T)).rel _ List.mem_cons_self).vw⟩
  · cases h
theorem sv_mov {i : Nat} {x : Str} (hN : X.N[i]? = some x) (hv : Vis X.env.scope x) (hd : (x == ("__debug__" : Str)) = false) (hcd : (x == ("__classdict__" : Str)) = false) : SEv G X (.Name x pos) (Mini.movVar i) := by
  intro sl sl' σ H T w ft g h
  unfold Mini.movVar at h
  split at h
  · rename_i w0 e1
    cases h
    obtain ⟨x0, e2⟩ := ft.get e1
    exact wE.var hN hv hd hcd e2 ⟨ft.unset, g.takeS e1 e2⟩
  · cases h
/-- a constant -/
theorem sv_const {v : PV} {x : V} (h : PE X e (tC x)) (r : ∀ (H : Hp) (F : Fz), Rp G H F v x) : SEv G X e (pure (.sh v)) := by
  intro sl sl' σ H T w ft g hm
  obtain ⟨rfl, rfl⟩ := pure_ok.mp hm
  exact h.w ⟨ft, g.flat (r H)⟩
theorem sv_non {j : Nat} : SEv G X (.Constant .none j pos) (pure (.sh .non)) := sv_const pe_non fun _ _ => rfl
theorem sv_bl {b : Bool} {j : Nat} : SEv G X (.Constant (.bool b) j pos) (pure (.sh (.bl b))) := sv_const pe_bl fun _ _ => rfl
theorem sv_int {i : Int} {j : Nat} : SEv G X (.Constant (.int i) j pos) (pure (.sh (.int i))) := sv_const pe_int fun _ _ => rfl
theorem sv_str {z : Str} {j : Nat} (h : PyData.strOk z = true) : SEv G X (.Constant (.str z) j pos) (pure (.sh (.str z))) := sv_const pe_str fun _ _ => ⟨rfl, h⟩

/-! ### from one way of asking to another -/
theorem SEv.b (h : SEv G X e m) : SEb G X e (Mini.frzR m) := by
  intro sl sl' σ H T v ft g hm
  obtain ⟨w, s1, h1, h2⟩ := bind_ok.mp hm
  obtain ⟨rfl, rfl⟩ := pure_ok.mp h2
  exact (h sl s1 σ H T w ft g h1).mono fun x H' ⟨f', g'⟩ => ⟨f', g'.vw⟩
/-- frozen -/
theorem SEv.fz (h : SEv G X e m) {sl sl' : Sl} {σ : St} {H : Hp} {T : List WV} {w : W} (ft : Fit sl σ) (g : Good G H (prs sl σ ++ T)) (hm : m sl = .ok w sl') : wE X e σ H fun x H' => Fit sl' σ ∧ Good G H' ((.sh w.frz, x) :: (prs sl' σ ++ T)) :=
  (h sl sl' σ H T w ft g hm).mono fun x H' ⟨f', g'⟩ => ⟨f', g'.freeze⟩

/-! ### argument lists -/
theorem ss_nil : SEs G X [] (pure []) := by
  intro sl sl' σ H T vs ft g h
  obtain ⟨rfl, rfl⟩ := pure_ok.mp h
  exact pa_nil.w ⟨ft, rfl, g⟩
theorem ss_cons {es : List Expr} {ms : M (List PV)} (h : SEv G X e m) (hs : SEs G X es ms) (hst : starEach (e :: es) X.env = (false, eval e X.env) :: starEach es X.env) :
    SEs G X (e :: es) (do let w ← m; let vs ← ms; pure (w.frz :: vs)) := by
  intro sl sl' σ H T vs ft g hm
  obtain ⟨w, s1, h1, hm⟩ := bind_ok.mp hm
  obtain ⟨vs', s2, h2, hm⟩ := bind_ok.mp hm
  obtain ⟨rfl, rfl⟩ := pure_ok.mp hm
  refine (pa_cons pe_w pa_w hst).w ((h.fz ft g h1).mono fun x H1 ⟨f1, g1⟩ => ?_)
  refine (hs s1 s2 σ H1 ((.sh w.frz, x) :: T) vs' f1 g1.back h2).mono fun xs H2 ⟨f2, hl, g2⟩ => ⟨f2, congrArg (· + 1) hl, ?_⟩
  show Good G H2 ((.sh w.frz, x) :: (shs vs' xs ++ (prs s2 σ ++ T)))
  have := g2
  rw [← List.append_assoc] at this ⊢
  exact this.mid
theorem shs_rps {R : List WV} : ∀ {vs : List PV} {xs : List V}, vs.length = xs.length → Gd G H F (shs vs xs ++ R) → Rps G H F vs xs ∧ Gd G H F R
  | [], [], _, g => ⟨rfl, g⟩
  | v :: vs, x :: xs, e, g => by
    obtain ⟨h1, h2⟩ := shs_rps (vs := vs) (xs := xs) (by simpa using e) g.tail
    exact ⟨⟨x, xs, rfl, g.rel _ List.mem_cons_self, h1⟩, h2⟩
  | [], _ :: _, e, _ => by simp at e
  | _ :: _, [], e, _ => by simp at e
theorem sv_tup {es : List Expr} {ms : M (List PV)} {k : Nat} (hs : SEs G X es ms) : SEv G X (.Tuple es k pos) (do let vs ← ms; if vs.length ≤ Mini.SZ then pure (.sh (.tup vs)) else Mini.fail) := by
  intro sl sl' σ H T w ft g hm
  obtain ⟨vs, s1, h1, hm⟩ := bind_ok.mp hm
  split at hm
  · rename_i hz
    obtain ⟨rfl, rfl⟩ := pure_ok.mp hm
    refine (pe_tup pa_w).w ((hs _ _ σ H T vs ft g h1).mono fun xs H1 ⟨f1, hl, g1⟩ => ⟨by rw [SZ_eq, ← hl]; exact hz, fun p hp => ⟨f1, ?_⟩⟩)
    obtain ⟨F, g1⟩ := g1
    obtain ⟨r, g2⟩ := shs_rps hl g1
    exact ⟨_, g2.newTup hp r⟩
  · exact (fail_ok.mp hm).elim
theorem sv_lst {es : List Expr} {ms : M (List PV)} (hs : SEs G X es ms) : SEv G X (.List es pos) (do let vs ← ms; if vs.length ≤ Mini.SZ then pure (.own (.lst vs)) else Mini.fail) := by
  intro sl sl' σ H T w ft g hm
  obtain ⟨vs, s1, h1, hm⟩ := bind_ok.mp hm
  split at hm
  · rename_i hz
    obtain ⟨rfl, rfl⟩ := pure_ok.mp hm
    refine (pe_lst pa_w).w ((hs _ _ σ H T vs ft g h1).mono fun xs H1 ⟨f1, hl, g1⟩ => ⟨by rw [SZ_eq, ← hl]; exact hz, fun p hp => ⟨f1, ?_⟩⟩)
    obtain ⟨F, g1⟩ := g1
    obtain ⟨r, g2⟩ := shs_rps hl g1
    exact ⟨_, g2.newLst hp r⟩
  · exact (fail_ok.mp hm).elim

/-! ### operators -/
theorem sv_bin (b : Bs G X) {o : Mini.BOp} (ha : SEv G X a ma) (hc : SEv G X c mc) :
    SEv G X (.BinOp a (opOf o) c pos) (do let x ← ma; let y ← mc; let v ← Mini.ofO (Mini.binop o x.frz y.frz); pure (Mini.ownIf v)) := by
  intro sl sl' σ H T w ft g hm
  obtain ⟨w1, s1, h1, hm⟩ := bind_ok.mp hm
  obtain ⟨w2, s2, h2, hm⟩ := bind_ok.mp hm
  obtain ⟨v, s3, h3, hm⟩ := bind_ok.mp hm
  obtain ⟨e3, rfl⟩ := ofO_ok.mp h3
  obtain ⟨rfl, rfl⟩ := pure_ok.mp hm
  refine (pe_op op_w pe_w pe_w).w ((ha sl s1 σ H T w1 ft g h1).mono fun x H1 ⟨f1, g1⟩ => ?_)
  refine (hc s1 s2 σ H1 ((w1, x) :: T) w2 f1 g1.back h2).mono fun y H2 ⟨f2, g2⟩ => ?_
  have g3 : Good G H2 ((w1, x) :: (w2, y) :: (prs s2 σ ++ T)) := Good.swap (g2.perm (.cons _ List.perm_middle))
  exact binop_ok b g3 e3 fun z H' g' => ⟨f2, g'⟩
theorem sv_cmp (b : Bs G X) {o : Mini.COp} {mb : M PV} (ha : SEv G X a ma) (hc : SEb G X c mb) (hm : behindInMarks (cmOf o) c = false) :
    SEv G X (.Compare a [cmOf o] [c] pos) (do let x ← ma; let y ← mb; let r ← Mini.ofO (Mini.cmpop o x.frz y); pure (.sh (.bl r))) := by
  intro sl sl' σ H T w ft g hm'
  obtain ⟨w1, s1, h1, hm'⟩ := bind_ok.mp hm'
  obtain ⟨v2, s2, h2, hm'⟩ := bind_ok.mp hm'
  obtain ⟨r, s3, h3, hm'⟩ := bind_ok.mp hm'
  obtain ⟨e3, rfl⟩ := ofO_ok.mp h3
  obtain ⟨rfl, rfl⟩ := pure_ok.mp hm'
  refine (pe_cmpR op_w pe_w pe_w hm).w ((ha sl s1 σ H T w1 ft g h1).mono fun x H1 ⟨f1, g1⟩ => ?_)
  refine (hc s1 s2 σ H1 ((w1, x) :: T) v2 f1 g1.back h2).mono fun y H2 ⟨f2, F, g2, l2⟩ => ?_
  have g3 : Good G H2 ((w1, x) :: (prs s2 σ ++ T)) := Good.mid ⟨F, g2⟩
  exact cmpop_ok b g3.lk l2.lk e3 ⟨f2, g3.tail.bl⟩
theorem sv_chn (b : Bs G X) {o p : Mini.COp} {d : Expr} {md : M W} (ha : SEv G X a ma) (hc : SEv G X c mc) (hd : SEv G X d md) (hm : lastMarks [cmOf o, cmOf p] [c, d] = false) :
    SEv G X (.Compare a [cmOf o, cmOf p] [c, d] pos) (do
      let x ← ma
      let y ← mc
      let r ← Mini.ofO (Mini.cmpop o x.frz y.frz)
      if r then
        let z ← md
        let r ← Mini.ofO (Mini.cmpop p y.frz z.frz)
        pure (.sh (.bl r))
      else pure (.sh (.bl false))) := by
  intro sl sl' σ H T w ft g hm'
  obtain ⟨w1, s1, h1, hm'⟩ := bind_ok.mp hm'
  obtain ⟨w2, s2, h2, hm'⟩ := bind_ok.mp hm'
  obtain ⟨r, s3, h3, hm'⟩ := bind_ok.mp hm'
  obtain ⟨e3, rfl⟩ := ofO_ok.mp h3
  refine (pe_chain op_w op_w pe_w pe_w pe_w hm).w ((ha sl s1 σ H T w1 ft g h1).mono fun x H1 ⟨f1, g1⟩ => ?_)
  refine (hc.fz (T := (w1, x) :: T) f1 g1.back h2).mono fun y H2 ⟨f2, g2⟩ => ?_
  have g3 : Good G H2 ((w1, x) :: (.sh w2.frz, y) :: (prs s2 σ ++ T)) := Good.swap (g2.perm (.cons _ List.perm_middle))
  refine cmpop_ok b g3.lk g2.lk e3 ⟨r, rfl, ?_⟩
  cases r with
  | false =>
    obtain ⟨rfl, rfl⟩ := pure_ok.mp hm'
    exact ⟨f2, g3.tail.tail.bl⟩
  | true =>
    obtain ⟨w3, s3, h3, hm'⟩ := bind_ok.mp hm'
    obtain ⟨r', s4, h4, hm'⟩ := bind_ok.mp hm'
    obtain ⟨e4, rfl⟩ := ofO_ok.mp h4
    obtain ⟨rfl, rfl⟩ := pure_ok.mp hm'
    rw [if_pos rfl]
    refine (hd s2 s3 σ H2 ((.sh w2.frz, y) :: T) w3 f2 g3.tail.back h3).mono fun z H3 ⟨f3, g4⟩ => ?_
    have g5 : Good G H3 ((.sh w2.frz, y) :: (w3, z) :: (prs s3 σ ++ T)) := Good.swap (g4.perm (.cons _ List.perm_middle))
    exact cmpop_ok b g5.lk g4.lk e4 ⟨f3, g5.tail.tail.bl⟩
end
end Snd
end

section
set_option Elab.async false
set_option linter.all false
set_option maxRecDepth 100000
/-! S7: tests, flow in expressions, indices, slices. -/
namespace Snd
open PySem PySem.Spec L2
open PyProof.Rows hiding St
open Mini (PV W Sl M)
variable {G : Gb} {H H' : Hp} {F F' : Fz} {L L' : List WV}

theorem Rps.isEmpty {ts : List PV} {vs : List V} (h : Rps G H F ts vs) : vs.isEmpty = ts.isEmpty := by
  cases ts with
  | nil => rw [show vs = [] from h]; rfl
  | cons t ts => obtain ⟨x, r, rfl, _⟩ := h; rfl
theorem Lk.lst {ts : List PV} {x : V} {K : PySem.W.Frag} (h : Lk G H (.lst ts) x) : ∃ a vs, x = .ref a ∧ SqL K H a vs ∧ Rps G H (fun _ => True) ts vs := let ⟨a, vs, e, q, r⟩ := h; ⟨a, vs, e, .inl q.2, r⟩
theorem Lk.tup {ts : List PV} {x : V} {K : PySem.W.Frag} (h : Lk G H (.tup ts) x) : ∃ a vs, x = .ref a ∧ SqT K H a vs ∧ Rps G H (fun _ => True) ts vs := let ⟨a, vs, e, q, r⟩ := h; ⟨a, vs, e, .inl (.inl q.2), r⟩
theorem Lk.ktup {ts : List PV} {x : V} (h : Lk G H (.ktup ts) x) : ∃ a vs, x = .ref a ∧ SqT G.K H a vs ∧ Rps G H (fun _ => True) ts vs := let ⟨a, vs, e, q, r⟩ := h; ⟨a, vs, e, .inr q, r⟩
theorem truth_ok {v : PV} {x : V} {k : Bool} {K : PySem.W.Frag} (hK : G.K = K) (h : Lk G H v x) (e : Mini.truth v = some k) : TruV K x H k := by
  cases v with
  | non => cases h; cases e; rfl
  | bl b => cases h; cases e; rfl
  | int i => cases h; cases e; rfl
  | str s =>
    obtain ⟨rfl, _⟩ := h
    have e : (if s.length ≤ Mini.SZ then some (s.length != 0) else none) = some k := e
    split at e
    · rename_i hz
      cases e
      refine ⟨by rw [SZ_eq]; exact hz, ?_⟩
      by_cases h0 : s.length = 0
      · simp [h0]
      · have : (s.length : Int) ≠ 0 := by omega
        rw [(bne_iff_ne).mpr h0, (bne_iff_ne).mpr this]
    · cases e
  | lst ts =>
    obtain ⟨a, vs, rfl, q, r⟩ := h.lst (K := K)
    cases e
    exact .inl ⟨vs, q, by rw [r.isEmpty]⟩
  | tup ts =>
    obtain ⟨a, vs, rfl, q, r⟩ := h.tup (K := K)
    cases e
    exact .inr (.inl ⟨vs, q, by rw [r.isEmpty]⟩)
  | ktup ts =>
    obtain ⟨a, vs, rfl, q, r⟩ := h.ktup
    cases e
    exact .inr (.inl ⟨vs, hK ▸ q, by rw [r.isEmpty]⟩)
  | _ => cases e

section
variable (G : Gb) (X : Cx)
def wW (e : Expr) : TT := fun σ H Q => ∀ (whole : Sem Value) (pins : List (Addr × Obj)) (s : Shared), Inv X pins σ H s → wpAny (model X.prog X.w) X.A (isTrue e X.env whole) (TP X pins σ Q) X.xe s
def SEw (e : Expr) (m : Mini.M Bool) : Prop := ∀ (sl sl' : Sl) (σ : St) (H : Hp) (T : List WV) (b : Bool), Fit sl σ → Good G H (prs sl σ ++ T) → m sl = .ok b sl' →
  wW X e σ H fun c H' => c = b ∧ Fit sl' σ ∧ Good G H' (prs sl' σ ++ T)
end
section
variable {X : Cx} {e a c : Expr} {m ma mc : M W} {ta tc : M Bool} {pos : Pos}
theorem pw_w : PW X e (wW X e) := ⟨fun wh pins s σ H Q I h => h wh pins s I⟩
theorem _root_.L2.PW.w {t : TT} {σ : St} {Q : Bool → Hp → Prop} (h : PW X e t) (q : t σ H Q) : wW X e σ H Q := fun wh pins s I => h.run wh pins s σ H Q I q
theorem SEw.t {m : M Bool} (h : SEw G X e m) : SEt G X e m := fun sl sl' σ H T b ft g hm pins s I => h sl sl' σ H T b ft g hm _ pins s I
/-- a plain expression as a test -/
theorem SEv.t (hK : G.K = X.K) (h : SEv G X e m) (he : ∀ whole, isTrue e X.env whole = (do let v ← whole; standAt e.pos; holding [v] (truthy v))) : SEt G X e (do let v ← Mini.frzR m; Mini.truthM v) := by
  intro sl sl' σ H T b ft g hm
  obtain ⟨v, s1, h1, hm⟩ := bind_ok.mp hm
  obtain ⟨w, s2, h4, h2⟩ := bind_ok.mp h1
  obtain ⟨rfl, rfl⟩ := pure_ok.mp h2
  obtain ⟨e3, rfl⟩ := ofO_ok.mp hm
  refine (pt_truth pe_w he).w ((h _ _ σ H T w ft g h4).mono fun x H1 ⟨f1, g1⟩ => ?_)
  exact ⟨b, truth_ok hK g1.lk e3, rfl, f1, g1.tail⟩
/-- a thing looked at as a test -/
theorem SEb.t {mb : M PV} (hK : G.K = X.K) (h : SEb G X e mb) (he : ∀ whole, isTrue e X.env whole = (do let v ← whole; standAt e.pos; holding [v] (truthy v))) : SEt G X e (do let v ← mb; Mini.truthM v) := by
  intro sl sl' σ H T b ft g hm
  obtain ⟨v, s1, h1, hm⟩ := bind_ok.mp hm
  obtain ⟨e3, rfl⟩ := ofO_ok.mp hm
  refine (pt_truth pe_w he).w ((h _ _ σ H T v ft g h1).mono fun x H1 ⟨f1, F, g1, l1⟩ => ?_)
  exact ⟨b, truth_ok hK l1.lk e3, rfl, f1, F, g1⟩

/-! ### and, or, not, if -/
theorem sv_and {rest : List Expr} (hK : G.K = X.K) (ha : SEv G X a ma) (hc : SEv G X (.BoolOp .And (c :: rest) pos) mc) :
    SEv G X (.BoolOp .And (a :: c :: rest) pos) (do let x ← ma; let t ← Mini.truthM x.frz; if t then mc else pure (.sh x.frz)) := by
  intro sl sl' σ H T w ft g hm
  obtain ⟨w1, s1, h1, hm⟩ := bind_ok.mp hm
  obtain ⟨t, s2, h2, hm⟩ := bind_ok.mp hm
  obtain ⟨e2, rfl⟩ := ofO_ok.mp h2
  refine (pe_andT pe_w pe_w).w ((ha.fz ft g h1).mono fun x H1 ⟨f1, g1⟩ => ⟨t, truth_ok hK g1.lk e2, ?_⟩)
  cases t with
  | true => exact hc _ _ σ H1 T w f1 g1.tail hm
  | false =>
    obtain ⟨rfl, rfl⟩ := pure_ok.mp hm
    exact ⟨f1, g1⟩
theorem sv_or {rest : List Expr} (hK : G.K = X.K) (ha : SEv G X a ma) (hc : SEv G X (.BoolOp .Or (c :: rest) pos) mc) :
    SEv G X (.BoolOp .Or (a :: c :: rest) pos) (do let x ← ma; let t ← Mini.truthM x.frz; if t then pure (.sh x.frz) else mc) := by
  intro sl sl' σ H T w ft g hm
  obtain ⟨w1, s1, h1, hm⟩ := bind_ok.mp hm
  obtain ⟨t, s2, h2, hm⟩ := bind_ok.mp hm
  obtain ⟨e2, rfl⟩ := ofO_ok.mp h2
  refine (pe_orT pe_w pe_w).w ((ha.fz ft g h1).mono fun x H1 ⟨f1, g1⟩ => ⟨t, truth_ok hK g1.lk e2, ?_⟩)
  cases t with
  | false => exact hc _ _ σ H1 T w f1 g1.tail hm
  | true =>
    obtain ⟨rfl, rfl⟩ := pure_ok.mp hm
    exact ⟨f1, g1⟩
theorem sv_not (hK : G.K = X.K) (ha : SEv G X a ma) : SEv G X (.UnaryOp .Not a pos) (do let x ← ma; let b ← Mini.truthM x.frz; pure (.sh (.bl !b))) := by
  intro sl sl' σ H T w ft g hm
  obtain ⟨w1, s1, h1, hm⟩ := bind_ok.mp hm
  obtain ⟨t, s2, h2, hm⟩ := bind_ok.mp hm
  obtain ⟨e2, rfl⟩ := ofO_ok.mp h2
  obtain ⟨rfl, rfl⟩ := pure_ok.mp hm
  refine (pe_notT pe_w).w ((ha.fz ft g h1).mono fun x H1 ⟨f1, g1⟩ => ⟨t, truth_ok hK g1.lk e2, f1, g1.tail.bl⟩)
theorem st_not (ha : SEt G X a ta) : SEt G X (.UnaryOp .Not a pos) (do let b ← ta; pure !b) := by
  intro sl sl' σ H T b ft g hm
  obtain ⟨t, s1, h1, hm⟩ := bind_ok.mp hm
  obtain ⟨rfl, rfl⟩ := pure_ok.mp hm
  exact (pt_not pt_w).w ((ha _ _ σ H T t ft g h1).mono fun c H1 ⟨e, f1, g1⟩ => ⟨by rw [e], f1, g1⟩)
theorem sw_one {o : BoolOp} (ha : SEt G X a ta) : SEw G X (.BoolOp o [a] pos) ta := by
  intro sl sl' σ H T b ft g hm
  cases o with
  | And => exact (pw_and1 pt_w).w (ha _ _ σ H T b ft g hm)
  | Or => exact (pw_or1 pt_w).w (ha _ _ σ H T b ft g hm)
theorem sv_one {o : BoolOp} (ha : SEv G X a ma) : SEv G X (.BoolOp o [a] pos) ma := by
  intro sl sl' σ H T b ft g hm
  exact (pe_one pe_w).w (ha _ _ σ H T b ft g hm)
theorem sw_and {rest : List Expr} (ha : SEt G X a ta) (hc : SEw G X (.BoolOp .And (c :: rest) pos) tc) :
    SEw G X (.BoolOp .And (a :: c :: rest) pos) (do let t ← ta; if t then tc else pure false) := by
  intro sl sl' σ H T b ft g hm
  obtain ⟨t, s1, h1, hm⟩ := bind_ok.mp hm
  refine (pw_and pt_w pw_w).w ((ha _ _ σ H T t ft g h1).mono fun k H1 ⟨e, f1, g1⟩ => ?_)
  subst e
  cases k with
  | true => exact hc _ _ σ H1 T b f1 g1 hm
  | false =>
    obtain ⟨rfl, rfl⟩ := pure_ok.mp hm
    exact ⟨rfl, f1, g1⟩
theorem sw_or {rest : List Expr} (ha : SEt G X a ta) (hc : SEw G X (.BoolOp .Or (c :: rest) pos) tc) :
    SEw G X (.BoolOp .Or (a :: c :: rest) pos) (do let t ← ta; if t then pure true else tc) := by
  intro sl sl' σ H T b ft g hm
  obtain ⟨t, s1, h1, hm⟩ := bind_ok.mp hm
  refine (pw_or pt_w pw_w).w ((ha _ _ σ H T t ft g h1).mono fun k H1 ⟨e, f1, g1⟩ => ?_)
  subst e
  cases k with
  | false => exact hc _ _ σ H1 T b f1 g1 hm
  | true =>
    obtain ⟨rfl, rfl⟩ := pure_ok.mp hm
    exact ⟨rfl, f1, g1⟩
theorem sv_ite {d : Expr} {md : M W} (ht : SEt G X a ta) (hc : SEv G X c mc) (hd : SEv G X d md) : SEv G X (.IfExp a c d pos) (do let t ← ta; if t then mc else md) := by
  intro sl sl' σ H T w ft g hm
  obtain ⟨t, s1, h1, hm⟩ := bind_ok.mp hm
  refine (pe_ifExp pt_w pe_w pe_w).w ((ht _ _ σ H T t ft g h1).mono fun k H1 ⟨e, f1, g1⟩ => ?_)
  subst e
  cases k with
  | true => exact hc _ _ σ H1 T w f1 g1 hm
  | false => exact hd _ _ σ H1 T w f1 g1 hm
theorem st_ite {d : Expr} {td : M Bool} (ht : SEt G X a ta) (hc : SEt G X c tc) (hd : SEt G X d td) : SEt G X (.IfExp a c d pos) (do let t ← ta; if t then tc else td) := by
  intro sl sl' σ H T w ft g hm
  obtain ⟨t, s1, h1, hm⟩ := bind_ok.mp hm
  intro pins s I
  show wpAny (model X.prog X.w) X.A (do if ← isTrue a X.env (eval a X.env) then isTrue c X.env (eval c X.env) else isTrue d X.env (eval d X.env)) _ X.xe s
  refine wpAny_bind (thn (ht _ _ σ H T t ft g h1 pins s I) fun k s2 ⟨H1, I1, e, f1, g1⟩ => ?_)
  subst e
  cases k with
  | true => exact hc _ _ σ H1 T w f1 g1 hm pins s2 I1
  | false => exact hd _ _ σ H1 T w f1 g1 hm pins s2 I1
/-- a comparison as a test -/
theorem st_cmp (b : Bs G X) {o : Mini.COp} {mb : M PV} (ha : SEv G X a ma) (hc : SEb G X c mb) (hm : behindInMarks (cmOf o) c = false) :
    SEt G X (.Compare a [cmOf o] [c] pos) (do let v ← Mini.frzR (do let x ← ma; let y ← mb; let r ← Mini.ofO (Mini.cmpop o x.frz y); pure (.sh (.bl r))); Mini.truthM v) := by
  intro sl sl' σ H T k ft g hm'
  obtain ⟨v, s0, h7, hm'⟩ := bind_ok.mp hm'
  obtain ⟨e9, rfl⟩ := ofO_ok.mp hm'
  obtain ⟨w9, s9, h8, h9⟩ := bind_ok.mp h7
  obtain ⟨rfl, rfl⟩ := pure_ok.mp h9
  obtain ⟨w1, s1, h1, hm'⟩ := bind_ok.mp h8
  obtain ⟨v2, s2, h2, hm'⟩ := bind_ok.mp hm'
  obtain ⟨r, s3, h3, hm'⟩ := bind_ok.mp hm'
  obtain ⟨e3, rfl⟩ := ofO_ok.mp h3
  obtain ⟨rfl, rfl⟩ := pure_ok.mp hm'
  have e9 : r = k := Option.some.inj e9
  subst e9
  refine (pt_cmpR op_w pe_w pe_w hm).w ((ha sl s1 σ H T w1 ft g h1).mono fun x H1 ⟨f1, g1⟩ => ?_)
  refine (hc s1 s2 σ H1 ((w1, x) :: T) v2 f1 g1.back h2).mono fun y H2 ⟨f2, F, g2, l2⟩ => ?_
  have g3 : Good G H2 ((w1, x) :: (prs s2 σ ++ T)) := Good.mid ⟨F, g2⟩
  exact cmpop_ok b g3.lk l2.lk e3 ⟨r, rfl, rfl, f2, g3.tail⟩
theorem st_chn (b : Bs G X) {o p : Mini.COp} {d : Expr} {md : M W} (ha : SEv G X a ma) (hc : SEv G X c mc) (hd : SEv G X d md) (hm : lastMarks [cmOf o, cmOf p] [c, d] = false) :
    SEt G X (.Compare a [cmOf o, cmOf p] [c, d] pos) (do
      let v ← Mini.frzR (do
        let x ← ma
        let y ← mc
        let r ← Mini.ofO (Mini.cmpop o x.frz y.frz)
        if r then
          let z ← md
          let r ← Mini.ofO (Mini.cmpop p y.frz z.frz)
          pure (.sh (.bl r))
        else pure (.sh (.bl false)))
      Mini.truthM v) := by
  intro sl sl' σ H T k ft g hm'
  obtain ⟨v, s0, h7, hm'⟩ := bind_ok.mp hm'
  obtain ⟨e9, rfl⟩ := ofO_ok.mp hm'
  obtain ⟨w9, s9, h8, h9⟩ := bind_ok.mp h7
  obtain ⟨rfl, rfl⟩ := pure_ok.mp h9
  obtain ⟨w1, s1, h1, hm'⟩ := bind_ok.mp h8
  obtain ⟨w2, s2, h2, hm'⟩ := bind_ok.mp hm'
  obtain ⟨r, s3, h3, hm'⟩ := bind_ok.mp hm'
  obtain ⟨e3, rfl⟩ := ofO_ok.mp h3
  refine (pt_chain op_w op_w pe_w pe_w pe_w hm).w ((ha sl s1 σ H T w1 ft g h1).mono fun x H1 ⟨f1, g1⟩ => ?_)
  refine (hc.fz (T := (w1, x) :: T) f1 g1.back h2).mono fun y H2 ⟨f2, g2⟩ => ?_
  have g3 : Good G H2 ((w1, x) :: (.sh w2.frz, y) :: (prs s2 σ ++ T)) := Good.swap (g2.perm (.cons _ List.perm_middle))
  refine cmpop_ok b g3.lk g2.lk e3 ⟨r, rfl, ?_⟩
  cases r with
  | false =>
    obtain ⟨rfl, rfl⟩ := pure_ok.mp hm'
    have e9 : false = k := Option.some.inj e9
    exact ⟨false, rfl, e9, f2, g3.tail.tail⟩
  | true =>
    obtain ⟨w3, s3, h3, hm'⟩ := bind_ok.mp hm'
    obtain ⟨r', s4, h4, hm'⟩ := bind_ok.mp hm'
    obtain ⟨e4, rfl⟩ := ofO_ok.mp h4
    obtain ⟨rfl, rfl⟩ := pure_ok.mp hm'
    have e9 : r' = k := Option.some.inj e9
    subst e9
    rw [if_pos rfl]
    refine (hd s2 s3 σ H2 ((.sh w2.frz, y) :: T) w3 f2 g3.tail.back h3).mono fun z H3 ⟨f3, g4⟩ => ?_
    have g5 : Good G H3 ((.sh w2.frz, y) :: (w3, z) :: (prs s3 σ ++ T)) := Good.swap (g4.perm (.cons _ List.perm_middle))
    exact cmpop_ok b g5.lk g4.lk e4 ⟨r', rfl, rfl, f3, g5.tail.tail⟩
theorem sv_neg (ha : SEv G X a ma) : SEv G X (.UnaryOp .USub a pos) (do let x ← ma; match x.frz with
    | .int i => pure (.sh (.int (-i)))
    | _ => Mini.fail) := by
  intro sl sl' σ H T w ft g hm
  obtain ⟨w1, s1, h1, hm⟩ := bind_ok.mp hm
  refine (pe_un un_neg pe_w).w ((ha.fz ft g h1).mono fun x H1 ⟨f1, g1⟩ => ?_)
  cases e : w1.frz with
  | int i =>
    simp only [e] at hm
    obtain ⟨rfl, rfl⟩ := pure_ok.mp hm
    rw [e] at g1
    have := g1.lk.flatI
    subst this
    exact ⟨i, rfl, f1, g1.tail.int⟩
  | _ => simp only [e] at hm; exact (fail_ok.mp hm).elim
end
end Snd
end

section
set_option Elab.async false
set_option linter.all false
set_option maxRecDepth 100000
/-! t[::-1], a tuple. -/
namespace HT
open PySem PySem.Spec PyProof PyProof.Rows
section
variable {prog : Program} {w : World} {A : Around} {E : Value → Shared → Prop} {s : Shared}
theorem sliceApplied_back {sl : Addr} {vl vu vs : Value} {n : Nat} {Q : Int × Int × Nat → Shared → Prop} (hs : s.heap.IsSliceOf sl vl vu vs) (pl : IsPart vl none) (pu : IsPart vu none) (ps : IsPart vs (some (-1)))
    (h : Q (((n : Int) - 1), -1, n) s) : wpAny (model prog w) A (Builtin.Slice.sliceApplied (.ref sl) (pure (n : Int))) Q E s := by
  obtain ⟨os, hos, hcs, hds⟩ := id hs
  unfold Builtin.Slice.sliceApplied Builtin.Slice.sliceFields
  refine wpAny_bind (wpAny_bind (wpAny_field hos hds (x := vl) rfl (wpAny_bind (wpAny_field hos hds (x := vu) rfl (wpAny_bind (wpAny_field hos hds (x := vs) rfl (wpAny_pure ?_)))))))
  refine wpAny_bind (slicePart_ ps ?_)
  show wpAny _ _ (if ((-1 : Int) == 0) = true then _ else _) _ _ s
  rw [if_neg (by decide)]
  refine wpAny_bind (slicePart_ pl (wpAny_bind (slicePart_ pu (wpAny_bind (wpAny_pure ?_)))))
  show wpAny _ _ (match Builtin.Slice.sliceAdjust none none (-1) (n : Int) with | (lo, hi) => pure (lo, (-1 : Int), Builtin.Slice.slicePlaces lo hi (-1))) _ _ s
  show wpAny _ _ (pure (((n : Int) - 1), (-1 : Int), Builtin.Slice.slicePlaces ((n : Int) - 1) (-1) (-1))) _ _ s
  have e : Builtin.Slice.slicePlaces ((n : Int) - 1) (-1) (-1) = n := by
    unfold Builtin.Slice.slicePlaces
    rw [if_neg (by decide)]
    by_cases h0 : n = 0
    · subst h0; rfl
    · rw [if_pos (by omega)]
      have : ((n : Int) - 1 - -1 - 1) / - -1 + 1 = n := by
        rw [show (- -1 : Int) = 1 from rfl, Int.ediv_one]; omega
      rw [this]; rfl
  rw [e]
  exact wpAny_pure h
theorem fm_all {α β : Type} {f : α → Option β} {g : α → β} : ∀ {l : List α}, (∀ m ∈ l, f m = some (g m)) → l.filterMap f = l.map g
  | [], _ => rfl
  | a :: l, h => by rw [List.filterMap_cons, h a List.mem_cons_self, List.map_cons, fm_all fun m hm => h m (List.mem_cons_of_mem _ hm)]
theorem pick_back (xs : Array Value) : ((List.range xs.size).filterMap fun (m : Nat) => xs[(((xs.size : Int) - 1) + (m : Int) * (-1)).toNat]?).toArray = xs.toList.reverse.toArray := by
  congr 1
  have e : ∀ m ∈ List.range xs.size, xs[(((xs.size : Int) - 1) + (m : Int) * (-1)).toNat]? = some (xs.toList.reverse.getD m .none) := by
    intro m hm
    have hm : m < xs.size := List.mem_range.mp hm
    have : (((xs.size : Int) - 1) + (m : Int) * (-1)).toNat = xs.size - 1 - m := by omega
    rw [this, List.getD_eq_getElem?_getD, List.getElem?_reverse (by rw [Array.length_toList]; exact hm), Array.length_toList, ← Array.getElem?_toList]
    rw [List.getElem?_eq_getElem (by rw [Array.length_toList]; omega)]
    rfl
  rw [fm_all e]
  apply List.ext_getElem?
  intro i
  rw [List.getElem?_map]
  by_cases hi : i < xs.size
  · rw [List.getElem?_range hi]
    have hl : i < xs.toList.reverse.length := by simpa using hi
    rw [List.getElem?_eq_getElem hl]
    simp only [Option.map_some, List.getD_eq_getElem?_getD, List.getElem?_eq_getElem hl, Option.getD_some]
  · rw [List.getElem?_eq_none (by simpa using hi), List.getElem?_eq_none (by simpa using hi)]
    rfl
theorem getItem_tuple_back {t sl : Addr} {items : Array Value} {vl vu vs : Value} {Q : Value → Shared → Prop} (ht : IsTup s.heap t items) (hs : s.heap.IsSliceOf sl vl vu vs) (pl : IsPart vl none) (pu : IsPart vu none) (ps : IsPart vs (some (-1)))
    (h : Q (.ref s.heap.objs.size) { s with heap := s.heap.push { cls := .type "tuple", data := .seq items.toList.reverse.toArray } })
    (hsz : items.size ≤ sizeLine) : wpAny (model prog w) A (getItem (.ref t) (.ref sl)) Q E s := by
  have htake : sizeOk (.seq items.toList.reverse.toArray) := by
    show items.toList.reverse.toArray.size ≤ sizeLine
    rw [List.size_toArray, List.length_reverse, Array.length_toList]
    exact hsz
  obtain ⟨os, hos, hcs, hds⟩ := id hs
  have hTs : s.TypeIs (.ref sl) "slice" := ⟨os, hos, hcs⟩
  unfold getItem
  try with_reducible refine wpAny_holding ?_
  first | refine wpAny_bind (wpAny_pure ?_) | skip
  refine wpAny_bind (wpAny_sequenceKey ht.typeIs (by decide) ?_)
  refine wpAny_bind (wpAny_callSpecial?_slot (name := Str.ofString "__getitem__") ht.typeIs PyProof.Rows.slot_tuple_getitem
    (wpAny_call_entry PyProof.Rows.slot_tuple_getitem ht.typeIs entry_tuple_getitem ?_ (args_tuple_getitem _ _)))
  show wpAny _ _ (Builtin.Tuple.tupleItemsOf (.ref t) >>= _) _ _ s
  refine wpAny_bind (tupleItemsOf_ ht ?_)
  refine wpAny_bind (wpAny_typeOf hTs ?_)
  rw [if_pos (by decide)]
  refine wpAny_bind (sliceApplied_back hs pl pu ps ?_)
  have hno : ¬ (((((items.size : Int) - 1) == 0 && (-1 : Int) == 1 && items.size == items.size)) = true) := by
    rw [show ((-1 : Int) == 1) = false from rfl, Bool.and_false, Bool.false_and]
    exact Bool.false_ne_true
  show wpAny _ _ (if (((items.size : Int) - 1) == 0 && (-1 : Int) == 1 && items.size == items.size) = true then _ else _) _ _ s
  rw [if_neg hno, pick_back]
  first
    | exact wpAny_bind (m := Builtin.Tuple.tupleExact _) (wpAny_newObj_type (wpAny_pure ⟨_, rfl, wpAny_pure h⟩) htake)
    | exact wpAny_bind (m := Builtin.Tuple.tupleExact _) (wpAny_newObj_type (wpAny_bind (wpAny_pure (wpAny_pure ⟨_, rfl, wpAny_pure h⟩))) htake)
end
end HT
namespace Snd
open PySem PySem.Spec L2
open PyProof.Rows hiding St
def tRevA (K : PySem.W.Frag) (te : TE) : TE := fun σ H Q => te σ H fun x H1 => ∃ a xs, x = .ref a ∧ ((SqL K H1 a xs ∧ ∀ p, H1 p = none → Q (.ref p) (upd H1 p (.lst xs.reverse))) ∨ (SqT K H1 a xs ∧ ∀ p, H1 p = none → Q (.ref p) (upd H1 p (.tup xs.reverse))))
theorem pe_revA {X : Cx} {e : Expr} {te : TE} {k : Nat} {p1 p2 p3 pos : Pos} (he : PE X e te) : PE X (.Subscript e (.Slice none none (some (.UnaryOp .USub (.Constant (.int 1) k p1) p2)) p3) pos) (tRevA X.K te) := by
  refine ⟨fun pins s σ H Q I h => ?_⟩
  refine Subscript_ (thn (he.run pins s σ H _ I h) fun v s1 ⟨x, H1, I1, r1, q1⟩ => ?_)
  obtain ⟨a, xs, ex, q⟩ := q1
  subst ex
  cases r1
  have hst : PO X (some (.UnaryOp .USub (.Constant (.int 1) k p1) p2)) (tPart (tUn (rU fun i => .int (-i)) (tC (.int 1)))) := po_some (pe_un un_neg pe_int)
  refine wpAny_Slice (thn (po_none.run pins s1 σ H1 (fun o H2 => o = none ∧ H2 = H1) I1 ⟨rfl, rfl⟩) fun vl s2 ⟨l, H2, I2, pl, el, e2⟩ => ?_)
  subst el e2
  refine thn (po_none.run pins s2 σ H2 (fun o H3 => o = none ∧ H3 = H2) I2 ⟨rfl, rfl⟩) fun vu s3 ⟨u, H3, I3, pu, eu, e3⟩ => ?_
  subst eu e3
  refine thn (hst.run pins s3 σ H3 (fun o H4 => o = some (-1) ∧ H4 = H3) I3 ⟨1, rfl, -1, rfl, rfl, rfl⟩) fun vs s4 ⟨o, H4, I4, ps, eo, e4⟩ => ?_
  subst eo e4
  have I5 : Inv X pins σ H4 { s4 with heap := s4.heap.push { cls := .type "slice", data := .fields #[vl, vu, vs] } } := I4.kept (t' := s4.toks) fun b ob q => Heap.get?_push_of_some _ q
  show wpAny (model X.prog X.w) X.A (subscriptTail e (.Slice none none (some (.UnaryOp .USub (.Constant (.int 1) k p1) p2)) p3) (.ref a) (.ref s4.heap.objs.size)) (EP X pins σ Q) X.xe { s4 with heap := s4.heap.push { cls := .type "slice", data := .fields #[vl, vu, vs] } }
  rcases q with ⟨hx, q⟩ | ⟨hx, q⟩
  · obtain ⟨its, r, ht, hz⟩ := I5.list hx
    have hlen := r.length
    refine tail_any (ops := [.ref a, .ref s4.heap.objs.size]) ht.isList.typeIs (PySem.slot_list_getitem.lookup) ?_ (by with_unfolding_all rfl)
    refine wpAny_getItem_list_slice ht.isList (Heap.IsSliceOf.new _ vl vu vs) pl pu ps (by decide) ?_ (by rw [List.size_toArray]; omega)
    rw [PySem.W.krv_pick]
    refine ⟨.ref _, _, I5.laid (t' := s4.toks) (o := .lst xs.reverse) (fun b ob q => Heap.get?_push_of_some _ q) (Nat.le_refl _) ?_, rfl, q _ (I5.hok.fresh (Nat.le_refl _))⟩
    exact ⟨by rw [List.length_reverse]; exact hz, _, 0, r.reverse, Heap.get?_push_size _ rfl⟩
  · obtain ⟨its, r, ht, hz⟩ := I5.tuple hx
    have hlen := r.length
    refine tail_any (ops := [.ref a, .ref s4.heap.objs.size]) ht.typeIs PyProof.Rows.slot_tuple_getitem.lookup ?_ (by with_unfolding_all rfl)
    refine HT.getItem_tuple_back ht (Heap.IsSliceOf.new _ vl vu vs) pl pu ps ?_ (by rw [List.size_toArray]; omega)
    refine ⟨.ref _, _, I5.laid (t' := s4.toks) (o := .tup xs.reverse) (fun b ob q => Heap.get?_push_of_some _ q) (Nat.le_refl _) ?_, rfl, q _ (I5.hok.fresh (Nat.le_refl _))⟩
    refine ⟨by rw [List.length_reverse]; exact hz, _, r.reverse, ?_⟩
    exact ⟨_, Heap.get?_push_size _ rfl, rfl, _, rfl⟩
end Snd
end

section
set_option Elab.async false
set_option linter.all false
set_option maxRecDepth 100000
/-! S8: indices, slices. -/
namespace Snd
open PySem PySem.Spec L2
open PyProof.Rows hiding St
open Mini (PV W Sl M)
variable {G : Gb} {H H' : Hp} {F F' : Fz} {L L' : List WV}

theorem ok_mem {x : Str} {c : Nat} (h : PyData.strOk x = true) (m : c ∈ x.cps.toList) : PyData.strOk ⟨#[c]⟩ = true := by
  unfold PyData.strOk at *
  have := (Array.all_eq_true'.mp h) c (by simpa using m)
  simpa using this
theorem ok_list {x : Str} {l : List Nat} (h : PyData.strOk x = true) (m : ∀ c ∈ l, c ∈ x.cps.toList) : PyData.strOk ⟨l.toArray⟩ = true := by
  unfold PyData.strOk at *
  rw [Array.all_eq_true'] at *
  intro c hc
  exact h c (by simpa using m c (by simpa using hc))

section
variable {X : Cx}
def IxW (X : Cx) : R2 := fun x y H Q => ∀ (value slice : Expr) (pins : List (Addr × Obj)) (s : Shared) (σ : St) (v u : Value), Inv X pins σ H s → RelV x v → RelV y u →
    subscripted slice false v u = operate [v, u] (getItem v u) → wpAny (model X.prog X.w) X.A (subscriptTail value slice v u) (EP X pins σ Q) X.xe s
theorem ix_w : IxR X (IxW X) := fun value slice pins s σ H x y v u Q I rx ry q hs => q value slice pins s σ v u I rx ry hs
theorem _root_.L2.IxR.w {r : R2} (h : IxR X r) {x y : V} {Q : VK} (q : r x y H Q) : IxW X x y H Q := fun value slice pins s σ v u I rx ry hs => h value slice pins s σ H x y v u Q I rx ry q hs
theorem index_ok (b : Bs G X) {d k r : PV} {x y : V} {Q : VK} (h1 : Vw G H F d x) (h2 : Lk G H k y) (e : Mini.index d k = some r) (q : ∀ z, Rp G H F r z → Q z H) : IxW X x y H Q := by
  have dic : ∀ {d : PV}, Vw G H F d x → ((∃ kvs j, d = .dk kvs ∧ Mini.keyOf k = some j ∧ Mini.look j kvs = some r) ∨ ∃ kvs j, d = .dt kvs ∧ Mini.tkeyOf k = some j ∧ Mini.look j kvs = some r) → IxW X x y H Q := by
    intro d h1 e
    have gd : ∃ a z, x = .ref a ∧ DGet H a y (some z) ∧ Rp G H F r z := by
      rcases e with ⟨kvs, j, rfl, h3, h4⟩ | ⟨kvs, j, rfl, h3, h4⟩
      · obtain ⟨a, us, rfl, q, r⟩ := h1
        obtain ⟨rfl, _⟩ := keyOf_kV h3 h2
        have l := RpK.look (k := j) r
        rw [h4] at l
        obtain ⟨z, hz, hr⟩ := l
        exact ⟨a, z, rfl, .inl ⟨us, j, q, rfl, hz.symm⟩, hr⟩
      · obtain ⟨a, us, rfl, q, r⟩ := h1
        obtain ⟨c, rfl, hb, _⟩ := tkeyOf_kV h3 h2
        have l := RpT.look (k := j) r
        rw [h4] at l
        obtain ⟨z, hz, hr⟩ := l
        exact ⟨a, z, rfl, .inr ⟨us, j, c, q, rfl, hb, hz.symm⟩, hr⟩
    obtain ⟨a, z, rfl, g, hr⟩ := gd
    intro value slice pins s σ v u I rx ry hs
    cases (show v = Value.ref a from rx)
    have hu := b.un
    exact tail_any (dict_typeIs I g) PySem.F.slot_dict_getitem.lookup (d_getItem (by omega) I g ry fun w' s' I' rw' => ⟨z, H, I', rw', q z hr⟩) hs
  cases d with
  | lst ts =>
    cases k with
    | int i =>
      obtain ⟨a, vs, rfl, rd, rr⟩ := h1
      cases h2.flatI
      have e : ((Mini.ixN ts.length i).bind fun k => ts[k]?) = some r := e
      obtain ⟨j, e1, e2⟩ := Option.bind_eq_some_iff.mp e
      obtain ⟨z, hz, hr⟩ := rr.get e2
      exact IxR.w ix_list ⟨a, vs, i, z, rfl, rfl, .inl rd, Option.bind_eq_some_iff.mpr ⟨j, by rw [← rr.length]; exact e1, hz⟩, q z hr⟩
    | _ => cases e
  | tup ts =>
    cases k with
    | int i =>
      obtain ⟨a, vs, rfl, rd, rr⟩ := h1
      cases h2.flatI
      have e : ((Mini.ixN ts.length i).bind fun k => ts[k]?) = some r := e
      obtain ⟨j, e1, e2⟩ := Option.bind_eq_some_iff.mp e
      obtain ⟨z, hz, hr⟩ := rr.get e2
      exact IxR.w ix_tup ⟨a, vs, i, z, rfl, rfl, .inl (.inl rd.2), Option.bind_eq_some_iff.mpr ⟨j, by rw [← rr.length]; exact e1, hz⟩, q z hr⟩
    | _ => cases e
  | ktup ts =>
    cases k with
    | int i =>
      obtain ⟨a, vs, rfl, rd, rr⟩ := h1
      cases h2.flatI
      have e : ((Mini.ixN ts.length i).bind fun k => ts[k]?) = some r := e
      obtain ⟨j, e1, e2⟩ := Option.bind_eq_some_iff.mp e
      obtain ⟨z, hz, hr⟩ := rr.get e2
      exact IxR.w ix_tup ⟨a, vs, i, z, rfl, rfl, .inr (b.K ▸ rd), Option.bind_eq_some_iff.mpr ⟨j, by rw [← rr.length]; exact e1, hz⟩, q z hr⟩
    | _ => cases e
  | str s =>
    cases k with
    | int i =>
      obtain ⟨rfl, so⟩ := h1
      cases h2.flatI
      have e : (if s.length ≤ Mini.SZ then (Mini.ixN s.length i).bind fun k => (s.cps.toList[k]?).map fun c => PV.str ⟨#[c]⟩ else none) = some r := e
      split at e
      · rename_i hz
        obtain ⟨j, e1, e2⟩ := Option.bind_eq_some_iff.mp e
        obtain ⟨c, e3, rfl⟩ := Option.map_eq_some_iff.mp e2
        refine IxR.w ix_str ⟨s, i, c, rfl, rfl, by rw [SZ_eq]; exact hz, Option.bind_eq_some_iff.mpr ⟨j, ?_, e3⟩, q _ ⟨rfl, ok_mem so (List.mem_of_getElem? e3)⟩⟩
        rw [Array.length_toList]
        exact e1
      · cases e
    | _ => cases e
  | dk kvs =>
    have e : ((Mini.keyOf k).bind fun k => Mini.look k kvs) = some r := e
    obtain ⟨j, e1, e2⟩ := Option.bind_eq_some_iff.mp e
    exact dic h1 (.inl ⟨kvs, j, rfl, e1, e2⟩)
  | dt kvs =>
    have e : ((Mini.tkeyOf k).bind fun k => Mini.look k kvs) = some r := e
    obtain ⟨j, e1, e2⟩ := Option.bind_eq_some_iff.mp e
    exact dic h1 (.inr ⟨kvs, j, rfl, e1, e2⟩)
  | kdk kvs =>
    cases k with
    | str z =>
      obtain ⟨rfl, _⟩ := h2
      obtain ⟨d, es, n, r0, rfl, D, hn, l⟩ := kdk_get (z := z) b (show Rp G H F (.kdk kvs) x from h1)
      have e : Mini.look (.inr z) kvs = some r := e
      rw [e] at l
      obtain ⟨u, v, rfl, ru, rv⟩ := l
      exact IxR.w ix_kdict ⟨d, z, v, rfl, rfl, ⟨es, n, u, D.at_, D.lit, hn, ru⟩, q v rv⟩
    | _ => cases e
  | _ => cases e

variable {e a c : Expr} {m ma mc : M W} {ta tc : M Bool} {pos p : Pos}
theorem sv_idx (b : Bs G X) (ha : SEv G X a ma) (hc : SEv G X c mc) (hs : PlainIx c) : SEv G X (.Subscript a c pos) (do let x ← ma; let k ← mc; let r ← Mini.ofO (Mini.index x.frz k.frz); pure (.sh r)) := by
  intro sl sl' σ H T w ft g hm
  obtain ⟨w1, s1, h1, hm⟩ := bind_ok.mp hm
  obtain ⟨w2, s2, h2, hm⟩ := bind_ok.mp hm
  obtain ⟨r, s3, h3, hm⟩ := bind_ok.mp hm
  obtain ⟨e3, rfl⟩ := ofO_ok.mp h3
  obtain ⟨rfl, rfl⟩ := pure_ok.mp hm
  refine (pe_ix ix_w pe_w pe_w hs).w ((ha sl s1 σ H T w1 ft g h1).mono fun x H1 ⟨f1, g1⟩ => ?_)
  refine (hc s1 s2 σ H1 ((w1, x) :: T) w2 f1 g1.back h2).mono fun y H2 ⟨f2, g2⟩ => ?_
  have g3 : Good G H2 ((w1, x) :: (prs s2 σ ++ T)) := g2.tail.mid
  obtain ⟨F, g4, v4⟩ := g3.vw
  exact index_ok b v4 g2.lk e3 fun z hz => ⟨f2, F, g4.sh hz⟩
/-- of a variable's thing: read behind the index -/
theorem sv_idxP (b : Bs G X) {j : Nat} {x : Str} (hN : X.N[j]? = some x) (hv : Vis X.env.scope x) (hd : (x == ("__debug__" : Str)) = false) (hcd : (x == ("__classdict__" : Str)) = false) (hc : SEv G X c mc) (hs : PlainIx c) :
    SEv G X (.Subscript (.Name x p) c pos) (do let _ ← Mini.viewVar j; let k ← mc; let v ← Mini.viewVar j; let r ← Mini.ofO (Mini.index v k.frz); pure (.sh r)) := by
  intro sl sl' σ H T w ft g hm
  obtain ⟨v0, s0, h0, hm⟩ := bind_ok.mp hm
  obtain ⟨w2, s2, h2, hm⟩ := bind_ok.mp hm
  obtain ⟨v1, s4, h4, hm⟩ := bind_ok.mp hm
  obtain ⟨r, s3, h3, hm⟩ := bind_ok.mp hm
  obtain ⟨e3, rfl⟩ := ofO_ok.mp h3
  obtain ⟨rfl, rfl⟩ := pure_ok.mp hm
  unfold Mini.viewVar at h0 h4
  split at h0
  · rename_i w0 e1
    cases h0
    obtain ⟨x0, e2⟩ := ft.get e1
    refine (pe_ix ix_w pe_w pe_w hs).w (wE.var hN hv hd hcd e2 ?_)
    refine (hc sl s2 σ H T w2 ft g h2).mono fun y H2 ⟨f2, g2⟩ => ?_
    split at h4
    · rename_i w3 e4
      cases h4
      obtain ⟨F, g2⟩ := g2
      have rw3 := (g2.tail.perm ((prs_get e4 e2).append_right T)).rel _ List.mem_cons_self
      exact index_ok b rw3.vw (g2.rel _ List.mem_cons_self).lk e3 fun z hz => ⟨f2, F, g2.tail.sh hz⟩
    · cases h4
  · cases h0
end

/-! ### slices -/
theorem cutAt_sIx {n d : Nat} {l : PV} {o : Option Int} {k : Nat} (h : (l = .non ∧ o = none) ∨ ∃ i, l = .int i ∧ o = some i) (e : Mini.cutAt n d l = some k) : HT.sIx n d o = k := by
  rcases h with ⟨rfl, rfl⟩ | ⟨i, rfl, rfl⟩
  · cases e; rfl
  · have e : (if i < 0 then (i + n).toNat else min i.toNat n) = k := Option.some.inj e
    have c := HT.clip_eq i n d
    rw [← e]
    split at c <;> rename_i q
    · rw [if_pos q]; omega
    · rw [if_neg q]; omega
theorem cut_eq {xs ys : List PV} {l h : PV} {lo hi : Option Int} (hl : (l = .non ∧ lo = none) ∨ ∃ i, l = .int i ∧ lo = some i) (hh : (h = .non ∧ hi = none) ∨ ∃ i, h = .int i ∧ hi = some i) (e : Mini.cut xs l h = some ys) :
    ys = (xs.drop (HT.sIx xs.length 0 lo)).take (HT.sIx xs.length xs.length hi - HT.sIx xs.length 0 lo) := by
  unfold Mini.cut at e
  split at e
  · rename_i a c e1 e2
    cases e
    rw [cutAt_sIx hl e1, cutAt_sIx hh e2, List.drop_take]
  · cases e
theorem cut_eqN {xs ys : List Nat} {l h : PV} {lo hi : Option Int} (hl : (l = .non ∧ lo = none) ∨ ∃ i, l = .int i ∧ lo = some i) (hh : (h = .non ∧ hi = none) ∨ ∃ i, h = .int i ∧ hi = some i) (e : Mini.cut xs l h = some ys) :
    ys = (xs.drop (HT.sIx xs.length 0 lo)).take (HT.sIx xs.length xs.length hi - HT.sIx xs.length 0 lo) := by
  unfold Mini.cut at e
  split at e
  · rename_i a c e1 e2
    cases e
    rw [cutAt_sIx hl e1, cutAt_sIx hh e2, List.drop_take]
  · cases e
def PartR (l : PV) (o : Option Int) : Prop := (l = .non ∧ o = none) ∨ ∃ i, l = .int i ∧ o = some i
section
variable {X : Cx}
def SlW (X : Cx) : V → Option Int → Option Int → Hp → VK → Prop := fun x lo hi H Q => ∀ (pins : List (Addr × Obj)) (s : Shared) (σ : St) (v vl vu : Value) (sl : Addr), Inv X pins σ H s → RelV x v → s.heap.IsSliceOf sl vl vu .none → IsPart vl lo → IsPart vu hi →
    ∃ T id, typeLookup (.type T) "__getitem__" = pure (some (.builtin id)) ∧ s.TypeIs v T ∧ wpAny (model X.prog X.w) X.A (getItem v (.ref sl)) (EP X pins σ Q) X.xe s
theorem sl_w : SlR X (SlW X) := fun pins s σ H x v vl vu lo hi sl Q I rx hs pl pu q => q pins s σ v vl vu sl I rx hs pl pu
theorem _root_.L2.SlR.w {r : V → Option Int → Option Int → Hp → VK → Prop} (h : SlR X r) {x : V} {lo hi : Option Int} {Q : VK} (q : r x lo hi H Q) : SlW X x lo hi H Q := fun pins s σ v vl vu sl I rx hs pl pu => h pins s σ H x v vl vu lo hi sl Q I rx hs pl pu q
theorem Gd.fresh {a p : Addr} (g : Gd G H F L) (h : F a) (hp : H p = none) : a ≠ p := fun e => g.the a h (e ▸ hp)
theorem slice_ok (b : Bs G X) {d l h r : PV} {x : V} {lo hi : Option Int} {Q : VK} (gd : Gd G H F L) (h1 : Vw G H F d x) (hl : PartR l lo) (hh : PartR h hi) (e : Mini.slice d l h = some r)
    (q : ∀ z H', Good G H' ((Mini.ownIf r, z) :: L) → Q z H') : SlW X x lo hi H Q := by
  cases d with
  | lst ts =>
    obtain ⟨a, vs, rfl, rd, rr⟩ := h1
    obtain ⟨ys, e1, rfl⟩ := Option.map_eq_some_iff.mp (show (Mini.cut ts l h).map PV.lst = some r from e)
    have e2 := cut_eq hl hh e1
    refine SlR.w sl_list ⟨a, vs, rfl, .inl rd, fun p hp => q _ _ ⟨F, gd.newLst hp ?_⟩⟩
    rw [e2, show ts.length = vs.length from rr.length]
    exact (rr.drop _).take _
  | tup ts =>
    have h1' := h1
    obtain ⟨a, vs, rfl, rd, rr⟩ := h1
    obtain ⟨ys, e1, rfl⟩ := Option.map_eq_some_iff.mp (show (Mini.cut ts l h).map PV.tup = some r from e)
    have e2 := cut_eq hl hh e1
    refine SlR.w sl_tupA ⟨a, vs, rfl, .inl (.inl rd.2), fun hw => q _ _ ⟨F, gd.sh ?_⟩, fun hw p hp => q _ _ ⟨_, gd.newTup hp ?_⟩⟩
    · rw [← rr.length] at hw
      rw [e2, hw.1, hw.2, List.drop_zero, Nat.sub_zero, List.take_length]
      exact h1'
    · rw [e2, show ts.length = vs.length from rr.length]
      exact (rr.drop _).take _
  | str s =>
    obtain ⟨rfl, so⟩ := h1
    have e : (if s.length ≤ Mini.SZ then (Mini.cut s.cps.toList l h).map fun l => PV.str ⟨l.toArray⟩ else none) = some r := e
    split at e
    · rename_i hz
      obtain ⟨ys, e1, rfl⟩ := Option.map_eq_some_iff.mp e
      have e2 := cut_eqN hl hh e1
      refine SlR.w sl_str ⟨s, rfl, by rw [SZ_eq]; exact hz, q _ _ ⟨F, gd.sh ?_⟩⟩
      refine ⟨?_, ok_list so fun c hc => ?_⟩
      · rw [e2, Array.length_toList]; rfl
      · rw [e2] at hc
        exact List.mem_of_mem_drop (List.mem_of_mem_take hc)
    · cases e
  | _ => cases e

variable {e a c : Expr} {m ma mc : M W} {ta tc : M Bool} {pos p : Pos}
def wO (X : Cx) (e : Option Expr) : TO := fun σ H Q => ∀ (pins : List (Addr × Obj)) (s : Shared), Inv X pins σ H s →
    wpAny (model X.prog X.w) X.A (evalPart e X.env) (fun u s' => ∃ o H', Inv X pins σ H' s' ∧ IsPart u o ∧ Q o H') X.xe s
theorem po_w {e : Option Expr} : PO X e (wO X e) := ⟨fun pins s σ H Q I h => h pins s I⟩
theorem _root_.L2.PO.w {e : Option Expr} {t : TO} {σ : St} {Q : Option Int → Hp → Prop} (h : PO X e t) (q : t σ H Q) : wO X e σ H Q := fun pins s I => h.run pins s σ H Q I q
theorem wO.mono {e : Option Expr} {σ : St} {Q Q' : Option Int → Hp → Prop} (h : wO X e σ H Q) (f : ∀ x H', Q x H' → Q' x H') : wO X e σ H Q' := fun pins s I => thn (h pins s I) fun _ _ ⟨x, H', I', r, q⟩ => ⟨x, H', I', r, f x H' q⟩
def SEp (G : Gb) (X : Cx) (e : Option Expr) (m : M PV) : Prop := ∀ (sl sl' : Sl) (σ : St) (H : Hp) (T : List WV) (l : PV), Fit sl σ → Good G H (prs sl σ ++ T) → m sl = .ok l sl' →
  wO X e σ H fun o H' => PartR l o ∧ Fit sl' σ ∧ Good G H' (prs sl' σ ++ T)
theorem sp_none {ie : Mini.E} {mi : M W} (h : Mini.isNoPart ie = true) : SEp G X none (Mini.partM ie mi) := by
  intro sl sl' σ H T l ft g hm
  unfold Mini.partM at hm
  rw [if_pos h] at hm
  obtain ⟨rfl, rfl⟩ := pure_ok.mp hm
  exact po_none.w ⟨.inl ⟨rfl, rfl⟩, ft, g⟩
theorem sp_some {ie : Mini.E} {mi : M W} (h : Mini.isNoPart ie = false) (hv : SEv G X e mi) : SEp G X (some e) (Mini.partM ie mi) := by
  intro sl sl' σ H T l ft g hm
  unfold Mini.partM at hm
  rw [if_neg (by rw [h]; exact Bool.false_ne_true)] at hm
  obtain ⟨w, s1, h1, hm⟩ := bind_ok.mp hm
  refine (po_some pe_w).w ((hv sl s1 σ H T w ft g h1).mono fun x H1 ⟨f1, g1⟩ => ?_)
  have l1 := g1.lk
  cases e : w.frz with
  | int i =>
    simp only [e] at hm l1
    obtain ⟨rfl, rfl⟩ := pure_ok.mp hm
    exact ⟨i, l1.flatI, .inr ⟨i, rfl, rfl⟩, f1, g1.tail⟩
  | _ => simp only [e] at hm; exact (fail_ok.mp hm).elim
variable {lo hi : Option Expr} {ml mh : M PV}
theorem sv_slc (b : Bs G X) (ha : SEv G X a ma) (hl : SEp G X lo ml) (hh : SEp G X hi mh) : SEv G X (.Subscript a (.Slice lo hi none p) pos) (do let x ← ma; let l ← ml; let h ← mh; let r ← Mini.ofO (Mini.slice x.frz l h); pure (Mini.ownIf r)) := by
  intro sl sl' σ H T w ft g hm
  obtain ⟨w1, s1, h1, hm⟩ := bind_ok.mp hm
  obtain ⟨l, s2, h2, hm⟩ := bind_ok.mp hm
  obtain ⟨h, s3, h3, hm⟩ := bind_ok.mp hm
  obtain ⟨r, s4, h4, hm⟩ := bind_ok.mp hm
  obtain ⟨e4, rfl⟩ := ofO_ok.mp h4
  obtain ⟨rfl, rfl⟩ := pure_ok.mp hm
  refine (pe_slice sl_w pe_w po_w po_w).w ((ha sl s1 σ H T w1 ft g h1).mono fun x H1 ⟨f1, g1⟩ => ?_)
  refine (hl s1 s2 σ H1 ((w1, x) :: T) l f1 g1.back h2).mono fun lo H2 ⟨p2, f2, g2⟩ => ?_
  refine (hh s2 s3 σ H2 ((w1, x) :: T) h f2 g2 h3).mono fun hi H3 ⟨p3, f3, g3⟩ => ?_
  have g4 : Good G H3 ((w1, x) :: (prs s3 σ ++ T)) := g3.mid
  obtain ⟨F, g5, v5⟩ := g4.vw
  exact slice_ok b g5 v5 p2 p3 e4 fun z H' g' => ⟨f3, g'⟩
theorem sv_slcP (b : Bs G X) {j : Nat} {x : Str} (hN : X.N[j]? = some x) (hv : Vis X.env.scope x) (hd : (x == ("__debug__" : Str)) = false) (hcd : (x == ("__classdict__" : Str)) = false) {p2 : Pos} (hl : SEp G X lo ml) (hh : SEp G X hi mh) :
    SEv G X (.Subscript (.Name x p2) (.Slice lo hi none p) pos) (do let _ ← Mini.viewVar j; let l ← ml; let h ← mh; let x ← Mini.viewVar j; let r ← Mini.ofO (Mini.slice x l h); pure (Mini.ownIf r)) := by
  intro sl sl' σ H T w ft g hm
  obtain ⟨v0, s0, h0, hm⟩ := bind_ok.mp hm
  obtain ⟨l, s2, h2, hm⟩ := bind_ok.mp hm
  obtain ⟨h, s3, h3, hm⟩ := bind_ok.mp hm
  obtain ⟨v1, s5, h5, hm⟩ := bind_ok.mp hm
  obtain ⟨r, s4, h4, hm⟩ := bind_ok.mp hm
  obtain ⟨e4, rfl⟩ := ofO_ok.mp h4
  obtain ⟨rfl, rfl⟩ := pure_ok.mp hm
  unfold Mini.viewVar at h0 h5
  split at h0
  · rename_i w0 e1
    cases h0
    obtain ⟨x0, e2⟩ := ft.get e1
    refine (pe_slice sl_w pe_w po_w po_w).w (wE.var hN hv hd hcd e2 ?_)
    refine (hl sl s2 σ H T l ft g h2).mono fun lo H2 ⟨p2, f2, g2⟩ => ?_
    refine (hh s2 s3 σ H2 T h f2 g2 h3).mono fun hi H3 ⟨p3, f3, g3⟩ => ?_
    split at h5
    · rename_i w3 e5
      cases h5
      obtain ⟨F, g3⟩ := g3
      have rw3 := (g3.perm ((prs_get e5 e2).append_right T)).rel _ List.mem_cons_self
      exact slice_ok b g3 rw3.vw p2 p3 e4 fun z H' g' => ⟨f3, g'⟩
    · cases h5
  · cases h0
/-- xs[::-1], a list -/
theorem sv_rev (b : Bs G X) {k : Nat} {p1 p2 p3 : Pos} {mb : M PV} (ha : SEb G X a mb) : SEv G X (.Subscript a (.Slice none none (some (.UnaryOp .USub (.Constant (.int 1) k p1) p2)) p3) pos) (do let x ← mb; let r ← Mini.ofO (Mini.revs x); pure (Mini.ownIf r)) := by
  intro sl sl' σ H T w ft g hm
  obtain ⟨v, s1, h1, hm⟩ := bind_ok.mp hm
  obtain ⟨r, s4, h4, hm⟩ := bind_ok.mp hm
  obtain ⟨e4, rfl⟩ := ofO_ok.mp h4
  obtain ⟨rfl, rfl⟩ := pure_ok.mp hm
  refine (pe_revA pe_w).w ((ha sl s1 σ H T v ft g h1).mono fun x H1 ⟨f1, F, g1, v1⟩ => ?_)
  cases v with
  | lst ts =>
    obtain ⟨a, vs, rfl, rd, rr⟩ := v1
    cases e4
    exact ⟨a, vs, rfl, .inl ⟨.inl rd, fun p hp => ⟨f1, F, g1.newLst hp rr.reverse⟩⟩⟩
  | tup ts =>
    obtain ⟨a, vs, rfl, rd, rr⟩ := v1
    cases e4
    exact ⟨a, vs, rfl, .inr ⟨.inl (.inl rd.2), fun p hp => ⟨f1, _, g1.newTup hp rr.reverse⟩⟩⟩
  | _ => cases e4
end
end Snd
end

section
set_option Elab.async false
set_option linter.all false
set_option maxRecDepth 100000
/-! S9: arguments, calls. -/
namespace Snd
open PySem PySem.Spec L2
open PyProof.Rows hiding St
open Mini (PV W Sl M CR)
variable {G : Gb} {H H' : Hp} {F F' : Fz} {L L' A B T : List WV} {σ : St}

theorem Good.sink {p : WV} (g : Good G H (p :: (A ++ (B ++ T)))) : Good G H (A ++ (B ++ p :: T)) :=
  g.perm ((List.perm_middle (l₁ := A) (l₂ := B ++ T)).symm.trans (List.Perm.append_left A (List.perm_middle (l₁ := B) (l₂ := T)).symm))
theorem Good.rise {p : WV} (g : Good G H (A ++ (B ++ p :: T))) : Good G H (p :: (A ++ (B ++ T))) :=
  g.perm ((List.Perm.append_left A (List.perm_middle (l₁ := B) (l₂ := T))).trans (List.perm_middle (l₁ := A) (l₂ := B ++ T)))
theorem Good.peek {sl : Sl} {i : Nat} {v : PV} {x : V} (g : Good G H (A ++ (prs sl σ ++ T))) (e1 : sl[i]? = some (some (.sh v))) (e2 : σ[i]? = some (some x)) : Good G H ((.sh v, x) :: (A ++ (prs sl σ ++ T))) := by
  obtain ⟨F, g⟩ := g
  refine ⟨F, g.sh (g.rel (.sh v, x) ?_)⟩
  exact List.mem_append_right _ (List.mem_append_left _ ((prs_get e1 e2).mem_iff.mpr List.mem_cons_self))
theorem Good.takeA {sl : Sl} {i : Nat} {w : W} {x : V} (g : Good G H (A ++ (prs sl σ ++ T))) (e1 : sl[i]? = some (some w)) (e2 : σ[i]? = some (some x)) : Good G H ((w, x) :: (A ++ (prs (sl.set i none) σ ++ T))) :=
  g.perm ((List.Perm.append_left A ((prs_get e1 e2).append_right T)).trans List.perm_middle)
theorem Good.giveA {sl : Sl} {i : Nat} {w : W} {x : V} (g : Good G H ((w, x) :: (A ++ (prs (sl.set i none) σ ++ T)))) (hi : i < sl.length) (e2 : σ[i]? = some (some x)) : Good G H (A ++ (prs (sl.set i (some w)) σ ++ T)) :=
  g.perm ((List.Perm.append_left A ((prs_set hi e2).append_right T)).trans List.perm_middle).symm

def ArgR (σ : St) : List Mini.Arg → List V → Prop
  | [], [] => True
  | .vl _ :: as, _ :: xs => ArgR σ as xs
  | .rf i :: as, x :: xs => σ[i]? = some (some x) ∧ ArgR σ as xs
  | _, _ => False
def vls : List Mini.Arg → List V → List WV
  | .vl w :: as, x :: xs => (w, x) :: vls as xs
  | .rf _ :: as, _ :: xs => vls as xs
  | _, _ => []
def zo : List (Option W) → List V → List WV
  | some w :: os, x :: xs => (w, x) :: zo os xs
  | none :: os, _ :: xs => zo os xs
  | _, _ => []
theorem lend_ok : ∀ {as : List Mini.Arg} {xs : List V} {s s1 : Sl} {ws : List W} {T : List WV}, Mini.lendA as s = some (ws, s1) → ArgR σ as xs → Fit s σ → Good G H (vls as xs ++ (prs s σ ++ T)) →
    ws.length = xs.length ∧ Fit s1 σ ∧ Good G H (ws.zip xs ++ (prs s1 σ ++ T))
  | [], [], s, s1, ws, T, e, _, ft, g => by
    cases e
    exact ⟨rfl, ft, g⟩
  | [], _ :: _, _, _, _, _, _, h, _, _ => h.elim
  | .vl w :: as, [], _, _, _, _, _, h, _, _ => h.elim
  | .rf i :: as, [], _, _, _, _, _, h, _, _ => h.elim
  | .vl w :: as, x :: xs, s, s1, ws, T, e, h, ft, g => by
    obtain ⟨⟨ws', s1'⟩, e1, e2⟩ := Option.map_eq_some_iff.mp (show (Mini.lendA as s).map (fun p => (w :: p.1, p.2)) = some (ws, s1) from e)
    cases e2
    have g : Good G H ((w, x) :: (vls as xs ++ (prs s σ ++ T))) := g
    obtain ⟨hl, f1, g1⟩ := lend_ok (T := (w, x) :: T) e1 h ft g.sink
    exact ⟨congrArg (· + 1) hl, f1, g1.rise⟩
  | .rf i :: as, x :: xs, s, s1, ws, T, e, h, ft, g => by
    have g : Good G H (vls as xs ++ (prs s σ ++ T)) := g
    unfold Mini.lendA at e
    split at e
    · rename_i v e0
      obtain ⟨⟨ws', s1'⟩, e1, e2⟩ := Option.map_eq_some_iff.mp e
      cases e2
      obtain ⟨hl, f1, g1⟩ := lend_ok (T := (.sh v, x) :: T) e1 h.2 ft (g.peek e0 h.1).sink
      exact ⟨congrArg (· + 1) hl, f1, g1.rise⟩
    · rename_i w _ e0
      obtain ⟨⟨ws', s1'⟩, e1, e2⟩ := Option.map_eq_some_iff.mp e
      cases e2
      obtain ⟨hl, f1, g1⟩ := lend_ok (T := (w, x) :: T) e1 h.2 ft.unset (g.takeA e0 h.1).sink
      exact ⟨congrArg (· + 1) hl, f1, g1.rise⟩
    · cases e
theorem back_ok : ∀ {as : List Mini.Arg} {xs : List V} {os : List (Option W)} {s : Sl} {T : List WV}, ArgR σ as xs → Fit s σ → Good G H (zo os xs ++ (prs s σ ++ T)) →
    Fit (Mini.backA as os s) σ ∧ Good G H (prs (Mini.backA as os s) σ ++ T)
  | [], xs, os, s, T, h, ft, g => by
    have : Mini.backA [] os s = s := by unfold Mini.backA; rfl
    rw [this]; exact ⟨ft, g.drop⟩
  | .vl w :: as, [], os, s, T, h, ft, g => h.elim
  | .rf i :: as, [], os, s, T, h, ft, g => h.elim
  | .vl w :: as, x :: xs, [], s, T, h, ft, g => by
    have : Mini.backA (.vl w :: as) [] s = s := by unfold Mini.backA; rfl
    rw [this]; exact ⟨ft, g⟩
  | .rf i :: as, x :: xs, [], s, T, h, ft, g => by
    have : Mini.backA (.rf i :: as) [] s = s := by unfold Mini.backA; rfl
    rw [this]; exact ⟨ft, g⟩
  | .vl w :: as, x :: xs, o :: os, s, T, h, ft, g => by
    have : Mini.backA (.vl w :: as) (o :: os) s = Mini.backA as os s := by rw [Mini.backA]
    rw [this]
    refine back_ok (os := os) h ft ?_
    cases o with
    | none => exact g
    | some w' => exact Good.tail g
  | .rf i :: as, x :: xs, o :: os, s, T, h, ft, g => by
    rw [Mini.backA]
    split
    · rename_i e0
      have hi := lt_of_get e0
      cases o with
      | none =>
        have e : s.set i none = s := by
          apply List.ext_getElem?
          intro j
          rw [List.getElem?_set]
          split
          · rename_i ej; subst ej; exact e0.symm
          · rfl
        rw [e]
        exact back_ok (os := os) h.2 ft g
      | some w =>
        refine back_ok (os := os) h.2 (ft.set h.1) ?_
        have g : Good G H ((w, x) :: (zo os xs ++ (prs s σ ++ T))) := g
        have e : s.set i none = s := by
          apply List.ext_getElem?
          intro j
          rw [List.getElem?_set]
          split
          · rename_i ej; subst ej; exact e0.symm
          · rfl
        rw [← e] at g
        exact g.giveA hi h.1
    · refine back_ok (os := os) h.2 ft ?_
      cases o with
      | none => exact g
      | some w' => exact Good.tail g

section
variable (G : Gb) (X : Cx)
def SEa (e : Expr) (m : M Mini.Arg) : Prop := ∀ (sl sl' : Sl) (σ : St) (H : Hp) (T : List WV) (a : Mini.Arg), Fit sl σ → Good G H (prs sl σ ++ T) → m sl = .ok a sl' →
  wE X e σ H fun x H' => Fit sl' σ ∧ ArgR σ [a] [x] ∧ Good G H' (vls [a] [x] ++ (prs sl' σ ++ T))
def SEas (es : List Expr) (m : M (List Mini.Arg)) : Prop := ∀ (sl sl' : Sl) (σ : St) (H : Hp) (T : List WV) (as : List Mini.Arg), Fit sl σ → Good G H (prs sl σ ++ T) → m sl = .ok as sl' →
  wA X es σ H fun xs H' => Fit sl' σ ∧ ArgR σ as xs ∧ Good G H' (vls as xs ++ (prs sl' σ ++ T))
end
section
variable {X : Cx} {e a c : Expr} {m ma mc : M W} {pos p : Pos}
theorem sa_var {i : Nat} {x : Str} (hN : X.N[i]? = some x) (hv : Vis X.env.scope x) (hd : (x == ("__debug__" : Str)) = false) (hcd : (x == ("__classdict__" : Str)) = false) : SEa G X (.Name x pos) (do let _ ← Mini.viewVar i; pure (.rf i)) := by
  intro sl sl' σ H T a ft g hm
  obtain ⟨v, s1, h1, h2⟩ := bind_ok.mp hm
  obtain ⟨rfl, rfl⟩ := pure_ok.mp h2
  unfold Mini.viewVar at h1
  split at h1
  · rename_i w0 e1
    cases h1
    obtain ⟨x0, e2⟩ := ft.get e1
    exact wE.var hN hv hd hcd e2 ⟨ft, ⟨e2, trivial⟩, g⟩
  · cases h1
theorem SEv.ar (h : SEv G X e m) : SEa G X e (do let w ← m; pure (.vl w)) := by
  intro sl sl' σ H T a ft g hm
  obtain ⟨w, s1, h1, h2⟩ := bind_ok.mp hm
  obtain ⟨rfl, rfl⟩ := pure_ok.mp h2
  exact (h sl s1 σ H T w ft g h1).mono fun x H' ⟨f', g'⟩ => ⟨f', trivial, g'⟩
theorem sas_nil : SEas G X [] (pure []) := by
  intro sl sl' σ H T vs ft g h
  obtain ⟨rfl, rfl⟩ := pure_ok.mp h
  exact pa_nil.w ⟨ft, trivial, g⟩
theorem sas_cons {es : List Expr} {ma : M Mini.Arg} {ms : M (List Mini.Arg)} (h : SEa G X e ma) (hs : SEas G X es ms) (hst : starEach (e :: es) X.env = (false, eval e X.env) :: starEach es X.env) :
    SEas G X (e :: es) (do let a ← ma; let as ← ms; pure (a :: as)) := by
  intro sl sl' σ H T vs ft g hm
  obtain ⟨a, s1, h1, hm⟩ := bind_ok.mp hm
  obtain ⟨as, s2, h2, hm⟩ := bind_ok.mp hm
  obtain ⟨rfl, rfl⟩ := pure_ok.mp hm
  refine (pa_cons pe_w pa_w hst).w ((h sl s1 σ H T a ft g h1).mono fun x H1 ⟨f1, r1, g1⟩ => ?_)
  cases a with
  | vl w =>
    have g1 : Good G H1 ((w, x) :: (prs s1 σ ++ T)) := g1
    refine (hs s1 s2 σ H1 ((w, x) :: T) as f1 g1.back h2).mono fun xs H2 ⟨f2, r2, g2⟩ => ⟨f2, r2, ?_⟩
    exact g2.rise
  | rf i =>
    refine (hs s1 s2 σ H1 T as f1 g1 h2).mono fun xs H2 ⟨f2, r2, g2⟩ => ⟨f2, ⟨r1.1, r2⟩, g2⟩

/-! ### calls -/
/-- the same, with these locked -/
def _root_.Snd.Gb.at (G : Gb) (Z : Addr → Option (Obj × HO)) : Gb := { G with Z := Z }
/-- what a def promises: what the interpreter says -/
def spOf (G : Gb) (c : List W → CR) (n : Nat) : Sp := fun vs H Q _ => vs.length = n ∧ ∃ (Z : Addr → Option (Obj × HO)) (R : List WV) (ws : List W) (w : W) (outs : List (Option W)), c ws = .ok w outs ∧ ws.length = vs.length ∧ Good (G.at Z) H (ws.zip vs ++ R) ∧
  ∀ x H', Good (G.at Z) H' ((w, x) :: (zo outs vs ++ R)) → Q x H'
abbrev NoX : CXT := fun _ _ _ _ _ _ => False
theorem passes_no {E : XK} : Passes NoX X E := fun _ _ _ _ _ _ _ h => h.elim
theorem ArgR.length : ∀ {as : List Mini.Arg} {xs : List V}, ArgR σ as xs → as.length = xs.length
  | [], [], _ => rfl
  | .vl _ :: as, _ :: xs, h => congrArg (· + 1) (ArgR.length (as := as) (xs := xs) h)
  | .rf _ :: as, _ :: xs, h => congrArg (· + 1) (ArgR.length (as := as) (xs := xs) h.2)
  | [], _ :: _, h => h.elim
  | .vl _ :: _, [], h => h.elim
  | .rf _ :: _, [], h => h.elim
/-- the call by its arguments -/
theorem sp_go {c : List W → CR} {n : Nat} {as : List Mini.Arg} {xs : List V} {s s' : Sl} {w : W} {Q : VK} {E : XK} (hn : as.length = n) (r : ArgR σ as xs) (ft : Fit s σ) (g : Good G H (vls as xs ++ (prs s σ ++ T)))
    (hm : Mini.callM c as s = .ok w s') (q : ∀ x H', Fit s' σ → Good G H' ((w, x) :: (prs s' σ ++ T)) → Q x H') : spOf G c n xs H Q E := by
  unfold Mini.callM at hm
  split at hm
  · rename_i ws s1 e1
    obtain ⟨hl, f1, g1⟩ := lend_ok e1 r ft g
    split at hm
    · rename_i w' outs e2
      cases hm
      refine ⟨by rw [← r.length]; exact hn, G.Z, prs s1 σ ++ T, ws, w, outs, e2, hl, g1, fun x H' g' => ?_⟩
      have g2 : Good G H' (zo outs xs ++ (prs s1 σ ++ (w, x) :: T)) := g'.sink
      obtain ⟨f3, g3⟩ := back_ok r f1 g2
      exact q x H' f3 g3.mid
    · cases hm
    · cases hm
  · cases hm
theorem sv_call {c : List W → CR} {n k : Nat} {f : Addr} {fd : FuncData} {ps : List Str} {x : Str} {es : List Expr} {ms : M (List Mini.Arg)} (Fk : FnOk X.prog X.w X.K X.mg X.base NoX k f fd ps (spOf G c n)) (hr : Room k X.A) (hg : Gl X x) (hm : X.mg x = some (.ref f))
    (hk : PySem.W.keepIn X.K (.ref f) = true) (hb : Binds X.K fd ps []) (hdb : (x == ("__debug__" : Str)) = false)
    (he : starEach (e :: es) X.env = (false, eval e X.env) :: starEach es X.env) (hpl : (backTo pos (starEach es X.env)).any (·.1) = false) (hs : SEas G X (e :: es) ms) (hn : ∀ s as s', ms s = .ok as s' → as.length = n) :
    SEv G X (.Call (.Name x p) (e :: es) [] pos) (do let as ← ms; Mini.callM c as) := by
  intro sl sl' σ H T w ft g hm'
  obtain ⟨as, s1, h1, h2⟩ := bind_ok.mp hm'
  refine (pe_call (ds := []) (dvs := []) (E := fun _ _ _ => False) Fk hr hg hm hk hb .nil passes_no pa_w hdb he hpl).w ((hs sl s1 σ H T as ft g h1).mono fun xs H1 ⟨f1, r1, g1⟩ => ?_)
  show spOf G c n (xs ++ []) H1 _ _
  rw [List.append_nil]
  exact sp_go (hn _ _ _ h1) r1 f1 g1 h2 fun x H' f' g' => ⟨f', g'⟩
end
end Snd
end

section
set_option Elab.async false
set_option linter.all false
set_option maxRecDepth 100000
/-! S10: fields, methods of one's own, new instances, isinstance. -/
namespace Snd
open PySem PySem.Spec L2
open PyProof.Rows hiding St
open Mini (PV W Sl M CR)
variable {G : Gb} {H H' : Hp} {F F' : Fz} {L L' A B T : List WV} {σ : St}

/-- the fields' names are told apart -/
structure Nms (G : Gb) : Prop where
  inj : ∀ i j, G.fnm i = G.fnm j → i = j
theorem lookup_ne {k g : Str} {z : V} {us : List (Str × V)} (h : k ≠ g) : List.lookup k ((g, z) :: us) = us.lookup k := by
  rw [List.lookup_cons]
  rw [show (k == g) = false from beq_eq_false_iff_ne.mpr h]
theorem lookup_eq {k : Str} {z : V} {us : List (Str × V)} : List.lookup k ((k, z) :: us) = some z := by
  rw [List.lookup_cons, beq_self_eq_true]
theorem RpF.look (n : Nms G) {f : Nat} {v : PV} : ∀ {fs : List (Nat × PV)} {us : List (Str × V)}, RpF G H F fs us → Mini.lookF f fs = some v → ∃ z, us.lookup (G.fnm f) = some z ∧ Rp G H F v z
  | [], _, _, e => by cases e
  | (g, u) :: fs, _, ⟨z, r, e0, h, h'⟩, e => by
    rw [e0]
    unfold Mini.lookF at e
    split at e
    · rename_i q
      cases e
      subst q
      exact ⟨z, lookup_eq, h⟩
    · rename_i q
      obtain ⟨z', h1, h2⟩ := RpF.look n h' e
      exact ⟨z', by rw [lookup_ne fun q' => q (n.inj _ _ q').symm]; exact h1, h2⟩
theorem RWs.look (n : Nms G) {f : Nat} {w : W} : ∀ {fs : List (Nat × W)} {us : List (Str × V)}, RWs G H F fs us → Mini.lookF f fs = some w → ∃ z, us.lookup (G.fnm f) = some z ∧ RW G H F w z
  | [], _, _, e => by cases e
  | (g, u) :: fs, _, ⟨z, r, e0, h, h'⟩, e => by
    rw [e0]
    unfold Mini.lookF at e
    split at e
    · rename_i q
      cases e
      subst q
      exact ⟨z, lookup_eq, h⟩
    · rename_i q
      obtain ⟨z', h1, h2⟩ := RWs.look n h' e
      exact ⟨z', by rw [lookup_ne fun q' => q (n.inj _ _ q').symm]; exact h1, h2⟩
theorem RpF.none {m : Str} (hm : ∀ f, G.fnm f ≠ m) : ∀ {fs : List (Nat × PV)} {us : List (Str × V)}, RpF G H F fs us → us.lookup m = none
  | [], _, h => by rw [show _ = [] from h]; rfl
  | (g, u) :: fs, _, ⟨z, r, e0, h, h'⟩ => by
    rw [e0, lookup_ne fun q => hm g q.symm]
    exact RpF.none hm h'
theorem RWs.none {m : Str} (hm : ∀ f, G.fnm f ≠ m) : ∀ {fs : List (Nat × W)} {us : List (Str × V)}, RWs G H F fs us → us.lookup m = none
  | [], _, h => by rw [show _ = [] from h]; rfl
  | (g, u) :: fs, _, ⟨z, r, e0, h, h'⟩ => by
    rw [e0, lookup_ne fun q => hm g q.symm]
    exact RWs.none hm h'
/-- what is known of the classes with these fields -/
def FOk (G : Gb) (K : PySem.W.Frag) (fok : Nat → Nat → Bool) : Prop := ∀ c f, fok c f = true → Cls K (G.cad c) ∧ NoAttr K (G.cad c) (G.fnm f)

section
variable {X : Cx} {e a c : Expr} {m ma mc : M W} {pos p : Pos} {fok : Nat → Nat → Bool} {f : Nat}
theorem fld_ok (n : Nms G) (hf : FOk G X.K fok) {v u : PV} {x : V} {Q : VK} (h : Rp G H F v x) (e : Mini.fieldV fok f v = some u) (q : ∀ z, Rp G H F u z → Q z H) :
    ∃ a C dx fs v, x = .ref a ∧ H a = some (.ins C dx fs) ∧ Cls X.K C ∧ NoAttr X.K C (G.fnm f) ∧ fs.lookup (G.fnm f) = some v ∧ Q v H := by
  cases v with
  | ins c fs =>
    have e : (if fok c f then Mini.lookF f fs else none) = some u := e
    split at e
    · rename_i ok
      obtain ⟨a, dx, us, rfl, fa, ha, r⟩ := h
      obtain ⟨z, h1, h2⟩ := RpF.look n r e
      obtain ⟨c1, c2⟩ := hf _ _ ok
      exact ⟨a, _, dx, us, z, rfl, ha, c1, c2, h1, q z h2⟩
    · cases e
  | _ => cases e
theorem sv_fld (n : Nms G) (hf : FOk G X.K fok) (ha : SEv G X a ma) (hb : attributeBase a (G.fnm f) X.env (eval a X.env) = eval a X.env) : SEv G X (.Attribute a (G.fnm f) pos) (do let x ← Mini.frzR ma; let r ← Mini.ofO (Mini.fieldV fok f x); pure (.sh r)) := by
  intro sl sl' σ H T w ft g hm
  obtain ⟨v, s1, h1, hm⟩ := bind_ok.mp hm
  obtain ⟨w0, s9, h8, h9⟩ := bind_ok.mp h1
  obtain ⟨rfl, rfl⟩ := pure_ok.mp h9
  obtain ⟨r, s2, h2, hm⟩ := bind_ok.mp hm
  obtain ⟨e2, rfl⟩ := ofO_ok.mp h2
  obtain ⟨rfl, rfl⟩ := pure_ok.mp hm
  refine (pe_fld pe_w hb).w ((ha.fz ft g h8).mono fun x H1 ⟨f1, F, g1⟩ => ?_)
  have r0 : Rp G H1 F w0.frz x := g1.rel _ List.mem_cons_self
  exact fld_ok (Q := fun x H' => Fit s9 σ ∧ Good G H' ((.sh r, x) :: (prs s9 σ ++ T))) n hf r0 e2 fun z hz => ⟨f1, F, g1.tail.sh hz⟩
theorem sv_fldP (n : Nms G) (hf : FOk G X.K fok) {j : Nat} {x : Str} (hN : X.N[j]? = some x) (hv : Vis X.env.scope x) (hd : (x == ("__debug__" : Str)) = false) (hcd : (x == ("__classdict__" : Str)) = false) : SEv G X (.Attribute (.Name x p) (G.fnm f) pos) (Mini.rdFld fok j f) := by
  intro sl sl' σ H T w ft g hm
  unfold Mini.rdFld at hm
  split at hm
  · rename_i c fs e1
    obtain ⟨x0, e2⟩ := ft.get e1
    split at hm
    · rename_i ok
      split at hm
      · rename_i u e3
        cases hm
        refine (pe_fld pe_w rfl).w (wE.var hN hv hd hcd e2 ?_)
        obtain ⟨F, g1⟩ := g
        obtain ⟨a, dx, us, rfl, ha, r⟩ := (g1.perm ((prs_get e1 e2).append_right T)).rel _ List.mem_cons_self
        obtain ⟨z, h1, h2⟩ := RWs.look n r e3
        obtain ⟨c1, c2⟩ := hf _ _ ok
        exact ⟨a, _, dx, us, z, rfl, ha, c1, c2, h1, ft, F, g1.sh h2⟩
      · cases hm
    · cases hm
  · rename_i v e1
    obtain ⟨x0, e2⟩ := ft.get e1
    split at hm
    · rename_i u e3
      cases hm
      refine (pe_fld pe_w rfl).w (wE.var hN hv hd hcd e2 ?_)
      obtain ⟨F, g1⟩ := g
      have r : Rp G H F v x0 := (g1.perm ((prs_get e1 e2).append_right T)).rel _ List.mem_cons_self
      exact fld_ok (Q := fun x H' => Fit sl σ ∧ Good G H' ((.sh u, x) :: (prs sl σ ++ T))) n hf r e3 fun z hz => ⟨ft, F, g1.sh hz⟩
    · cases hm
  · cases hm

/-! ### methods of one's own -/
theorem sv_omth {j : Nat} {x mn : Str} {es : List Expr} {ms : M (List Mini.Arg)} {p2 : Pos} {C : Nat → Option Nat} {cc : Nat → List W → CR}
    (hN : X.N[j]? = some x) (hv : Vis X.env.scope x) (hd : (x == ("__debug__" : Str)) = false) (hcd : (x == ("__classdict__" : Str)) = false) (hmn : ∀ f, G.fnm f ≠ mn)
    (hC : ∀ cl i, C cl = some i → ∃ g fd ps n k, Cls X.K (G.cad cl) ∧ Meth X.K (G.cad cl) mn g ∧ FnOk X.prog X.w X.K X.mg X.base NoX k g fd ps (spOf G (cc i) n) ∧ Room k X.A ∧ Binds X.K fd ps [] ∧ es.length + 2 = n)
    (he : starEach (e :: es) X.env = (false, eval e X.env) :: starEach es X.env) (hpl : (backTo pos (starEach es X.env)).any (·.1) = false)
    (hform : Mini.isNoPart (.lit .non) = true → ∃ pl, eval (.Call (.Attribute (.Name x p) mn p2) (e :: es) [] pos) X.env = (do
      let ov ← eval (.Name x p) X.env
      standAt p2.atName
      let (f, first) ← holding [ov] (getMethod ov mn pl)
      callWith pos f first (backTo pos (starEach (e :: es) X.env)) (backToKw pos (keywordEach [] X.env))))
    (hs : SEas G X (e :: es) ms) (hn : ∀ s as s', ms s = .ok as s' → as.length = es.length + 1) :
    SEv G X (.Call (.Attribute (.Name x p) mn p2) (e :: es) [] pos) (do
      let c ← Mini.clsVar j
      match C c with
      | some f => do let as ← ms; Mini.callM (cc f) (.rf j :: as)
      | none => Mini.fail) := by
  intro sl sl' σ H T w ft gd hm'
  obtain ⟨cl, s1, h1, h2⟩ := bind_ok.mp hm'
  have hcl : ∃ x0, σ[j]? = some (some x0) ∧ s1 = sl ∧ ∀ H, Good G H (prs sl σ ++ T) → ∃ a dx us, x0 = .ref a ∧ H a = some (.ins (G.cad cl) dx us) ∧ us.lookup mn = none := by
    unfold Mini.clsVar at h1
    split at h1
    · rename_i c' fs e1
      cases h1
      obtain ⟨x0, e2⟩ := ft.get e1
      refine ⟨x0, e2, rfl, fun H ⟨F, g1⟩ => ?_⟩
      obtain ⟨a, dx, us, rfl, ha, r⟩ := (g1.perm ((prs_get e1 e2).append_right T)).rel _ List.mem_cons_self
      exact ⟨a, dx, us, rfl, ha, RWs.none hmn r⟩
    · rename_i c' fs e1
      cases h1
      obtain ⟨x0, e2⟩ := ft.get e1
      refine ⟨x0, e2, rfl, fun H ⟨F, g1⟩ => ?_⟩
      obtain ⟨a, dx, us, rfl, _, ha, r⟩ := (g1.perm ((prs_get e1 e2).append_right T)).rel _ List.mem_cons_self
      exact ⟨a, dx, us, rfl, ha, RpF.none hmn r⟩
    · cases h1
  obtain ⟨x0, e2, rfl, hcl⟩ := hcl
  cases hC' : C cl with
  | none => simp only [hC'] at h2; exact (fail_ok.mp h2).elim
  | some i =>
    simp only [hC'] at h2
    obtain ⟨as, s2, h3, h4⟩ := bind_ok.mp h2
    obtain ⟨g, fd, ps, n, k, c1, c2, Fk, hr, hb, hnn⟩ := hC cl i hC'
    obtain ⟨pl, hform⟩ := hform rfl
    obtain ⟨a, dx, us, rfl, ha, hl⟩ := hcl H gd
    refine (pe_meth (ds := []) (dvs := []) (E := fun _ _ _ => False) pe_w c1 c2 Fk hr hb .nil passes_no pa_w he hpl hform).w (wE.var hN hv hd hcd e2 ⟨a, dx, us, rfl, ha, hl, ?_⟩)
    refine (hs s1 s2 σ H T as ft gd h3).mono fun xs H2 ⟨f2, r2, g2⟩ => ?_
    rw [List.append_nil]
    exact sp_go (as := .rf j :: as) (by rw [List.length_cons, hn _ _ _ h3, ← hnn]) ⟨e2, r2⟩ f2 g2 h4 fun x H' f' g' => ⟨f', g'⟩

/-! ### a new instance -/
theorem Good.newObj {x dx : Addr} {c : Nat} (g : Good G H L) (h1 : H x = none) (h2 : H dx = none) (hne : dx ≠ x) : Good G (upd (upd H dx (.own x)) x (.ins (G.cad c) dx [])) ((.obj c [], .ref x) :: L) := by
  obtain ⟨F, g⟩ := g
  have g1 := g.alloc (o := .own x) h2
  have h1' : upd H dx (.own x) x = none := by rw [upd_ne hne.symm]; exact h1
  have g2 := g1.alloc (o := .ins (G.cad c) dx []) h1'
  have e2 : oL (upd (upd H dx (.own x)) x (.ins (G.cad c) dx [])) L = oL (upd H dx (.own x)) L := oL_frame fun q hq => (RW.frame (F' := F) (.upd (p := x) (o := .ins (G.cad c) dx []) fun fp => g1.the x fp h1') (fun _ z => z) q.1 q.2 (fun b hb => upd_ne fun z => own_there (g1.rel q hq) hb (z ▸ h1')) (g1.rel q hq)).2
  refine ⟨F, fun q hq => ?_, ?_, fun a ha => ?_, g2.the, g2.lck, g2.nfz⟩
  · rcases List.mem_cons.mp hq with rfl | hq
    · exact ⟨x, dx, [], rfl, upd_same, rfl⟩
    · exact g2.rel q hq
  · rw [oL_cons]
    refine List.nodup_append.mpr ⟨by simp [oA, upd_same, oAs], g2.nod, fun a ha b hb e => ?_⟩
    have : a = x := by simpa [oA, upd_same, oAs] using ha
    subst this
    subst e
    rw [e2] at hb
    obtain ⟨q, hq, hm⟩ := mem_oL.mp hb
    exact own_there (g1.rel q hq) hm h1'
  · rw [oL_cons] at ha
    rcases List.mem_append.mp ha with ha | ha
    · have : a = x := by simpa [oA, upd_same, oAs] using ha
      subst this
      exact fun fp => g1.the a fp h1'
    · exact g2.out a ha
theorem sv_new {c : List W → CR} {cl : Nat} {n k : Nat} {f : Addr} {fd : FuncData} {ps : List Str} {x : Str} {es : List Expr} {ms : M (List Mini.Arg)} (Mk : Mk X.K (G.cad cl) f) (Fk : FnOk X.prog X.w X.K X.mg X.base NoX k f fd ps (spOf G c (n + 1))) (hr : Room (k + 1) X.A) (hg : Gl X x) (hm : X.mg x = some (.ref (G.cad cl)))
    (hb : Binds X.K fd ps []) (hdb : (x == ("__debug__" : Str)) = false)
    (he : starEach (e :: es) X.env = (false, eval e X.env) :: starEach es X.env) (hpl : (backTo pos (starEach es X.env)).any (·.1) = false) (hs : SEas G X (e :: es) ms) (hn : ∀ s as s', ms s = .ok as s' → as.length = n) :
    SEv G X (.Call (.Name x p) (e :: es) [] pos) (do let as ← ms; (fun s => match Mini.lendA as s with
      | some (ws, s1) => match c (.obj cl [] :: ws) with
        | .ok (.sh .non) (some w :: outs) => .ok w (Mini.backA as outs s1)
        | .ex x (_ :: outs) => .ex x (Mini.backA as outs s1)
        | _ => .no
      | none => .no : M W)) := by
  intro sl sl' σ H T w ft g hm'
  obtain ⟨as, s1, h1, h2⟩ := bind_ok.mp hm'
  refine (pe_make (ds := []) (dvs := []) (E := fun _ _ _ => False) Mk Fk hr hg hm hb .nil passes_no pa_w hdb he hpl).w ((hs sl s1 σ H T as ft g h1).mono fun xs H1 ⟨f1, r1, g1⟩ => ?_)
  intro px pd hx hdx hne
  rw [List.append_nil]
  split at h2
  · rename_i ws s3 e1
    obtain ⟨hl, f3, g3⟩ := lend_ok e1 r1 f1 g1
    split at h2
    · rename_i w' outs e4
      cases h2
      refine ⟨by rw [List.length_cons, ← r1.length, hn _ _ _ h1], G.Z, prs s3 σ ++ T, _, _, _, e4, by rw [List.length_cons, hl, List.length_cons], g3.newObj hx hdx hne, fun x H' g' => ?_⟩
      refine ⟨g'.lk.flatN, ?_⟩
      have g2 : Good G H' ((w, .ref px) :: (zo outs xs ++ (prs s3 σ ++ T))) := g'.tail
      obtain ⟨f5, g5⟩ := back_ok r1 f3 g2.sink
      exact ⟨f5, g5.mid⟩
    · cases h2
    · cases h2
  · cases h2
end
end Snd
end

section
set_option Elab.async false
set_option linter.all false
set_option maxRecDepth 100000
/-! S11: isinstance, built-in functions. -/
namespace Snd
open PySem PySem.Spec L2
open PyProof.Rows hiding St
open Mini (PV W Sl M CR Bi Ty)
variable {G : Gb} {H H' : Hp} {F F' : Fz} {L L' A B T : List WV} {σ : St}

section
variable {X : Cx}
def CallW (X : Cx) (f : Value) : List V → Hp → VK → Prop := fun xs H Q => ∀ (pins : List (Addr × Obj)) (s : Shared) (σ : St) (us : List Value), Inv X pins σ H s → Vals xs us → wpAny (model X.prog X.w) X.A (call f us) (EP X pins σ Q) X.xe s
theorem call_w {f : Value} : CallR X f (CallW X f) := fun pins s σ H xs us Q I r q => q pins s σ us I r
theorem _root_.L2.CallR.w {f : Value} {r : List V → Hp → VK → Prop} (h : CallR X f r) {xs : List V} {Q : VK} (q : r xs H Q) : CallW X f xs H Q := fun pins s σ us I rr => h pins s σ H xs us Q I rr q
end

/-! ### sorted lists -/
theorem insB_perm {α : Type} {lt : α → α → Bool} {x : α} : ∀ l : List α, (Mini.insB lt x l).Perm (x :: l)
  | [] => .refl _
  | y :: ys => by
    unfold Mini.insB
    split
    · exact ((insB_perm ys).cons y).trans (.swap _ _ _)
    · exact .refl _
theorem isort_perm {α : Type} {lt : α → α → Bool} : ∀ l : List α, (Mini.isort lt l).Perm l
  | [] => .refl _
  | x :: xs => (insB_perm _).trans ((isort_perm xs).cons x)
theorem insB_srt {α : Type} {lt : α → α → Bool} (O : SrtO.Swo lt) {x : α} : ∀ {l : List α}, l.Pairwise (fun a b => lt b a = false) → (Mini.insB lt x l).Pairwise (fun a b => lt b a = false)
  | [], _ => List.pairwise_singleton _ _
  | y :: ys, h => by
    obtain ⟨h1, h2⟩ := List.pairwise_cons.mp h
    unfold Mini.insB
    split
    · rename_i q
      refine List.pairwise_cons.mpr ⟨fun z hz => ?_, insB_srt O h2⟩
      rcases List.mem_cons.mp ((insB_perm ys).mem_iff.mp hz) with e | hz
      · rw [e]; exact O.asym _ _ q
      · exact h1 z hz
    · rename_i q
      have q : lt y x = false := by simpa using q
      refine List.pairwise_cons.mpr ⟨fun z hz => ?_, h⟩
      rcases List.mem_cons.mp hz with e | hz
      · rw [e]; exact q
      · exact O.tr _ _ _ q (h1 z hz)
theorem isort_srt {α : Type} {lt : α → α → Bool} (O : SrtO.Swo lt) : ∀ l : List α, (Mini.isort lt l).Pairwise (fun a b => lt b a = false)
  | [] => .nil
  | x :: xs => insB_srt O (isort_srt O xs)
theorem lexP_eq : Mini.lexP = SrtO.lexB := rfl
theorem lexB_swo : SrtO.Swo SrtO.lexB := by
  refine ⟨fun x y h => ?_, fun x y z h1 h2 => ?_⟩
  · have a := SrtO.lexB_iff.mp h
    refine SrtO.lexB_no.mpr ?_
    omega
  · have a := SrtO.lexB_no.mp h1
    have b := SrtO.lexB_no.mp h2
    refine SrtO.lexB_no.mpr ?_
    omega
theorem lexB_anti {a b : Int × Int} (h1 : SrtO.lexB a b = false) (h2 : SrtO.lexB b a = false) : a = b := by
  have q1 := SrtO.lexB_no.mp h1
  have q2 := SrtO.lexB_no.mp h2
  exact Prod.ext (by omega) (by omega)
theorem srt_uniq {α : Type} {lt : α → α → Bool} (O : SrtO.Swo lt) (anti : ∀ a b, lt a b = false → lt b a = false → a = b) {l m : List α} (h1 : l.Pairwise (fun a b => lt b a = false)) (p : l.Perm m) : l = Mini.isort lt m := by
  have p2 : l.Perm (Mini.isort lt m) := p.trans (isort_perm m).symm
  exact p2.eq_of_pairwise (fun a b _ _ q1 q2 => anti a b q2 q1) h1 (isort_srt O m)
theorem pairsI_eq : ∀ {xs : List PV} {ps : List (Int × Int)}, Mini.pairsI xs = some ps → xs = ps.map Mini.prV
  | [], ps, e => by cases e; rfl
  | x :: xs, ps, e => by
    unfold Mini.pairsI at e
    split at e
    · rename_i h; cases h
    · rename_i i j r h
      cases h
      obtain ⟨qs, e1, rfl⟩ := Option.map_eq_some_iff.mp e
      rw [List.map_cons, pairsI_eq e1]; rfl
    · cases e
theorem pairsK_eq : ∀ {xs : List (List Mini.Key)} {ps : List (Int × Int)}, Mini.pairsK xs = some ps → xs = ps.map fun p => [.inl p.1, .inl p.2]
  | [], ps, e => by cases e; rfl
  | x :: xs, ps, e => by
    unfold Mini.pairsK at e
    split at e
    · rename_i h; cases h
    · rename_i i j r h
      cases h
      obtain ⟨qs, e1, rfl⟩ := Option.map_eq_some_iff.mp e
      rw [List.map_cons, pairsK_eq e1]
    · cases e
/-- the pair that stands at a place -/
def prAt (H : Hp) : V → Int × Int
  | .ref t => match H t with
    | some (.tup [.int i, .int j]) => (i, j)
    | _ => (0, 0)
  | _ => (0, 0)
theorem prAt_of {t : Addr} {i j : Int} (h : H t = some (.tup [.int i, .int j])) : prAt H (.ref t) = (i, j) := by
  simp only [prAt, h]
theorem Rp.pr {p : Int × Int} {x : V} (h : Rp G H F (Mini.prV p) x) : ∃ t, x = .ref t ∧ F t ∧ H t = some (.tup [.int p.1, .int p.2]) := by
  obtain ⟨a, vs, rfl, q, r⟩ := h
  obtain ⟨x1, r1, rfl, h1, r⟩ := r
  obtain ⟨x2, r2, rfl, h2, r⟩ := r
  have h1 : x1 = .int p.1 := h1
  have h2 : x2 = .int p.2 := h2
  have r : r2 = [] := r
  subst h1 h2 r
  exact ⟨a, rfl, q.1, q.2⟩
theorem Rps.prs : ∀ {ps : List (Int × Int)} {xs : List V}, Rps G H F (ps.map Mini.prV) xs → (∀ x ∈ xs, ∃ t, x = .ref t ∧ F t ∧ H t = some (.tup [.int (prAt H x).1, .int (prAt H x).2])) ∧ xs.map (prAt H) = ps
  | [], _, h => by
    have h : _ = [] := h
    rw [h]; exact ⟨fun x hx => absurd hx (by simp), rfl⟩
  | p :: ps, _, h => by
    obtain ⟨x, r, rfl, h1, h2⟩ := h
    obtain ⟨i1, i2⟩ := Rps.prs h2
    obtain ⟨t, rfl, ft, ht⟩ := h1.pr
    refine ⟨fun y hy => ?_, ?_⟩
    · rcases List.mem_cons.mp hy with rfl | hy
      · exact ⟨t, rfl, ft, by rw [prAt_of ht]; exact ht⟩
      · exact i1 y hy
    · rw [List.map_cons, i2, prAt_of ht]
theorem Rps.ofPrs : ∀ {ps : List (Int × Int)} {xs : List V}, (∀ x ∈ xs, ∃ t, x = .ref t ∧ F t ∧ H t = some (.tup [.int (prAt H x).1, .int (prAt H x).2])) → xs.map (prAt H) = ps → Rps G H F (ps.map Mini.prV) xs
  | _, [], _, e => by cases e; rfl
  | _, x :: xs, h, e => by
    cases e
    obtain ⟨t, rfl, ft, ht⟩ := h x List.mem_cons_self
    exact ⟨_, _, rfl, ⟨t, _, rfl, ⟨ft, ht⟩, ⟨_, _, rfl, rfl, ⟨_, _, rfl, rfl, rfl⟩⟩⟩, Rps.ofPrs (fun y hy => h y (List.mem_cons_of_mem _ hy)) rfl⟩
theorem Rps.intsOf : ∀ {ns : List Int}, Rps G H F (ns.map .int) (ns.map V.int)
  | [] => rfl
  | n :: ns => ⟨_, _, rfl, rfl, Rps.intsOf⟩
theorem bools_eq : ∀ {xs : List PV} {bs : List Bool}, Mini.bools xs = some bs → xs = bs.map .bl
  | [], bs, e => by cases e; rfl
  | x :: xs, bs, e => by
    unfold Mini.bools at e
    split at e
    · rename_i h; cases h
    · rename_i b r h
      cases h
      obtain ⟨cs, e1, rfl⟩ := Option.map_eq_some_iff.mp e
      rw [List.map_cons, bools_eq e1]
    · cases e
theorem Rps.bls : ∀ {bs : List Bool} {xs : List V}, Rps G H F (bs.map .bl) xs → xs = bs.map V.bl
  | [], _, h => h
  | b :: bs, _, ⟨x, r, e, h1, h2⟩ => by
    rw [e, show x = V.bl b from h1, Rps.bls h2]; rfl
/-- a tuple that stands may be shared -/
theorem Gd.tupIn {b : Addr} {vs : List V} (g : Gd G H F L) (h : H b = some (.tup vs)) : Gd G H (F.more [b]) L := by
  refine g.mono (fun _ z => .inl z) (fun a ha z => ?_) (fun a z => ?_) fun a z => ?_
  · rcases z with z | z
    · exact g.out a ha z
    · have : a = b := by simpa using z
      subst this
      obtain ⟨p, hp, hm⟩ := mem_oL.mp ha
      have := own_is (g.rel p hp) hm
      rw [h] at this
      exact this
  · rcases z with z | z
    · exact g.the a z
    · have : a = b := by simpa using z
      subst this; rw [h]; exact fun z => nomatch z
  · rcases z with z | z
    · exact .inl z
    · have : a = b := by simpa using z
      subst this; rw [h]; exact .inr fun o u e => nomatch e
/-- the key tuples of a dict -/
theorem Gd.keysIn : ∀ {kvs : List (List Mini.Key × PV)} {us : List (List Key × V)} {bs : List Addr} {F : Fz}, Gd G H F L → RpT G H (fun _ => True) kvs us → IsKeys H us bs → ∃ F', (∀ a, F a → F' a) ∧ Gd G H F' L ∧ Rps G H F' (kvs.map fun p => .tup (p.1.map Mini.pvKey)) (bs.map V.ref)
  | [], us, bs, F, g, r, k => by
    have r : us = [] := r
    subst r
    cases k
    exact ⟨F, fun _ z => z, g, rfl⟩
  | (k0, t) :: kvs, us, bs, F, g, ⟨x, r, e, ok, _, h'⟩, k => by
    subst e
    cases k with
    | cons h1 h2 =>
      rename_i b bs
      obtain ⟨F', m, g', r'⟩ := Gd.keysIn g h' h2
      refine ⟨F'.more [b], fun a z => .inl (m a z), g'.tupIn h1, ⟨_, _, rfl, ⟨b, _, rfl, ⟨Fz.more_self, h1⟩, ?_⟩, r'.up fun a z => .inl z⟩⟩
      exact keyR k0 ok
where
  keyR {F : Fz} : ∀ (k : List Mini.Key), k.all kOk = true → Rps G H F (k.map Mini.pvKey) (k.map kV)
    | [], _ => rfl
    | .inl i :: k, h => ⟨_, _, rfl, rfl, keyR k (by simpa [kOk] using h)⟩
    | .inr s :: k, h => ⟨_, _, rfl, ⟨rfl, by have := h; simp [kOk] at this; exact this.1⟩, keyR k (by have := h; simp at this ⊢; exact this.2)⟩

/-! ### isinstance -/
def tyN : Ty → String
  | .int => "int" | .bool => "bool" | .str => "str" | .list => "list" | .tuple => "tuple" | .dict => "dict" | .cls _ => ""
def tyU (G : Gb) : Ty → Value
  | .cls c => .ref (G.cad c)
  | t => .type (tyN t)
def tyV (G : Gb) : Ty → V
  | .cls c => .ref (G.cad c)
  | t => .ty (tyN t)
theorem ty_cls (t : Ty) : ClsV (tyV G t) (tyU G t) := by cases t <;> constructor
def tyOk (cok : Nat → Bool) : Ty → Bool
  | .cls c => cok c
  | _ => true
/-- what is known of the classes that may be asked for -/
structure KOk (G : Gb) (cok : Nat → Bool) : Prop where
  cls : ∀ c, cok c = true → Cls G.K (G.cad c)
  ha : ∀ c, cok c = true → PySem.W.findIn G.K (.ref (G.cad c)) "__class__" = some (some (.builtin "object.__class__"))
  hn : PySem.W.specialIn G.K (.builtin "object.__class__") "__get__" = some (some (.builtin "getset_descriptor.__get__"))
  htk : PySem.W.takesIn G.K (.builtin "object.__class__") = some true
  hm : ∀ c, cok c = true → PySem.W.mroIn G.K (G.cad c) (.type "object") = some true
  own : ∀ c t, cok c = true → tyOk cok t = true → PySem.W.kitOne G.K (.ref (G.cad c)) (tyU G t) = some (match t with
    | .cls d => c == d
    | _ => false)
  blt : ∀ n d, n ∈ ["NoneType", "bool", "int", "str", "list", "tuple", "dict"] → cok d = true → PySem.W.kitOne G.K (.type n) (.ref (G.cad d)) = some false
theorem ty_ok {cok : Nat → Bool} (k : KOk G cok) {v : PV} {x : V} (h : Lk G H v x) (ok : Mini.typeOk cok v = true) : ∃ t, TyX G.K H x t ∧ ∀ ty, tyOk cok ty = true → PySem.W.kitOne G.K t (tyU G ty) = some (Mini.typeIs v ty) := by
  have fin : ∀ (n : String), n ∈ ["NoneType", "bool", "int", "str", "list", "tuple", "dict"] → (∀ ty, (∀ c, ty ≠ .cls c) → kitB n (tyN ty) = some (Mini.typeIs v ty)) → (∀ c, Mini.typeIs v (.cls c) = false) → ∀ ty, tyOk cok ty = true → PySem.W.kitOne G.K (.type n) (tyU G ty) = some (Mini.typeIs v ty) := by
    intro n hn h1 h2 ty ho
    cases ty with
    | cls c => rw [h2]; exact k.blt n c hn ho
    | _ => exact kit_ty (h1 _ fun c e => nomatch e)
  cases v with
  | non =>
    cases h
    refine ⟨_, .base .non, fin "NoneType" (by simp) (fun ty hc => ?_) fun _ => rfl⟩
    cases ty with
    | cls c => exact absurd rfl (hc c)
    | _ => decide +kernel
  | bl b =>
    cases h
    refine ⟨_, .base (.bl b), fin "bool" (by simp) (fun ty hc => ?_) fun _ => rfl⟩
    cases ty with
    | cls c => exact absurd rfl (hc c)
    | _ => simp only [Mini.typeIs]; decide +kernel
  | int i =>
    cases h
    refine ⟨_, .base (.int i), fin "int" (by simp) (fun ty hc => ?_) fun _ => rfl⟩
    cases ty with
    | cls c => exact absurd rfl (hc c)
    | _ => simp only [Mini.typeIs]; decide +kernel
  | str s =>
    cases h.flatS
    refine ⟨_, .base (.str s), fin "str" (by simp) (fun ty hc => ?_) fun _ => rfl⟩
    cases ty with
    | cls c => exact absurd rfl (hc c)
    | _ => simp only [Mini.typeIs]; decide +kernel
  | lst ts =>
    obtain ⟨a, vs, rfl, q, r⟩ := h
    refine ⟨.type "list", ?_, fin "list" (by simp) (fun ty hc => ?_) fun _ => rfl⟩
    · rcases q.2 with q | ⟨o, q⟩
      · exact .base (.lst q)
      · exact .base (.frz q)
    · cases ty with
      | cls c => exact absurd rfl (hc c)
      | _ => simp only [Mini.typeIs]; decide +kernel
  | tup ts =>
    obtain ⟨a, vs, rfl, q, r⟩ := h
    refine ⟨.type "tuple", .base (.tup q.2), fin "tuple" (by simp) (fun ty hc => ?_) fun _ => rfl⟩
    cases ty with
    | cls c => exact absurd rfl (hc c)
    | _ => simp only [Mini.typeIs]; decide +kernel
  | ktup ts =>
    obtain ⟨a, vs, rfl, ⟨o, its, n, h1, h2, h3⟩, r⟩ := h
    refine ⟨.type "tuple", .kTuple h1 h2, fin "tuple" (by simp) (fun ty hc => ?_) fun _ => rfl⟩
    cases ty with
    | cls c => exact absurd rfl (hc c)
    | _ => simp only [Mini.typeIs]; decide +kernel
  | dk ts =>
    obtain ⟨a, vs, rfl, q, r⟩ := h
    refine ⟨.type "dict", ?_, fin "dict" (by simp) (fun ty hc => ?_) fun _ => rfl⟩
    · rcases q.2 with q | ⟨o, q⟩
      · exact .base (.dK q)
      · exact .fDict q
    · cases ty with
      | cls c => exact absurd rfl (hc c)
      | _ => simp only [Mini.typeIs]; decide +kernel
  | ins c fs =>
    obtain ⟨a, dx, us, rfl, fa, e, r⟩ := h
    have ok : cok c = true := ok
    refine ⟨_, .base (.ins e (k.cls c ok) (k.ha c ok) k.hn k.htk (k.hm c ok)), fun ty ho => ?_⟩
    rw [k.own c ty ok ho]
    cases ty <;> rfl
  | _ => cases ok

section
variable {X : Cx} {e a c : Expr} {m ma mc : M W} {mb : M PV} {pos p p2 : Pos} {cok : Nat → Bool}
theorem sv_isi (hK : G.K = X.K) (k : KOk G cok) {t : Ty} (ht : tyOk cok t = true) (hg : Gl X "isinstance") (hm : X.mg "isinstance" = none) (ha : SEb G X a mb) (hc : PE X c (tC (tyV G t)))
    (h1 : starEach [a, c] X.env = (false, eval a X.env) :: starEach [c] X.env) (h2 : starEach [c] X.env = (false, eval c X.env) :: starEach [] X.env) (hpl : (backTo pos (starEach [c] X.env)).any (·.1) = false) :
    SEv G X (.Call (.Name "isinstance" p) [a, c] [] pos) (do let x ← mb; if Mini.typeOk cok x then pure (.sh (.bl ([t].any fun t => Mini.typeIs x t))) else Mini.fail) := by
  intro sl sl' σ H T w ft g hm'
  obtain ⟨v, s1, h3, hm'⟩ := bind_ok.mp hm'
  split at hm'
  · rename_i ok
    obtain ⟨rfl, rfl⟩ := pure_ok.mp hm'
    refine (pe_callB call_isi hg hm boot_isinstance (pa_cons pe_w (pa_cons hc pa_nil h2) h1) (by decide) (by decide) h1 hpl).w ((ha _ _ σ H T v ft g h3).mono fun x H1 ⟨f1, F, g1, v1⟩ => ?_)
    obtain ⟨tv, ty, kt⟩ := ty_ok k v1.lk ok
    refine ⟨x, tyV G t, tv, tyU G t, Mini.typeIs v t, rfl, ty_cls t, hK ▸ ty, by rw [← hK]; exact kt t ht, f1, ⟨F, g1.sh ?_⟩⟩
    show V.bl _ = V.bl _
    simp
  · exact (fail_ok.mp hm').elim
theorem TyX.alloc {K : PySem.W.Frag} {x : V} {t : Value} {q : Addr} {o : HO} (h : TyX K H x t) (hq : H q = none) : TyX K (upd H q o) x t := by
  have up : ∀ {a : Addr} {u : HO}, H a = some u → upd H q o a = some u := fun {a u} e => by
    rw [upd_ne fun z => by rw [z, hq] at e; cases e]; exact e
  cases h with
  | base h =>
    cases h with
    | non => exact .base .non
    | bl b => exact .base (.bl b)
    | int i => exact .base (.int i)
    | str s => exact .base (.str s)
    | flt f => exact .base (.flt f)
    | lst e => exact .base (.lst (up e))
    | frz e => exact .base (.frz (up e))
    | tup e => exact .base (.tup (up e))
    | dK e => exact .base (.dK (up e))
    | dT e => exact .base (.dT (up e))
    | ins e a b c d f => exact .base (.ins (up e) a b c d f)
  | byt b => exact .byt b
  | set e => exact .set (up e)
  | kList e c => exact .kList e c
  | kTuple e c => exact .kTuple e c
  | kDict e c => exact .kDict e c
  | fTuple e => exact .fTuple (up e)
  | fDict e => exact .fDict (up e)
theorem sv_isi2 (hK : G.K = X.K) (k : KOk G cok) {t t2 : Ty} {c2 : Expr} {kk : Nat} {tpos : Pos} (ht : tyOk cok t = true) (ht2 : tyOk cok t2 = true) (hg : Gl X "isinstance") (hm : X.mg "isinstance" = none) (ha : SEb G X a mb) (hc : PE X c (tC (tyV G t))) (hc2 : PE X c2 (tC (tyV G t2)))
    (h1 : starEach [a, .Tuple [c, c2] kk tpos] X.env = (false, eval a X.env) :: starEach [.Tuple [c, c2] kk tpos] X.env) (hc1 : starEach [c, c2] X.env = (false, eval c X.env) :: starEach [c2] X.env) (hc3 : starEach [c2] X.env = (false, eval c2 X.env) :: starEach [] X.env) :
    SEv G X (.Call (.Name "isinstance" p) [a, .Tuple [c, c2] kk tpos] [] pos) (do let x ← mb; if Mini.typeOk cok x then pure (.sh (.bl ([t, t2].any fun t => Mini.typeIs x t))) else Mini.fail) := by
  intro sl sl' σ H T w ft g hm'
  obtain ⟨v, s1, h3, hm'⟩ := bind_ok.mp hm'
  split at hm'
  · rename_i ok
    obtain ⟨rfl, rfl⟩ := pure_ok.mp hm'
    refine (pe_callB call_isiT hg hm boot_isinstance (pa_cons pe_w (pa_cons (pe_tup (pa_cons hc (pa_cons hc2 pa_nil hc3) hc1)) pa_nil rfl) h1) (by decide) (by decide) h1 rfl).w ((ha _ _ σ H T v ft g h3).mono fun x H1 ⟨f1, F, g1, v1⟩ => ?_)
    obtain ⟨tv, ty, kt⟩ := ty_ok k v1.lk ok
    refine ⟨by show 2 ≤ sizeLine; decide, fun q hq => ⟨x, q, _, tv, [tyU G t, tyU G t2], (Mini.typeIs v t || Mini.typeIs v t2), rfl, upd_same, .cons (ty_cls t) (.cons (ty_cls t2) .nil), TyX.alloc (hK ▸ ty) hq, ?_, f1, F, (g1.alloc hq).sh ?_⟩⟩
    · rw [← hK]
      refine kitAny_cons (kt t ht) (fun e => ?_) fun e => by rw [e]; rfl
      refine kitAny_cons (kt t2 ht2) (fun e2 => by rw [e, e2]; exact kitAny_nil) fun e2 => by rw [e2, Bool.or_true]
    · show V.bl _ = V.bl _
      simp
  · exact (fail_ok.mp hm').elim
end
end Snd
end

section
set_option Elab.async false
set_option linter.all false
set_option maxRecDepth 100000
/-! S12: built-in functions of one argument. -/
namespace Snd
open PySem PySem.Spec L2
open PyProof.Rows hiding St
open Mini (PV W Sl M CR Bi Ty)
variable {G : Gb} {H H' : Hp} {F F' : Fz} {L L' A B T : List WV} {σ : St}

def biV : Bi → Value
  | .len => .builtin "len" | .int => .type "int" | .abs => .builtin "abs" | .str => .type "str" | .repr => .builtin "repr" | .bool => .type "bool"
  | .min => .builtin "min" | .max => .builtin "max" | .sum => .builtin "sum" | .sorted => .builtin "sorted" | .tuple => .type "tuple" | .list => .type "list"
  | .dictK => .type "dict" | .dictT => .type "dict" | .lenSet => .none | .all => .builtin "all" | .any => .builtin "any" | .rng => .type "range"
section
variable {X : Cx}
theorem lv_seq {K : PySem.W.Frag} {a : Addr} {xs : List V} (h : SqL K H a xs ∨ SqT K H a xs) : LenV K (.ref a) H xs.length := by
  rcases h with h | h
  · exact .inl ⟨xs, h, rfl⟩
  · exact .inr ⟨xs, h, rfl⟩
theorem rpK_len : ∀ {kvs : List (Mini.Key × PV)} {us : List (Key × V)}, RpK G H F kvs us → kvs.length = us.length
  | [], _, h => by rw [show _ = [] from h]; rfl
  | _ :: kvs, _, ⟨x, r, e, _, _, h⟩ => by rw [e, List.length_cons, List.length_cons, rpK_len h]
theorem rpT_len : ∀ {kvs : List (List Mini.Key × PV)} {us : List (List Key × V)}, RpT G H F kvs us → kvs.length = us.length
  | [], _, h => by rw [show _ = [] from h]; rfl
  | _ :: kvs, _, ⟨x, r, e, _, _, h⟩ => by rw [e, List.length_cons, List.length_cons, rpT_len h]
theorem call_lenK : CallR X (.builtin "len") (fun xs H Q => ∃ a kvs, xs = [V.ref a] ∧ Rd H a (.dK kvs) ∧ Q (.int kvs.length) H) := by
  intro pins s σ H xs us Q I r h
  obtain ⟨a, kvs, rfl, ha, q⟩ := h
  obtain ⟨u, rfl, ru⟩ := vals1 r
  cases ru
  exact d_len I ha fun t s' I' => ⟨.int kvs.length, H, I', ⟨_, rfl⟩, q⟩
theorem call_lenT : CallR X (.builtin "len") (fun xs H Q => ∃ a kvs, xs = [V.ref a] ∧ Rd H a (.dT kvs) ∧ Q (.int (kvs.length : Nat)) H) := by
  intro pins s σ H xs us Q I r h
  obtain ⟨p, kvs, rfl, hp, q⟩ := h
  obtain ⟨u, rfl, rx⟩ := vals1 r
  obtain rfl : u = .ref p := rx
  obtain ⟨z, hd, ys, rel, dd⟩ := dt_rd I.hok hp
  have hl : kvs.length = ys.length := Paired.length rel
  refine call_len_dictH hd dd (by rw [← hl]; rw [sizeLine_eq] at z; omega) ?_
  rw [← hl]
  exact ⟨.int ((kvs.length : Nat) : Int), H, I.tok _, ⟨_, rfl⟩, q⟩
/-- sorted(d), keys pairs of intsM -/
theorem cr_sortedDT (hc : X.calm = true) : CallR X (.builtin "sorted") (fun vs H Q => ∃ (a : Addr) (kvs : List (List Key × V)), vs = [V.ref a] ∧ Rd H a (.dT kvs) ∧ (∀ p ∈ kvs, ∃ i j : Int, p.1 = [.inl i, .inl j]) ∧
    ∀ (bs : List Addr) (ys : List V) (p : Addr), IsKeys H kvs bs → SrtO.Srtd (ltP (prAt H)) ys → SrtO.Stb (ltP (prAt H)) ys (bs.map V.ref) → H p = none → Q (.ref p) (upd H p (.lst ys))) := by
  intro pins s σ H vs us Q I r h
  obtain ⟨d, kvs, rfl, hd, hk, q⟩ := h
  obtain ⟨u, rfl, ru⟩ := vals1 r
  cases ru
  obtain ⟨z, hs, ks, pr, o, es, ep, ho, hx, hdt, he, hn⟩ := (show ObjOk X.prog X.w H s.heap d (.dT kvs) from hd.ok I.hok)
  have l1 : es.size = ks.length := size_of_entries he
  have l2 : kvs.length = ks.length := Paired.length pr
  have hkeys := isKeys_of pr
  refine Calls.call_function_entry PyProof.Rows.kind_sorted PyProof.Rows.plain_sorted PyProof.Rows.entry_sorted (PyProof.Rows.args_sorted1 _) ?_
  unfold Builtin.«sorted»
  refine wpAny_bind (m := checkCount "sorted" 1 1 _) (wpAny_pure ?_)
  refine wpAny_bind (PySem.W.kdu_collect (A := X.A.in1) (kdl_raw hs hx hdt) (I.ok.hd hc) ho (by omega) fun h' tk acc' kp it => ?_)
  have ea : acc'.toList = (ks.map fun x => x.2.1).map Value.ref := by
    rw [List.map_map]
    have hl : acc'.toList.length = ks.length := by rw [Array.length_toList, it.1]; exact l1
    apply List.ext_getElem?
    intro j
    rw [List.getElem?_map]
    cases hj : acc'.toList[j]? with
    | none =>
      have h1 := List.getElem?_eq_none_iff.mp hj
      rw [List.getElem?_eq_none (by omega)]
      all_goals rfl
    | some v =>
      obtain ⟨en, hen, hv⟩ := it.2 j v (by rw [← Array.getElem?_toList]; exact hj)
      have qe := entry_at he j
      rw [hen] at qe
      cases hb : ks[j]? with
      | none =>
        rw [hb] at qe
        exact nomatch (show some en = none from qe)
      | some b =>
        rw [hb] at qe
        have e2 : en = entryOfKey (tupleKind (mixKind X.prog X.w)) b := Option.some.inj qe
        rw [hv, e2]
        all_goals rfl
  have I1 : Inv X pins σ H { s with heap := h', toks := tk } := I.kept kp
  have lacc : acc'.toList.length = ks.length := by rw [ea, List.length_map, List.length_map]
  refine wpAny_bind (wpAny_newList ?_ (by rw [lacc]; omega))
  have hoL : (h'.push (seqObj "list" acc'.toList.toArray 0)).get? h'.objs.size = some (seqObj "list" acc'.toList.toArray 0) := Heap.get?_push_size _ rfl
  show wpAny _ _ _ _ _ { s with heap := h'.push (seqObj "list" acc'.toList.toArray 0), toks := tk }
  have I2 : Inv X pins σ H { s with heap := h'.push (seqObj "list" acc'.toList.toArray 0), toks := tk } := I1.kept (t' := tk) fun b o e => Heap.get?_push_of_some _ e
  have pp : ∀ p ∈ kvs.zip (ks.map fun x => x.2.1), ∃ i j : Int, H p.2 = some (.tup [.int i, .int j]) := fun p hp => keysPr hk hkeys p hp
  have hpr : ∀ c ∈ ks.map (fun x => x.2.1), ∃ i j : Int, H c = some (.tup [.int i, .int j]) := fun c hc' => by
    obtain ⟨n, hn'⟩ := List.getElem?_of_mem hc'
    have hlk : n < kvs.length := by
      have := (List.getElem?_eq_some_iff.mp hn').1
      rw [List.length_map] at this; omega
    exact pp (kvs[n], c) (List.mem_of_getElem? (i := n) (by rw [List.getElem?_zip_eq_some]; exact ⟨List.getElem?_eq_getElem hlk, hn'⟩))
  refine wpAny_bind (wpAny_holding (wpAny_call_entry PyProof.Rows.slot_list_sort ⟨_, hoL, rfl⟩ PyProof.Rows.entry_list_sort
    (SrtO.list_sort_ord (ltv := fun v u => SrtO.lexB (prAt H (backV v)) (prAt H (backV u))) (s := { s with heap := h'.push (seqObj "list" acc'.toList.toArray 0), toks := tk }) (SrtO.swo_lex fun v => prAt H (backV v)) hoL (by rw [lacc]; omega)
      (fun h2 => SrtO.pairs_sortableO (k := fun v => prAt H (backV v)) (by omega) (fun v hv => ?_) fun o' e' => ?_) fun out h1 h2 => ⟨_, rfl, ?_⟩)
    (PyProof.Rows.args_list_sort _)))
  · rw [ea] at hv
    obtain ⟨c, hc', rfl⟩ := List.mem_map.mp hv
    obtain ⟨i, j, hcc⟩ := hpr c hc'
    obtain ⟨_, its2, r2, o2, ho2, hc2, n2, hd2⟩ := I2.hok _ _ hcc
    obtain ⟨u1, u2, rfl, ri, rj⟩ := vals2 r2
    obtain ⟨t1, rfl⟩ := ri
    obtain ⟨t2, rfl⟩ := rj
    have e3 : prAt H (backV (.ref c)) = (i, j) := prAt_of hcc
    exact ⟨c, o2, t1, t2, n2, rfl, ho2, hc2, by rw [e3]; exact hd2⟩
  · have e' : some o' = some (seqObj "list" acc'.toList.toArray 0) := e'.symm.trans hoL
    cases e'
    intro c
    exact absurd (Value.type.inj c) (by decide)
  · obtain ⟨e', he'⟩ := PyProof.Rows.sortedHeap_at (vs := acc'.toList) (out := out.toArray) hoL
    have h3 : ∀ u ∈ out, ∃ a, u = Value.ref a := fun u hu => by
      have := h2.perm.mem_iff.mp hu
      rw [ea] at this
      obtain ⟨c, _, rfl⟩ := List.mem_map.mp this
      exact ⟨c, rfl⟩
    have hb : SrtO.Stb (ltP (prAt H)) (out.map backV) ((ks.map fun x => x.2.1).map V.ref) := by
      have h4 := SrtO.Stb.map (ltP_swo (prAt H)) backV h2
      rw [ea, List.map_map] at h4
      exact h4
    refine wpAny_pure ⟨_, rfl, .ref h'.objs.size, upd H h'.objs.size (.lst (out.map backV)), I1.laid (t' := tk) (fun b u e => ?_) (Nat.le_refl _)
      (show ObjOk X.prog X.w _ _ _ (.lst (out.map backV)) from ⟨?_, out, e', vals_back h3, he'⟩), rfl, q _ _ _ hkeys (SrtO.srtd_map h1) hb (I1.hok.fresh (Nat.le_refl _))⟩
    · have hb : b < h'.objs.size := Heap.lt_size e
      rw [PyProof.Rows.sortedHeap_old (Nat.ne_of_lt hb) (by rw [size_push']; exact Nat.lt_succ_of_lt hb)]
      exact Heap.get?_push_of_some _ e
    · rw [hb.len, List.length_map, List.length_map]; omega
where
  keysPr {H : Hp} : ∀ {kvs : List (List Key × V)} {bs : List Addr}, (∀ p ∈ kvs, ∃ i j : Int, p.1 = [.inl i, .inl j]) → IsKeys H kvs bs → ∀ p ∈ kvs.zip bs, ∃ i j : Int, H p.2 = some (.tup [.int i, .int j])
    | [], _, _, _, p, hp => by simp at hp
    | k :: kvs, [], _, h, p, hp => by simp at hp
    | k :: kvs, b :: bs, hk, .cons h1 h2, p, hp => by
      rcases List.mem_cons.mp (by simpa [List.zip_cons_cons] using hp) with e | hp
      · obtain ⟨i, j, e1⟩ := hk k List.mem_cons_self
        rw [e]
        refine ⟨i, j, ?_⟩
        show H b = _
        rw [e1] at h1
        exact h1
      · exact keysPr (fun p hp => hk p (List.mem_cons_of_mem _ hp)) h2 p hp
theorem ok_ofString (s : String) : PyData.strOk (Str.ofString s) = true := by
  rw [Str.ofString_eq_toList]
  unfold PyData.strOk
  rw [Array.all_eq_true']
  intro c hc
  have : c ∈ s.toList.map Char.toNat := by simpa using hc
  obtain ⟨ch, _, rfl⟩ := List.mem_map.mp this
  have := ch.valid
  simp only [decide_eq_true_eq]
  rcases this with h | h
  · exact Nat.lt_trans h (by decide)
  · exact h.2
theorem RpT.pr : ∀ {kvs : List (List Mini.Key × PV)} {us : List (List Key × V)} {ps : List (Int × Int)}, RpT G H F kvs us → Mini.pairsK (kvs.map (·.1)) = some ps → (∀ p ∈ us, ∃ i j : Int, p.1 = [.inl i, .inl j]) ∧ ∀ bs, IsKeys H us bs → (bs.map V.ref).map (prAt H) = ps ∧ ∀ x ∈ bs.map V.ref, ∃ t, x = .ref t ∧ H t = some (.tup [.int (prAt H x).1, .int (prAt H x).2])
  | [], us, ps, h, e => by
    have h : us = [] := h
    subst h
    cases e
    exact ⟨fun p hp => absurd hp (by simp), fun bs k => by cases k; exact ⟨rfl, fun x hx => absurd hx (by simp)⟩⟩
  | (k, t) :: kvs, us, ps, h, e => by
    obtain ⟨x, r, rfl, ok, _, h'⟩ := h
    rw [List.map_cons] at e
    unfold Mini.pairsK at e
    split at e
    · rename_i h; cases h
    · rename_i i j r' hh
      cases hh
      obtain ⟨qs, e1, rfl⟩ := Option.map_eq_some_iff.mp e
      obtain ⟨i1, i2⟩ := RpT.pr h' e1
      refine ⟨fun p hp => ?_, fun bs k => ?_⟩
      · rcases List.mem_cons.mp hp with rfl | hp
        · exact ⟨i, j, rfl⟩
        · exact i1 p hp
      · cases k with
        | cons h1 h2 =>
          rename_i b bs
          have h1 : H b = some (.tup [.int i, .int j]) := h1
          obtain ⟨j1, j2⟩ := i2 bs h2
          refine ⟨by rw [List.map_cons, List.map_cons, j1, prAt_of h1], fun x hx => ?_⟩
          rcases List.mem_cons.mp hx with rfl | hx
          · exact ⟨b, rfl, by rw [prAt_of h1]; exact h1⟩
          · exact j2 x hx
    · cases e
theorem bi_ok (b : Bs G X) {rp : PV → Option Str} {k : Bi} (hk : k ≠ .repr) (hk2 : k ≠ .rng) (hk3 : k ≠ .lenSet) (hk4 : k ≠ .dictK) (hk5 : k ≠ .dictT) {v : PV} {x : V} {w : W} {Q : VK} (gd : Gd G H F L) (h1 : Vw G H F v x) (e : Mini.builtin rp k [v] = some w)
    (q : ∀ z H', Good G H' ((w, z) :: L) → Q z H') : CallW X (biV k) [x] H Q := by
  have int : ∀ {i : Int}, w = .sh (.int i) → Q (.int i) H := fun e => q _ _ (by rw [e]; exact ⟨F, gd.sh rfl⟩)
  have bl : ∀ {i : Bool}, w = .sh (.bl i) → Q (.bl i) H := fun e => q _ _ (by rw [e]; exact ⟨F, gd.sh rfl⟩)
  unfold Mini.builtin at e
  split at e <;> rename_i hh <;> try (first | (exact absurd rfl hk) | (exact absurd rfl hk2) | (exact absurd rfl hk3) | (exact absurd rfl hk4) | (exact absurd rfl hk5) | (cases hh; done))
  · cases hh
    split at e
    · rename_i hz
      obtain ⟨rfl, so⟩ := h1
      cases e
      exact CallR.w call_len ⟨_, _, rfl, ⟨by rw [SZ_eq]; exact hz, rfl⟩, int rfl⟩
    · cases e
  · cases hh; cases e
    obtain ⟨a, vs, rfl, rd, rr⟩ := h1
    exact CallR.w call_len ⟨_, _, rfl, lv_seq (.inl (.inl rd)), by rw [← rr.length]; exact int rfl⟩
  · cases hh; cases e
    obtain ⟨a, vs, rfl, rd, rr⟩ := h1
    exact CallR.w call_len ⟨_, _, rfl, lv_seq (.inr (.inl (.inl rd.2))), by rw [← rr.length]; exact int rfl⟩
  · cases hh; cases e
    obtain ⟨a, vs, rfl, rd, rr⟩ := h1
    exact CallR.w call_len ⟨_, _, rfl, lv_seq (.inr (.inr (b.K ▸ rd))), by rw [← rr.length]; exact int rfl⟩
  · cases hh; cases e
    obtain ⟨a, vs, rfl, rd, rr⟩ := h1
    exact CallR.w call_lenK ⟨_, _, rfl, rd, by rw [← rpK_len rr]; exact int rfl⟩
  · cases hh; cases e
    obtain ⟨a, vs, rfl, rd, rr⟩ := h1
    exact CallR.w call_lenT ⟨_, _, rfl, rd, by rw [← rpT_len rr]; exact int rfl⟩
  · cases hh; cases e; cases h1
    exact CallR.w call_int1 (.inl ⟨_, rfl, int rfl⟩)
  · cases hh; cases e; cases h1
    exact CallR.w call_int1 (.inr ⟨_, rfl, int rfl⟩)
  · cases hh; cases e; cases h1
    exact CallR.w call_abs ⟨_, rfl, int rfl⟩
  · cases hh
    split at e
    · rename_i hz
      cases e; cases h1
      exact CallR.w call_str_int ⟨_, rfl, hz, q _ _ ⟨F, gd.sh ⟨rfl, ok_ofString _⟩⟩⟩
    · cases e
  · cases hh; cases e
    obtain ⟨rfl, so⟩ := h1
    exact CallR.w _root_.SkE.call_str_str ⟨_, rfl, q _ _ ⟨F, gd.sh ⟨rfl, so⟩⟩⟩
  · cases hh; cases e; cases h1
    exact CallR.w call_bool1 (.inl ⟨_, rfl, bl rfl⟩)
  · cases hh; cases e; cases h1
    exact CallR.w call_bool1 (.inr ⟨_, rfl, bl rfl⟩)
  · cases hh
    obtain ⟨ns, e1, rfl⟩ := Option.map_eq_some_iff.mp e
    obtain ⟨a, vs, rfl, rd, rr⟩ := h1
    rw [ints_eq e1] at rr
    rw [Rps.intsM rr] at rd
    exact CallR.w (cr_sum b.calm) ⟨a, ns, rfl, .inl rd, int rfl⟩
  · cases hh
    obtain ⟨a, vs, rfl, rd, rr⟩ := h1
    split at e
    · rename_i ps e1
      cases e
      rw [pairsI_eq e1] at rr
      obtain ⟨p1, p2⟩ := rr.prs
      refine CallR.w cr_sortedPO ⟨a, vs, prAt H, rfl, .inl rd, fun x hx => ?_, fun ys p hs hb hp => q _ _ ⟨F, gd.newLst hp ?_⟩⟩
      · obtain ⟨t, e1, _, e2⟩ := p1 x hx
        exact ⟨t, e1, e2⟩
      · refine Rps.ofPrs (fun x hx => p1 x (hb.perm.mem_iff.mp hx)) ?_
        rw [lexP_eq, ← p2]
        exact srt_uniq lexB_swo (fun a b q1 q2 => lexB_anti q1 q2) (List.pairwise_map.mpr hs) (hb.perm.map _)
    · obtain ⟨ns, e1, rfl⟩ := Option.map_eq_some_iff.mp e
      rw [ints_eq e1] at rr
      rw [Rps.intsM rr] at rd
      refine CallR.w cr_sortedI ⟨a, ns, rfl, .inl rd, fun ns' p hp hs hn => q _ _ ⟨F, gd.newLst hn ?_⟩⟩
      have : ns' = Mini.isort Mini.ltI ns := by
        refine srt_uniq (lt := Mini.ltI) ⟨fun x y h => ?_, fun x y z h1 h2 => ?_⟩ (fun a b h1 h2 => ?_) (hs.imp fun {a b} h => ?_) hp
        all_goals (simp only [Mini.ltI, decide_eq_true_eq, decide_eq_false_iff_not] at *; omega)
      rw [this]
      exact Rps.intsOf
  · cases hh
    obtain ⟨ps, e1, rfl⟩ := Option.map_eq_some_iff.mp e
    obtain ⟨a, us, rfl, rd, rr⟩ := h1
    obtain ⟨k1, k2⟩ := RpT.pr rr e1
    refine CallR.w (cr_sortedDT b.calm) ⟨a, us, rfl, rd, k1, fun bs ys p hk hs hb hp => ?_⟩
    obtain ⟨j1, j2⟩ := k2 bs hk
    obtain ⟨F', m, g', r'⟩ := Gd.keysIn gd (rr.up fun _ _ => trivial) hk
    refine q _ _ ⟨F', g'.newLst hp ?_⟩
    have fb : ∀ x ∈ bs.map V.ref, ∃ t, x = .ref t ∧ F' t := fun x hx => by
      obtain ⟨n, hn⟩ := List.getElem?_of_mem hx
      have hl := r'.length
      obtain ⟨pv, hpv⟩ : ∃ pv, (us.length = us.length → (List.map (fun (p : List Mini.Key × PV) => PV.tup (p.1.map Mini.pvKey)) _)[n]? = some pv) := ⟨_, fun _ => List.getElem?_eq_getElem (by rw [hl]; exact (List.getElem?_eq_some_iff.mp hn).1)⟩
      obtain ⟨z, hz, hr⟩ := r'.get (hpv rfl)
      rw [hn] at hz
      cases hz
      have hm := List.mem_of_getElem? (hpv rfl)
      obtain ⟨p0, _, rfl⟩ := List.mem_map.mp hm
      obtain ⟨t, vs, e1, q1, _⟩ := hr
      exact ⟨t, e1, q1.1⟩
    refine Rps.ofPrs (fun x hx => ?_) ?_
    · have hx := hb.perm.mem_iff.mp hx
      obtain ⟨t, e1, ht⟩ := j2 x hx
      obtain ⟨t', e2, ft⟩ := fb x hx
      rw [e1] at e2
      cases e2
      exact ⟨t, e1, ft, ht⟩
    · rw [lexP_eq, ← j1]
      exact srt_uniq lexB_swo (fun a b q1 q2 => lexB_anti q1 q2) (List.pairwise_map.mpr hs) (hb.perm.map _)
  · cases hh; cases e
    have h1' := h1
    obtain ⟨a, vs, rfl, rd, rr⟩ := h1
    exact CallR.w call_tuple_of ⟨a, vs, rfl, .inr ⟨.inl (.inl rd.2), q _ _ ⟨F, gd.sh h1'⟩⟩⟩
  · cases hh; cases e
    obtain ⟨a, vs, rfl, rd, rr⟩ := h1
    exact CallR.w call_tuple_of ⟨a, vs, rfl, .inl ⟨.inl rd, fun p hp => q _ _ ⟨_, gd.newTup hp rr⟩⟩⟩
  · cases hh; cases e
    obtain ⟨a, vs, rfl, rd, rr⟩ := h1
    exact CallR.w call_list_of ⟨a, vs, rfl, .inl (.inl rd), fun p hp => q _ _ ⟨_, gd.newLst hp rr⟩⟩
  · cases hh; cases e
    obtain ⟨a, vs, rfl, rd, rr⟩ := h1
    exact CallR.w call_list_of ⟨a, vs, rfl, .inr (.inl (.inl rd.2)), fun p hp => q _ _ ⟨_, gd.newLst hp rr⟩⟩
  · cases hh; cases e
    obtain ⟨a, vs, rfl, rd, rr⟩ := h1
    exact CallR.w call_list_of ⟨a, vs, rfl, .inr (.inr (b.K ▸ rd)), fun p hp => q _ _ ⟨_, gd.newLst hp rr⟩⟩
  · cases hh; cases e
    obtain ⟨a, us, rfl, rd, rr⟩ := h1
    refine CallR.w (call_list_dT b.calm) ⟨a, us, rfl, rd, fun p bs hp hk => ?_⟩
    obtain ⟨F', m, g', r'⟩ := Gd.keysIn gd (rr.up fun _ _ => trivial) hk
    exact q _ _ ⟨F', g'.newLst hp r'⟩
  · cases hh
    obtain ⟨bs, e1, rfl⟩ := Option.map_eq_some_iff.mp e
    obtain ⟨a, vs, rfl, rd, rr⟩ := h1
    rw [bools_eq e1] at rr
    rw [Rps.bls rr] at rd
    exact CallR.w (cr_all b.calm) ⟨a, bs, rfl, .inl rd, bl rfl⟩
  · cases hh
    obtain ⟨bs, e1, rfl⟩ := Option.map_eq_some_iff.mp e
    obtain ⟨a, vs, rfl, rd, rr⟩ := h1
    rw [bools_eq e1] at rr
    rw [Rps.bls rr] at rd
    exact CallR.w (cr_any b.calm) ⟨a, bs, rfl, .inl rd, bl rfl⟩
  · cases e
end
end Snd
end

section
set_option Elab.async false
set_option linter.all false
set_option maxRecDepth 100000
/-! S13: calls of built-in functions, methods of texts, dicts, lists. -/
namespace Snd
open PySem PySem.Spec L2
open PyProof.Rows hiding St
open Mini (PV W Sl M CR Bi Ty)
variable {G : Gb} {H H' : Hp} {F F' : Fz} {L L' A B T : List WV} {σ : St}

section
variable {X : Cx} {e a c : Expr} {es : List Expr} {m ma mc : M W} {mb : M PV} {ms : M (List PV)} {pos p p2 : Pos} {x : Str} {t : TA}
/-- a built-in function or type by its name -/
theorem pe_callF {f : Value} (hf : (∃ id, f = .builtin id) ∨ ∃ T, f = .type T) (hg : Gl X x) (hm : X.mg x = none) (hv : bootBuiltins x = some f) (ha : PA X (e :: es) t) (hn : x ≠ "__name__") (hdb : (x == ("__debug__" : Str)) = false)
    (he : starEach (e :: es) X.env = (false, eval e X.env) :: starEach es X.env) (hpl : (backTo pos (starEach es X.env)).any (·.1) = false) : PE X (.Call (.Name x p) (e :: es) [] pos) (tCB (CallW X f) t) := by
  rcases hf with ⟨id, rfl⟩ | ⟨T, rfl⟩
  · exact pe_callB call_w hg hm hv ha hn hdb he hpl
  · exact pe_callTy call_w hg hm hv ha hn hdb he hpl
theorem biV_f {k : Bi} (hk : k ≠ .lenSet) : (∃ id, biV k = .builtin id) ∨ ∃ T, biV k = .type T := by
  cases k <;> first | exact .inl ⟨_, rfl⟩ | exact .inr ⟨_, rfl⟩ | exact absurd rfl hk
theorem sv_blt1 (b : Bs G X) {rp : PV → Option Str} {k : Bi} (hk : k ≠ .repr) (hk2 : k ≠ .rng) (hk3 : k ≠ .lenSet) (hk4 : k ≠ .dictK) (hk5 : k ≠ .dictT) (hg : Gl X x) (hm : X.mg x = none) (hv : bootBuiltins x = some (biV k)) (hn : x ≠ "__name__") (hdb : (x == ("__debug__" : Str)) = false)
    (ha : SEb G X a mb) (he : starEach [a] X.env = (false, eval a X.env) :: starEach [] X.env) :
    SEv G X (.Call (.Name x p) [a] [] pos) (do let v ← mb; Mini.ofO (Mini.builtin rp k [v])) := by
  intro sl sl' σ H T w ft g hm'
  obtain ⟨v, s1, h3, hm'⟩ := bind_ok.mp hm'
  obtain ⟨e4, rfl⟩ := ofO_ok.mp hm'
  refine (pe_callF (biV_f hk3) hg hm hv (pa_cons pe_w pa_nil he) hn hdb he rfl).w ((ha _ _ σ H T v ft g h3).mono fun z H1 ⟨f1, F, g1, v1⟩ => ?_)
  exact bi_ok b hk hk2 hk3 hk4 hk5 g1 v1 e4 fun z H' g' => ⟨f1, g'⟩
theorem sv_blt2 (b : Bs G X) {rp : PV → Option Str} {k : Bi} (hk : k = .min ∨ k = .max) (hg : Gl X x) (hm : X.mg x = none) (hv : bootBuiltins x = some (biV k)) (hn : x ≠ "__name__") (hdb : (x == ("__debug__" : Str)) = false)
    (hs : SEs G X [a, c] ms) (he : starEach [a, c] X.env = (false, eval a X.env) :: starEach [c] X.env) (hpl : (backTo pos (starEach [c] X.env)).any (·.1) = false) :
    SEv G X (.Call (.Name x p) [a, c] [] pos) (do let vs ← ms; Mini.ofO (Mini.builtin rp k vs)) := by
  intro sl sl' σ H T w ft g hm'
  obtain ⟨vs, s1, h3, hm'⟩ := bind_ok.mp hm'
  obtain ⟨e4, rfl⟩ := ofO_ok.mp hm'
  refine (pe_callF (biV_f (by rcases hk with rfl | rfl <;> exact fun z => nomatch z)) hg hm hv pa_w hn hdb he hpl).w ((hs _ _ σ H T vs ft g h3).mono fun zs H1 ⟨f1, hl, g1⟩ => ?_)
  obtain ⟨F, g1⟩ := g1
  obtain ⟨r1, g2⟩ := shs_rps hl g1
  rcases hk with rfl | rfl
  · unfold Mini.builtin at e4
    split at e4 <;> rename_i hk hv <;> first | (cases hk; done) | skip
    · obtain ⟨y1, q1, rfl, h1, r1⟩ := r1
      obtain ⟨y2, q2, rfl, h2, r1⟩ := r1
      cases e4
      cases h1; cases h2
      have r1 : q2 = [] := r1
      subst r1
      exact CallR.w (call_min2 b.calm) ⟨_, _, rfl, f1, F, g2.sh rfl⟩
    · cases e4
  · unfold Mini.builtin at e4
    split at e4 <;> rename_i hk hv <;> first | (cases hk; done) | skip
    · obtain ⟨y1, q1, rfl, h1, r1⟩ := r1
      obtain ⟨y2, q2, rfl, h2, r1⟩ := r1
      cases e4
      cases h1; cases h2
      have r1 : q2 = [] := r1
      subst r1
      exact CallR.w (call_max2 b.calm) ⟨_, _, rfl, f1, F, g2.sh rfl⟩
    · cases e4

/-! ### join -/
theorem glued_fold (s : Array Nat) : ∀ (r : List Str) (a : Array Nat), r.foldl (fun acc p => acc ++ s ++ p.cps) a = a ++ (r.flatMap fun p => s.toList ++ p.cps.toList).toArray
  | [], a => by simp
  | p :: r, a => by
    rw [List.foldl_cons, glued_fold s r, List.flatMap_cons]
    apply Array.toList_inj.mp
    simp
theorem glued_join (s : Str) : ∀ ys : List Str, Builtin.Str.glued s ys = Str.join s ys
  | [] => rfl
  | [x] => rfl
  | x :: y :: r => by
    have ih := glued_join s (y :: r)
    show _ = x ++ s ++ Str.join s (y :: r)
    rw [← ih]
    unfold Builtin.Str.glued
    apply Str.ext'
    show List.foldl _ _ _ = (x.cps ++ s.cps) ++ List.foldl _ _ _
    rw [glued_fold, glued_fold]
    apply Array.toList_inj.mp
    simp
theorem strs_eq : ∀ {xs : List PV} {ys : List Str}, Mini.strsM xs = some ys → xs = ys.map .str
  | [], ys, e => by cases e; rfl
  | x :: xs, ys, e => by
    unfold Mini.strsM at e
    split at e
    · rename_i h; cases h
    · rename_i s r h
      cases h
      obtain ⟨zs, e1, rfl⟩ := Option.map_eq_some_iff.mp e
      rw [List.map_cons, strs_eq e1]
    · cases e
theorem Rps.strsM : ∀ {ys : List Str} {xs : List V}, Rps G H F (ys.map .str) xs → xs = ys.map V.str ∧ ∀ y ∈ ys, PyData.strOk y = true
  | [], _, h => ⟨h, fun y hy => absurd hy (by simp)⟩
  | y :: ys, _, ⟨x, r, e, h1, h2⟩ => by
    obtain ⟨i1, i2⟩ := Rps.strsM h2
    obtain ⟨rfl, h3⟩ := h1
    exact ⟨by rw [e, i1]; rfl, fun z hz => (List.mem_cons.mp hz).elim (fun q => q ▸ h3) (i2 z)⟩
theorem ok_join {s : Str} (hs : PyData.strOk s = true) : ∀ {ys : List Str}, (∀ y ∈ ys, PyData.strOk y = true) → PyData.strOk (Str.join s ys) = true
  | [], _ => by simp [Str.join, PyData.strOk, Str.empty]
  | [x], h => h x (by simp)
  | x :: y :: r, h => ok_app (ok_app (h x (by simp)) hs) (ok_join hs fun z hz => h z (List.mem_cons_of_mem _ hz))
theorem join_ok (b : Bs G X) {spl : Str → Str → Option (List Str)} {v u : PV} {z y : V} {Q : VK} {r : W} (g : Gd G H F L) (h1 : Lk G H v z) (h2 : Lk G H u y) (e : Mini.method spl .join v [u] = some r) (q : ∀ z', Good G H ((r, z') :: L) → Q z' H) :
    (∃ a, z = .str a) ∧ ∃ a p, ∃ ys : List Str, z = .str a ∧ [y] = [.ref p] ∧ (SqL X.K H p (ys.map V.str) ∨ SqT X.K H p (ys.map V.str)) ∧ (ys.map (·.length)).sum + ys.length * a.length ≤ 16777216 ∧ Q (.str (Txt.join a ys)) H := by
  cases v with
  | str s =>
    obtain ⟨rfl, so⟩ := h1
    cases u with
    | lst xs =>
      have e : ((Mini.strsM xs).bind fun l => if (l.map (·.length)).sum + l.length * s.length ≤ Mini.SZ then some (W.sh (.str (Str.join s l))) else none) = some r := e
      obtain ⟨l, e1, e2⟩ := Option.bind_eq_some_iff.mp e
      split at e2
      · rename_i hz
        cases e2
        rw [strs_eq e1] at h2
        obtain ⟨a, vs, rfl, rd, rr⟩ := h2
        obtain ⟨rfl, hy⟩ := rr.strsM
        refine ⟨⟨s, rfl⟩, s, a, l, rfl, rfl, .inl (.inl rd.2), hz, q _ ⟨F, g.sh ⟨?_, ok_join so hy⟩⟩⟩
        show V.str (Builtin.Str.glued s l) = _
        rw [glued_join]
      · cases e2
    | tup xs =>
      have e : ((Mini.strsM xs).bind fun l => if (l.map (·.length)).sum + l.length * s.length ≤ Mini.SZ then some (W.sh (.str (Str.join s l))) else none) = some r := e
      obtain ⟨l, e1, e2⟩ := Option.bind_eq_some_iff.mp e
      split at e2
      · rename_i hz
        cases e2
        rw [strs_eq e1] at h2
        obtain ⟨a, vs, rfl, rd, rr⟩ := h2
        obtain ⟨rfl, hy⟩ := rr.strsM
        refine ⟨⟨s, rfl⟩, s, a, l, rfl, rfl, .inr (.inl (.inl rd.2)), hz, q _ ⟨F, g.sh ⟨?_, ok_join so hy⟩⟩⟩
        show V.str (Builtin.Str.glued s l) = _
        rw [glued_join]
      · cases e2
    | _ => cases e
  | _ => cases e
theorem sv_join (b : Bs G X) {spl : Str → Str → Option (List Str)} {apos : Pos} (ha : SEv G X a ma) (hc : SEv G X c mc) (hs : starEach [c] X.env = [(false, eval c X.env)]) (hbase : attributeBase a "join" X.env (eval a X.env) = eval a X.env) (hline : (apos.endLine == pos.line) = true) :
    SEv G X (.Call (.Attribute a "join" apos) [c] [] pos) (do let x ← ma; let vs ← (do let w ← mc; let vs ← (pure [] : M (List PV)); pure (w.frz :: vs)); Mini.ofO (Mini.method spl .join x.frz vs)) := by
  intro sl sl' σ H T w ft g hm'
  obtain ⟨w1, s1, h1, hm'⟩ := bind_ok.mp hm'
  obtain ⟨vs, s2, h2, hm'⟩ := bind_ok.mp hm'
  obtain ⟨w2, s3, h3, h2⟩ := bind_ok.mp h2
  obtain ⟨vs', s4, h4, h2⟩ := bind_ok.mp h2
  obtain ⟨rfl, rfl⟩ := pure_ok.mp h4
  obtain ⟨rfl, rfl⟩ := pure_ok.mp h2
  obtain ⟨e4, rfl⟩ := ofO_ok.mp hm'
  refine (pe_join pe_w pe_w hs hbase hline).w ((ha _ _ σ H T w1 ft g h1).mono fun x H1 ⟨f1, g1⟩ => ?_)
  have isS : ∃ z, w1.frz = .str z := by
    revert e4
    cases w1.frz with
    | str z => exact fun _ => ⟨z, rfl⟩
    | _ => intro e; cases e
  obtain ⟨z, hz⟩ := isS
  have l1 := g1.lk
  rw [hz] at l1 e4
  obtain ⟨rfl, so⟩ := l1
  refine ⟨⟨z, rfl⟩, (hc _ _ σ H1 T w2 f1 g1.tail h3).mono fun y H2 ⟨f2, g2⟩ => ?_⟩
  obtain ⟨F, g3⟩ := g2.freeze
  exact (join_ok (z := .str z) (Q := fun x H' => Fit _ σ ∧ Good G H' ((w, x) :: _)) b g3.tail (show Lk G H2 (.str z) (.str z) from ⟨rfl, so⟩) (Good.lk ⟨F, g3⟩) e4 fun z' g' => ⟨f2, g'⟩).2
theorem sv_joinP (b : Bs G X) {spl : Str → Str → Option (List Str)} {apos : Pos} {j : Nat} (hN : X.N[j]? = some x) (hv : Vis X.env.scope x) (hd : (x == ("__debug__" : Str)) = false) (hcd : (x == ("__classdict__" : Str)) = false) (hc : SEv G X c mc) (hs : starEach [c] X.env = [(false, eval c X.env)]) (hline : (apos.endLine == pos.line) = true) :
    SEv G X (.Call (.Attribute (.Name x p2) "join" apos) [c] [] pos) (do let x0 ← Mini.viewVar j; let vs ← (do let w ← mc; let vs ← (pure [] : M (List PV)); pure (w.frz :: vs)); let x ← Mini.viewVar j; if Mini.kd x0 == Mini.kd x then Mini.ofO (Mini.method spl .join x vs) else Mini.fail) := by
  intro sl sl' σ H T w ft g hm'
  obtain ⟨v0, s1, h1, hm'⟩ := bind_ok.mp hm'
  obtain ⟨vs, s2, h2, hm'⟩ := bind_ok.mp hm'
  obtain ⟨w2, s3, h3, h2⟩ := bind_ok.mp h2
  obtain ⟨vs', s4, h4, h2⟩ := bind_ok.mp h2
  obtain ⟨rfl, rfl⟩ := pure_ok.mp h4
  obtain ⟨rfl, rfl⟩ := pure_ok.mp h2
  obtain ⟨v5, s5, h5, hm'⟩ := bind_ok.mp hm'
  unfold Mini.viewVar at h1 h5
  split at h1
  · rename_i w0 e1
    cases h1
    obtain ⟨x0, e2⟩ := ft.get e1
    split at h5
    · rename_i w9 e9
      cases h5
      split at hm'
      · rename_i hk
        obtain ⟨e4, rfl⟩ := ofO_ok.mp hm'
        have isS : ∃ z, w9.frz = .str z := by
          revert e4
          cases w9.frz with
          | str z => exact fun _ => ⟨z, rfl⟩
          | _ => intro e; cases e
        obtain ⟨z, hz⟩ := isS
        have isS0 : ∃ z, w0.frz = .str z := by
          revert hk
          rw [hz]
          cases w0.frz with
          | str z => exact fun _ => ⟨z, rfl⟩
          | _ => intro e; simp [Mini.kd] at e
        obtain ⟨z0, hz0⟩ := isS0
        have l0 := (g.takeS e1 e2).lk
        rw [hz0] at l0
        obtain ⟨rfl, so⟩ := l0
        refine (pe_join pe_w pe_w hs rfl hline).w (wE.var hN hv hd hcd e2 ⟨⟨z0, rfl⟩, (hc _ _ σ H T w2 ft g h3).mono fun y H2 ⟨f2, g2⟩ => ?_⟩)
        obtain ⟨F, g3⟩ := g2.freeze
        have l9 := (Good.takeS (Good.tail ⟨F, g3⟩) e9 e2).lk
        exact (join_ok (Q := fun x H' => Fit _ σ ∧ Good G H' ((w, x) :: _)) b g3.tail l9 (Good.lk ⟨F, g3⟩) e4 fun z' g' => ⟨f2, g'⟩).2
      · exact (fail_ok.mp hm').elim
    · cases h5
  · cases h1

/-! ### d.get(k, x) -/
theorem get_ok (b : Bs G X) {spl : Str → Str → Option (List Str)} {v k d : PV} {z y u : V} {Q : VK} {r : W} (g : Gd G H F L) (h1 : Vw G H F v z) (h2 : Lk G H k y) (h3 : Rp G H F d u) (e : Mini.method spl .getD v [k, d] = some r) (q : ∀ z', Good G H ((r, z') :: L) → Q z' H) :
    ∃ a, z = .ref a ∧ ∃ o, DGet H a y o ∧ Q (o.getD u) H := by
  cases v with
  | dk kvs =>
    obtain ⟨j, e1, rfl⟩ := Option.map_eq_some_iff.mp (show (Mini.keyOf k).map (fun k => W.sh ((Mini.look k kvs).getD d)) = some r from e)
    obtain ⟨a, us, rfl, rd, rr⟩ := h1
    obtain ⟨rfl, _⟩ := keyOf_kV e1 h2
    have l := RpK.look (k := j) rr
    refine ⟨a, rfl, valV us j, .inl ⟨us, j, rd, rfl, rfl⟩, q _ ⟨F, g.sh ?_⟩⟩
    cases hl : Mini.look j kvs with
    | none => rw [hl] at l; rw [l]; exact h3
    | some t => rw [hl] at l; obtain ⟨z, hz, hr⟩ := l; rw [hz]; exact hr
  | dt kvs =>
    obtain ⟨j, e1, rfl⟩ := Option.map_eq_some_iff.mp (show (Mini.tkeyOf k).map (fun k => W.sh ((Mini.look k kvs).getD d)) = some r from e)
    obtain ⟨a, us, rfl, rd, rr⟩ := h1
    obtain ⟨c, rfl, hb, _⟩ := tkeyOf_kV e1 h2
    have l := RpT.look (k := j) rr
    refine ⟨a, rfl, valV us j, .inr ⟨us, j, c, rd, rfl, hb, rfl⟩, q _ ⟨F, g.sh ?_⟩⟩
    cases hl : Mini.look j kvs with
    | none => rw [hl] at l; rw [l]; exact h3
    | some t => rw [hl] at l; obtain ⟨z, hz, hr⟩ := l; rw [hz]; exact hr
  | _ => cases e
theorem isD_of {v : PV} {z : V} (h : Vw G H F v z) (e : Mini.kd v = 4 ∨ Mini.kd v = 5) : ∃ a, z = .ref a ∧ IsD H a := by
  cases v with
  | dk kvs => obtain ⟨a, us, rfl, rd, _⟩ := h; exact ⟨a, rfl, .inl ⟨us, rd⟩⟩
  | dt kvs => obtain ⟨a, us, rfl, rd, _⟩ := h; exact ⟨a, rfl, .inr ⟨us, rd⟩⟩
  | _ => simp [Mini.kd] at e
theorem getD_kd {spl : Str → Str → Option (List Str)} {v : PV} {vs : List PV} {r : W} (e : Mini.method spl .getD v vs = some r) : Mini.kd v = 4 ∨ Mini.kd v = 5 := by
  cases v with
  | dk kvs => exact .inl rfl
  | dt kvs => exact .inr rfl
  | _ => cases vs <;> cases e
theorem sv_getD (b : Bs G X) {spl : Str → Str → Option (List Str)} {apos : Pos} {d : Expr} {md : M W} (ha : SEv G X a ma) (hc : SEv G X c mc) (hd : SEv G X d md) (m2 : M2 X a "get" apos c d pos) :
    SEv G X (.Call (.Attribute a "get" apos) [c, d] [] pos) (do let x ← ma; let vs ← (do let w ← mc; let vs ← (do let w ← md; let vs ← (pure [] : M (List PV)); pure (w.frz :: vs)); pure (w.frz :: vs)); Mini.ofO (Mini.method spl .getD x.frz vs)) := by
  intro sl sl' σ H T w ft g hm'
  obtain ⟨w1, s1, h1, hm'⟩ := bind_ok.mp hm'
  obtain ⟨vs, s2, h2, hm'⟩ := bind_ok.mp hm'
  obtain ⟨w2, s3, h3, h2⟩ := bind_ok.mp h2
  obtain ⟨vs', s4, h4, h2⟩ := bind_ok.mp h2
  obtain ⟨w3, s5, h5, h4⟩ := bind_ok.mp h4
  obtain ⟨vs'', s6, h6, h4⟩ := bind_ok.mp h4
  obtain ⟨rfl, rfl⟩ := pure_ok.mp h6
  obtain ⟨rfl, rfl⟩ := pure_ok.mp h4
  obtain ⟨rfl, rfl⟩ := pure_ok.mp h2
  obtain ⟨e4, rfl⟩ := ofO_ok.mp hm'
  have hu := b.un
  refine (pe_dget2 (by omega) pe_w pe_w pe_w m2).w ((ha _ _ σ H T w1 ft g h1).mono fun x H1 ⟨f1, g1⟩ => ?_)
  obtain ⟨F0, g0, v0⟩ := g1.vw
  obtain ⟨a0, rfl, isd⟩ := isD_of v0 (getD_kd e4)
  refine ⟨a0, rfl, isd, (hc.fz (T := (w1, .ref a0) :: T) f1 g1.back h3).mono fun y H2 ⟨f2, g2⟩ => ?_⟩
  refine (hd.fz (T := (.sh w2.frz, y) :: (w1, .ref a0) :: T) f2 g2.back h5).mono fun u H3 ⟨f3, g3⟩ => ?_
  have g4 : Good G H3 ((w1, .ref a0) :: (.sh w2.frz, y) :: (.sh w3.frz, u) :: (prs s5 σ ++ T)) := by
    refine g3.perm ?_
    have p1 : (prs s5 σ ++ (.sh w2.frz, y) :: (w1, .ref a0) :: T).Perm ((.sh w2.frz, y) :: (w1, .ref a0) :: (prs s5 σ ++ T)) := List.perm_middle.trans (List.perm_middle.cons _)
    exact (p1.cons _).trans ((List.Perm.swap _ _ _).trans (((List.Perm.swap _ _ _).cons _).trans (List.Perm.swap _ _ _)))
  obtain ⟨F, g5, v5⟩ := g4.vw
  obtain ⟨a1, e1, o, gg, qq⟩ := get_ok (Q := fun x H' => Fit s5 σ ∧ Good G H' ((w, x) :: (prs s5 σ ++ T))) b g5.tail.tail v5 (Rp.lk (g5.rel _ List.mem_cons_self)) (g5.rel _ (List.mem_cons_of_mem _ List.mem_cons_self)) e4 fun z' g' => ⟨f3, g'⟩
  cases e1
  exact ⟨o, gg, qq⟩
theorem sv_getDP (b : Bs G X) {spl : Str → Str → Option (List Str)} {apos : Pos} {d : Expr} {md : M W} {j : Nat} (hN : X.N[j]? = some x) (hv : Vis X.env.scope x) (hdb : (x == ("__debug__" : Str)) = false) (hcd : (x == ("__classdict__" : Str)) = false) (hc : SEv G X c mc) (hd : SEv G X d md) (m2 : M2 X (.Name x p2) "get" apos c d pos) :
    SEv G X (.Call (.Attribute (.Name x p2) "get" apos) [c, d] [] pos) (do let x0 ← Mini.viewVar j; let vs ← (do let w ← mc; let vs ← (do let w ← md; let vs ← (pure [] : M (List PV)); pure (w.frz :: vs)); pure (w.frz :: vs)); let x ← Mini.viewVar j; if Mini.kd x0 == Mini.kd x then Mini.ofO (Mini.method spl .getD x vs) else Mini.fail) := by
  intro sl sl' σ H T w ft g hm'
  obtain ⟨v0, s1, h1, hm'⟩ := bind_ok.mp hm'
  obtain ⟨vs, s2, h2, hm'⟩ := bind_ok.mp hm'
  obtain ⟨w2, s3, h3, h2⟩ := bind_ok.mp h2
  obtain ⟨vs', s4, h4, h2⟩ := bind_ok.mp h2
  obtain ⟨w3, s5, h5, h4⟩ := bind_ok.mp h4
  obtain ⟨vs'', s6, h6, h4⟩ := bind_ok.mp h4
  obtain ⟨rfl, rfl⟩ := pure_ok.mp h6
  obtain ⟨rfl, rfl⟩ := pure_ok.mp h4
  obtain ⟨rfl, rfl⟩ := pure_ok.mp h2
  obtain ⟨v5, s7, h7, hm'⟩ := bind_ok.mp hm'
  have hu := b.un
  unfold Mini.viewVar at h1 h7
  split at h1
  · rename_i w0 e1
    cases h1
    obtain ⟨x0, e2⟩ := ft.get e1
    split at h7
    · rename_i w9 e9
      cases h7
      split at hm'
      · rename_i hk
        obtain ⟨e4, rfl⟩ := ofO_ok.mp hm'
        have hk0 : Mini.kd w0.frz = 4 ∨ Mini.kd w0.frz = 5 := by
          have := getD_kd e4
          have hk : Mini.kd w0.frz = Mini.kd w9.frz := by simpa using hk
          rw [hk]; exact this
        obtain ⟨F0, _, vw0⟩ := (g.takeS e1 e2).vw
        obtain ⟨a0, rfl, isd⟩ := isD_of vw0 hk0
        refine (pe_dget2 (by omega) pe_w pe_w pe_w m2).w (wE.var hN hv hdb hcd e2 ⟨a0, rfl, isd, (hc.fz ft g h3).mono fun y H2 ⟨f2, g2⟩ => ?_⟩)
        refine (hd.fz (T := (.sh w2.frz, y) :: T) f2 g2.back h5).mono fun u H3 ⟨f3, g3⟩ => ?_
        have g4 : Good G H3 ((.sh w2.frz, y) :: (.sh w3.frz, u) :: (prs s5 σ ++ T)) := Good.swap (g3.perm (.cons _ List.perm_middle))
        obtain ⟨F, g5⟩ := g4
        have r9 := ((g5.tail.tail).perm ((prs_get e9 e2).append_right T)).rel _ List.mem_cons_self
        obtain ⟨a1, e1, o, gg, qq⟩ := get_ok (Q := fun x H' => Fit s5 σ ∧ Good G H' ((w, x) :: (prs s5 σ ++ T))) b g5.tail.tail r9.vw (Rp.lk (g5.rel _ List.mem_cons_self)) (g5.rel _ (List.mem_cons_of_mem _ List.mem_cons_self)) e4 fun z' g' => ⟨f3, g'⟩
        cases e1
        exact ⟨o, gg, qq⟩
      · exact (fail_ok.mp hm').elim
    · cases h7
  · cases h1
end
end Snd
end

section
set_option Elab.async false
set_option linter.all false
set_option maxRecDepth 100000
/-! S14: methods that change a list. -/
namespace Snd
open PySem PySem.Spec L2
open PyProof.Rows hiding St
open Mini (PV W Sl M CR Bi Ty Mu)
variable {G : Gb} {H H' : Hp} {F F' : Fz} {L L' A B T : List WV} {σ : St}

section
variable {X : Cx}
def rExtR : V → List V → Hp → VK → Prop := fun x vs H Q => ∃ l b xs zs, x = .ref l ∧ vs = [.ref b] ∧ H l = some (.lst xs) ∧ Rd H b (.lst zs) ∧ xs.length + zs.length ≤ sizeLine ∧ Q .non (upd H l (.lst (xs ++ zs)))
theorem mt_extR : MtR X "list.extend" rExtR := by
  intro pins s σ H x vs v us Q I rx rv h
  obtain ⟨l, b, xs, zs, rfl, rfl, hH, hB, hz, q⟩ := h
  cases rx
  obtain ⟨u, rfl, ru⟩ := rv.one
  cases ru
  obtain ⟨z, its, n, r, hl, e⟩ := I.lstM hH
  obtain ⟨z2, its2, n2, r2, hl2, e2⟩ := lst_rd I hB
  have hsz : its.toArray.size + its2.toArray.size ≤ sizeLine := by rw [List.size_toArray, List.size_toArray]; omega
  have hlong : ¬ (!its.toArray.isEmpty && Builtin.List.listTooLong (its.toArray.size + its2.toArray.size)) = true := by
    rw [notLongL hsz, Bool.and_false]
    exact Bool.false_ne_true
  refine call_meets F.slot_list_extend ⟨_, e, rfl⟩ F.entry_list_extend (F.args_list_extend_2 _ _)
    (AutoSeq1.list_extend_list_list_0 l its.toArray n b its2.toArray n2 hlong (by rw [List.size_toArray]; omega) (by omega)) ⟨e, e2, ?_⟩
  refine ⟨.non, _, I.lset (its' := its ++ its2) hH e (by simp) (r.append r2) ?_, rfl, q⟩
  rw [List.length_append]
  omega
def muN : Mu → Str
  | .append => "append" | .extend => "extend" | .pop => "pop" | .popAt => "pop" | _ => ""
def muI : Mu → String
  | .append => "list.append" | .extend => "list.extend" | .pop => "list.pop" | .popAt => "list.pop" | _ => ""
def MtW (X : Cx) (id : String) : V → List V → Hp → VK → Prop := fun x xs H Q => ∀ (pins : List (Addr × Obj)) (s : Shared) (σ : St) (v : Value) (us : List Value), Inv X pins σ H s → RelV x v → Vals xs us →
    wpAny (model X.prog X.w) X.A (call (.builtin id) (v :: us)) (EP X pins σ Q) X.xe s
theorem mt_w {id : String} : MtR X id (MtW X id) := fun pins s σ H x xs v us Q I rx r q => q pins s σ v us I rx r
theorem _root_.L2.MtR.w {id : String} {r : V → List V → Hp → VK → Prop} (h : MtR X id r) {x : V} {xs : List V} {Q : VK} (q : r x xs H Q) : MtW X id x xs H Q := fun pins s σ v us I rx rr => h pins s σ H x xs v us Q I rx rr q
theorem rps_one {v : PV} {xs : List V} (h : Rps G H F [v] xs) : ∃ x, xs = [x] ∧ Rp G H F v x := by
  obtain ⟨x, r, e, h1, h2⟩ := h
  have h2 : r = [] := h2
  exact ⟨x, by rw [e, h2], h1⟩
theorem mut_ok {k : Mu} {c c' r : PV} {vs : List PV} {xs : List V} {x : V} {Q : VK} (hc : Mini.isLst c = true) (g : Gd G H F ((.own c, x) :: L)) (rv : Rps G H F vs xs) (e : Mini.mutate k c vs = some (r, c'))
    (q : ∀ z H', Good G H' ((.sh r, z) :: (.own c', x) :: L) → Q z H') : MtW X (muI k) x xs H Q := by
  cases c with
  | lst ts =>
    obtain ⟨a, us, rfl, ha, rr⟩ := (show Own G H F (.lst ts) x from g.rel _ List.mem_cons_self)
    have up : ∀ {us' : List V} {ts' : List PV}, Rps G H F ts' us' → Gd G (upd H a (.lst us')) F ((.own (.lst ts'), .ref a) :: L) := fun {us' ts'} r' => g.chg (v' := .lst ts') ⟨a, us', rfl, upd_same, Rps.mono (.upd g.notF) (fun _ z => z) _ _ r'⟩
    have mono : ∀ {us' : List V} {v : PV} {z : V}, Rp G H F v z → Rp G (upd H a (.lst us')) F v z := fun {us' v z} h => Rp.mono (.upd g.notF) (fun _ z => z) _ _ h
    unfold Mini.mutate at e
    split at e <;> rename_i hh <;> try (cases hh; done)
    · rename_i ts' v
      cases hh
      obtain ⟨z, rfl, hz⟩ := rps_one rv
      split at e
      · rename_i hl
        cases e
        exact MtR.w mt_append ⟨a, us, z, rfl, rfl, ha, by rw [SZ_eq, ← rr.length]; exact hl, q _ _ ⟨F, (up (rr.append (Rps.one hz))).sh rfl⟩⟩
      · cases e
    · rename_i ts' v
      cases hh
      obtain ⟨z, rfl, hz⟩ := rps_one rv
      split at e
      · rename_i ys
        obtain ⟨b, vs, rfl, rd, r2⟩ := hz
        split at e
        · rename_i hl
          cases e
          exact MtR.w mt_extR ⟨a, b, us, vs, rfl, rfl, ha, rd.2, by rw [SZ_eq, ← rr.length, ← r2.length]; exact hl, q _ _ ⟨F, (up (rr.append r2)).sh rfl⟩⟩
        · cases e
      · cases e
    · rename_i ts'
      cases hh
      have rv : xs = [] := rv
      subst rv
      obtain ⟨y, e1, e2⟩ := Option.map_eq_some_iff.mp e
      cases e2
      rw [List.getLast?_eq_getElem?] at e1
      obtain ⟨z, hz, hr⟩ := rr.get e1
      rw [rr.length] at hz
      exact MtR.w mt_pop ⟨a, us, z, rfl, rfl, ha, hz, q _ _ ⟨F, (up rr.dropLast).sh (mono hr)⟩⟩
    · rename_i ts' i
      cases hh
      obtain ⟨z, rfl, hz⟩ := rps_one rv
      cases hz
      split at e
      · rename_i hl
        have hl : -(2 ^ 63) ≤ i ∧ i < 2 ^ 63 := by simpa using hl
        obtain ⟨n, e1, e2⟩ := Option.bind_eq_some_iff.mp e
        obtain ⟨y, e3, e4⟩ := Option.map_eq_some_iff.mp e2
        cases e4
        obtain ⟨z, hz, hr⟩ := rr.get e3
        rw [rr.length] at e1
        exact MtR.w mt_popAt ⟨a, us, i, n, z, rfl, rfl, ha, hl.1, hl.2, (ixN_seq e1).1, hz, q _ _ ⟨F, (up (rr.eraseIdx n)).sh (mono hr)⟩⟩
      · cases e
    · cases e
  | _ => cases hc

variable {e a c : Expr} {es : List Expr} {m ma mc : M W} {mb : M PV} {ms : M (List PV)} {pos p p2 : Pos} {x : Str} {t : TA}
theorem modPlace_ok {α : Type} {i : Nat} {g : PV → Option (α × PV)} {sl sl' : Sl} {r : α} (h : Mini.modPlace i none g sl = .ok r sl') : ∃ c c', sl[i]? = some (some (.own c)) ∧ g c = some (r, c') ∧ sl' = sl.set i (some (.own c')) := by
  unfold Mini.modPlace at h
  split at h
  · rename_i c _ e1
    split at h
    · rename_i a c' e2
      cases h
      exact ⟨c, c', by assumption, e2, rfl⟩
    · cases h
  · cases h
theorem mu_slot {k : Mu} (hk : k = .append ∨ k = .extend ∨ k = .pop ∨ k = .popAt) : Slot "list" (muN k) (muI k) ∧ typeOf (.builtin (muI k)) = pure (.type "method_descriptor") := by
  rcases hk with rfl | rfl | rfl | rfl
  · exact ⟨PySem.F.slot_list_append, PySem.F.type_list_append⟩
  · exact ⟨PySem.F.slot_list_extend, PySem.F.type_list_extend⟩
  · exact ⟨PySem.F.slot_list_pop, PySem.F.type_list_pop⟩
  · exact ⟨PySem.F.slot_list_pop, PySem.F.type_list_pop⟩
theorem lstV {v : PV} {z : V} {K : PySem.W.Frag} (h : Vw G H F v z) (e : Mini.isLst v = true) : _root_.L2.tyV K "list" z H := by
  cases v with
  | lst ts => obtain ⟨a, us, rfl, rd, _⟩ := h; exact .inl ⟨rfl, us, .inl rd⟩
  | _ => cases e
theorem mutate_lst {k : Mu} (hk : k = .append ∨ k = .extend ∨ k = .pop) {c c' r : PV} {vs : List PV} (e : Mini.mutate k c vs = some (r, c')) : Mini.isLst c = true := by
  rcases hk with rfl | rfl | rfl <;> (unfold Mini.mutate at e; split at e <;> rename_i hh <;> first | rfl | (cases hh; done) | (cases e; done))
theorem sv_mut (b : Bs G X) {k : Mu} (hk : k = .append ∨ k = .extend ∨ k = .pop ∨ k = .popAt) {apos : Pos} {j : Nat} (hN : X.N[j]? = some x) (hv : Vis X.env.scope x) (hd : (x == ("__debug__" : Str)) = false) (hcd : (x == ("__classdict__" : Str)) = false)
    (hs : SEs G X (e :: es) ms)
    (hfew : ((backTo pos (starEach (e :: es) X.env)).all (fun x => !x.1) && (backToKw pos (keywordEach [] X.env)).all (fun x => x.1.isSome) && decide ((e :: es).length + ([] : List Keyword).length + (if ([] : List Keyword).isEmpty then 0 else 1) < 30)) = true)
    (hline : (apos.endLine == pos.line) = true) (he : starEach (e :: es) X.env = (false, eval e X.env) :: starEach es X.env) (hpl : (backTo pos (starEach es X.env)).any (·.1) = false) :
    SEv G X (.Call (.Attribute (.Name x p2) (muN k) apos) (e :: es) [] pos) (do
      let v0 ← Mini.viewVar j
      if Mini.isLst v0 then
        let vs ← ms
        let v ← Mini.modPlace j none fun c => if Mini.isLst c then Mini.mutate k c vs else none
        pure (.sh v)
      else Mini.fail) := by
  intro sl sl' σ H T w ft g hm'
  obtain ⟨v0, s1, h1, hm'⟩ := bind_ok.mp hm'
  split at hm'
  · rename_i hl
    obtain ⟨vs, s2, h2, hm'⟩ := bind_ok.mp hm'
    obtain ⟨r, s3, h3, hm'⟩ := bind_ok.mp hm'
    obtain ⟨rfl, rfl⟩ := pure_ok.mp hm'
    obtain ⟨c, c', e5, e6, rfl⟩ := modPlace_ok h3
    split at e6
    · rename_i hc
      unfold Mini.viewVar at h1
      split at h1
      · rename_i w0 e1
        cases h1
        obtain ⟨x0, e2⟩ := ft.get e1
        obtain ⟨F0, _, vw0⟩ := (g.takeS e1 e2).vw
        obtain ⟨ms1, ms2⟩ := mu_slot hk
        refine (pe_bm PySem.F.plainAttrs_list ms1 ms2 mt_w pe_w pa_w rfl hfew hline he hpl).w (wE.var hN hv hd hcd e2 ⟨lstV vw0 hl, ?_⟩)
        refine (hs _ _ σ H T vs ft g h2).mono fun xs H2 ⟨f2, hln, g2⟩ => ?_
        obtain ⟨F, g3⟩ := g2
        obtain ⟨r1, g4⟩ := shs_rps hln g3
        have g5 : Gd G H2 F ((.own c, x0) :: (prs (s2.set j none) σ ++ T)) := g4.perm ((prs_get e5 e2).append_right T)
        refine mut_ok hc g5 r1 e6 fun z H' g' => ⟨f2.set e2, g'.give2 (lt_of_get e5) e2⟩
      · cases h1
    · cases e6
  · exact (fail_ok.mp hm').elim
theorem sv_mut0 (b : Bs G X) {apos : Pos} {j : Nat} (hN : X.N[j]? = some x) (hv : Vis X.env.scope x) (hd : (x == ("__debug__" : Str)) = false) (hcd : (x == ("__classdict__" : Str)) = false) (hline : (apos.endLine == pos.line) = true) :
    SEv G X (.Call (.Attribute (.Name x p2) (muN .pop) apos) [] [] pos) (do
      let v0 ← Mini.viewVar j
      if Mini.isLst v0 then
        let vs ← (pure [] : M (List PV))
        let v ← Mini.modPlace j none fun c => if Mini.isLst c then Mini.mutate .pop c vs else none
        pure (.sh v)
      else Mini.fail) := by
  intro sl sl' σ H T w ft g hm'
  obtain ⟨v0, s1, h1, hm'⟩ := bind_ok.mp hm'
  split at hm'
  · rename_i hl
    obtain ⟨vs, s2, h2, hm'⟩ := bind_ok.mp hm'
    obtain ⟨rfl, rfl⟩ := pure_ok.mp h2
    obtain ⟨r, s3, h3, hm'⟩ := bind_ok.mp hm'
    obtain ⟨rfl, rfl⟩ := pure_ok.mp hm'
    obtain ⟨c, c', e5, e6, rfl⟩ := modPlace_ok h3
    split at e6
    · rename_i hc
      unfold Mini.viewVar at h1
      split at h1
      · rename_i w0 e1
        cases h1
        obtain ⟨x0, e2⟩ := ft.get e1
        obtain ⟨F0, _, vw0⟩ := (g.takeS e1 e2).vw
        obtain ⟨ms1, ms2⟩ := mu_slot (k := .pop) (by simp)
        refine (pe_bm0 PySem.F.plainAttrs_list ms1 ms2 mt_w pe_w rfl hline).w (wE.var hN hv hd hcd e2 ⟨lstV vw0 hl, ?_⟩)
        obtain ⟨F, g3⟩ := g
        have g5 := g3.perm ((prs_get e5 e2).append_right T)
        refine mut_ok (vs := []) hc g5 rfl e6 fun z H' g' => ⟨ft.set e2, g'.give2 (lt_of_get e5) e2⟩
      · cases h1
    · cases e6
  · exact (fail_ok.mp hm').elim
end
end Snd
end

section
set_option Elab.async false
set_option linter.all false
set_option maxRecDepth 100000
/-! S15: statements. -/
namespace Snd
open PySem PySem.Spec L2
open PyProof.Rows hiding St
open Mini (PV W Sl M CR Bi Ty Mu Fl)
variable {G : Gb} {H H' : Hp} {F F' : Fz} {L L' A B T : List WV}

/-- the slots in P stand as they stood -/
def Keep (P : Nat → Bool) (σ σ' : St) : Prop := ∀ i, P i = true → σ'[i]? = σ[i]?
theorem Keep.refl {P : Nat → Bool} {σ : St} : Keep P σ σ := fun _ _ => rfl
theorem Keep.trans {P : Nat → Bool} {σ σ' σ'' : St} (h : Keep P σ σ') (h' : Keep P σ' σ'') : Keep P σ σ'' := fun i p => (h' i p).trans (h i p)
theorem Keep.set {P : Nat → Bool} {σ : St} {i : Nat} {o : Option V} (h : P i = false) : Keep P σ (σ.set i o) := fun j p => by
  have : i ≠ j := fun e => by rw [e, p] at h; cases h
  rw [List.getElem?_set_ne this]
/-- what an ending must be good for -/
def Endg (G : Gb) (P : Nat → Bool) (σ : St) (T : List WV) (fl : Fl) (sl' : Sl) (D : Ends) : Prop := match fl with
  | .nx => ∀ σ' H', Keep P σ σ' → Fit sl' σ' → Good G H' (prs sl' σ' ++ T) → D.nx σ' H'
  | .bk => ∀ σ' H', Keep P σ σ' → Fit sl' σ' → Good G H' (prs sl' σ' ++ T) → D.bk σ' H'
  | .ct => ∀ σ' H', Keep P σ σ' → Fit sl' σ' → Good G H' (prs sl' σ' ++ T) → D.ct σ' H'
  | .rt w => ∀ x σ' H', Keep P σ σ' → Fit sl' σ' → Good G H' ((w, x) :: (prs sl' σ' ++ T)) → D.rt x H'
section
variable (G : Gb) (X : Cx) (P : Nat → Bool)
def SS (st : Stmt) (m : M Fl) : Prop := ∀ (sl sl' : Sl) (σ : St) (H : Hp) (T : List WV) (fl : Fl) (D : Ends), Fit sl σ → Good G H (prs sl σ ++ T) → m sl = .ok fl sl' → Endg G P σ T fl sl' D → wS X st D σ H
def SSs (sts : List Stmt) (m : M Fl) : Prop := ∀ (sl sl' : Sl) (σ : St) (H : Hp) (T : List WV) (fl : Fl) (D : Ends), Fit sl σ → Good G H (prs sl σ ++ T) → m sl = .ok fl sl' → Endg G P σ T fl sl' D → wSs X sts D σ H
end
section
variable {X : Cx} {P : Nat → Bool} {e a c : Expr} {es : List Expr} {m ma mc : M W} {mb : M PV} {ms : M (List PV)} {pos p p2 : Pos} {x : Str} {st : Stmt} {sts : List Stmt} {ta : M Bool}
theorem Endg.from {σ σ' : St} {fl : Fl} {sl' : Sl} {D : Ends} (h : Endg G P σ T fl sl' D) (k : Keep P σ σ') : Endg G P σ' T fl sl' D := by
  cases fl with
  | nx => exact fun s h' k' => h s h' (k.trans k')
  | bk => exact fun s h' k' => h s h' (k.trans k')
  | ct => exact fun s h' k' => h s h' (k.trans k')
  | rt w => exact fun x s h' k' => h x s h' (k.trans k')
theorem ss_nil' : SSs G X P [] (pure .nx) := by
  intro sl sl' σ H T fl D ft g h en
  obtain ⟨rfl, rfl⟩ := pure_ok.mp h
  exact pss_nil.w (en σ H .refl ft g)
theorem ss_cons' {mst msts : M Fl} (h1 : SS G X P st mst) (h2 : SSs G X P sts msts) : SSs G X P (st :: sts) (do let f ← mst; match f with
    | .nx => msts
    | f => pure f) := by
  intro sl sl' σ H T fl D ft g h en
  obtain ⟨f, s1, e1, h⟩ := bind_ok.mp h
  refine (pss_cons ps_w pss_w).w ?_
  show wS X st _ σ H
  cases f with
  | nx => exact h1 sl s1 σ H T .nx _ ft g e1 fun σ' H' k f' g' => h2 s1 sl' σ' H' T fl D f' g' h (en.from k)
  | bk =>
    obtain ⟨rfl, rfl⟩ := pure_ok.mp h
    exact h1 sl s1 σ H T .bk _ ft g e1 en
  | ct =>
    obtain ⟨rfl, rfl⟩ := pure_ok.mp h
    exact h1 sl s1 σ H T .ct _ ft g e1 en
  | rt w =>
    obtain ⟨rfl, rfl⟩ := pure_ok.mp h
    exact h1 sl s1 σ H T (.rt w) _ ft g e1 en
theorem s_pass : SS G X P (.Pass pos) (pure .nx) := by
  intro sl sl' σ H T fl D ft g h en
  obtain ⟨rfl, rfl⟩ := pure_ok.mp h
  exact ps_pass.w (en σ H .refl ft g)
theorem s_doc {z : Str} {j : Nat} : SS G X P (.Expr (.Constant (.str z) j p) pos) (pure .nx) := by
  intro sl sl' σ H T fl D ft g h en
  obtain ⟨rfl, rfl⟩ := pure_ok.mp h
  exact ps_doc.w (en σ H .refl ft g)
theorem s_brk : SS G X P (.Break pos) (pure .bk) := by
  intro sl sl' σ H T fl D ft g h en
  obtain ⟨rfl, rfl⟩ := pure_ok.mp h
  exact ps_break.w (en σ H .refl ft g)
theorem s_cnt : SS G X P (.Continue pos) (pure .ct) := by
  intro sl sl' σ H T fl D ft g h en
  obtain ⟨rfl, rfl⟩ := pure_ok.mp h
  exact ps_continue.w (en σ H .refl ft g)
theorem s_stop : SS G X P st Mini.fail := fun _ _ _ _ _ _ _ _ _ h => (fail_ok.mp h).elim
theorem s_exp (h1 : SEv G X e m) (hs : swapsWith e none pos.line X.env = pure false) : SS G X P (.Expr e pos) (do let _ ← m; pure .nx) := by
  intro sl sl' σ H T fl D ft g h en
  obtain ⟨w, s1, e1, h⟩ := bind_ok.mp h
  obtain ⟨rfl, rfl⟩ := pure_ok.mp h
  exact (ps_expr pe_w hs).w ((h1 _ _ σ H T w ft g e1).mono fun z H1 ⟨f1, g1⟩ => en σ H1 .refl f1 g1.tail)
theorem s_ret (h1 : SEv G X e m) : SS G X P (.Return (some e) pos) (do let w ← m; pure (.rt w)) := by
  intro sl sl' σ H T fl D ft g h en
  obtain ⟨w, s1, e1, h⟩ := bind_ok.mp h
  obtain ⟨rfl, rfl⟩ := pure_ok.mp h
  exact (ps_ret pe_w).w ((h1 _ _ σ H T w ft g e1).mono fun z H1 ⟨f1, g1⟩ => en z σ H1 .refl f1 g1)
theorem s_retN : SS G X P (.Return none pos) (pure (.rt (.sh .non))) := by
  intro sl sl' σ H T fl D ft g h en
  obtain ⟨rfl, rfl⟩ := pure_ok.mp h
  exact ps_retN.w (en _ σ H .refl ft g.non)
theorem s_if {tb fb : List Stmt} {mt mf : M Fl} (h1 : SEt G X c ta) (h2 : SSs G X P tb mt) (h3 : SSs G X P fb mf) : SS G X P (.If c tb fb pos) (do let b ← ta; if b then mt else mf) := by
  intro sl sl' σ H T fl D ft g h en
  obtain ⟨b, s1, e1, h⟩ := bind_ok.mp h
  refine (ps_if pt_w pss_w pss_w).w ((h1 _ _ σ H T b ft g e1).mono fun k H1 ⟨e, f1, g1⟩ => ?_)
  subst e
  cases k with
  | true => exact h2 s1 sl' σ H1 T fl D f1 g1 h en
  | false => exact h3 s1 sl' σ H1 T fl D f1 g1 h en
theorem s_while {tb : List Stmt} {mt : M Fl} {n : Nat} (hx : PassesOwn (model X.prog X.w) X.A X.env X.xe) (h1 : SEt G X c ta) (h2 : SSs G X P tb mt) : SS G X P (.While c tb [] pos) (Mini.whileLoop ta mt n) := by
  intro sl sl' σ H T fl D ft g h en
  refine (ps_while hx pt_w pss_w).w ⟨fun k σ' H' => ∃ s1, Keep P σ σ' ∧ Fit s1 σ' ∧ Good G H' (prs s1 σ' ++ T) ∧ Mini.whileLoop ta mt k s1 = .ok fl sl', ⟨n, sl, .refl, ft, g, h⟩, fun k σ' H' ⟨s1, kp, f1, g1, e1⟩ => ?_⟩
  cases k with
  | zero => exact (fail_ok.mp e1).elim
  | succ k =>
    unfold Mini.whileLoop at e1
    obtain ⟨b, s2, e2, e1⟩ := bind_ok.mp e1
    refine (h1 _ _ σ' H' T b f1 g1 e2).mono fun kb H2 ⟨e, f2, g2⟩ => ?_
    subst e
    cases kb with
    | false =>
      rw [if_neg Bool.false_ne_true] at e1 ⊢
      obtain ⟨rfl, rfl⟩ := pure_ok.mp e1
      exact en σ' H2 kp f2 g2
    | true =>
      rw [if_pos rfl] at e1 ⊢
      obtain ⟨f, s3, e3, e1⟩ := bind_ok.mp e1
      refine ⟨fun σ2 H2 => ∃ s1, Keep P σ σ2 ∧ Fit s1 σ2 ∧ Good G H2 (prs s1 σ2 ++ T) ∧ Mini.whileLoop ta mt k s1 = .ok fl sl', fun σ2 H2 q => ⟨k, Nat.lt_succ_self k, q⟩, ?_⟩
      cases f with
      | nx => exact h2 s2 s3 σ' H2 T .nx _ f2 g2 e3 fun σ2 H3 k2 f3 g3 => ⟨s3, kp.trans k2, f3, g3, e1⟩
      | ct => exact h2 s2 s3 σ' H2 T .ct _ f2 g2 e3 fun σ2 H3 k2 f3 g3 => ⟨s3, kp.trans k2, f3, g3, e1⟩
      | bk =>
        obtain ⟨rfl, rfl⟩ := pure_ok.mp e1
        exact h2 s2 s3 σ' H2 T .bk _ f2 g2 e3 fun σ2 H3 k2 f3 g3 => en σ2 H3 (kp.trans k2) f3 g3
      | rt w =>
        obtain ⟨rfl, rfl⟩ := pure_ok.mp e1
        exact h2 s2 s3 σ' H2 T (.rt w) _ f2 g2 e3 fun x σ2 H3 k2 f3 g3 => en x σ2 H3 (kp.trans k2) f3 g3

/-! ### targets -/
def SGo (G : Gb) (X : Cx) (P : Nat → Bool) (t : TG) (m : W → M Unit) : Prop := ∀ (sl sl' : Sl) (σ : St) (H : Hp) (T : List WV) (w : W) (x : V) (Q : St → Hp → Prop), Fit sl σ → Good G H ((w, x) :: (prs sl σ ++ T)) → m w sl = .ok () sl' →
  (∀ σ', Keep P σ σ' → Fit sl' σ' → Good G H (prs sl' σ' ++ T) → Q σ' H) → t x σ H Q
theorem stVar_ok {i : Nat} {k : Bool} {w : W} {sl sl' : Sl} (h : Mini.stVar i k w sl = .ok () sl') : i < sl.length ∧ sl' = sl.set i (some (if k then w else .sh w.frz)) := by
  unfold Mini.stVar at h
  split at h
  · cases h; exact ⟨by assumption, rfl⟩
  · cases h
theorem Good.store {sl : Sl} {σ : St} {i : Nat} {w : W} {x : V} {k : Bool} (ft : Fit sl σ) (hi : i < sl.length) (g : Good G H ((w, x) :: (prs sl σ ++ T))) : Good G H (prs (sl.set i (some (if k then w else .sh w.frz))) (σ.set i (some x)) ++ T) := by
  have g1 : Good G H ((if k then w else .sh w.frz, x) :: (prs sl σ ++ T)) := by
    cases k with
    | true => exact g
    | false => exact g.freeze
  obtain ⟨T', hp⟩ := prs_drop (sl := sl) (σ := σ) (i := i)
  have g2 : Good G H (T' ++ ((if k then w else .sh w.frz, x) :: (prs (sl.set i none) σ ++ T))) := by
    refine g1.perm (((hp.append_right T).cons _).trans ?_)
    rw [List.append_assoc]
    exact List.perm_middle.symm
  exact g2.drop.perm ((prs_store hi ft).append_right T).symm
theorem sg_name {i : Nat} {k : Bool} (hP : P i = false) : SGo G X P (gName i) (Mini.stVar i k) := by
  intro sl sl' σ H T w x Q ft g h q
  obtain ⟨hi, rfl⟩ := stVar_ok h
  exact q _ (.set hP) ft.store (Good.store ft hi g)
def SGs (G : Gb) (P : Nat → Bool) (t : TGs) (m : List PV → M Unit) : Prop := ∀ (sl sl' : Sl) (σ : St) (H : Hp) (T : List WV) (vs : List PV) (xs : List V) (Q : St → Hp → Prop), Fit sl σ → vs.length = xs.length → Good G H (shs vs xs ++ (prs sl σ ++ T)) → m vs sl = .ok () sl' →
  (∀ σ', Keep P σ σ' → Fit sl' σ' → Good G H (prs sl' σ' ++ T) → Q σ' H) → t xs σ H Q
theorem sgs_nil : SGs G P gNil (Mini.stTgs []) := by
  intro sl sl' σ H T vs xs Q ft hl g h q
  cases vs with
  | nil =>
    cases xs with
    | nil =>
      have h : (pure () : M Unit) sl = .ok () sl' := h
      obtain ⟨_, rfl⟩ := pure_ok.mp h
      exact ⟨rfl, q σ .refl ft g⟩
    | cons => simp at hl
  | cons => exact (fail_ok.mp h).elim
theorem sgs_cons {t : Mini.Tg} {ts : List Mini.Tg} {g1 : TG} {g2 : TGs} (h1 : SGo G X P g1 (Mini.stTg t)) (h2 : SGs G P g2 (Mini.stTgs ts)) : SGs G P (gCons g1 g2) (Mini.stTgs (t :: ts)) := by
  intro sl sl' σ H T vs xs Q ft hl g h q
  cases vs with
  | nil => exact (fail_ok.mp h).elim
  | cons v vs =>
    cases xs with
    | nil => simp at hl
    | cons x xs =>
      have h : (do Mini.stTg t (.sh v); Mini.stTgs ts vs : M Unit) sl = .ok () sl' := h
      obtain ⟨_, s1, e1, e2⟩ := bind_ok.mp h
      have g : Good G H ((.sh v, x) :: (shs vs xs ++ (prs sl σ ++ T))) := g
      refine ⟨x, xs, rfl, h1 sl s1 σ H (shs vs xs ++ T) (.sh v) x _ ft ?_ e1 fun σ' k' f' g' => ?_⟩
      · refine g.perm (List.Perm.cons _ ?_)
        rw [← List.append_assoc, ← List.append_assoc]
        exact List.perm_append_comm.append_right T
      · refine h2 s1 sl' σ' H T vs xs Q f' (by simpa using hl) ?_ e2 fun σ2 k2 => q σ2 (k'.trans k2)
        refine g'.perm ?_
        rw [← List.append_assoc, ← List.append_assoc]
        exact List.perm_append_comm.append_right T
theorem shs_of : ∀ {vs : List PV} {xs : List V} {R : List WV}, Rps G H F vs xs → Gd G H F R → Gd G H F (shs vs xs ++ R)
  | [], xs, R, r, g => by rw [show xs = [] from r]; exact g
  | v :: vs, xs, R, ⟨x, r, e, h1, h2⟩, g => by
    rw [e]
    exact (shs_of h2 g).sh h1
theorem sg_tup {ts : List Mini.Tg} {g2 : TGs} {n : Nat} (hK : G.K = X.K) (h2 : SGs G P g2 (Mini.stTgs ts)) (hn : ts.length = n) : SGo G X P (gTup X.K n g2) (Mini.stTg (.tp ts)) := by
  intro sl sl' σ H T w x Q ft g h q
  have len : ∀ (ts : List Mini.Tg) (xs : List PV) (s s' : Sl), Mini.stTgs ts xs s = .ok () s' → xs.length = ts.length := by
    intro ts
    induction ts with
    | nil =>
      intro xs s s' h
      cases xs with
      | nil => rfl
      | cons => exact (fail_ok.mp h).elim
    | cons t ts ih =>
      intro xs s s' h
      cases xs with
      | nil => exact (fail_ok.mp h).elim
      | cons y ys =>
        have h : (do Mini.stTg t (.sh y); Mini.stTgs ts ys : M Unit) s = .ok () s' := h
        obtain ⟨_, s1, e1, e2⟩ := bind_ok.mp h
        rw [List.length_cons, List.length_cons, ih _ _ _ e2]
  obtain ⟨F, g1⟩ := g.freeze
  have r1 := g1.rel _ List.mem_cons_self
  have h : (match w.frz with
    | .tup xs => Mini.stTgs ts xs
    | .ktup xs => Mini.stTgs ts xs
    | _ => Mini.fail : M Unit) sl = .ok () sl' := by
    have := h
    unfold Mini.stTg at this
    exact this
  cases e : w.frz with
  | tup xs =>
    simp only [e] at h r1
    obtain ⟨a, vs, rfl, rd, rr⟩ := r1
    refine ⟨a, vs, rfl, .inl (.inl rd.2), by rw [← rr.length, len _ _ _ _ h, hn], h2 sl sl' σ H T xs vs Q ft rr.length ⟨F, shs_of rr g1.tail⟩ h q⟩
  | ktup xs =>
    simp only [e] at h r1
    obtain ⟨a, vs, rfl, rd, rr⟩ := r1
    refine ⟨a, vs, rfl, .inr (hK ▸ rd), by rw [← rr.length, len _ _ _ _ h, hn], h2 sl sl' σ H T xs vs Q ft rr.length ⟨F, shs_of rr g1.tail⟩ h q⟩
  | _ => simp only [e] at h; exact (fail_ok.mp h).elim
theorem s_asg {tg : Expr} {t : Mini.Tg} {g1 : TG} (h1 : SEv G X e m) (hg : PG X tg g1) (h2 : SGo G X P g1 (Mini.stTg t)) (hs : swapsWithSole [tg] e pos.line X.env = pure false) (hw : swappedStores [tg] e X.env = pure none) (ha : (assignEach [tg] X.env).map (·.2) = [assign tg X.env]) :
    SS G X P (.Assign [tg] e pos) (do let w ← m; Mini.stTg t w; pure .nx) := by
  intro sl sl' σ H T fl D ft g h en
  obtain ⟨w, s1, e1, h⟩ := bind_ok.mp h
  obtain ⟨_, s2, e2, h⟩ := bind_ok.mp h
  obtain ⟨rfl, rfl⟩ := pure_ok.mp h
  exact (ps_asg pe_w hg hs hw ha).w ((h1 _ _ σ H T w ft g e1).mono fun z H1 ⟨f1, g1⟩ => h2 s1 s2 σ H1 T w z D.nx f1 g1 e2 fun σ' k f' g' => en σ' H1 k f' g')
end
end Snd
end

section
set_option Elab.async false
set_option linter.all false
set_option maxRecDepth 100000
/-! S16: more statements: two names at once, a op= b, stores into containers and fields. -/
namespace Snd
open PySem PySem.Spec L2
open PyProof.Rows hiding St
open Mini (PV W Sl M CR Bi Ty Mu Fl)
variable {G : Gb} {H H' : Hp} {F F' : Fz} {L L' A B T : List WV}

section
variable (G : Gb) (X : Cx)
/-- values one behind another, as they are -/
def SEws (es : List Expr) (m : M (List W)) : Prop := ∀ (sl sl' : Sl) (σ : St) (H : Hp) (T : List WV) (ws : List W), Fit sl σ → Good G H (prs sl σ ++ T) → m sl = .ok ws sl' →
  wA X es σ H fun xs H' => Fit sl' σ ∧ ws.length = xs.length ∧ Good G H' (ws.zip xs ++ (prs sl' σ ++ T))
end
section
variable {X : Cx} {P : Nat → Bool} {e a c : Expr} {es : List Expr} {m ma mc mk : M W} {mb : M PV} {ms : M (List PV)} {pos p p2 : Pos} {x y z : Str} {st : Stmt} {sts : List Stmt} {ta : M Bool}
theorem sws_nil : SEws G X [] (pure []) := by
  intro sl sl' σ H T vs ft g h
  obtain ⟨rfl, rfl⟩ := pure_ok.mp h
  exact pa_nil.w ⟨ft, rfl, g⟩
theorem sws_cons {ms : M (List W)} (h : SEv G X e m) (hs : SEws G X es ms) (hst : starEach (e :: es) X.env = (false, eval e X.env) :: starEach es X.env) :
    SEws G X (e :: es) (do let w ← m; let ws ← ms; pure (w :: ws)) := by
  intro sl sl' σ H T vs ft g hm
  obtain ⟨w, s1, h1, hm⟩ := bind_ok.mp hm
  obtain ⟨ws, s2, h2, hm⟩ := bind_ok.mp hm
  obtain ⟨rfl, rfl⟩ := pure_ok.mp hm
  refine (pa_cons pe_w pa_w hst).w ((h sl s1 σ H T w ft g h1).mono fun x H1 ⟨f1, g1⟩ => ?_)
  refine (hs s1 s2 σ H1 ((w, x) :: T) ws f1 g1.back h2).mono fun xs H2 ⟨f2, hl, g2⟩ => ⟨f2, congrArg (· + 1) hl, ?_⟩
  exact g2.rise
theorem s_par2 (hc : X.calm = true) {i j : Nat} {ki kj : Bool} {ms : M (List W)} {px py pt : Pos} {kt k2 : Nat} {pt2 : Pos} (hN : X.N.Nodup) (hi : X.N[i]? = some x) (hj : X.N[j]? = some y) (hij : i ≠ j)
    (hx : X.env.scope.names.lookup x = some .local) (hy : X.env.scope.names.lookup y = some .local) (hs : SEws G X [a, c] ms) (hPi : P i = false) (hPj : P j = false)
    (hw : swappedStores [.Tuple [.Name x px, .Name y py] kt pt] (.Tuple [a, c] k2 pt2) X.env = pure (some [x, y])) :
    SS G X P (.Assign [.Tuple [.Name x px, .Name y py] kt pt] (.Tuple [a, c] k2 pt2) pos) (do let ws ← ms; Mini.stPar [(i, ki), (j, kj)] ws; pure .nx) := by
  intro sl sl' σ H T fl D ft g h en
  obtain ⟨ws, s1, e1, h⟩ := bind_ok.mp h
  obtain ⟨_, s2, e2, h⟩ := bind_ok.mp h
  obtain ⟨rfl, rfl⟩ := pure_ok.mp h
  refine (ps_par hc hN hi hj hij hx hy pa_w hw rfl).w ((hs _ _ σ H T ws ft g e1).mono fun xs H1 ⟨f1, hl, g1⟩ => ?_)
  match ws, xs, hl, g1, e2 with
  | [w1, w2], [x1, x2], _, g1, e2 =>
    have e2 : (do Mini.stVar i ki w1; Mini.stPar [(j, kj)] [w2] : M Unit) s1 = .ok () s2 := e2
    obtain ⟨_, s3, e3, e2⟩ := bind_ok.mp e2
    have e2 : (do Mini.stVar j kj w2; Mini.stPar [] [] : M Unit) s3 = .ok () s2 := e2
    obtain ⟨_, s4, e4, e2⟩ := bind_ok.mp e2
    have e2 : (pure () : M Unit) s4 = .ok () s2 := e2
    obtain ⟨_, rfl⟩ := pure_ok.mp e2
    obtain ⟨l3, rfl⟩ := stVar_ok e3
    obtain ⟨l4, rfl⟩ := stVar_ok e4
    refine ⟨x1, x2, rfl, en _ H1 ((Keep.set hPi).trans (Keep.set hPj)) f1.store.store ?_⟩
    have g1 : Good G H1 ((w1, x1) :: (w2, x2) :: (prs s1 σ ++ T)) := g1
    have g2 : Good G H1 ((w1, x1) :: (prs s1 σ ++ (w2, x2) :: T)) := g1.perm (List.Perm.cons _ List.perm_middle.symm)
    have g3 := Good.store (k := ki) f1 l3 g2
    exact Good.store (k := kj) f1.store l4 (g3.perm List.perm_middle)
  | [], [], _, _, e2 => exact (fail_ok.mp (show (Mini.fail : M Unit) s1 = _ from e2)).elim
  | [w1], [x1], _, _, e2 =>
    have e2 : (do Mini.stVar i ki w1; Mini.stPar [(j, kj)] [] : M Unit) s1 = .ok () s2 := e2
    obtain ⟨_, s3, e3, e2⟩ := bind_ok.mp e2
    exact (fail_ok.mp (show (Mini.fail : M Unit) s3 = _ from e2)).elim
  | w1 :: w2 :: w3 :: ws, x1 :: x2 :: x3 :: xs, _, _, e2 =>
    have e2 : (do Mini.stVar i ki w1; Mini.stPar [(j, kj)] (w2 :: w3 :: ws) : M Unit) s1 = .ok () s2 := e2
    obtain ⟨_, s3, e3, e2⟩ := bind_ok.mp e2
    have e2 : (do Mini.stVar j kj w2; Mini.stPar [] (w3 :: ws) : M Unit) s3 = .ok () s2 := e2
    obtain ⟨_, s4, e4, e2⟩ := bind_ok.mp e2
    exact (fail_ok.mp (show (Mini.fail : M Unit) s4 = _ from e2)).elim
theorem s_par3 (hc : X.calm = true) {i j l : Nat} {ki kj kl : Bool} {ms : M (List W)} {d : Expr} {px py pz pt : Pos} {kt k2 : Nat} {pt2 : Pos} (hN : X.N.Nodup) (hi : X.N[i]? = some x) (hj : X.N[j]? = some y) (hl : X.N[l]? = some z) (hij : i ≠ j) (hil : i ≠ l) (hjl : j ≠ l)
    (hx : X.env.scope.names.lookup x = some .local) (hy : X.env.scope.names.lookup y = some .local) (hz : X.env.scope.names.lookup z = some .local) (hs : SEws G X [a, c, d] ms) (hPi : P i = false) (hPj : P j = false) (hPl : P l = false)
    (hw : swappedStores [.Tuple [.Name x px, .Name y py, .Name z pz] kt pt] (.Tuple [a, c, d] k2 pt2) X.env = pure (some [x, y, z])) :
    SS G X P (.Assign [.Tuple [.Name x px, .Name y py, .Name z pz] kt pt] (.Tuple [a, c, d] k2 pt2) pos) (do let ws ← ms; Mini.stPar [(i, ki), (j, kj), (l, kl)] ws; pure .nx) := by
  intro sl sl' σ H T fl D ft g h en
  obtain ⟨ws, s1, e1, h⟩ := bind_ok.mp h
  obtain ⟨_, s2, e2, h⟩ := bind_ok.mp h
  obtain ⟨rfl, rfl⟩ := pure_ok.mp h
  refine (ps_par3 hc hN hi hj hl hij hil hjl hx hy hz pa_w hw rfl).w ((hs _ _ σ H T ws ft g e1).mono fun xs H1 ⟨f1, hl, g1⟩ => ?_)
  have un : ∀ {i : Nat} {k : Bool} {r : List (Nat × Bool)} {ws : List W} {s s' : Sl}, Mini.stPar ((i, k) :: r) ws s = .ok () s' → ∃ w ws', ws = w :: ws' ∧ i < s.length ∧ Mini.stPar r ws' (s.set i (some (if k then w else .sh w.frz))) = .ok () s' := by
    intro i k r ws s s' h
    cases ws with
    | nil => exact (fail_ok.mp (show (Mini.fail : M Unit) s = _ from h)).elim
    | cons w ws' =>
      obtain ⟨_, s3, e3, e2⟩ := bind_ok.mp (show (do Mini.stVar i k w; Mini.stPar r ws' : M Unit) s = .ok () s' from h)
      obtain ⟨l3, rfl⟩ := stVar_ok e3
      exact ⟨w, ws', rfl, l3, e2⟩
  obtain ⟨w1, ws1, rfl, l1, e2⟩ := un e2
  obtain ⟨w2, ws2, rfl, l2, e2⟩ := un e2
  obtain ⟨w3, ws3, rfl, l3, e2⟩ := un e2
  cases ws3 with
  | cons => exact (fail_ok.mp (show (Mini.fail : M Unit) _ = _ from e2)).elim
  | nil =>
    have e2 : (pure () : M Unit) _ = .ok () s2 := e2
    obtain ⟨_, rfl⟩ := pure_ok.mp e2
    match xs, hl, g1 with
    | [x1, x2, x3], _, g1 =>
      refine ⟨x1, x2, x3, rfl, en _ H1 (((Keep.set hPi).trans (Keep.set hPj)).trans (Keep.set hPl)) f1.store.store.store ?_⟩
      have g1 : Good G H1 ((w1, x1) :: (w2, x2) :: (w3, x3) :: (prs s1 σ ++ T)) := g1
      have g2 : Good G H1 ((w1, x1) :: (prs s1 σ ++ (w2, x2) :: (w3, x3) :: T)) := g1.perm (List.Perm.cons _ ((List.perm_middle (l₁ := prs s1 σ) (l₂ := (w3, x3) :: T)).trans (List.Perm.cons _ List.perm_middle)).symm)
      have g3 := Good.store (k := ki) f1 l1 g2
      have g4 := Good.store (k := kj) f1.store l2 (g3.perm List.perm_middle)
      exact Good.store (k := kl) f1.store.store l3 (g4.perm List.perm_middle)

/-! ### a op= b -/
theorem ip_mul : PIp X .Mult (fun x y H Q => ∃ i j, x = .int i ∧ y = .int j ∧ CMul i j ∧ Q (.int (i * j)) H) := by
  intro pins s σ H x y v u Q I rx ry q
  obtain ⟨i, j, rfl, rfl, h1, q⟩ := q
  exact iop_mul pins s σ H _ _ v u Q I rx ry ⟨i, j, rfl, rfl, h1, q⟩
theorem s_aug {o : Mini.BOp} {i : Nat} (ho : o = .add ∨ o = .sub ∨ o = .mul) (hN : X.N.Nodup) (hi : X.N[i]? = some x) (hx : Loc X.env.scope x) (hf : X.fn x = true ∨ X.env.scope.names.lookup x = some .local) (hc : SEv G X c mc) (hP : P i = false) :
    SS G X P (.AugAssign (.Name x p) (opOf o) c pos) (do
      let x ← Mini.rdVar i
      let y ← mc
      match x.frz, y.frz with
      | .int a, .int b => (do let v ← Mini.ofO (Mini.augI o a b); Mini.stVar i false (.sh (.int v)); pure .nx)
      | _, _ => Mini.fail) := by
  intro sl sl' σ H T fl D ft g h en
  obtain ⟨w1, s1, e1, h⟩ := bind_ok.mp h
  obtain ⟨w2, s2, e2, hq⟩ := bind_ok.mp h
  unfold Mini.rdVar at e1
  split at e1
  · rename_i w0 e0
    cases e1
    obtain ⟨x0, e9⟩ := ft.get e0
    have g1 := ((g.takeS e0 e9).freeze.dup).give2 (lt_of_get e0) e9
    have f1 : Fit (sl.set i (some (.sh w0.frz))) σ := ft.set e9
    cases e3 : w0.frz with
    | int a =>
      cases e4 : w2.frz with
      | int b =>
        rw [show (W.sh w0.frz).frz = w0.frz from rfl] at hq
        simp only [e3, e4] at hq
        obtain ⟨v, s3, e5, hq⟩ := bind_ok.mp hq
        obtain ⟨e6, rfl⟩ := ofO_ok.mp e5
        obtain ⟨_, s4, e7, hq⟩ := bind_ok.mp hq
        obtain ⟨rfl, rfl⟩ := pure_ok.mp hq
        obtain ⟨l7, rfl⟩ := stVar_ok e7
        have lx := g1.lk
        rw [show (W.sh w0.frz).frz = w0.frz from rfl, e3] at lx
        cases lx.flatI
        have run : wE X c σ H fun y H1 => y = .int b ∧ D.nx (σ.set i (some (.int v))) H1 := (hc _ _ σ H T w2 f1 g1.tail e2).mono fun y H2 ⟨f2, g2⟩ => by
          have ly := g2.lk
          rw [e4] at ly
          refine ⟨ly.flatI, en _ H2 (.set hP) f2.store ?_⟩
          exact Good.store (w := .sh (.int v)) (k := false) f2 l7 g2.tail.int
        rcases ho with rfl | rfl | rfl
        · cases e6
          exact (ps_aug hN hi hx pe_w ip_add hf).w ⟨_, e9, run.mono fun y H2 ⟨ey, q⟩ => ⟨a, b, rfl, ey, q⟩⟩
        · cases e6
          exact (ps_aug hN hi hx pe_w ip_sub hf).w ⟨_, e9, run.mono fun y H2 ⟨ey, q⟩ => ⟨a, b, rfl, ey, q⟩⟩
        · have e6 : (if Mini.small a || Mini.small b then some (a * b) else none) = some v := e6
          split at e6
          · rename_i hs
            cases e6
            refine (ps_aug hN hi hx pe_w ip_mul hf).w ⟨_, e9, run.mono fun y H2 ⟨ey, q⟩ => ⟨a, b, rfl, ey, ?_, q⟩⟩
            rcases Bool.or_eq_true_iff.mp hs with hs | hs
            · exact .inl (small_iff hs)
            · exact .inr (small_iff hs)
          · cases e6
      | _ => rw [show (W.sh w0.frz).frz = w0.frz from rfl] at hq; simp only [e3, e4] at hq; exact (fail_ok.mp hq).elim
    | _ => rw [show (W.sh w0.frz).frz = w0.frz from rfl] at hq; simp only [e3] at hq; exact (fail_ok.mp hq).elim
  · cases e1

/-! ### c[k] = v -/
def SetW (X : Cx) : TSet := fun o i v H Q => ∀ (pins : List (Addr × Obj)) (s : Shared) (σ : St) (ov iv u : Value), Inv X pins σ H s → RelV o ov → RelV i iv → RelV v u →
    wpAny (model X.prog X.w) X.A (setItem ov iv u) (fun _ s' => ∃ H', Inv X pins σ H' s' ∧ Q H') X.xe s
theorem set_w : PSet X (SetW X) := fun pins s σ H o i v ov iv u Q I ro ri rv q => q pins s σ ov iv u I ro ri rv
theorem PSet.w {t : TSet} (h : PSet X t) {o i v : V} {Q : Hp → Prop} (q : t o i v H Q) : SetW X o i v H Q := fun pins s σ ov iv u I ro ri rv => h pins s σ H o i v ov iv u Q I ro ri rv q
theorem rpK_any {k : Mini.Key} : ∀ {kvs : List (Mini.Key × PV)} {us : List (Key × V)}, RpK G H F kvs us → (us.any fun kv => decide (kv.1 = k)) = kvs.any fun kv => decide (kv.1 = k)
  | [], _, h => by rw [show _ = [] from h]; rfl
  | (j, t) :: kvs, _, ⟨x, r, e, _, _, h⟩ => by rw [e, List.any_cons, List.any_cons, rpK_any h]
theorem rpK_app : ∀ {kvs : List (Mini.Key × PV)} {us : List (Key × V)} {k : Mini.Key} {v : PV} {x : V}, RpK G H F kvs us → kOk k = true → Rp G H F v x → RpK G H F (kvs ++ [(k, v)]) (us ++ [(k, x)])
  | [], us, k, v, x, h, ok, hv => by rw [show us = [] from h]; exact ⟨x, [], rfl, ok, hv, rfl⟩
  | (j, t) :: kvs, us, k, v, x, ⟨z, r, e, o1, h1, h2⟩, ok, hv => by
    rw [e]
    exact ⟨z, _, rfl, o1, h1, rpK_app h2 ok hv⟩
theorem rpK_map {k : Mini.Key} {v : PV} {x : V} (hv : Rp G H F v x) : ∀ {kvs : List (Mini.Key × PV)} {us : List (Key × V)}, RpK G H F kvs us → RpK G H F (kvs.map fun p => if p.1 = k then (p.1, v) else p) (us.map fun kv => if kv.1 = k then (kv.1, x) else kv)
  | [], us, h => by rw [show us = [] from h]; rfl
  | (j, t) :: kvs, us, ⟨z, r, e, o1, h1, h2⟩ => by
    rw [e, List.map_cons, List.map_cons]
    by_cases q : j = k
    · rw [if_pos q, if_pos q]
      exact ⟨x, _, rfl, o1, hv, rpK_map hv h2⟩
    · rw [if_neg q, if_neg q]
      exact ⟨z, _, rfl, o1, h1, rpK_map hv h2⟩
theorem RpK.put {kvs : List (Mini.Key × PV)} {us : List (Key × V)} {k : Mini.Key} {v : PV} {x : V} (h : RpK G H F kvs us) (ok : kOk k = true) (hv : Rp G H F v x) : RpK G H F (Mini.putK k v kvs) (L2.putK us k x) := by
  unfold Mini.putK L2.putK
  rw [rpK_any h]
  split
  · exact rpK_map hv h
  · exact rpK_app h ok hv
theorem rpT_any {k : List Mini.Key} : ∀ {kvs : List (List Mini.Key × PV)} {us : List (List Key × V)}, RpT G H F kvs us → (us.any fun kv => decide (kv.1 = k)) = kvs.any fun kv => decide (kv.1 = k)
  | [], _, h => by rw [show _ = [] from h]; rfl
  | (j, t) :: kvs, _, ⟨x, r, e, _, _, h⟩ => by rw [e, List.any_cons, List.any_cons, rpT_any h]
theorem rpT_app : ∀ {kvs : List (List Mini.Key × PV)} {us : List (List Key × V)} {k : List Mini.Key} {v : PV} {x : V}, RpT G H F kvs us → k.all kOk = true → Rp G H F v x → RpT G H F (kvs ++ [(k, v)]) (us ++ [(k, x)])
  | [], us, k, v, x, h, ok, hv => by rw [show us = [] from h]; exact ⟨x, [], rfl, ok, hv, rfl⟩
  | (j, t) :: kvs, us, k, v, x, ⟨z, r, e, o1, h1, h2⟩, ok, hv => by
    rw [e]
    exact ⟨z, _, rfl, o1, h1, rpT_app h2 ok hv⟩
theorem rpT_map {k : List Mini.Key} {v : PV} {x : V} (hv : Rp G H F v x) : ∀ {kvs : List (List Mini.Key × PV)} {us : List (List Key × V)}, RpT G H F kvs us → RpT G H F (kvs.map fun p => if p.1 = k then (p.1, v) else p) (us.map fun kv => if kv.1 = k then (kv.1, x) else kv)
  | [], us, h => by rw [show us = [] from h]; rfl
  | (j, t) :: kvs, us, ⟨z, r, e, o1, h1, h2⟩ => by
    rw [e, List.map_cons, List.map_cons]
    by_cases q : j = k
    · rw [if_pos q, if_pos q]
      exact ⟨x, _, rfl, o1, hv, rpT_map hv h2⟩
    · rw [if_neg q, if_neg q]
      exact ⟨z, _, rfl, o1, h1, rpT_map hv h2⟩
theorem RpT.put {kvs : List (List Mini.Key × PV)} {us : List (List Key × V)} {k : List Mini.Key} {v : PV} {x : V} (h : RpT G H F kvs us) (ok : k.all kOk = true) (hv : Rp G H F v x) : RpT G H F (Mini.putK k v kvs) (L2.putK us k x) := by
  unfold Mini.putK L2.putK
  rw [rpT_any h]
  split
  · exact rpT_map hv h
  · exact rpT_app h ok hv
theorem setItem_ok (b : Bs G X) {d k v d' : PV} {o y z : V} {Q : Hp → Prop} (g : Gd G H F ((.own d, o) :: L)) (h2 : Lk G H k y) (h3 : Rp G H F v z) (e : Mini.setItem d k v = some d') (q : ∀ H', Good G H' ((.own d', o) :: L) → Q H') : SetW X o y z H Q := by
  have hu := b.un
  cases d with
  | lst ts =>
    obtain ⟨a, us, rfl, ha, rr⟩ := (show Own G H F (.lst ts) o from g.rel _ List.mem_cons_self)
    cases k with
    | int i =>
      cases h2.flatI
      have e : (if -(2 ^ 63) ≤ i && i < 2 ^ 63 then (Mini.ixN ts.length i).map fun k => PV.lst (ts.set k v) else none) = some d' := e
      split at e
      · obtain ⟨n, e1, rfl⟩ := Option.map_eq_some_iff.mp e
        refine PSet.w set_list ⟨a, us, i, n, rfl, rfl, ha, by rw [← rr.length]; exact e1, q _ ⟨F, g.chg (v' := .lst (ts.set n v)) ⟨a, _, rfl, upd_same, Rps.mono (.upd g.notF) (fun _ z => z) _ _ (rr.set n h3)⟩⟩⟩
      · cases e
    | _ => cases e
  | dk kvs =>
    obtain ⟨a, us, rfl, ha, rr⟩ := (show Own G H F (.dk kvs) o from g.rel _ List.mem_cons_self)
    have e : ((Mini.keyOf k).bind fun k => if kvs.length < Mini.SZ then some (PV.dk (Mini.putK k v kvs)) else none) = some d' := e
    obtain ⟨j, e1, e2⟩ := Option.bind_eq_some_iff.mp e
    split at e2
    · rename_i hz
      cases e2
      obtain ⟨rfl, ok⟩ := keyOf_kV e1 h2
      exact PSet.w (set_dict (by omega)) ⟨a, _, rfl, .inl ⟨us, j, ha, rfl, by rw [SZ_eq, ← rpK_len rr]; exact hz, rfl⟩, q _ ⟨F, g.chg (v' := .dk (Mini.putK j v kvs)) ⟨a, _, rfl, upd_same, RpK.mono (.upd g.notF) (fun _ z => z) _ _ (rr.put ok h3)⟩⟩⟩
    · cases e2
  | dt kvs =>
    obtain ⟨a, us, rfl, ha, rr⟩ := (show Own G H F (.dt kvs) o from g.rel _ List.mem_cons_self)
    have e : ((Mini.tkeyOf k).bind fun k => if kvs.length < Mini.SZ then some (PV.dt (Mini.putK k v kvs)) else none) = some d' := e
    obtain ⟨j, e1, e2⟩ := Option.bind_eq_some_iff.mp e
    split at e2
    · rename_i hz
      cases e2
      obtain ⟨c, rfl, hb, ok⟩ := tkeyOf_kV e1 h2
      exact PSet.w (set_dict (by omega)) ⟨a, _, rfl, .inr ⟨us, j, c, ha, rfl, hb, by rw [SZ_eq, ← rpT_len rr]; exact hz, rfl⟩, q _ ⟨F, g.chg (v' := .dt (Mini.putK j v kvs)) ⟨a, _, rfl, upd_same, RpT.mono (.upd g.notF) (fun _ z => z) _ _ (rr.put ok h3)⟩⟩⟩
    · cases e2
  | _ => cases e
theorem s_seti (b : Bs G X) {i : Nat} {tpos : Pos} (hN : X.N[i]? = some x) (hv : Vis X.env.scope x) (hd : (x == ("__debug__" : Str)) = false) (hcd : (x == ("__classdict__" : Str)) = false) (hk : SEv G X c mk) (he : SEv G X e m)
    (ha : ∀ v, assign (.Subscript (.Name x p) c tpos) X.env v = (do
        let ov ← holding [v] (eval (.Name x p) X.env)
        let iv ← holding [v, ov] (eval c X.env)
        standAt tpos
        holding [v, ov, iv] (setItem ov iv v)
        release [v, ov, iv] []))
    (hs : swapsWithSole [.Subscript (.Name x p) c tpos] e pos.line X.env = pure false) (hw : swappedStores [.Subscript (.Name x p) c tpos] e X.env = pure none) :
    SS G X P (.Assign [.Subscript (.Name x p) c tpos] e pos) (do
      let v ← m
      let _ ← Mini.viewVar i
      let k ← mk
      Mini.modPlace i none fun d => (Mini.setItem d k.frz v.frz).map fun c' => ((), c')
      pure .nx) := by
  intro sl sl' σ H T fl D ft g h en
  obtain ⟨w1, s1, e1, h⟩ := bind_ok.mp h
  obtain ⟨v0, s2, e2, h⟩ := bind_ok.mp h
  obtain ⟨w3, s3, e3, h⟩ := bind_ok.mp h
  obtain ⟨_, s4, e4, h⟩ := bind_ok.mp h
  obtain ⟨rfl, rfl⟩ := pure_ok.mp h
  obtain ⟨d, d', e5, e6, rfl⟩ := modPlace_ok e4
  obtain ⟨d2, e7, e8⟩ := Option.map_eq_some_iff.mp e6
  cases e8
  refine (ps_asg pe_w (pg_sub pe_w pe_w set_w ha) hs hw rfl).w ((he.fz ft g e1).mono fun z H1 ⟨f1, g1⟩ => ?_)
  unfold Mini.viewVar at e2
  split at e2
  · rename_i w0 e9
    cases e2
    obtain ⟨x0, e10⟩ := f1.get e9
    refine wE.var hN hv hd hcd e10 ?_
    refine (hk _ _ σ H1 ((.sh w1.frz, z) :: T) w3 f1 g1.back e3).mono fun y H2 ⟨f2, g2⟩ => ?_
    have g3 : Good G H2 ((w3, y) :: (.sh w1.frz, z) :: (prs s3 σ ++ T)) := g2.perm (.cons _ List.perm_middle)
    obtain ⟨F, g4⟩ := g3
    have g5 := g4.tail.tail.perm ((prs_get e5 e10).append_right T)
    refine setItem_ok b g5 (g4.rel _ List.mem_cons_self).lk (g4.rel _ (List.mem_cons_of_mem _ List.mem_cons_self)) e7 fun H' g' => en σ H' .refl (f2.set e10) (g'.giveS (lt_of_get e5) e10)
  · cases e2
end
end Snd
end

section
set_option Elab.async false
set_option linter.all false
set_option maxRecDepth 100000
/-! S17: a field is stored; defs by their bodies. -/
namespace Snd
open PySem PySem.Spec L2
open PyProof.Rows hiding St
open Mini (PV W Sl M CR Bi Ty Mu Fl)
variable {G : Gb} {H H' : Hp} {F F' : Fz} {L L' A B T : List WV}

theorem rws_put (n : Nms G) {f : Nat} {v : PV} {y : V} (hv : Rp G H F v y) : ∀ {fs : List (Nat × W)} {us : List (Str × V)}, RWs G H F fs us →
    RWs G H F (Mini.putF f (.sh v) fs) (L2.putF (G.fnm f) y us) ∧ (oAs H (Mini.putF f (.sh v) fs) (L2.putF (G.fnm f) y us)).Sublist (oAs H fs us)
  | [], us, h => by
    have h : us = [] := h
    subst h
    exact ⟨⟨y, [], rfl, hv, rfl⟩, by simp [Mini.putF, L2.putF, oAs, oAn, oA]⟩
  | (g, w) :: fs, us, h => by
    obtain ⟨x, r, rfl, hw, hr⟩ := h
    unfold Mini.putF L2.putF
    by_cases q : g = f
    · subst q
      rw [if_pos rfl, if_pos rfl]
      refine ⟨⟨y, r, rfl, hv, hr⟩, ?_⟩
      simp only [oAs, oAn, oA, List.nil_append]
      exact List.sublist_append_right _ _
    · rw [if_neg q, if_neg fun e => q (n.inj _ _ e)]
      obtain ⟨i1, i2⟩ := rws_put n hv hr
      refine ⟨⟨x, _, rfl, hw, i1⟩, ?_⟩
      simp only [oAs, oAn]
      exact List.Sublist.append (List.Sublist.refl _) i2
theorem Gd.setF (n : Nms G) {c f : Nat} {fs : List (Nat × W)} {a dx : Addr} {us : List (Str × V)} {v : PV} {y : V} (g : Gd G H F ((.obj c fs, .ref a) :: L)) (ha : H a = some (.ins (G.cad c) dx us)) (hv : Rp G H F v y) :
    Gd G (upd H a (.ins (G.cad c) dx (L2.putF (G.fnm f) y us))) F ((.obj c (Mini.putF f (.sh v) fs), .ref a) :: L) := by
  obtain ⟨a', dx', us', e1, e2, rr⟩ := g.rel _ List.mem_cons_self
  cases e1
  rw [ha] at e2
  cases e2
  have nd := g.nod
  rw [oL_cons] at nd
  have eo : oA H (.obj c fs) (.ref a) = a :: oAs H fs us := by simp only [oA, ha]
  rw [eo] at nd
  obtain ⟨n1, n2, n3⟩ := List.nodup_append.mp nd
  have nF : ¬ F a := g.out a (by rw [oL_cons, eo]; exact List.mem_append_left _ List.mem_cons_self)
  have nL : a ∉ oL H L := fun z => n3 a List.mem_cons_self a z rfl
  have k : Kp H (upd H a (.ins (G.cad c) dx (L2.putF (G.fnm f) y us))) F := .upd nF
  obtain ⟨r1, r2⟩ := RWs.frame (F' := F) k (fun _ z => z) fs us (fun b hb => upd_ne fun e => (List.nodup_cons.mp n1).1 (e ▸ hb)) rr
  obtain ⟨p1, p2⟩ := rws_put n (f := f) (Rp.mono k (fun _ z => z) v y hv) r1
  have g' := g.tail.write (o := .ins (G.cad c) dx (L2.putF (G.fnm f) y us)) nF nL
  have e2 : oL (upd H a (.ins (G.cad c) dx (L2.putF (G.fnm f) y us))) L = oL H L := oL_frame fun q hq => (RW.frame (F' := F) k (fun _ z => z) q.1 q.2 (fun b hb => upd_ne fun z => nL (z ▸ mem_oL.mpr ⟨q, hq, hb⟩)) (g.tail.rel q hq)).2
  have eo' : oA (upd H a (.ins (G.cad c) dx (L2.putF (G.fnm f) y us))) (.obj c (Mini.putF f (.sh v) fs)) (.ref a) = a :: oAs (upd H a (.ins (G.cad c) dx (L2.putF (G.fnm f) y us))) (Mini.putF f (.sh v) fs) (L2.putF (G.fnm f) y us) := by simp only [oA, upd_same]
  rw [r2] at p2
  refine ⟨fun q hq => ?_, ?_, fun b hb => ?_, g'.the, g'.lck, g'.nfz⟩
  · rcases List.mem_cons.mp hq with rfl | hq
    · exact ⟨a, dx, _, rfl, upd_same, p1⟩
    · exact g'.rel q hq
  · rw [oL_cons, eo', e2]
    exact nd.sublist (List.Sublist.append (p2.cons₂ a) (List.Sublist.refl _))
  · rw [oL_cons, eo', e2] at hb
    refine g.out b ?_
    rw [oL_cons, eo]
    rcases List.mem_append.mp hb with hb | hb
    · refine List.mem_append_left _ ?_
      rcases List.mem_cons.mp hb with rfl | hb
      · exact List.mem_cons_self
      · exact List.mem_cons_of_mem _ (p2.subset hb)
    · exact List.mem_append_right _ hb
theorem rws_len : ∀ {fs : List (Nat × W)} {us : List (Str × V)}, RWs G H F fs us → us.length = fs.length
  | [], us, h => by rw [show us = [] from h]; rfl
  | (g, w) :: fs, us, ⟨x, r, e, _, h⟩ => by rw [e, List.length_cons, List.length_cons, rws_len h]
section
variable {X : Cx} {P : Nat → Bool} {e : Expr} {m : M W} {pos p tpos : Pos} {x : Str} {fok : Nat → Nat → Bool}
theorem s_setf (n : Nms G) (hf : FOk G X.K fok) {i f : Nat} (hN : X.N[i]? = some x) (hv : Vis X.env.scope x) (hd : (x == ("__debug__" : Str)) = false) (hcd : (x == ("__classdict__" : Str)) = false) (he : SEv G X e m)
    (hs : swapsWith e (some (.Attribute (.Name x p) (G.fnm f) tpos)) pos.line X.env = pure false) :
    SS G X P (.Assign [.Attribute (.Name x p) (G.fnm f) tpos] e pos) (do
      let v ← m
      (fun s => match s[i]? with
        | some (some (.obj c fs)) => if fok c f && fs.length < 1000 then .ok .nx (s.set i (some (.obj c (Mini.putF f (.sh v.frz) fs)))) else .no
        | _ => .no : M Fl)) := by
  intro sl sl' σ H T fl D ft g h en
  obtain ⟨w1, s1, e1, h⟩ := bind_ok.mp h
  split at h
  · rename_i c fs e2
    split at h
    · rename_i hok
      cases h
      have hok := Bool.and_eq_true_iff.mp hok
      have hlen : fs.length < 1000 := by simpa using hok.2
      refine (ps_fld pe_w pe_w hs).w ((he.fz ft g e1).mono fun y H1 ⟨f1, g1⟩ => ?_)
      obtain ⟨x0, e3⟩ := f1.get e2
      refine wE.var hN hv hd hcd e3 ?_
      obtain ⟨F, g2⟩ := g1
      have hy := g2.rel _ List.mem_cons_self
      have g3 := g2.tail.perm ((prs_get e2 e3).append_right T)
      obtain ⟨a, dx, us, rfl, ha, rr⟩ := g3.rel _ List.mem_cons_self
      obtain ⟨c1, c2⟩ := hf _ _ hok.1
      refine ⟨a, _, dx, us, rfl, ha, c1, c2, by rw [rws_len rr]; exact hlen, en σ _ .refl (f1.set e3) ?_⟩
      exact Good.giveS ⟨F, g3.setF n ha hy⟩ (lt_of_get e2) e3
    · cases h
  · cases h
end

/-! ### defs -/
def lendP (np : Nat) (lend : List Bool) (i : Nat) : Bool := decide (i < np) && lend.getD i false
theorem inits_get : ∀ {ws : List W} {ls : List Bool} {k i : Nat} {w : W}, ws[i]? = some w → (Mini.inits k ls ws)[i]? = some (some (if ls.getD (k + i) false then w else .sh w.frz))
  | [], _, _, _, _, e => by simp at e
  | w :: ws, ls, k, 0, w', e => by
    have e : w = w' := by simpa using e
    subst e
    rfl
  | w :: ws, ls, k, i + 1, w', e => by
    have := inits_get (ws := ws) (ls := ls) (k := k + 1) (i := i) (w := w') (by simpa using e)
    rw [show k + (i + 1) = k + 1 + i from by omega]
    simpa [Mini.inits] using this
theorem inits_len : ∀ {ws : List W} {ls : List Bool} {k : Nat}, (Mini.inits k ls ws).length = ws.length
  | [], _, _ => rfl
  | _ :: ws, ls, k => congrArg (· + 1) (inits_len (ws := ws) (ls := ls) (k := k + 1))
/-- the arguments that are not lent -/
def nlE : Nat → List Bool → List W → List V → List WV
  | k, ls, w :: ws, x :: xs => (if ls.getD k false then [] else [(.sh w.frz, x)]) ++ nlE (k + 1) ls ws xs
  | _, _, _, _ => []
theorem prs_nones : ∀ m, prs (List.replicate m none) (List.replicate m none) = []
  | 0 => rfl
  | m + 1 => prs_nones m
theorem fit_nones : ∀ m, Fit (List.replicate m none) (List.replicate m none)
  | 0 => trivial
  | m + 1 => ⟨fun z => absurd z (by simp), fit_nones m⟩
/-- the start of a body -/
theorem start_ok : ∀ {ws : List W} {xs : List V} {ls : List Bool} {k m : Nat} {R : List WV}, ws.length = xs.length → Good G H (ws.zip xs ++ R) →
    Fit (Mini.inits k ls ws ++ List.replicate m none) (xs.map some ++ List.replicate m none) ∧ Good G H (prs (Mini.inits k ls ws ++ List.replicate m none) (xs.map some ++ List.replicate m none) ++ (nlE k ls ws xs ++ R))
  | [], [], ls, k, m, R, _, g => by
    refine ⟨fit_nones m, ?_⟩
    show Good G H (prs (List.replicate m none) (List.replicate m none) ++ R)
    rw [prs_nones]
    exact g
  | w :: ws, x :: xs, ls, k, m, R, hl, g => by
    have g : Good G H ((w, x) :: (ws.zip xs ++ R)) := g
    have g1 : Good G H ((if ls.getD k false then w else .sh w.frz, x) :: ((if ls.getD k false then [] else [(.sh w.frz, x)]) ++ (ws.zip xs ++ R))) := by
      cases ls.getD k false with
      | true => exact g
      | false => exact g.freeze.dup
    have g2 : Good G H (ws.zip xs ++ ((if ls.getD k false then w else .sh w.frz, x) :: ((if ls.getD k false then [] else [(.sh w.frz, x)]) ++ R))) := by
      refine g1.perm (((List.Perm.cons _ ?_).trans List.perm_middle.symm))
      rw [← List.append_assoc, ← List.append_assoc]
      exact List.perm_append_comm.append_right R
    obtain ⟨f2, g3⟩ := start_ok (ws := ws) (xs := xs) (ls := ls) (k := k + 1) (m := m) (by simpa using hl) g2
    refine ⟨⟨fun _ => rfl, f2⟩, ?_⟩
    have g4 := g3.rise
    refine g4.perm (List.Perm.cons _ ?_)
    show (_ ++ (nlE (k + 1) ls ws xs ++ ((if ls.getD k false then [] else [(W.sh w.frz, x)]) ++ R))).Perm (_ ++ (((if ls.getD k false then [] else [(W.sh w.frz, x)]) ++ nlE (k + 1) ls ws xs) ++ R))
    refine List.Perm.append_left _ ?_
    rw [← List.append_assoc]
    exact List.perm_append_comm.append_right R
  | [], _ :: _, _, _, _, _, hl, _ => by simp at hl
  | _ :: _, [], _, _, _, _, hl, _ => by simp at hl
theorem outsOf_congr : ∀ {ws : List W} {ls : List Bool} {k : Nat} {s s' : Sl}, (∀ i, k ≤ i → s.getD i none = s'.getD i none) → Mini.outsOf k ls ws s = Mini.outsOf k ls ws s'
  | [], _, _, _, _, _ => rfl
  | w :: ws, ls, k, s, s', h => by
    unfold Mini.outsOf
    rw [h k (Nat.le_refl _), outsOf_congr (k := k + 1) fun i hi => h i (by omega)]
theorem zo_cons {o : Option W} {x : V} {os : List (Option W)} {xs : List V} : zo (o :: os) (x :: xs) = (match o with | some w => [(w, x)] | none => []) ++ zo os xs := by
  cases o <;> rfl
/-- the end of a body: what stands in the lent slots goes back -/
theorem outs_ok : ∀ {ws : List W} {xs : List V} {ls : List Bool} {k : Nat} {s : Sl} {σ : St} {R : List WV}, ws.length = xs.length → (∀ i x, xs[i]? = some x → ls.getD (k + i) false = true → σ[k + i]? = some (some x)) →
    Good G H (prs s σ ++ (nlE k ls ws xs ++ R)) → Good G H (zo (Mini.outsOf k ls ws s) xs ++ R)
  | [], [], ls, k, s, σ, R, _, _, g => Good.drop g
  | w :: ws, x :: xs, ls, k, s, σ, R, hl, hk, g => by
    have hl' : ws.length = xs.length := by simpa using hl
    have hk' : ∀ i y, xs[i]? = some y → ls.getD (k + 1 + i) false = true → σ[k + 1 + i]? = some (some y) := fun i y e l => by
      have := hk (i + 1) y (by simpa using e) (by rw [show k + (i + 1) = k + 1 + i from by omega]; exact l)
      rw [show k + (i + 1) = k + 1 + i from by omega] at this
      exact this
    have e0 : Mini.outsOf k ls (w :: ws) s = (if ls.getD k false then s.getD k none else some (.sh w.frz)) :: Mini.outsOf (k + 1) ls ws s := rfl
    rw [e0, zo_cons]
    have g : Good G H (prs s σ ++ (((if ls.getD k false then [] else [(W.sh w.frz, x)]) ++ nlE (k + 1) ls ws xs) ++ R)) := g
    cases hb : ls.getD k false with
    | false =>
      rw [hb] at g
      simp only [Bool.false_eq_true, if_false]
      have g1 : Good G H ((.sh w.frz, x) :: (prs s σ ++ (nlE (k + 1) ls ws xs ++ R))) := g.perm List.perm_middle
      have := outs_ok (s := s) (σ := σ) (R := (.sh w.frz, x) :: R) hl' hk' g1.sink
      exact this.perm List.perm_middle
    | true =>
      rw [hb] at g
      simp only [if_true, List.nil_append] at g ⊢
      cases ho : s.getD k none with
      | none => exact outs_ok (s := s) (σ := σ) hl' hk' g
      | some w' =>
        have e1 : s[k]? = some (some w') := by
          rw [List.getD_eq_getElem?_getD] at ho
          cases q : s[k]? with
          | none => rw [q] at ho; cases ho
          | some o => rw [q] at ho; exact congrArg some ho
        have e2 : σ[k]? = some (some x) := hk 0 x rfl (by rw [Nat.add_zero]; exact hb)
        have g1 : Good G H ((w', x) :: (prs (s.set k none) σ ++ (nlE (k + 1) ls ws xs ++ R))) := g.takeS e1 e2
        have := outs_ok (s := s.set k none) (σ := σ) (R := (w', x) :: R) hl' hk' g1.sink
        rw [outsOf_congr (s' := s) fun i hi => by
          rw [List.getD_eq_getElem?_getD, List.getD_eq_getElem?_getD, List.getElem?_set_ne (by omega)]] at this
        exact this.perm List.perm_middle
  | [], _ :: _, _, _, _, _, _, hl, _, _ => by simp at hl
  | _ :: _, [], _, _, _, _, _, hl, _, _ => by simp at hl
section
variable {P : Program} {w : World} {K : PySem.W.Frag} {mg : Str → Option Value} {base : Heap}
theorem fn_ok {k : Nat} {f : Addr} {name qual : Str} {params : Arguments} {body : List Stmt} {scope : Scope} {dV kV doc pm cdv ct oc : Value} {an od : Option Addr}
    {osl : Array (Option Value)} {N ps : List Str} (lk : K.lookup f = some ⟨oc, od, .func (PySem.W.fnOf name qual params body scope dV kV doc pm an cdv ct), osl⟩) (hcd : PySem.W.codeIn K cdv qual = true) (S : FnScope N ps scope)
    {C : Mini.Ctx} {d : Mini.Fn} (hnp : d.np = ps.length) (hns : d.ns = N.length)
    (hbody : ∀ (A : Around) (outer : List Env) (s : Shared) (H : Hp) (E : XK) (Z : Addr → Option (Obj × HO)), Room k (A.deeper (envOfC qual scope s.heap.objs.size f cdv)) →
      SSs (G.at Z) (cxOf NoX P w K mg base N qual scope f cdv A outer s H E) (lendP d.np d.lend) body (Mini.exSs C d.body)) :
    FnOk P w K mg base NoX (k + 1) f (PySem.W.fnOf name qual params body scope dV kV doc pm an cdv ct) ps (spOf G (Mini.runFn C d) ps.length) := by
  refine fn_of lk hcd S (fun vs H Q E h => h.1) fun A outer s H vs Q E hr h => ?_
  obtain ⟨hl, Z, R, ws, w, outs, hrun, hlw, g, q⟩ := h
  refine ⟨_, pss_w, ?_⟩
  unfold Mini.runFn at hrun
  split at hrun
  · rename_i hnw
    have e3 : L2.start N vs = vs.map some ++ List.replicate (d.ns - d.np) none := by
      unfold L2.start
      rw [hns, hnp, ← hl]
    rw [e3]
    obtain ⟨f0, g0⟩ := start_ok (ls := d.lend) (k := 0) (m := d.ns - d.np) hlw g
    have fin : ∀ {σ' : St}, Keep (lendP d.np d.lend) (vs.map some ++ List.replicate (d.ns - d.np) none) σ' → ∀ i x, vs[i]? = some x → d.lend.getD (0 + i) false = true → σ'[0 + i]? = some (some x) := fun {σ'} kp i x e l => by
      rw [Nat.zero_add] at l ⊢
      have hi : i < vs.length := (List.getElem?_eq_some_iff.mp e).1
      rw [kp i (by unfold lendP; rw [l, Bool.and_true, decide_eq_true_eq, hnp, ← hl]; exact hi)]
      rw [List.getElem?_append_left (by rw [List.length_map]; exact hi), List.getElem?_map, e]; rfl
    split at hrun
    · rename_i w' s' e1
      obtain ⟨rfl, rfl⟩ : w' = w ∧ Mini.outsOf 0 d.lend ws s' = outs := by cases hrun; exact ⟨rfl, rfl⟩
      refine hbody A outer s H E Z hr _ _ _ H _ (.rt w') _ f0 g0 e1 fun x σ' H' kp f' g' => ?_
      refine q x H' ?_
      have g2 : Good (G.at Z) H' (prs s' σ' ++ (nlE 0 d.lend ws vs ++ (w', x) :: R)) := Good.sink (A := prs s' σ') (B := nlE 0 d.lend ws vs) (T := R) g'
      exact (outs_ok hlw (fin kp) g2).perm List.perm_middle
    · rename_i s' e1
      cases hrun
      refine hbody A outer s H E Z hr _ _ _ H _ .nx _ f0 g0 e1 fun σ' H' kp f' g' => ?_
      refine q .non H' ?_
      exact (outs_ok hlw (fin kp) g').non
    · cases hrun
    · cases hrun
    · cases hrun
  · cases hrun
end
end Snd
end

section
set_option Elab.async false
set_option linter.all false
set_option maxRecDepth 100000
/-! S18: what is walked; for. -/
namespace Snd
open PySem PySem.Spec L2
open PyProof.Rows hiding St
open Mini (PV W Sl M CR Bi Ty Mu Fl)
variable {G : Gb} {H H' : Hp} {F F' : Fz} {L L' A B T : List WV}

/-- J yields these, while C stands -/
structure WalkR (G : Gb) (J : It) (C : List WV) (xs : List PV) : Prop where
  go : ∀ (i : Nat) (H : Hp) (L : List WV), i < xs.length → Good G H (C ++ L) → J.go i H
  yld : ∀ (i : Nat) (H : Hp) (x : V) (H' : Hp) (L : List WV) (v : PV), xs[i]? = some v → Good G H (C ++ L) → J.yld i H x H' → Good G H' ((.sh v, x) :: (C ++ L))
  stop : ∀ (H : Hp) (L : List WV), Good G H (C ++ L) → J.stop xs.length H
section
variable (X : Cx)
def wI (tg e : Expr) : TI := fun σ H R => ∀ (pins : List (Addr × Obj)) (s : Shared), Inv X pins σ H s → wpAny (model X.prog X.w) X.A (eval e X.env) (fun v s1 => wpAny (model X.prog X.w) X.A (pyIter v) (PIE X pins σ tg R) X.xe s1) X.xe s
def SEit (G : Gb) (tg e : Expr) (m : M (List PV)) : Prop := ∀ (sl sl' : Sl) (σ : St) (H : Hp) (T : List WV) (xs : List PV), Fit sl σ → Good G H (prs sl σ ++ T) → m sl = .ok xs sl' →
  wI X tg e σ H fun J H1 => ∃ C, WalkR G J C xs ∧ Fit sl' σ ∧ Good G H1 (C ++ (prs sl' σ ++ T))
end
section
variable {X : Cx} {tg e a c : Expr} {m ma mc : M W} {mb : M PV} {P : Nat → Bool} {pos p : Pos}
theorem pi_w : PI X tg e (wI X tg e) := ⟨fun pins s σ H R I h => h pins s I⟩
theorem _root_.L2.PI.w {wi : TI} {σ : St} {R : It → Hp → Prop} (h : PI X tg e wi) (q : wi σ H R) : wI X tg e σ H R := fun pins s I => h.run pins s σ H R I q
/-- a list, a tuple, a text -/
def iAny (K : PySem.W.Frag) (te : TE) : TI := fun σ H R => te σ H fun x H1 => (∃ a, x = .ref a ∧ (∃ xs, SqL K H1 a xs) ∧ R (Itl K a) H1) ∨ (∃ a, x = .ref a ∧ (∃ xs, SqT K H1 a xs) ∧ R (Itt K a) H1) ∨ ∃ s, x = .str s ∧ R (Its s) H1
theorem pi_any {te : TE} (he : PE X e te) : PI X tg e (iAny X.K te) := by
  refine ⟨fun pins s σ H R I h => ?_⟩
  refine thn (he.run pins s σ H _ I h) fun v s1 ⟨x, H1, I1, r1, q1⟩ => ?_
  rcases q1 with ⟨a, e, ⟨xs, hq⟩, q⟩ | ⟨a, e, ⟨xs, hq⟩, q⟩ | ⟨x, ex, q⟩
  · subst e
    cases r1
    obtain ⟨its, rv, p, hz⟩ := I1.list hq
    refine wpAny_pyIter_list p.isList ?_
    refine ⟨s1.heap.objs.size, [s1.heap.objs.size], _, _, H1, rfl, I1.kept (t' := s1.toks) fun b o e => Heap.get?_push_of_some _ e, turn_list a _, ⟨_, Heap.get?_push_size _ rfl, rfl, rfl⟩, fun b hb => ?_, q⟩
    have e : b = s1.heap.objs.size := by simpa using hb
    subst e
    exact I1.fpOk (Nat.le_refl _) (I1.hok.fresh (Nat.le_refl _))
  · subst e
    cases r1
    obtain ⟨its, rv, p, hz⟩ := I1.tuple hq
    refine wpAny_pyIter_tuple (show s1.heap.IsTuple a its.toArray from p) ?_
    refine ⟨s1.heap.objs.size, [s1.heap.objs.size], _, _, H1, rfl, I1.kept (t' := s1.toks) fun b o e => Heap.get?_push_of_some _ e, turn_tuple a _, ⟨_, Heap.get?_push_size _ rfl, rfl, rfl⟩, fun b hb => ?_, q⟩
    have e : b = s1.heap.objs.size := by simpa using hb
    subst e
    exact I1.fpOk (Nat.le_refl _) (I1.hok.fresh (Nat.le_refl _))
  · subst ex
    obtain ⟨t, rfl⟩ := r1
    cases ha : x.cps.all (· < 128)
    · exact wpAny_pyIter_wide ha (pi_one (tk := s1.toks) I1 _ (turn_str _ x t "str_iterator" (.inr rfl)) ⟨_, Heap.get?_push_size _ rfl, rfl, rfl⟩ q)
    · exact wpAny_pyIter_ascii ha (pi_one (tk := s1.toks) I1 _ (turn_str _ x t "str_ascii_iterator" (.inl rfl)) ⟨_, Heap.get?_push_size _ rfl, rfl, rfl⟩ q)
theorem sit_any (hK : G.K = X.K) (h : SEv G X e m) : SEit X G tg e (do let v ← Mini.frzR m; Mini.ofO (Mini.itemsS v)) := by
  intro sl sl' σ H T xs ft g hm
  obtain ⟨v, s1, h1, hm⟩ := bind_ok.mp hm
  obtain ⟨w, s2, h4, h2⟩ := bind_ok.mp h1
  obtain ⟨rfl, rfl⟩ := pure_ok.mp h2
  obtain ⟨e3, rfl⟩ := ofO_ok.mp hm
  refine (pi_any pe_w).w ((h.fz ft g h4).mono fun x H1 ⟨f1, g1⟩ => ?_)
  cases e5 : w.frz with
  | lst ts =>
    simp only [e5] at e3 g1
    cases e3
    obtain ⟨a, vs, rfl, rd, rr⟩ := g1.lk
    refine .inl ⟨a, rfl, ⟨vs, .inl rd.2⟩, [(.sh (.lst xs), .ref a)], ⟨fun i H L hi g => ?_, fun i H x H' L v hv g hy => ?_, fun H L g => ?_⟩, f1, g1⟩
    · obtain ⟨F, g⟩ := g
      obtain ⟨a', vs, e, rd, rr⟩ := g.rel _ List.mem_cons_self
      cases e
      obtain ⟨x, hx, _⟩ := rr.get (List.getElem?_eq_getElem hi)
      exact ⟨vs, x, .inl rd.2, hx⟩
    · obtain ⟨rfl, hy⟩ := hy
      obtain ⟨F, g⟩ := g
      obtain ⟨a', vs, e, rd, rr⟩ := g.rel _ List.mem_cons_self
      cases e
      obtain ⟨z, hz, hr⟩ := rr.get hv
      rw [hy vs (.inl rd.2)] at hz
      cases hz
      exact ⟨F, g.sh hr⟩
    · obtain ⟨F, g⟩ := g
      obtain ⟨a', vs, e, rd, rr⟩ := g.rel _ List.mem_cons_self
      cases e
      exact ⟨vs, .inl rd.2, by rw [rr.length]; exact Nat.le_refl _⟩
  | tup ts =>
    simp only [e5] at e3 g1
    cases e3
    obtain ⟨a, vs, rfl, rd, rr⟩ := g1.lk
    refine .inr (.inl ⟨a, rfl, ⟨vs, .inl (.inl rd.2)⟩, [(.sh (.tup xs), .ref a)], ⟨fun i H L hi g => ?_, fun i H x H' L v hv g hy => ?_, fun H L g => ?_⟩, f1, g1⟩)
    · obtain ⟨F, g⟩ := g
      obtain ⟨a', vs, e, rd, rr⟩ := g.rel _ List.mem_cons_self
      cases e
      obtain ⟨x, hx, _⟩ := rr.get (List.getElem?_eq_getElem hi)
      exact ⟨vs, x, .inl (.inl rd.2), hx⟩
    · obtain ⟨rfl, hy⟩ := hy
      obtain ⟨F, g⟩ := g
      obtain ⟨a', vs, e, rd, rr⟩ := g.rel _ List.mem_cons_self
      cases e
      obtain ⟨z, hz, hr⟩ := rr.get hv
      rw [hy vs (.inl (.inl rd.2))] at hz
      cases hz
      exact ⟨F, g.sh hr⟩
    · obtain ⟨F, g⟩ := g
      obtain ⟨a', vs, e, rd, rr⟩ := g.rel _ List.mem_cons_self
      cases e
      exact ⟨vs, .inl (.inl rd.2), by rw [rr.length]; exact Nat.le_refl _⟩
  | ktup ts =>
    simp only [e5] at e3 g1
    cases e3
    obtain ⟨a, vs, rfl, rd, rr⟩ := g1.lk
    refine .inr (.inl ⟨a, rfl, ⟨vs, .inr (hK ▸ rd)⟩, [(.sh (.ktup xs), .ref a)], ⟨fun i H L hi g => ?_, fun i H x H' L v hv g hy => ?_, fun H L g => ?_⟩, f1, g1⟩)
    · obtain ⟨F, g⟩ := g
      obtain ⟨a', vs, e, rd, rr⟩ := g.rel _ List.mem_cons_self
      cases e
      obtain ⟨x, hx, _⟩ := rr.get (List.getElem?_eq_getElem hi)
      exact ⟨vs, x, .inr (hK ▸ rd), hx⟩
    · obtain ⟨rfl, hy⟩ := hy
      obtain ⟨F, g⟩ := g
      obtain ⟨a', vs, e, rd, rr⟩ := g.rel _ List.mem_cons_self
      cases e
      obtain ⟨z, hz, hr⟩ := rr.get hv
      rw [hy vs (.inr (hK ▸ rd))] at hz
      cases hz
      exact ⟨F, g.sh hr⟩
    · obtain ⟨F, g⟩ := g
      obtain ⟨a', vs, e, rd, rr⟩ := g.rel _ List.mem_cons_self
      cases e
      exact ⟨vs, .inr (hK ▸ rd), by rw [rr.length]; exact Nat.le_refl _⟩
  | str z =>
    simp only [e5] at e3 g1
    cases e3
    obtain ⟨rfl, so⟩ := g1.lk
    refine .inr (.inr ⟨z, rfl, [], ⟨fun i H L hi g => ?_, fun i H x H' L v hv g hy => ?_, fun H L g => ?_⟩, f1, g1.tail⟩)
    · show i < z.cps.size
      simpa using hi
    · obtain ⟨rfl, c, hc, rfl⟩ := hy
      rw [List.getElem?_map] at hv
      obtain ⟨c', h1, rfl⟩ := Option.map_eq_some_iff.mp hv
      rw [Array.getElem?_toList, hc] at h1
      cases h1
      exact g.str (ok_mem so (by
        have := List.mem_of_getElem? (l := z.cps.toList) (i := i) (a := c) (by rw [Array.getElem?_toList]; exact hc)
        exact this))
    · show z.cps.size ≤ _
      simp
  | _ => simp only [e5] at e3; cases e3
theorem rng_walk {lo : Int} {n : Nat} : WalkR G (Itr lo n) [] ((List.range n).map fun (k : Nat) => PV.int (lo + k)) := by
  refine ⟨fun i H L hi g => ?_, fun i H x H' L v hv g hy => ?_, fun H L g => ?_⟩
  · show i < n
    simpa using hi
  · obtain ⟨rfl, rfl⟩ := hy
    rw [List.getElem?_map] at hv
    obtain ⟨c', h1, rfl⟩ := Option.map_eq_some_iff.mp hv
    have : i < n := by
      have := (List.getElem?_eq_some_iff.mp h1).1
      simpa using this
    rw [List.getElem?_range this] at h1
    cases h1
    exact g.int
  · show n ≤ _
    simp
theorem sit_rng1 {rp : PV → Option Str} (hg : Gl X "range") (hm : X.mg "range" = none) (ha : SEb G X a mb) (hs : starEach [a] X.env = [(false, eval a X.env)]) :
    SEit X G tg (.Call (.Name "range" p) [a] [] pos) (do let v ← Mini.frzR (do let v ← mb; Mini.ofO (Mini.builtin rp .rng [v])); Mini.ofO (Mini.items v)) := by
  intro sl sl' σ H T xs ft g hm'
  obtain ⟨v, s1, h1, hm'⟩ := bind_ok.mp hm'
  obtain ⟨w, s2, h4, h2⟩ := bind_ok.mp h1
  obtain ⟨rfl, rfl⟩ := pure_ok.mp h2
  obtain ⟨e3, rfl⟩ := ofO_ok.mp hm'
  obtain ⟨u, s3, h5, h6⟩ := bind_ok.mp h4
  obtain ⟨e4, rfl⟩ := ofO_ok.mp h6
  refine (pi_range1 hg hm (pa_cons pe_w pa_nil hs) hs).w ((ha _ _ σ H T u ft g h5).mono fun x H1 ⟨f1, F, g1, v1⟩ => ?_)
  cases u with
  | int i =>
    have v1 : x = .int i := v1
    subst v1
    have e4 : (if -(2 ^ 62) ≤ i && i < 2 ^ 62 then some (W.sh (.rng 0 i)) else none) = some w := e4
    split at e4
    · rename_i hb
      have hb : -(2 ^ 62) ≤ i ∧ i < 2 ^ 62 := by simpa using hb
      cases e4
      cases e3
      refine ⟨i, rfl, hb.1, hb.2, [], ?_, f1, F, g1⟩
      have := rng_walk (G := G) (lo := 0) (n := i.toNat)
      simpa using this
    · cases e4
  | _ => cases e4
theorem sit_rng2 {rp : PV → Option Str} (hg : Gl X "range") (hm : X.mg "range" = none) {ms : M (List PV)} (hs' : SEs G X [a, c] ms) (hn : ∀ s vs s', ms s = .ok vs s' → vs.length = 2) (hs : starEach [a, c] X.env = [(false, eval a X.env), (false, eval c X.env)]) (hs2 : starEach [c] X.env = [(false, eval c X.env)]) :
    SEit X G tg (.Call (.Name "range" p) [a, c] [] pos) (do let v ← Mini.frzR (do let vs ← ms; Mini.ofO (Mini.builtin rp .rng vs)); Mini.ofO (Mini.items v)) := by
  intro sl sl' σ H T xs ft g hm'
  obtain ⟨v, s1, h1, hm'⟩ := bind_ok.mp hm'
  obtain ⟨w, s2, h4, h2⟩ := bind_ok.mp h1
  obtain ⟨rfl, rfl⟩ := pure_ok.mp h2
  obtain ⟨e3, rfl⟩ := ofO_ok.mp hm'
  obtain ⟨us, s3, h5, h6⟩ := bind_ok.mp h4
  obtain ⟨e4, rfl⟩ := ofO_ok.mp h6
  refine (pi_range2 hg hm pa_w hs hs2).w ((hs' _ _ σ H T us ft g h5).mono fun zs H1 ⟨f1, hl, g1⟩ => ?_)
  obtain ⟨F, g1⟩ := g1
  obtain ⟨r1, g2⟩ := shs_rps hl g1
  have hl2 := hn _ _ _ h5
  match us, hl2 with
  | [u1, u2], _ =>
    obtain ⟨y1, q1, rfl, h1, r1⟩ := r1
    obtain ⟨y2, q2, rfl, h2, r1⟩ := r1
    have r1 : q2 = [] := r1
    subst r1
    cases u1 with
    | int i =>
      cases u2 with
      | int j =>
        have h1 : y1 = .int i := h1
        have h2 : y2 = .int j := h2
        subst h1 h2
        have e4 : (if -(2 ^ 62) ≤ i && i < 2 ^ 62 && (-(2 ^ 62) ≤ j && j < 2 ^ 62) then some (W.sh (.rng i j)) else none) = some w := e4
        split at e4
        · rename_i hb
          have hb : (-(2 ^ 62) ≤ i ∧ i < 2 ^ 62) ∧ -(2 ^ 62) ≤ j ∧ j < 2 ^ 62 := by simpa using hb
          cases e4
          cases e3
          exact ⟨i, j, rfl, ⟨hb.1.1, hb.1.2, hb.2.1, hb.2.2⟩, [], rng_walk, f1, F, g2⟩
        · cases e4
      | _ => cases e4
    | _ => cases e4

/-! ### for -/
theorem s_for (hx : PassesOwn (model X.prog X.w) X.A X.env X.xe) (hc : X.calm = true) {t : Mini.Tg} {g1 : TG} {body : List Stmt} {mi : M (List PV)} {mt : M Fl} (hi : SEit X G tg e mi) (hg : PG X tg g1) (h2 : SGo G X P g1 (Mini.stTg t)) (hb : SSs G X P body mt) (hs : ∀ x, foldedSetIterable e X.env x = pure x) :
    SS G X P (.For tg e body [] pos) (do let xs ← mi; Mini.forLoop t mt xs) := by
  intro sl sl' σ H T fl D ft g h en
  obtain ⟨xs, s0, e0, h⟩ := bind_ok.mp h
  refine (ps_for hx hc pi_w hg pss_w hs).w ?_
  refine fun pins s I => thn (hi sl s0 σ H T xs ft g e0 pins s I) fun v s1 h1 => thn h1 fun itv s2 ⟨it, fp, tn, J, H1, a1, a2, a3, a4, a5, C, wk, f1, g1⟩ => ⟨it, fp, tn, J, H1, a1, a2, a3, a4, a5, ?_⟩
  refine ⟨fun i k σ' H' => ∃ s1, i ≤ xs.length ∧ k = xs.length - i ∧ Keep P σ σ' ∧ Fit s1 σ' ∧ Good G H' (C ++ (prs s1 σ' ++ T)) ∧ Mini.forLoop t mt (xs.drop i) s1 = .ok fl sl', ⟨_, s0, Nat.zero_le _, rfl, .refl, f1, g1, h⟩, fun i k σ' H' ⟨s1, hi, hk, kp, f1, g1, e1⟩ => ?_⟩
  by_cases hl : i < xs.length
  · right
    rw [List.drop_eq_getElem_cons hl] at e1
    unfold Mini.forLoop at e1
    obtain ⟨_, s2, e2, e1⟩ := bind_ok.mp e1
    obtain ⟨f, s3, e3, e1⟩ := bind_ok.mp e1
    refine ⟨wk.go i H' _ hl g1, fun σ2 H2 => ∃ s1, i + 1 ≤ xs.length ∧ Keep P σ σ2 ∧ Fit s1 σ2 ∧ Good G H2 (C ++ (prs s1 σ2 ++ T)) ∧ Mini.forLoop t mt (xs.drop (i + 1)) s1 = .ok fl sl', fun σ2 H2 ⟨s1, h1, h2, h3, h4, h5⟩ => ⟨xs.length - (i + 1), by omega, s1, h1, rfl, h2, h3, h4, h5⟩, fun x H2 hy => ?_⟩
    have g2 := wk.yld i H' x H2 _ _ (List.getElem?_eq_getElem hl) g1 hy
    have sw : ∀ {q : Sl} {σ : St} {H : Hp}, Good G H (C ++ (prs q σ ++ T)) → Good G H (prs q σ ++ (C ++ T)) := fun {q σ H} g => g.perm (by
      rw [← List.append_assoc, ← List.append_assoc]
      exact List.perm_append_comm.append_right T)
    have sw' : ∀ {q : Sl} {σ : St} {H : Hp}, Good G H (prs q σ ++ (C ++ T)) → Good G H (C ++ (prs q σ ++ T)) := fun {q σ H} g => g.perm (by
      rw [← List.append_assoc, ← List.append_assoc]
      exact List.perm_append_comm.append_right T)
    refine h2 s1 s2 σ' H2 (C ++ T) _ x _ f1 (g2.perm (List.Perm.cons _ (by
      rw [← List.append_assoc, ← List.append_assoc]
      exact List.perm_append_comm.append_right T))) e2 fun σ2 k2 f2 g3 => ?_
    cases f with
    | nx => exact hb s2 s3 σ2 H2 (C ++ T) .nx _ f2 g3 e3 fun σ3 H3 k3 f3 g4 => ⟨s3, hl, (kp.trans k2).trans k3, f3, sw' g4, e1⟩
    | ct => exact hb s2 s3 σ2 H2 (C ++ T) .ct _ f2 g3 e3 fun σ3 H3 k3 f3 g4 => ⟨s3, hl, (kp.trans k2).trans k3, f3, sw' g4, e1⟩
    | bk =>
      obtain ⟨rfl, rfl⟩ := pure_ok.mp e1
      exact hb s2 s3 σ2 H2 (C ++ T) .bk _ f2 g3 e3 fun σ3 H3 k3 f3 g4 => en σ3 H3 ((kp.trans k2).trans k3) f3 (sw' g4).drop
    | rt w =>
      obtain ⟨rfl, rfl⟩ := pure_ok.mp e1
      exact hb s2 s3 σ2 H2 (C ++ T) (.rt w) _ f2 g3 e3 fun x σ3 H3 k3 f3 g4 => en x σ3 H3 ((kp.trans k2).trans k3) f3 (Good.drop (T := C) (Good.sink (A := C) (B := prs s3 σ3) (T := T) (g4.perm (List.Perm.cons _ (by
        rw [← List.append_assoc, ← List.append_assoc]
        exact List.perm_append_comm.append_right T))))|>.perm List.perm_middle)
  · left
    have : i = xs.length := by omega
    subst this
    rw [List.drop_length] at e1
    have e1 : (pure .nx : M Fl) s1 = .ok fl sl' := e1
    obtain ⟨rfl, rfl⟩ := pure_ok.mp e1
    exact ⟨wk.stop H' _ g1, en σ' H' kp f1 g1.drop⟩
end
end Snd
end

section
set_option Elab.async false
set_option linter.all false
set_option maxRecDepth 100000
/-! S19: list comprehensions. -/
namespace Snd
open PySem PySem.Spec L2
open PyProof.Rows hiding St
open Mini (PV W Sl M CR Bi Ty Mu Fl)
variable {G : Gb} {H H' : Hp} {F F' : Fz} {L L' A B C T : List WV}

theorem wipe_set {v : Nat} : ∀ {vs : List Nat} {s : Sl}, (Mini.wipe vs s).set v none = Mini.wipe vs (s.set v none)
  | [], _ => rfl
  | u :: vs, s => by
    show ((Mini.wipe vs s).set u none).set v none = (Mini.wipe vs (s.set v none)).set u none
    rw [← wipe_set]
    by_cases e : u = v
    · subst e; rw [List.set_set]
    · rw [List.set_comm _ _ e]
theorem Fit.wipe : ∀ {vs : List Nat} {s : Sl} {σ : St}, Fit s σ → Fit (Mini.wipe vs s) (L2.wipe σ vs)
  | [], _, _, h => h
  | v :: vs, s, σ, h => Fit.wipe1 (Fit.wipe (vs := vs) h)
theorem Fit.reset : ∀ {s : Sl} {σ : St} {i : Nat}, Fit (s.set i none) (σ.set i none) → Fit (s.set i none) σ
  | [], [], _, h => h
  | _ :: _, _ :: _, 0, h => ⟨fun z => absurd z (by simp), h.2⟩
  | _ :: _, _ :: _, i + 1, h => ⟨h.1, Fit.reset (i := i) h.2⟩
  | [], _ :: _, i, h => by cases i <;> exact h.elim
  | _ :: _, [], i, h => by cases i <;> exact h.elim
theorem Fit.unwipe : ∀ {vs : List Nat} {s : Sl} {σ : St}, Fit (Mini.wipe vs s) (L2.wipe σ vs) → Fit (Mini.wipe vs s) σ
  | [], _, _, h => h
  | v :: vs, s, σ, h => by
    have h1 : Fit ((Mini.wipe vs s).set v none) (L2.wipe σ vs) := Fit.reset h
    show Fit ((Mini.wipe vs s).set v none) σ
    rw [wipe_set] at h1 ⊢
    exact Fit.unwipe h1
theorem prs_wipe : ∀ {vs : List Nat} {s : Sl} {σ : St}, prs (Mini.wipe vs s) (L2.wipe σ vs) = prs (Mini.wipe vs s) σ
  | [], _, _ => rfl
  | v :: vs, s, σ => by
    show prs ((Mini.wipe vs s).set v none) ((L2.wipe σ vs).set v none) = prs ((Mini.wipe vs s).set v none) σ
    rw [prs_none, wipe_set, prs_wipe]
theorem prs_dropW {σ : St} : ∀ {vs : List Nat} {s : Sl}, ∃ T, (prs s σ).Perm (T ++ prs (Mini.wipe vs s) σ)
  | [], _ => ⟨[], .refl _⟩
  | v :: vs, s => by
    obtain ⟨T1, h1⟩ := prs_dropW (vs := vs) (s := s) (σ := σ)
    obtain ⟨T2, h2⟩ := prs_drop (sl := Mini.wipe vs s) (σ := σ) (i := v)
    exact ⟨T1 ++ T2, h1.trans (by rw [List.append_assoc]; exact h2.append_left T1)⟩
theorem Good.wipe {s : Sl} {σ : St} {vs : List Nat} (g : Good G H (A ++ (prs s σ ++ T))) : Good G H (A ++ (prs (Mini.wipe vs s) (L2.wipe σ vs) ++ T)) := by
  obtain ⟨T1, h1⟩ := prs_dropW (vs := vs) (s := s) (σ := σ)
  rw [prs_wipe]
  have g1 : Good G H (T1 ++ (A ++ (prs (Mini.wipe vs s) σ ++ T))) := by
    refine g.perm (((h1.append_right T).append_left A).trans ?_)
    rw [List.append_assoc, ← List.append_assoc, ← List.append_assoc (as := T1)]
    exact List.perm_append_comm.append_right _
  exact g1.drop
theorem wipe_in {σ : St} {i : Nat} : ∀ {vs : List Nat}, i ∈ vs → (L2.wipe σ vs)[i]? = if i < σ.length then some none else none
  | v :: vs, h => by
    show ((L2.wipe σ vs).set v none)[i]? = _
    by_cases e : v = i
    · subst e
      rw [List.getElem?_set_self']
      by_cases hl : v < σ.length
      · rw [if_pos hl, List.getElem?_eq_getElem (by rw [wipe_length]; exact hl)]; rfl
      · rw [if_neg hl, List.getElem?_eq_none (by rw [wipe_length]; omega)]; rfl
    · rw [List.getElem?_set_ne e]
      exact wipe_in ((List.mem_cons.mp h).resolve_left fun z => e z.symm)
def notIn (vs : List Nat) (i : Nat) : Bool := !vs.contains i
theorem wipe_keep {σ σ2 : St} {vs : List Nat} (k : Keep (notIn vs) (L2.wipe σ vs) σ2) (hl : σ2.length = σ.length) : L2.wipe σ2 vs = L2.wipe σ vs := by
  apply List.ext_getElem?
  intro i
  by_cases h : i ∈ vs
  · rw [wipe_in h, wipe_in h, hl]
  · rw [wipe_out h, k i (by simpa [notIn] using h)]
theorem perm_sw {p : WV} : (C ++ p :: (A ++ T)).Perm (A ++ (p :: (C ++ T))) := by
  refine List.perm_middle.trans ((List.Perm.cons p ?_).trans List.perm_middle.symm)
  rw [← List.append_assoc, ← List.append_assoc]
  exact List.perm_append_comm.append_right T
theorem perm_sw2 {p : WV} : (A ++ p :: (C ++ T)).Perm (p :: (C ++ (A ++ T))) := by
  refine List.perm_middle.trans (List.Perm.cons p ?_)
  rw [← List.append_assoc, ← List.append_assoc]
  exact List.perm_append_comm.append_right T
mutual
theorem stTg_len : ∀ {t : Mini.Tg} {w : W} {s s' : Sl}, Mini.stTg t w s = .ok () s' → s'.length = s.length
  | .nm i k, w, s, s', h => by
    obtain ⟨_, rfl⟩ := stVar_ok (show Mini.stVar i k w s = .ok () s' from h)
    rw [List.length_set]
  | .tp ts, w, s, s', h => by
    have h : (match w.frz with
      | .tup xs => Mini.stTgs ts xs
      | .ktup xs => Mini.stTgs ts xs
      | _ => Mini.fail : M Unit) s = .ok () s' := by
      have := h
      unfold Mini.stTg at this
      exact this
    cases e : w.frz with
    | tup xs => simp only [e] at h; exact stTgs_len h
    | ktup xs => simp only [e] at h; exact stTgs_len h
    | _ => simp only [e] at h; exact (fail_ok.mp h).elim
theorem stTgs_len : ∀ {ts : List Mini.Tg} {xs : List PV} {s s' : Sl}, Mini.stTgs ts xs s = .ok () s' → s'.length = s.length
  | [], [], s, s', h => by
    have h : (pure () : M Unit) s = .ok () s' := h
    obtain ⟨_, rfl⟩ := pure_ok.mp h
    rfl
  | [], _ :: _, s, s', h => (fail_ok.mp h).elim
  | _ :: _, [], s, s', h => (fail_ok.mp h).elim
  | t :: ts, x :: xs, s, s', h => by
    have h : (do Mini.stTg t (.sh x); Mini.stTgs ts xs : M Unit) s = .ok () s' := h
    obtain ⟨_, s1, e1, e2⟩ := bind_ok.mp h
    rw [stTgs_len e2, stTg_len e1]
end

section
variable (G : Gb) (X : Cx)
def wTs (ifs : List Expr) : TT := fun σ H Q => ∀ (pins : List (Addr × Obj)) (s : Shared), Inv X pins σ H s →
    wpAny (model X.prog X.w) X.A (forIn ifs true fun c r => if r = true then do let ok ← isTrue c X.env (eval c X.env); pure (ForInStep.yield ok) else pure (ForInStep.yield r)) (TP X pins σ Q) X.xe s
def SEts (ifs : List Expr) (m : M Bool) : Prop := ∀ (sl sl' : Sl) (σ : St) (H : Hp) (T : List WV) (b : Bool), Fit sl σ → Good G H (prs sl σ ++ T) → m sl = .ok b sl' →
  wTs X ifs σ H fun c H' => c = b ∧ Fit sl' σ ∧ Good G H' (prs sl' σ ++ T)
end
section
variable {X : Cx} {tg elt iter e a c : Expr} {m ma mc me : M W} {mb : M PV} {ta mt : M Bool} {mi : M (List PV)} {P : Nat → Bool} {pos p : Pos} {scope : Scope} {ifs : List Expr}
theorem pts_w : PTs X ifs (wTs X ifs) := ⟨fun pins s σ H Q I h => h pins s I⟩
theorem _root_.L2.PTs.w {t : TT} {σ : St} {Q : Bool → Hp → Prop} (h : PTs X ifs t) (q : t σ H Q) : wTs X ifs σ H Q := fun pins s I => h.run pins s σ H Q I q
theorem sts_nil : SEts G X [] (pure true) := by
  intro sl sl' σ H T b ft g h
  obtain ⟨rfl, rfl⟩ := pure_ok.mp h
  exact pts_nil.w ⟨rfl, ft, g⟩
theorem sts_one (h1 : SEt G X c ta) : SEts G X [c] (do let b ← ta; if b then pure true else pure false) := by
  intro sl sl' σ H T b ft g h
  obtain ⟨b1, s1, e1, h⟩ := bind_ok.mp h
  refine (pts_one pt_w).w ((h1 _ _ σ H T b1 ft g e1).mono fun k H1 ⟨e, f1, g1⟩ => ?_)
  cases b1 with
  | true => obtain ⟨rfl, rfl⟩ := pure_ok.mp h; exact ⟨e, f1, g1⟩
  | false => obtain ⟨rfl, rfl⟩ := pure_ok.mp h; exact ⟨e, f1, g1⟩
/-- the blocks of a comprehension -/
abbrev Blk (X : Cx) (scope : Scope) (s : Shared) (H0 : Hp) (C : Addr) (cl : List (Str × Addr)) (fp : List Addr) : Cx := X.blk s H0 scope (compEnvC scope cl C X.env) fp
def uE (X : Cx) (scope : Scope) (e : Expr) : TE := fun σ H Q => ∀ (s : Shared) (H0 : Hp) (C : Addr) (cl : List (Str × Addr)) (fp : List Addr), wE (Blk X scope s H0 C cl fp) e σ H Q
def uTs (X : Cx) (scope : Scope) (ifs : List Expr) : TT := fun σ H Q => ∀ (s : Shared) (H0 : Hp) (C : Addr) (cl : List (Str × Addr)) (fp : List Addr), wTs (Blk X scope s H0 C cl fp) ifs σ H Q
theorem pe_u {s : Shared} {H0 : Hp} {C : Addr} {cl : List (Str × Addr)} {fp : List Addr} : PE (Blk X scope s H0 C cl fp) e (uE X scope e) := ⟨fun pins s' σ H Q I h => h s H0 C cl fp pins s' I⟩
theorem pts_u {s : Shared} {H0 : Hp} {C : Addr} {cl : List (Str × Addr)} {fp : List Addr} : PTs (Blk X scope s H0 C cl fp) ifs (uTs X scope ifs) := ⟨fun pins s' σ H Q I h => h s H0 C cl fp pins s' I⟩
theorem compLoop_nil {own : List Nat} {t : Mini.Tg} {mp : M PV} {acc r : List PV} {s s' : Sl} (h : Mini.compLoop own t mt mp [] acc s = .ok r s') : r = acc ∧ s' = s := by
  have h : (pure acc : M (List PV)) s = .ok r s' := h
  obtain ⟨rfl, rfl⟩ := pure_ok.mp h
  exact ⟨rfl, rfl⟩
theorem compLoop_cons {own : List Nat} {t : Mini.Tg} {mp : M PV} {v : PV} {xs acc r : List PV} {s s' : Sl} (h : Mini.compLoop own t mt mp (v :: xs) acc s = .ok r s') :
    ∃ s2 b s3, Mini.stTg t (.sh v) (Mini.wipe own s) = .ok () s2 ∧ mt s2 = .ok b s3 ∧ (b = false → Mini.compLoop own t mt mp xs acc s3 = .ok r s') ∧ (b = true → ∃ u s4, mp s3 = .ok u s4 ∧ acc.length < Mini.SZ ∧ Mini.compLoop own t mt mp xs (acc ++ [u]) s4 = .ok r s') := by
  unfold Mini.compLoop at h
  obtain ⟨_, s1, e1, h⟩ := bind_ok.mp h
  have e1 : Mini.R.ok () (Mini.wipe own s) = .ok _ s1 := e1
  cases e1
  obtain ⟨_, s2, e2, h⟩ := bind_ok.mp h
  obtain ⟨b, s3, e3, h⟩ := bind_ok.mp h
  refine ⟨s2, b, s3, e2, e3, fun q => ?_, fun q => ?_⟩
  · subst q; exact h
  · subst q
    rw [if_pos rfl] at h
    obtain ⟨u, s4, e4, h⟩ := bind_ok.mp h
    split at h
    · exact ⟨u, s4, e4, by assumption, h⟩
    · exact (fail_ok.mp h).elim
theorem inBlock_ok {α : Type} {own : List Nat} {m : M α} {a : α} {s s' : Sl} (h : Mini.inBlock own m s = .ok a s') : ∃ s1, m (Mini.wipe own s) = .ok a s1 ∧ s' = Mini.wipe own s1 := by
  unfold Mini.inBlock at h
  split at h
  · rename_i a' s1 e
    cases h
    exact ⟨s1, e, rfl⟩
  · cases h
  · cases h
theorem lc_go0 {own : List (Str × Nat)} {t : Mini.Tg} {g1 : TG} (h2 : SGo G X (notIn (own.map (·.2))) g1 (Mini.stTg t))
    (ht : ∀ (s : Shared) (H : Hp) (C : Addr) (cl : List (Str × Addr)) (fp : List Addr), SEts G (Blk X scope s H C cl fp) ifs mt) (he : ∀ (s : Shared) (H : Hp) (C : Addr) (cl : List (Str × Addr)) (fp : List Addr), SEv G (Blk X scope s H C cl fp) elt me)
    {s0 sl' : Sl} {σ : St} {r xs : List PV} {Q : VK} (hw : wI X tg iter σ H fun J H1 => ∃ C, WalkR G J C xs ∧ Fit s0 σ ∧ Good G H1 (C ++ (prs s0 σ ++ T))) (hm : Mini.inBlock (own.map (·.2)) (Mini.compLoop (own.map (·.2)) t mt (Mini.frzR me) xs []) s0 = .ok r sl')
    (q : ∀ D H', Fit sl' σ → Good G H' ((.own (.lst r), .ref D) :: (prs sl' σ ++ T)) → Q (.ref D) H') : tLc (wI X tg iter) g1 (uTs X scope ifs) (uE X scope elt) (own.map (·.2)) σ H Q := by
  obtain ⟨s9, e9, rfl⟩ := inBlock_ok hm
  generalize hvs : own.map (·.2) = vs at *
  intro pins s I
  refine thn (hw pins s I) fun v s1 h1 => thn h1 fun itv s2 ⟨it, fp, tn, J, H1, a1, a2, a3, a4, a5, C, wk, f1, g1⟩ => ⟨it, fp, tn, J, H1, a1, a2, a3, a4, a5, ?_⟩
  intro D hD
  have g2 : Good G H1 (C ++ (prs (Mini.wipe vs s0) (L2.wipe σ vs) ++ T)) := g1.wipe
  have f2 : Fit (Mini.wipe vs s0) (L2.wipe σ vs) := f1.wipe
  have ww : Mini.wipe vs (Mini.wipe vs s0) = Mini.wipe vs s0 := wipe_idem vs s0
  refine ⟨fun i k H' => ∃ s1 acc, i ≤ xs.length ∧ k = xs.length - i ∧ Fit (Mini.wipe vs s1) (L2.wipe σ vs) ∧ Good G H' ((.own (.lst acc), .ref D) :: (C ++ (prs (Mini.wipe vs s1) (L2.wipe σ vs) ++ T))) ∧ Mini.compLoop vs t mt (Mini.frzR me) (xs.drop i) acc s1 = .ok r s9,
    ⟨_, Mini.wipe vs s0, [], Nat.zero_le _, rfl, by rw [ww]; exact f2, by rw [ww]; obtain ⟨F, g2⟩ := g2; exact ⟨F, g2.newLst hD rfl⟩, e9⟩, fun i k H' ⟨s1, acc, hi, hk, f1, g1, e1⟩ => ?_⟩
  by_cases hl : i < xs.length
  · right
    rw [List.drop_eq_getElem_cons hl] at e1
    obtain ⟨s2, b, s3, e2, e3, e4, e5⟩ := compLoop_cons e1
    have g3 := g1.back
    refine ⟨wk.go i H' _ hl g3, fun H2 => ∃ s1 acc, i + 1 ≤ xs.length ∧ Fit (Mini.wipe vs s1) (L2.wipe σ vs) ∧ Good G H2 ((.own (.lst acc), .ref D) :: (C ++ (prs (Mini.wipe vs s1) (L2.wipe σ vs) ++ T))) ∧ Mini.compLoop vs t mt (Mini.frzR me) (xs.drop (i + 1)) acc s1 = .ok r s9,
      fun H2 ⟨s1, acc, q1, q2, q3, q4⟩ => ⟨xs.length - (i + 1), by omega, s1, acc, q1, rfl, q2, q3, q4⟩, fun x H2 hy => ?_⟩
    have g4 := wk.yld i H' x H2 _ _ (List.getElem?_eq_getElem hl) g3 hy
    have g5 : Good G H2 ((.sh xs[i], x) :: (prs (Mini.wipe vs s1) (L2.wipe σ vs) ++ ((.own (.lst acc), .ref D) :: (C ++ T)))) := g4.perm (List.Perm.cons _ perm_sw)
    refine h2 _ s2 _ H2 _ _ x _ f1 g5 e2 fun σ2 k2 f3 g6 => ?_
    have lw : σ2.length = σ.length := by
      have q1 := f3.length
      have q2 := f1.length
      rw [wipe_length] at q2
      have q3 : s2.length = (Mini.wipe vs s1).length := stTg_len e2
      omega
    have wk2 : L2.wipe σ2 vs = L2.wipe σ vs := wipe_keep k2 lw
    refine ⟨wk2, fun s' H0 C' cl fp' => ?_⟩
    refine thnTs (ht s' H0 C' cl fp' s2 s3 σ2 H2 _ b f3 g6 e3) fun cb H3 ⟨ecb, f4, g7⟩ => ?_
    subst ecb
    cases cb with
    | false =>
      rw [if_neg Bool.false_ne_true]
      refine ⟨s3, acc, hl, by rw [← wk2]; exact f4.wipe, ?_, e4 rfl⟩
      have g8 : Good G H3 (((.own (.lst acc), .ref D) :: C) ++ (prs s3 σ2 ++ T)) := g7.perm perm_sw2
      rw [← wk2]
      exact g8.wipe
    | true =>
      rw [if_pos rfl]
      intro s'' H0' C'' cl' fp''
      obtain ⟨u, s4, e6, hz, e7⟩ := e5 rfl
      obtain ⟨w, s5, e8, e10⟩ := bind_ok.mp e6
      obtain ⟨rfl, rfl⟩ := pure_ok.mp e10
      refine ((he s'' H0' C'' cl' fp'').fz f4 g7 e8).mono fun y H4 ⟨f5, g8⟩ => ?_
      obtain ⟨F, g8⟩ := g8
      have hy := g8.rel _ List.mem_cons_self
      have g9 : Gd G H4 F ((.own (.lst acc), .ref D) :: (C ++ (prs s5 σ2 ++ T))) := g8.tail.perm perm_sw2
      obtain ⟨a, us, ea, ha, rr⟩ := (show Own G H4 F (.lst acc) (.ref D) from g9.rel _ List.mem_cons_self)
      cases ea
      refine ⟨us, ha, by rw [SZ_eq, ← rr.length]; exact hz, s5, acc ++ [w.frz], hl, by rw [← wk2]; exact f5.wipe, ?_, e7⟩
      have g10 := g9.chg (o := .lst (us ++ [y])) (v' := .lst (acc ++ [w.frz])) ⟨D, _, rfl, upd_same, Rps.mono (.upd g9.notF) (fun _ z => z) _ _ (rr.append (Rps.one hy))⟩
      rw [← wk2]
      exact Good.wipe (A := (.own (.lst (acc ++ [w.frz])), .ref D) :: C) ⟨F, g10⟩
  · left
    have : i = xs.length := by omega
    subst this
    rw [List.drop_length] at e1
    obtain ⟨rfl, rfl⟩ := compLoop_nil e1
    refine ⟨wk.stop H' _ g1.back, q D H' f1.unwipe ?_⟩
    rw [prs_wipe] at g1
    exact Good.drop (T := C) g1.back
where
  wipe_idem (vs : List Nat) (s : Sl) : Mini.wipe vs (Mini.wipe vs s) = Mini.wipe vs s := by
    induction vs generalizing s with
    | nil => rfl
    | cons v vs ih =>
      show (Mini.wipe vs ((Mini.wipe vs s).set v none)).set v none = (Mini.wipe vs s).set v none
      rw [← wipe_set, ih, List.set_set]
  thnTs {Y : Cx} {ifs : List Expr} {σ : St} {H : Hp} {Q Q' : Bool → Hp → Prop} (h : wTs Y ifs σ H Q) (f : ∀ b H', Q b H' → Q' b H') : wTs Y ifs σ H Q' := fun pins s I => thn (h pins s I) fun _ _ ⟨H', I', q⟩ => ⟨H', I', f _ H' q⟩
theorem lc_go {own : List (Str × Nat)} {t : Mini.Tg} {g1 : TG} (hi : SEit X G tg iter mi) (h2 : SGo G X (notIn (own.map (·.2))) g1 (Mini.stTg t))
    (ht : ∀ (s : Shared) (H : Hp) (C : Addr) (cl : List (Str × Addr)) (fp : List Addr), SEts G (Blk X scope s H C cl fp) ifs mt) (he : ∀ (s : Shared) (H : Hp) (C : Addr) (cl : List (Str × Addr)) (fp : List Addr), SEv G (Blk X scope s H C cl fp) elt me)
    {sl sl' : Sl} {σ : St} {r : List PV} {Q : VK} (ft : Fit sl σ) (g : Good G H (prs sl σ ++ T)) (hm : (do let xs ← mi; Mini.inBlock (own.map (·.2)) (Mini.compLoop (own.map (·.2)) t mt (Mini.frzR me) xs []) : M (List PV)) sl = .ok r sl')
    (q : ∀ D H', Fit sl' σ → Good G H' ((.own (.lst r), .ref D) :: (prs sl' σ ++ T)) → Q (.ref D) H') : tLc (wI X tg iter) g1 (uTs X scope ifs) (uE X scope elt) (own.map (·.2)) σ H Q := by
  obtain ⟨xs, s0, e0, hm⟩ := bind_ok.mp hm
  exact lc_go0 h2 ht he (hi sl s0 σ H T xs ft g e0) hm q
theorem sv_lc (hc : X.calm = true) (hN : X.N.Nodup) {own : List (Str × Nat)} {t : Mini.Tg} {g1 : TG} (hi : SEit X G tg iter mi) (ok : BlkOk X.N X.env.scope scope own) (hg : ∀ (s : Shared) (H : Hp) (C : Addr) (cl : List (Str × Addr)) (fp : List Addr), PG (Blk X scope s H C cl fp) tg g1) (h2 : SGo G X (notIn (own.map (·.2))) g1 (Mini.stTg t))
    (ht : ∀ (s : Shared) (H : Hp) (C : Addr) (cl : List (Str × Addr)) (fp : List Addr), SEts G (Blk X scope s H C cl fp) ifs mt) (he : ∀ (s : Shared) (H : Hp) (C : Addr) (cl : List (Str × Addr)) (fp : List Addr), SEv G (Blk X scope s H C cl fp) elt me)
    (hs : ∀ x, foldedSetIterable iter X.env x = pure x) :
    SEv G X (.ListComp elt [⟨tg, iter, ifs, 0⟩] scope pos) (do let xs ← mi; let r ← Mini.inBlock (own.map (·.2)) (Mini.compLoop (own.map (·.2)) t mt (Mini.frzR me) xs []); pure (.own (.lst r))) := by
  intro sl sl' σ H T w ft g hm
  obtain ⟨xs, s1, e1, hm⟩ := bind_ok.mp hm
  obtain ⟨r, s2, e2, hm⟩ := bind_ok.mp hm
  obtain ⟨rfl, rfl⟩ := pure_ok.mp hm
  exact (pe_lc hc hN pi_w ok hg (fun _ _ _ _ _ => pts_u) (fun _ _ _ _ _ => pe_u) hs).w (lc_go hi h2 ht he ft g (bind_ok.mpr ⟨xs, s1, e1, e2⟩) fun D H' f' g' => ⟨f', g'⟩)
theorem s_setLc (hc : X.calm = true) (hN : X.N.Nodup) {i : Nat} {y : Str} {py spos : Pos} {own : List (Str × Nat)} {t : Mini.Tg} {g1 : TG} {k : Bool} (hy : X.N[i]? = some y) (hyl : X.env.scope.names.lookup y = some .local) (hsw : swapsWith (.ListComp elt [⟨tg, iter, ifs, 0⟩] scope pos) (some (.Name y py)) spos.line X.env = pure true)
    (hi : SEit X G tg iter mi) (ok : BlkOk X.N X.env.scope scope own) (hg : ∀ (s : Shared) (H : Hp) (C : Addr) (cl : List (Str × Addr)) (fp : List Addr), PG (Blk X scope s H C cl fp) tg g1) (h2 : SGo G X (notIn (own.map (·.2))) g1 (Mini.stTg t))
    (ht : ∀ (s : Shared) (H : Hp) (C : Addr) (cl : List (Str × Addr)) (fp : List Addr), SEts G (Blk X scope s H C cl fp) ifs mt) (he : ∀ (s : Shared) (H : Hp) (C : Addr) (cl : List (Str × Addr)) (fp : List Addr), SEv G (Blk X scope s H C cl fp) elt me)
    (hs : ∀ x, foldedSetIterable iter X.env x = pure x) (hP : P i = false) :
    SS G X P (.Assign [.Name y py] (.ListComp elt [⟨tg, iter, ifs, 0⟩] scope pos) spos) (do let w ← (do let xs ← mi; let r ← Mini.inBlock (own.map (·.2)) (Mini.compLoop (own.map (·.2)) t mt (Mini.frzR me) xs []); pure (.own (.lst r))); Mini.stTg (.nm i k) w; pure .nx) := by
  intro sl sl' σ H T fl D ft g h en
  obtain ⟨w, s3, e3, h⟩ := bind_ok.mp h
  obtain ⟨xs, s1, e1, e3⟩ := bind_ok.mp e3
  obtain ⟨r, s2, e2, e3⟩ := bind_ok.mp e3
  obtain ⟨rfl, rfl⟩ := pure_ok.mp e3
  obtain ⟨_, s4, e4, h⟩ := bind_ok.mp h
  obtain ⟨rfl, rfl⟩ := pure_ok.mp h
  refine (ps_setLc hc hN hy hyl hsw pi_w ok hg (fun _ _ _ _ _ => pts_u) (fun _ _ _ _ _ => pe_u) hs).w (lc_go hi h2 ht he ft g (bind_ok.mpr ⟨xs, s1, e1, e2⟩) fun D' H' f' g' => ?_)
  exact sg_name (X := X) hP s2 s4 σ H' T _ _ D.nx f' g' e4 fun σ' k' f2 g2 => en σ' H' k' f2 g2
end
end Snd
end

section
set_option Elab.async false
set_option linter.all false
set_option maxRecDepth 100000
/-! S20: dict comprehensions of either kind of keys (the road of HandS.DictComp, with the store of HandS.Dict). -/
namespace Snd
open PySem PySem.Spec L2
open PyProof.Rows hiding St
open Mini (PV W Sl M CR Bi Ty Mu Fl)

/-- d[k] = v by a comprehension -/
theorem g_dictSet {X : Cx} {pins : List (Addr × Obj)} {σ : St} {H H' : Hp} {s : Shared} {E : Value → Shared → Prop} {a : Addr} {y v : V} {u r : Value} {Q : Unit → Shared → Prop} (hu : X.A.units + 1 < cLine) (I : Inv X pins σ H s) (g : DPut H a y v H') (ry : RelV y u) (rv : RelV v r)
    (h : ∀ s', Inv X pins σ H' s' → Q () s') : wpAny (model X.prog X.w) X.A (dictSet a u r) Q E s := by
  rcases g with ⟨kvs, k, e, ey, l, eH⟩ | ⟨kvs, k, b, e, ey, eb, l, eH⟩
  · subst ey eH
    exact d_dictSet I e l ry rv h
  · subst ey eH
    cases (show u = Value.ref b from ry)
    obtain ⟨z, hd, xs, rel, dd⟩ := dt_of I.hok e
    have hz : xs.length ≤ sizeLine := by rw [← Paired.length rel]; exact z
    have hl : (putK kvs k v).length ≤ sizeLine := by have := length_putK kvs k v; omega
    refine wpAny_dictSet_heap (hsz := hz) (show X.A.units < cLine by omega) (key_of I.hok eb) dd fun h' dd' hs => h _ ?_
    obtain ⟨q, es, ep, hq, h2, h3, h4, _, h5⟩ := dd'
    refine d_write I (by rw [e]; exact True.intro) hs ⟨q, hq⟩ ⟨hl, hd, _, (rel.put k eb rv).keeps fun c ys ec => ?_, q, es, ep, hq, h2, h3, h4, h5⟩
    rw [upd_ne (ne_of ec e (fun z => nomatch z))]
    exact ec
section
variable {X : Cx}
def tDg (o0 : HO) (wi : TI) (g : TG) (tt : TT) (tk tv : TE) (vs : List Nat) : TE := fun σ H Q => wi σ H fun J H1 => ∀ D, H1 D = none → ∃ W : Nat → Nat → Hp → Prop, (∃ m, W 0 m (upd H1 D o0)) ∧ ∀ i m H, W i m H →
  (J.stop i H ∧ Q (.ref D) H) ∨ (J.go i H ∧ ∃ Nx : Hp → Prop, (∀ H', Nx H' → ∃ m', m' < m ∧ W (i + 1) m' H') ∧ ∀ x H', J.yld i H x H' → g x (wipe σ vs) H' fun σ2 H2 => wipe σ2 vs = wipe σ vs ∧ tt σ2 H2 fun b H3 =>
    if b = true then tk σ2 H3 fun y H4 => tv σ2 H4 fun z H5 => ∃ H6, DPut H5 D y z H6 ∧ Nx H6 else Nx H3)
theorem dg_core {pins : List (Addr × Obj)} {s : Shared} {σ : St} {H : Hp} {Q : VK} {kx vx tg iter : Expr} {ifs : List Expr} {scope : Scope} {own : List (Str × Nat)} {pos pos' : Pos} {wi : TI} {g : TG} {tt : TT} {tk tv : TE} {o0 : HO} {use : Option (Value → Sem Unit)} {Qf : Value → Shared → Prop}
    (hc : X.calm = true) (hN : X.N.Nodup) (I : Inv X pins σ H s) (hi : PI X tg iter wi) (ok : BlkOk X.N X.env.scope scope own)
    (hg : ∀ (s : Shared) (H : Hp) (C : Addr) (cl : List (Str × Addr)) (fp : List Addr), PG (X.blk s H scope (compEnvC scope cl C X.env) fp) tg g) (ht : ∀ (s : Shared) (H : Hp) (C : Addr) (cl : List (Str × Addr)) (fp : List Addr), PTs (X.blk s H scope (compEnvC scope cl C X.env) fp) ifs tt)
    (hk : ∀ (s : Shared) (H : Hp) (C : Addr) (cl : List (Str × Addr)) (fp : List Addr), PE (X.blk s H scope (compEnvC scope cl C X.env) fp) kx tk)
    (he : ∀ (s : Shared) (H : Hp) (C : Addr) (cl : List (Str × Addr)) (fp : List Addr), PE (X.blk s H scope (compEnvC scope cl C X.env) fp) vx tv) (hs : ∀ x, foldedSetIterable iter X.env x = pure x)
    (h0 : o0 = .dK [] ∨ o0 = .dT []) (hu : X.A.units + 1 < cLine) (h : tDg o0 wi g tt tk tv (own.map (·.2)) σ H Q)
    (hRR : ∀ D C s' m H', Inv X pins σ H' s' → Q (.ref D) H' → s'.heap.Ns C m → FpOk X pins H' C → compPost (model X.prog X.w) X.A X.xe use Qf (.ref D) C (.ok .next) s') :
    wpAny (model X.prog X.w) X.A (comprehension (.DictComp kx vx [⟨tg, iter, ifs, 0⟩] scope pos) scope X.env pos' newDict false (eval iter X.env) use) Qf X.xe s := by
  have hfree : ∀ y ∈ scope.names, y.2 = .free → ∃ c, X.env.cells.lookup y.1 = some c := fun y hy e => by
    rcases ok.free y hy e with k | k
    · exact I.ok.has _ (.inl k)
    · exact I.ok.has _ (.inr k)
  refine wpAny_comprehension_free (use := use) rfl hs (closure_ok hfree) ok.kind (fun y hy e => by rw [ok.uniq y hy, e])
    (thn (hi.run pins s σ H _ I h) fun xv s1 hx => thn hx fun itv s2 h2 => ?_)
  obtain ⟨it, fp, tn, J, H2, e, I2, T, st2, f2, q⟩ := h2
  subst e
  refine wpAny_newObj_type (newEnv_comp ?_)
  generalize hD : s2.heap.objs.size = D
  have hDn : H2 D = none := I2.hok.fresh (Nat.le_of_eq hD)
  obtain ⟨W, ⟨m0, w0⟩, turn⟩ := q D hDn
  -- the new list
  generalize hs3 : ({ s2 with heap := s2.heap.push { cls := .type "dict", data := .dict #[] } } : Shared) = s3
  have I3 : Inv X pins σ (upd H2 D o0) s3 := by
    rw [← hs3]
    refine I2.laid (t' := s2.toks) (fun b o e => Heap.get?_push_of_some _ e) (Nat.le_of_eq hD) ?_
    rw [← hD]
    rcases h0 with rfl | rfl
    · exact dk_empty s2.heap I2.big
    · exact dt_empty s2.heap I2.big
  have h3 : s3.heap = s2.heap.push { cls := .type "dict", data := .dict #[] } := by rw [← hs3]
  have sz : ∀ b ∈ fp, b < s2.heap.objs.size := fun b hb => by
    obtain ⟨o, e, _⟩ := T.obj _ _ st2 b hb
    exact Heap.lt_size e
  have f3 : ∀ b ∈ fp, FpOk X pins (upd H2 D o0) b ∧ b < s3.heap.objs.size := fun b hb => by
    have hlt := sz b hb
    refine ⟨⟨?_, (f2 b hb).2⟩, by rw [h3, Heap.size_push]; exact Nat.lt_succ_of_lt hlt⟩
    rw [upd_ne (by rw [← hD]; exact Nat.ne_of_lt hlt)]
    exact (f2 b hb).1
  have st3 : tn 0 s3.heap := T.keep _ _ _ st2 fun b _ o e => by rw [h3]; exact Heap.get?_push_of_some _ e
  have I4 := block_start I3 ok hN f3
  have pg := hg s3 (upd H2 D o0) s3.heap.objs.size (cellsFrom (s3.heap.objs.size + 1) scope.names (cloFrom X.env.cells scope.names [])) fp
  have pt := ht s3 (upd H2 D o0) s3.heap.objs.size (cellsFrom (s3.heap.objs.size + 1) scope.names (cloFrom X.env.cells scope.names [])) fp
  have pk := hk s3 (upd H2 D o0) s3.heap.objs.size (cellsFrom (s3.heap.objs.size + 1) scope.names (cloFrom X.env.cells scope.names [])) fp
  have pe := he s3 (upd H2 D o0) s3.heap.objs.size (cellsFrom (s3.heap.objs.size + 1) scope.names (cloFrom X.env.cells scope.names [])) fp
  show codeAny _ _ (.compStart (.DictComp kx vx [⟨tg, iter, ifs, 0⟩] scope pos) 0 (.ref it) (.ref D) (compEnvC scope (cellsFrom (s3.heap.objs.size + 1) scope.names (cloFrom X.env.cells scope.names [])) s3.heap.objs.size X.env)) (compPost (model X.prog X.w) X.A X.xe use Qf (.ref D) s3.heap.objs.size) { s3 with heap := pushCells (s3.heap.push { cls := .type "dict", data := .dict #[] }) scope.names }
  have nfp : ∀ b ∈ fp, (upd H2 D o0) b = none := fun b hb => (f3 b hb).1.1
  generalize hce : compEnvC scope (cellsFrom (s3.heap.objs.size + 1) scope.names (cloFrom X.env.cells scope.names [])) s3.heap.objs.size X.env = ce at I4 pg pt pk pe ⊢
  have cL : ce.locals = s3.heap.objs.size := by subst hce; rfl
  generalize hH3 : upd H2 D o0 = H3 at I3 I4 pg pt pk pe w0 nfp f3
  generalize hs4 : ({ s3 with heap := pushCells (s3.heap.push { cls := .type "dict", data := .dict #[] }) scope.names } : Shared) = s4 at I4 ⊢
  have st4 : tn 0 s4.heap := T.keep _ _ _ st3 fun b _ o e => by rw [← hs4]; exact pushCells_keeps _ _ _ _ (Heap.get?_push_of_some _ e)
  have stat : ∀ {σ' : St} {H' : Hp} {s' : Shared}, Inv (X.blk s3 H3 scope ce fp) [] σ' H' s' → (∀ b ∈ fp, H' b = none) → ∀ b ∈ fp, FpOk (X.blk s3 H3 scope ce fp) [] H' b := fun {σ' H' s'} I' hn b hb =>
    ⟨hn b hb, (I'.ok.exf b hb).1, I'.ok.exfs b hb, .inl hb, fun x c e => (I'.ok.exf b hb).2 x c e, fun p hp => absurd (show p ∈ ([] : List (Addr × Obj)) ++ [] from hp) (by simp)⟩
  have loop : codeAny (model X.prog X.w) X.A (.compLoop (.DictComp kx vx [⟨tg, iter, ifs, 0⟩] scope pos) 0 (.ref it) (.ref D) ce) (compPost (model X.prog X.w) X.A X.xe use Qf (.ref D) s3.heap.objs.size) s4 := by
    refine compLoop_anyD (fun n s' => ∃ i H', Inv (X.blk s3 H3 scope ce fp) [] (wipe σ (own.map (·.2))) H' s' ∧ tn i s'.heap ∧ (∀ b ∈ fp, H' b = none) ∧ W i n H') ?_ m0 ⟨0, H3, I4, st4, nfp, w0⟩
    rintro n s5 ⟨i, H5, I5, st5, n5, w5⟩
    rcases turn i n H5 w5 with ⟨stop, qq⟩ | ⟨go, Nx, hNx, step⟩
    · have td := T.done (X.blk s3 H3 scope ce fp) rfl rfl rfl hc i [] s5 _ H5 (fun _ _ => False) I5 (stat I5 n5) st5 stop
      refine thnF td fun r s6 ⟨hr, I6⟩ => ?_
      subst hr
      -- back in the def's context
      have I7 : Inv X pins σ H5 s6 := I3.call' (ch := fp) I6.os I6.base I6.hok I6.bare fun b hb => ⟨(f3 b hb).1.2.2.2.1, (f3 b hb).1.2.1, (f3 b hb).1.2.2.2.2.1, (f3 b hb).1.2.2.2.2.2⟩
      have nC : H5 s3.heap.objs.size = none := by
        have z : H5 ce.locals = none := I6.free
        rw [cL] at z
        exact z
      obtain ⟨m, hn, _⟩ := I6.loc
      have hn : s6.heap.Ns ce.locals m := hn
      rw [cL] at hn
      exact hRR D s3.heap.objs.size s6 m H5 I7 qq hn (I3.fpOk (Nat.le_refl _) nC)
    · have ti := T.item (X.blk s3 H3 scope ce fp) rfl rfl rfl hc i [] s5 _ H5 (fun _ _ => False) I5 (stat I5 n5) st5 go
      refine thnF ti fun r s6 ⟨u, hr, h6⟩ => ?_
      subst hr
      refine thnF h6 fun _ s7 ⟨x, H7, I7, r7, y7, st7, n7⟩ => ?_
      have I7' := I7.pinned (stat I7 n7) (T.obj _ _ st7)
      refine thnF (pg.run _ s7 _ H7 x u _ I7' r7 (step x H7 y7)) fun _ s8 ⟨σ8, H8, I8, hw8, q8⟩ => ?_
      refine thnF (pt.run _ s8 σ8 H8 _ I8 q8) fun b s9 ⟨H9, I9, q9⟩ => ?_
      -- the turn's end
      have fin : ∀ {s' : Shared} {H' : Hp}, Inv (X.blk s3 H3 scope ce fp) ([] ++ pinsAt fp s7.heap) σ8 H' s' → Nx H' → ∃ m, m < n ∧ ∃ i H', Inv (X.blk s3 H3 scope ce fp) [] (wipe σ (own.map (·.2))) H' s' ∧ tn i s'.heap ∧ (∀ b ∈ fp, H' b = none) ∧ W i m H' := fun {s' H'} I' nx => by
        obtain ⟨m', hm, w'⟩ := hNx H' nx
        have pin' : ∀ b ∈ fp, ∀ o, s7.heap.get? b = some o → s'.heap.get? b = some o ∧ H' b = none := fun b hb o e =>
          let z := I'.pin (b, o) (List.mem_append_right _ (List.mem_append_right _ (mem_pinsAt hb e)))
          ⟨z.1, z.2.1⟩
        have hl : (wipe σ (own.map (·.2))).length = σ8.length := by rw [← hw8, wipe_length]
        refine ⟨m', hm, i + 1, H', (I'.unpinned (pins := [])).weak hl (fun j v e => ?_), T.keep _ _ _ st7 fun b hb o e => (pin' b hb o e).1, fun b hb => ?_, w'⟩
        · rw [← hw8] at e
          exact (wipe_some e).1
        · obtain ⟨o, e, _⟩ := T.obj _ _ st7 b hb
          exact (pin' b hb o e).2
      cases b with
      | false =>
        simp only [Bool.false_eq_true, if_false] at q9 ⊢
        exact fin I9 q9
      | true =>
        simp only [if_true] at q9 ⊢
        refine thnF (pk.run _ s9 σ8 H9 _ I9 q9) fun z s10 ⟨yk, H10, I10, r10, q10⟩ => ?_
        refine thnF (pe.run _ s10 σ8 H10 _ I10 q10) fun z2 s11 ⟨yv, H11, I11, r11, H12, put, nx⟩ => ?_
        exact g_dictSet (X := X.blk s3 H3 scope ce fp) hu I11 put r10 r11 fun s12 I12 => fin I12 nx
  exact codeAny_compStart_dict loop (T.self X.A 0 _ _ _ st4 loop)

theorem pe_dg {o0 : HO} {kx vx tg iter : Expr} {ifs : List Expr} {scope : Scope} {own : List (Str × Nat)} {pos : Pos} {wi : TI} {g : TG} {tt : TT} {tk tv : TE} (h0 : o0 = .dK [] ∨ o0 = .dT []) (hu : X.A.units + 1 < cLine) (hc : X.calm = true) (hN : X.N.Nodup) (hi : PI X tg iter wi) (ok : BlkOk X.N X.env.scope scope own)
    (hg : ∀ (s : Shared) (H : Hp) (C : Addr) (cl : List (Str × Addr)) (fp : List Addr), PG (X.blk s H scope (compEnvC scope cl C X.env) fp) tg g) (ht : ∀ (s : Shared) (H : Hp) (C : Addr) (cl : List (Str × Addr)) (fp : List Addr), PTs (X.blk s H scope (compEnvC scope cl C X.env) fp) ifs tt)
    (hk : ∀ (s : Shared) (H : Hp) (C : Addr) (cl : List (Str × Addr)) (fp : List Addr), PE (X.blk s H scope (compEnvC scope cl C X.env) fp) kx tk)
    (he : ∀ (s : Shared) (H : Hp) (C : Addr) (cl : List (Str × Addr)) (fp : List Addr), PE (X.blk s H scope (compEnvC scope cl C X.env) fp) vx tv) (hs : ∀ x, foldedSetIterable iter X.env x = pure x) :
    PE X (.DictComp kx vx [⟨tg, iter, ifs, 0⟩] scope pos) (tDg o0 wi g tt tk tv (own.map (·.2))) := by
  refine ⟨fun pins s σ H Q I h => ?_⟩
  rw [arm_eval_DictComp]
  refine dg_core hc hN I hi ok hg ht hk he hs h0 hu h fun D C s' m H' I' q hn f => ⟨m, hn, fun h'' sb => ?_⟩
  obtain ⟨f0, f1, f2, f3, f4, f5⟩ := f
  exact ⟨.ref D, H', I'.turned (t' := s'.toks) (fun b o hb e => (sb.2 b hb).trans e) f0 f1 f3 f4 f5, rfl, q⟩
end
end Snd
end

section
set_option Elab.async false
set_option linter.all false
set_option maxRecDepth 100000
/-! S21: dict comprehensions, dict displays. -/
namespace Snd
open PySem PySem.Spec L2
open PyProof.Rows hiding St
open Mini (PV W Sl M CR Bi Ty Mu Fl)
variable {G : Gb} {H H' : Hp} {F F' : Fz} {L L' A B C T : List WV}

theorem set_put {d k v d' : PV} {o y z : V} (hd : Mini.kd d = 4 ∨ Mini.kd d = 5) (g : Gd G H F ((.own d, o) :: L)) (h2 : Lk G H k y) (h3 : Rp G H F v z) (e : Mini.setItem d k v = some d') : (Mini.kd d' = 4 ∨ Mini.kd d' = 5) ∧ ∃ a H', o = .ref a ∧ DPut H a y z H' ∧ Gd G H' F ((.own d', o) :: L) := by
  cases d with
  | dk kvs =>
    obtain ⟨a, us, rfl, ha, rr⟩ := (show Own G H F (.dk kvs) o from g.rel _ List.mem_cons_self)
    have e : ((Mini.keyOf k).bind fun k => if kvs.length < Mini.SZ then some (PV.dk (Mini.putK k v kvs)) else none) = some d' := e
    obtain ⟨j, e1, e2⟩ := Option.bind_eq_some_iff.mp e
    split at e2
    · rename_i hz
      cases e2
      obtain ⟨rfl, ok⟩ := keyOf_kV e1 h2
      exact ⟨.inl rfl, a, _, rfl, .inl ⟨us, j, ha, rfl, by rw [SZ_eq, ← rpK_len rr]; exact hz, rfl⟩, g.chg (v' := .dk (Mini.putK j v kvs)) ⟨a, _, rfl, upd_same, RpK.mono (.upd g.notF) (fun _ z => z) _ _ (rr.put ok h3)⟩⟩
    · cases e2
  | dt kvs =>
    obtain ⟨a, us, rfl, ha, rr⟩ := (show Own G H F (.dt kvs) o from g.rel _ List.mem_cons_self)
    have e : ((Mini.tkeyOf k).bind fun k => if kvs.length < Mini.SZ then some (PV.dt (Mini.putK k v kvs)) else none) = some d' := e
    obtain ⟨j, e1, e2⟩ := Option.bind_eq_some_iff.mp e
    split at e2
    · rename_i hz
      cases e2
      obtain ⟨c, rfl, hb, ok⟩ := tkeyOf_kV e1 h2
      exact ⟨.inr rfl, a, _, rfl, .inr ⟨us, j, c, ha, rfl, hb, by rw [SZ_eq, ← rpT_len rr]; exact hz, rfl⟩, g.chg (v' := .dt (Mini.putK j v kvs)) ⟨a, _, rfl, upd_same, RpT.mono (.upd g.notF) (fun _ z => z) _ _ (rr.put ok h3)⟩⟩
    · cases e2
  | _ => simp [Mini.kd] at hd
section
variable {X : Cx} {tg kx elt iter e a c : Expr} {m ma mc me mk : M W} {mb : M PV} {ta mt : M Bool} {mi : M (List PV)} {P : Nat → Bool} {pos p : Pos} {scope : Scope} {ifs : List Expr}
theorem dcLoop_cons {own : List Nat} {t : Mini.Tg} {mp : M (PV × PV)} {v : PV} {xs : List PV} {acc r : PV} {s s' : Sl} (h : Mini.dcLoop own t mt mp (v :: xs) acc s = .ok r s') :
    ∃ s2 b s3, Mini.stTg t (.sh v) (Mini.wipe own s) = .ok () s2 ∧ mt s2 = .ok b s3 ∧ (b = false → Mini.dcLoop own t mt mp xs acc s3 = .ok r s') ∧ (b = true → ∃ u s4 acc', mp s3 = .ok u s4 ∧ Mini.setItem acc u.1 u.2 = some acc' ∧ Mini.dcLoop own t mt mp xs acc' s4 = .ok r s') := by
  unfold Mini.dcLoop at h
  obtain ⟨_, s1, e1, h⟩ := bind_ok.mp h
  have e1 : Mini.R.ok () (Mini.wipe own s) = .ok _ s1 := e1
  cases e1
  obtain ⟨_, s2, e2, h⟩ := bind_ok.mp h
  obtain ⟨b, s3, e3, h⟩ := bind_ok.mp h
  refine ⟨s2, b, s3, e2, e3, fun q => ?_, fun q => ?_⟩
  · subst q; exact h
  · subst q
    rw [if_pos rfl] at h
    obtain ⟨u, s4, e4, h⟩ := bind_ok.mp h
    obtain ⟨acc', s5, e5, h⟩ := bind_ok.mp h
    obtain ⟨e6, rfl⟩ := ofO_ok.mp e5
    exact ⟨u, s4, acc', e4, e6, h⟩
theorem dc_go0 (tk : Bool) {own : List (Str × Nat)} {t : Mini.Tg} {g1 : TG} (h2 : SGo G X (notIn (own.map (·.2))) g1 (Mini.stTg t))
    (ht : ∀ (s : Shared) (H : Hp) (C : Addr) (cl : List (Str × Addr)) (fp : List Addr), SEts G (Blk X scope s H C cl fp) ifs mt) (hk : ∀ (s : Shared) (H : Hp) (C : Addr) (cl : List (Str × Addr)) (fp : List Addr), SEv G (Blk X scope s H C cl fp) kx mk) (he : ∀ (s : Shared) (H : Hp) (C : Addr) (cl : List (Str × Addr)) (fp : List Addr), SEv G (Blk X scope s H C cl fp) elt me)
    {s0 sl' : Sl} {σ : St} {r : PV} {xs : List PV} {Q : VK} (hw : wI X tg iter σ H fun J H1 => ∃ C, WalkR G J C xs ∧ Fit s0 σ ∧ Good G H1 (C ++ (prs s0 σ ++ T))) (hm : Mini.inBlock (own.map (·.2)) (Mini.dcLoop (own.map (·.2)) t mt (do let a ← mk; let b ← me; pure (a.frz, b.frz)) xs (if tk then .dt [] else .dk [])) s0 = .ok r sl')
    (q : ∀ D H', Fit sl' σ → Good G H' ((.own r, .ref D) :: (prs sl' σ ++ T)) → Q (.ref D) H') : tDg (if tk then .dT [] else .dK []) (wI X tg iter) g1 (uTs X scope ifs) (uE X scope kx) (uE X scope elt) (own.map (·.2)) σ H Q := by
  obtain ⟨s9, e9, rfl⟩ := inBlock_ok hm
  generalize hvs : own.map (·.2) = vs at *
  intro pins s I
  refine thn (hw pins s I) fun v s1 h1 => thn h1 fun itv s2 ⟨it, fp, tn, J, H1, a1, a2, a3, a4, a5, C, wk, f1, g1⟩ => ⟨it, fp, tn, J, H1, a1, a2, a3, a4, a5, ?_⟩
  intro D hD
  have g2 : Good G H1 (C ++ (prs (Mini.wipe vs s0) (L2.wipe σ vs) ++ T)) := g1.wipe
  have f2 : Fit (Mini.wipe vs s0) (L2.wipe σ vs) := f1.wipe
  have ww : Mini.wipe vs (Mini.wipe vs s0) = Mini.wipe vs s0 := wipe_idem vs s0
  refine ⟨fun i k H' => ∃ s1 acc, (Mini.kd acc = 4 ∨ Mini.kd acc = 5) ∧ i ≤ xs.length ∧ k = xs.length - i ∧ Fit (Mini.wipe vs s1) (L2.wipe σ vs) ∧ Good G H' ((.own acc, .ref D) :: (C ++ (prs (Mini.wipe vs s1) (L2.wipe σ vs) ++ T))) ∧ Mini.dcLoop vs t mt (do let a ← mk; let b ← me; pure (a.frz, b.frz)) (xs.drop i) acc s1 = .ok r s9,
    ⟨_, Mini.wipe vs s0, _, kd0, Nat.zero_le _, rfl, by rw [ww]; exact f2, by rw [ww]; obtain ⟨F, g2⟩ := g2; exact ⟨F, new0 g2 hD⟩, e9⟩, fun i k H' ⟨s1, acc, hkd, hi, hki, f1, g1, e1⟩ => ?_⟩
  by_cases hl : i < xs.length
  · right
    rw [List.drop_eq_getElem_cons hl] at e1
    obtain ⟨s2, b, s3, e2, e3, e4, e5⟩ := dcLoop_cons e1
    have g3 := g1.back
    refine ⟨wk.go i H' _ hl g3, fun H2 => ∃ s1 acc, (Mini.kd acc = 4 ∨ Mini.kd acc = 5) ∧ i + 1 ≤ xs.length ∧ Fit (Mini.wipe vs s1) (L2.wipe σ vs) ∧ Good G H2 ((.own acc, .ref D) :: (C ++ (prs (Mini.wipe vs s1) (L2.wipe σ vs) ++ T))) ∧ Mini.dcLoop vs t mt (do let a ← mk; let b ← me; pure (a.frz, b.frz)) (xs.drop (i + 1)) acc s1 = .ok r s9,
      fun H2 ⟨s1, acc, q0, q1, q2, q3, q4⟩ => ⟨xs.length - (i + 1), by omega, s1, acc, q0, q1, rfl, q2, q3, q4⟩, fun x H2 hy => ?_⟩
    have g4 := wk.yld i H' x H2 _ _ (List.getElem?_eq_getElem hl) g3 hy
    have g5 : Good G H2 ((.sh xs[i], x) :: (prs (Mini.wipe vs s1) (L2.wipe σ vs) ++ ((.own acc, .ref D) :: (C ++ T)))) := g4.perm (List.Perm.cons _ perm_sw)
    refine h2 _ s2 _ H2 _ _ x _ f1 g5 e2 fun σ2 k2 f3 g6 => ?_
    have lw : σ2.length = σ.length := by
      have q1 := f3.length
      have q2 := f1.length
      rw [wipe_length] at q2
      have q3 : s2.length = (Mini.wipe vs s1).length := stTg_len e2
      omega
    have wk2 : L2.wipe σ2 vs = L2.wipe σ vs := wipe_keep k2 lw
    refine ⟨wk2, fun s' H0 C' cl fp' => ?_⟩
    refine thnTs (ht s' H0 C' cl fp' s2 s3 σ2 H2 _ b f3 g6 e3) fun cb H3 ⟨ecb, f4, g7⟩ => ?_
    subst ecb
    cases cb with
    | false =>
      rw [if_neg Bool.false_ne_true]
      refine ⟨s3, acc, hkd, hl, by rw [← wk2]; exact f4.wipe, ?_, e4 rfl⟩
      have g8 : Good G H3 (((.own acc, .ref D) :: C) ++ (prs s3 σ2 ++ T)) := g7.perm perm_sw2
      rw [← wk2]
      exact g8.wipe
    | true =>
      rw [if_pos rfl]
      intro s'' H0' C'' cl' fp''
      obtain ⟨u, s4, acc', e6, hz, e7⟩ := e5 rfl
      obtain ⟨w1, s5, e8, e10⟩ := bind_ok.mp e6
      obtain ⟨w2, s6, e11, e12⟩ := bind_ok.mp e10
      obtain ⟨rfl, rfl⟩ := pure_ok.mp e12
      refine ((hk s'' H0' C'' cl' fp'').fz f4 g7 e8).mono fun y H4 ⟨f5, g8⟩ => ?_
      intro s9' H9' C9 cl9 fp9
      refine ((he s9' H9' C9 cl9 fp9).fz (T := (.sh w1.frz, y) :: (.own acc, .ref D) :: (C ++ T)) f5 g8.back e11).mono fun z H5 ⟨f6, g9⟩ => ?_
      obtain ⟨F, g9⟩ := g9
      have hz1 := g9.rel _ List.mem_cons_self
      have g10 : Gd G H5 F ((.sh w1.frz, y) :: (prs s6 σ2 ++ ((.own acc, .ref D) :: (C ++ T)))) := g9.tail.perm List.perm_middle
      have hy1 : Rp G H5 F w1.frz y := g10.rel _ List.mem_cons_self
      have g11 : Gd G H5 F ((.own acc, .ref D) :: (C ++ (prs s6 σ2 ++ T))) := g10.tail.perm perm_sw2
      obtain ⟨kd2, a, H6, ea, put, g12⟩ := set_put hkd g11 hy1.lk hz1 hz
      cases ea
      refine ⟨H6, put, s6, acc', kd2, hl, by rw [← wk2]; exact f6.wipe, ?_, e7⟩
      rw [← wk2]
      exact Good.wipe (A := (.own acc', .ref D) :: C) ⟨F, g12⟩
  · left
    have : i = xs.length := by omega
    subst this
    rw [List.drop_length] at e1
    obtain ⟨rfl, rfl⟩ := pure_ok.mp (show (pure acc : M PV) s1 = .ok r s9 from e1)
    refine ⟨wk.stop H' _ g1.back, q D H' f1.unwipe ?_⟩
    rw [prs_wipe] at g1
    exact Good.drop (T := C) g1.back
where
  wipe_idem (vs : List Nat) (s : Sl) : Mini.wipe vs (Mini.wipe vs s) = Mini.wipe vs s := by
    induction vs generalizing s with
    | nil => rfl
    | cons v vs ih =>
      show (Mini.wipe vs ((Mini.wipe vs s).set v none)).set v none = (Mini.wipe vs s).set v none
      rw [← wipe_set, ih, List.set_set]
  thnTs {Y : Cx} {ifs : List Expr} {σ : St} {H : Hp} {Q Q' : Bool → Hp → Prop} (h : wTs Y ifs σ H Q) (f : ∀ b H', Q b H' → Q' b H') : wTs Y ifs σ H Q' := fun pins s I => thn (h pins s I) fun _ _ ⟨H', I', q⟩ => ⟨H', I', f _ H' q⟩
  kd0 {tk : Bool} : Mini.kd (if tk then PV.dt [] else .dk []) = 4 ∨ Mini.kd (if tk then PV.dt [] else .dk []) = 5 := by cases tk <;> simp [Mini.kd]
  new0 {tk : Bool} {D : Addr} {H1 : Hp} {F : Fz} {L : List WV} (g : Gd G H1 F L) (hD : H1 D = none) : Gd G (upd H1 D (if tk then .dT [] else .dK [])) F ((.own (if tk then PV.dt [] else .dk []), .ref D) :: L) := by
    cases tk
    · exact g.newDK hD rfl
    · exact g.newDT hD rfl
theorem dc_go (tk : Bool) {own : List (Str × Nat)} {t : Mini.Tg} {g1 : TG} (hi : SEit X G tg iter mi) (h2 : SGo G X (notIn (own.map (·.2))) g1 (Mini.stTg t))
    (ht : ∀ (s : Shared) (H : Hp) (C : Addr) (cl : List (Str × Addr)) (fp : List Addr), SEts G (Blk X scope s H C cl fp) ifs mt) (hk : ∀ (s : Shared) (H : Hp) (C : Addr) (cl : List (Str × Addr)) (fp : List Addr), SEv G (Blk X scope s H C cl fp) kx mk) (he : ∀ (s : Shared) (H : Hp) (C : Addr) (cl : List (Str × Addr)) (fp : List Addr), SEv G (Blk X scope s H C cl fp) elt me)
    {sl sl' : Sl} {σ : St} {r : PV} {Q : VK} (ft : Fit sl σ) (g : Good G H (prs sl σ ++ T)) (hm : (do let xs ← mi; Mini.inBlock (own.map (·.2)) (Mini.dcLoop (own.map (·.2)) t mt (do let a ← mk; let b ← me; pure (a.frz, b.frz)) xs (if tk then .dt [] else .dk [])) : M PV) sl = .ok r sl')
    (q : ∀ D H', Fit sl' σ → Good G H' ((.own r, .ref D) :: (prs sl' σ ++ T)) → Q (.ref D) H') : tDg (if tk then .dT [] else .dK []) (wI X tg iter) g1 (uTs X scope ifs) (uE X scope kx) (uE X scope elt) (own.map (·.2)) σ H Q := by
  obtain ⟨xs, s0, e0, hm⟩ := bind_ok.mp hm
  exact dc_go0 tk h2 ht hk he (hi sl s0 σ H T xs ft g e0) hm q
theorem sv_dc (b : Bs G X) (tk : Bool) (hN : X.N.Nodup) {own : List (Str × Nat)} {t : Mini.Tg} {g1 : TG} (hi : SEit X G tg iter mi) (ok : BlkOk X.N X.env.scope scope own) (hg : ∀ (s : Shared) (H : Hp) (C : Addr) (cl : List (Str × Addr)) (fp : List Addr), PG (Blk X scope s H C cl fp) tg g1) (h2 : SGo G X (notIn (own.map (·.2))) g1 (Mini.stTg t))
    (ht : ∀ (s : Shared) (H : Hp) (C : Addr) (cl : List (Str × Addr)) (fp : List Addr), SEts G (Blk X scope s H C cl fp) ifs mt) (hk : ∀ (s : Shared) (H : Hp) (C : Addr) (cl : List (Str × Addr)) (fp : List Addr), SEv G (Blk X scope s H C cl fp) kx mk) (he : ∀ (s : Shared) (H : Hp) (C : Addr) (cl : List (Str × Addr)) (fp : List Addr), SEv G (Blk X scope s H C cl fp) elt me)
    (hs : ∀ x, foldedSetIterable iter X.env x = pure x) :
    SEv G X (.DictComp kx elt [⟨tg, iter, ifs, 0⟩] scope pos) (do let xs ← mi; let r ← Mini.inBlock (own.map (·.2)) (Mini.dcLoop (own.map (·.2)) t mt (do let a ← mk; let b ← me; pure (a.frz, b.frz)) xs (if tk then .dt [] else .dk [])); pure (.own r)) := by
  intro sl sl' σ H T w ft g hm
  obtain ⟨xs, s1, e1, hm⟩ := bind_ok.mp hm
  obtain ⟨r, s2, e2, hm⟩ := bind_ok.mp hm
  obtain ⟨rfl, rfl⟩ := pure_ok.mp hm
  have hu := b.un
  have h0 : (if tk then HO.dT [] else .dK []) = .dK [] ∨ (if tk then HO.dT [] else .dK []) = .dT [] := by cases tk <;> simp
  exact (pe_dg h0 (by omega) b.calm hN pi_w ok hg (fun _ _ _ _ _ => pts_u) (fun _ _ _ _ _ => pe_u) (fun _ _ _ _ _ => pe_u) hs).w (dc_go tk hi h2 ht hk he ft g (bind_ok.mpr ⟨xs, s1, e1, e2⟩) fun D H' f' g' => ⟨f', g'⟩)
theorem ps_setDc {o0 : HO} {kx vx tg iter : Expr} {ifs : List Expr} {scope : Scope} {own : List (Str × Nat)} {pos spos py : Pos} {wi : TI} {g : TG} {tt : TT} {tk tv : TE} {i : Nat} {y : Str} (h0 : o0 = .dK [] ∨ o0 = .dT []) (hu : X.A.units + 1 < cLine) (hc : X.calm = true) (hN : X.N.Nodup) (hy : X.N[i]? = some y) (hyl : X.env.scope.names.lookup y = some .local)
    (hsw : swapsWith (.DictComp kx vx [⟨tg, iter, ifs, 0⟩] scope pos) (some (.Name y py)) spos.line X.env = pure true) (hi : PI X tg iter wi) (ok : BlkOk X.N X.env.scope scope own)
    (hg : ∀ (s : Shared) (H : Hp) (C : Addr) (cl : List (Str × Addr)) (fp : List Addr), PG (X.blk s H scope (compEnvC scope cl C X.env) fp) tg g) (ht : ∀ (s : Shared) (H : Hp) (C : Addr) (cl : List (Str × Addr)) (fp : List Addr), PTs (X.blk s H scope (compEnvC scope cl C X.env) fp) ifs tt)
    (hk : ∀ (s : Shared) (H : Hp) (C : Addr) (cl : List (Str × Addr)) (fp : List Addr), PE (X.blk s H scope (compEnvC scope cl C X.env) fp) kx tk)
    (he : ∀ (s : Shared) (H : Hp) (C : Addr) (cl : List (Str × Addr)) (fp : List Addr), PE (X.blk s H scope (compEnvC scope cl C X.env) fp) vx tv) (hs : ∀ x, foldedSetIterable iter X.env x = pure x) :
    PS X (.Assign [.Name y py] (.DictComp kx vx [⟨tg, iter, ifs, 0⟩] scope pos) spos) (tAsg (tDg o0 wi g tt tk tv (own.map (·.2))) (gName i)) := by
  refine ⟨fun pins s σ H D I h => ?_⟩
  rw [exec_Assign_Name_used _ _ _ _ hsw]
  refine wpAny_bind (wpAny_standAt (wpAny_bind ?_))
  show wpAny _ X.A (do let _ ← comprehension (.DictComp kx vx [⟨tg, iter, ifs, 0⟩] scope pos) scope X.env (firstIterPos [⟨tg, iter, ifs, 0⟩] pos) newDict false (eval iter X.env) (some (assign (.Name y py) X.env))) _ _ s
  have h : tDg o0 wi g tt tk tv (own.map (·.2)) σ H (fun x H1 => gName i x σ H1 D.nx) := h
  refine wpAny_bind (thn (dg_core (Qf := fun _ s' => SP X pins D .next s') hc hN I hi ok hg ht hk he hs h0 hu h fun L C s' m H' I' q hn f => ?_) fun _ s' hq => wpAny_pure (wpAny_pure hq))
  show wpAny _ _ (assign (.Name y py) X.env (.ref L)) _ _ _
  obtain ⟨f0, f1, f2, f3, f4, f5⟩ := f
  refine wpAny_assign_Name (store_ok2 (v := V.ref L) I' hN hy (.inl hyl) rfl (fun s2 I2 ⟨a, sb, ha⟩ => ?_) (.inr hyl))
  have ne : C ≠ a := by
    rcases ha with z | z
    · exact z ▸ f1
    · exact fun e => f4 y a z e.symm
  exact ⟨m, hn.sameBut sb ne, fun h3 sb3 => ⟨_, H', I2.turned (t' := s2.toks) (fun b o hb e => (sb3.2 b hb).trans e) f0 f1 f3 f4 f5, q⟩⟩
theorem s_setDc (b : Bs G X) (tk : Bool) (hN : X.N.Nodup) {i : Nat} {y : Str} {py spos : Pos} {own : List (Str × Nat)} {t : Mini.Tg} {g1 : TG} {k : Bool} {P : Nat → Bool} (hy : X.N[i]? = some y) (hyl : X.env.scope.names.lookup y = some .local) (hsw : swapsWith (.DictComp kx elt [⟨tg, iter, ifs, 0⟩] scope pos) (some (.Name y py)) spos.line X.env = pure true)
    (hi : SEit X G tg iter mi) (ok : BlkOk X.N X.env.scope scope own) (hg : ∀ (s : Shared) (H : Hp) (C : Addr) (cl : List (Str × Addr)) (fp : List Addr), PG (Blk X scope s H C cl fp) tg g1) (h2 : SGo G X (notIn (own.map (·.2))) g1 (Mini.stTg t))
    (ht : ∀ (s : Shared) (H : Hp) (C : Addr) (cl : List (Str × Addr)) (fp : List Addr), SEts G (Blk X scope s H C cl fp) ifs mt) (hk : ∀ (s : Shared) (H : Hp) (C : Addr) (cl : List (Str × Addr)) (fp : List Addr), SEv G (Blk X scope s H C cl fp) kx mk) (he : ∀ (s : Shared) (H : Hp) (C : Addr) (cl : List (Str × Addr)) (fp : List Addr), SEv G (Blk X scope s H C cl fp) elt me)
    (hs : ∀ x, foldedSetIterable iter X.env x = pure x) (hP : P i = false) :
    SS G X P (.Assign [.Name y py] (.DictComp kx elt [⟨tg, iter, ifs, 0⟩] scope pos) spos) (do let w ← (do let xs ← mi; let r ← Mini.inBlock (own.map (·.2)) (Mini.dcLoop (own.map (·.2)) t mt (do let a ← mk; let b ← me; pure (a.frz, b.frz)) xs (if tk then .dt [] else .dk [])); pure (.own r)); Mini.stTg (.nm i k) w; pure .nx) := by
  intro sl sl' σ H T fl D ft g h en
  obtain ⟨w, s3, e3, h⟩ := bind_ok.mp h
  obtain ⟨xs, s1, e1, e3⟩ := bind_ok.mp e3
  obtain ⟨r, s2, e2, e3⟩ := bind_ok.mp e3
  obtain ⟨rfl, rfl⟩ := pure_ok.mp e3
  obtain ⟨_, s4, e4, h⟩ := bind_ok.mp h
  obtain ⟨rfl, rfl⟩ := pure_ok.mp h
  have hu := b.un
  have h0 : (if tk then HO.dT [] else .dK []) = .dK [] ∨ (if tk then HO.dT [] else .dK []) = .dT [] := by cases tk <;> simp
  refine (ps_setDc h0 (by omega) b.calm hN hy hyl hsw pi_w ok hg (fun _ _ _ _ _ => pts_u) (fun _ _ _ _ _ => pe_u) (fun _ _ _ _ _ => pe_u) hs).w (dc_go tk hi h2 ht hk he ft g (bind_ok.mpr ⟨xs, s1, e1, e2⟩) fun D' H' f' g' => ?_)
  exact sg_name (X := X) hP s2 s4 σ H' T _ _ D.nx f' g' e4 fun σ' k' f2 g2 => en σ' H' k' f2 g2
theorem sv_dnewT : SEv G X (.Dict [] [] pos) (pure (.own (.dt []))) := by
  intro sl sl' σ H T w ft g hm
  obtain ⟨rfl, rfl⟩ := pure_ok.mp hm
  obtain ⟨F, g⟩ := g
  exact pe_dnewT.w fun p hp => ⟨ft, F, g.newDT hp rfl⟩
theorem sv_dnewK : SEv G X (.Dict [] [] pos) (pure (.own (.dk []))) := by
  intro sl sl' σ H T w ft g hm
  obtain ⟨rfl, rfl⟩ := pure_ok.mp hm
  obtain ⟨F, g⟩ := g
  exact pe_dnewK.w fun p hp => ⟨ft, F, g.newDK hp rfl⟩
end
end Snd
end

section
set_option Elab.async false
set_option linter.all false
set_option maxRecDepth 100000
/-! S22: enumerate, zip of lists and tuples. -/
namespace Snd
open PySem PySem.Spec L2
open PyProof.Rows hiding St
open Mini (PV W Sl M CR Bi Ty Mu Fl)
variable {G : Gb} {H H' : Hp} {F F' : Fz} {L L' A B C T : List WV}

/-- a walk that hands new tuples out, as a turn -/
theorem turn_w {P : Program} {w : World} {K : PySem.W.Frag} {elts : List Expr} {kk : Nat} {tpos : Pos} {J : It} {fp wr : List Addr} {it : Addr} {tn : Nat → Heap → Prop} (mem : it ∈ fp) (sub : ∀ b ∈ wr, b ∈ fp)
    (obj : ∀ i h, tn i h → ∀ b ∈ fp, ∃ o, h.get? b = some o ∧ ∀ v, o.data ≠ .cell v) (keep : ∀ i h h', tn i h → (∀ b ∈ fp, ∀ o, h.get? b = some o → h'.get? b = some o) → tn i h')
    (self : ∀ (A : Around) (i : Nat) (s : Shared) (Q : Value → Shared → Prop) (E : Value → Shared → Prop), tn i s.heap → Q (.ref it) s → wpAny (model P w) A (pyIter (.ref it)) Q E s)
    (step : ∀ (X : Cx), X.prog = P → X.w = w → X.K = K → X.calm = true → ∀ (i : Nat) (pins : List (Addr × Obj)) (s : Shared) (σ : St) (H : Hp), Inv X pins σ H s → tn i s.heap → J.go i H →
      ∃ (fp' : List Addr) (n : Nat) (Pt : Nat → Array Value → Prop) (St : Nat → Heap → Prop) (Mid : Nat → Addr → Heap → Prop), WalksT P w X.A it fp' wr n Pt St Mid ∧ i < n ∧ St i s.heap ∧ (∀ h, St (i + 1) h → tn (i + 1) h) ∧
        ∀ vals, Pt i vals → ∃ ys : List V, ys.length ≤ sizeLine ∧ Vals ys vals.toList ∧ ∀ T, H T = none → J.yld i H (.ref T) (upd H T (.tup ys)))
    (fin : ∀ (X : Cx), X.prog = P → X.w = w → X.K = K → X.calm = true → ∀ (i : Nat) (pins : List (Addr × Obj)) (s : Shared) (σ : St) (H : Hp), Inv X pins σ H s → tn i s.heap → J.stop i H →
      ∃ (fp' : List Addr) (Pt : Nat → Array Value → Prop) (St : Nat → Heap → Prop) (Mid : Nat → Addr → Heap → Prop), WalksT P w X.A it fp' wr i Pt St Mid ∧ St i s.heap) : Turn P w K (.Tuple elts kk tpos) J fp it tn where
  mem := mem
  obj := obj
  keep := keep
  item := by
    intro X hP hw hK hc i pins s σ H E I hf st hg
    obtain ⟨fp', n, Pt, St, Mid, W, hi, hst, hnext, hv⟩ := step X hP hw hK hc i pins s σ H I st hg
    refine W.item i s _ _ hi hst fun T vals h' tk hPt hT isT mid kp => ⟨_, rfl, ?_⟩
    refine W.go elts kk tpos i T _ _ _ mid fun h'' hst' kp' => ?_
    obtain ⟨ys, hz, hvs, hy⟩ := hv vals hPt
    have hap := W.apart _ _ _ mid
    have isT2 : IsTup h'' T vals := isT.at fun o e => kp' T o hap e
    have new : ObjOk X.prog X.w (upd H T (.tup ys)) h'' T (.tup ys) := ⟨hz, vals.toList, hvs, by rw [Array.toArray_toList]; exact isT2⟩
    have I1 : Inv X pins σ (upd H T (.tup ys)) { s with heap := h'', toks := tk } := I.turnedNew (ch := wr) (fun b o hb e => kp' b o hb (kp b o hb e)) (fun b hb => hf b (sub b hb)) hT new
    refine ⟨.ref T, _, I1, rfl, hy T (I.hok.fresh hT), hnext _ hst', fun b hb => ?_⟩
    obtain ⟨o, e, _⟩ := obj _ _ st b hb
    have hlt : b < s.heap.objs.size := Heap.lt_size e
    rw [upd_ne (Nat.ne_of_lt (Nat.lt_of_lt_of_le hlt hT))]
    exact (hf b hb).1
  done := by
    intro X hP hw hK hc i pins s σ H E I hf st hg
    obtain ⟨fp', Pt, St, Mid, W, hst⟩ := fin X hP hw hK hc i pins s σ H I st hg
    refine W.done s _ _ hst fun h' tk kp => ⟨rfl, ?_⟩
    exact I.turnedL (ch := wr) kp fun b hb => hf b (sub b hb)
  self := self

/-! ### lists, tuples -/
def SqB (t : Bool) (K : PySem.W.Frag) (H : Hp) (a : Addr) (xs : List V) : Prop := if t then SqT K H a xs else SqL K H a xs
def IsS (t : Bool) (h : Heap) (a : Addr) (items : Array Value) : Prop := if t then h.IsTuple a items else h.IsList a items
def StI (t : Bool) (h : Heap) (it a : Addr) (i : Nat) : Prop := if t then h.IsTupleIter it a i else h.IsListIter it a i
def oIt (t : Bool) (a : Addr) : Obj := { cls := .type (if t then "tuple_iterator" else "list_iterator"), data := .fields #[.ref a, .int 0 0] }
theorem draws_s {P : Program} {w : World} {A : Around} (t : Bool) (hh : A.handled = none) (it a : Addr) (hne : a ≠ it) (items : Array Value) : Draws P w A it [it, a] items.size (fun i v => items[i]? = some v) (fun i h => StI t h it a i ∧ IsS t h a items) := by
  cases t
  · exact Draws.list hh it a hne items
  · exact Draws.tuple hh it a hne items
theorem begins_s (t : Bool) (a : Addr) (items : Array Value) : Begins (.ref a) (oIt t a) fun h => IsS t h a items := by
  cases t
  · exact begins_list a items
  · exact begins_tuple a items
theorem seq_s {X : Cx} {pins : List (Addr × Obj)} {σ : St} {s : Shared} {t : Bool} {a : Addr} {xs : List V} (I : Inv X pins σ H s) (h : SqB t X.K H a xs) : ∃ its : List Value, Vals xs its ∧ IsS t s.heap a its.toArray ∧ xs.length ≤ sizeLine := by
  cases t
  · obtain ⟨its, r, p, z⟩ := I.list h
    exact ⟨its, r, p.isList, z⟩
  · obtain ⟨its, r, p, z⟩ := I.tuple h
    exact ⟨its, r, p, z⟩
theorem seq_inj {X : Cx} {pins : List (Addr × Obj)} {σ : St} {s : Shared} {t : Bool} {a : Addr} {xs ys : List V} (I : Inv X pins σ H s) (h : SqB t X.K H a xs) (h' : SqB t X.K H a ys) : xs = ys := by
  cases t
  · exact I.list_inj h h'
  · exact I.tuple_inj h h'
theorem IsS.lt {t : Bool} {h : Heap} {a : Addr} {items : Array Value} (x : IsS t h a items) : a < h.objs.size := by
  cases t
  · obtain ⟨o, e, _⟩ := (show h.IsList a items from x); exact Heap.lt_size e
  · obtain ⟨o, e, _⟩ := (show h.IsTuple a items from x); exact Heap.lt_size e
theorem StI.obj {t : Bool} {h : Heap} {it a : Addr} {i : Nat} (x : StI t h it a i) : ∃ o, h.get? it = some o ∧ ∀ v, o.data ≠ .cell v := by
  cases t
  · obtain ⟨o, e, c, d⟩ := (show h.IsListIter it a i from x); exact ⟨o, e, fun v z => by rw [d] at z; cases z⟩
  · obtain ⟨o, e, c, d⟩ := (show h.IsTupleIter it a i from x); exact ⟨o, e, fun v z => by rw [d] at z; cases z⟩
theorem StI.at {t : Bool} {h h' : Heap} {it a : Addr} {i : Nat} (x : StI t h it a i) (k : ∀ o, h.get? it = some o → h'.get? it = some o) : StI t h' it a i := by
  cases t
  · exact Heap.IsListIter.at (show h.IsListIter it a i from x) k
  · exact Heap.IsTupleIter.at (show h.IsTupleIter it a i from x) k
theorem StI.new {t : Bool} {h : Heap} {it a : Addr} (e : h.get? it = some (oIt t a)) : StI t h it a 0 := by
  cases t
  · exact ⟨_, e, rfl, rfl⟩
  · exact ⟨_, e, rfl, rfl⟩
theorem sqB_get {t : Bool} {X : Cx} {pins : List (Addr × Obj)} {σ : St} {s : Shared} {a : Addr} {xs : List V} {its : List Value} {i : Nat} {v : Value} (r : Vals xs its) (e : its.toArray[i]? = some v) : ∃ x, xs[i]? = some x ∧ RelV x v := by
  have e : its[i]? = some v := by simpa using e
  have hl := r.length
  have hi : i < xs.length := by have := (List.getElem?_eq_some_iff.mp e).1; omega
  obtain ⟨u, hu, ru⟩ := r.get (List.getElem?_eq_getElem hi)
  rw [e] at hu
  cases hu
  exact ⟨_, List.getElem?_eq_getElem hi, ru⟩

/-! ### enumerate -/
def ItE (t : Bool) (K : PySem.W.Frag) (a : Addr) : It :=
  ⟨fun i H => ∃ xs, SqB t K H a xs ∧ i < xs.length, fun i H x H' => ∃ T v, H T = none ∧ x = .ref T ∧ H' = upd H T (.tup [.int (i : Nat), v]) ∧ ∀ xs, SqB t K H a xs → xs[i]? = some v, fun i H => ∃ xs, SqB t K H a xs ∧ i = xs.length⟩
theorem turn_e {P : Program} {w : World} {K : PySem.W.Frag} {elts : List Expr} {kk : Nat} {tpos : Pos} (t : Bool) {a e it : Addr} (h1 : e ≠ it) (h2 : a ≠ it) (h3 : a ≠ e) :
    Turn P w K (.Tuple elts kk tpos) (ItE t K a) [e, it] e (fun i h => (∃ old, IsEnum h e it ((0 : Int) + (i : Nat)) old) ∧ StI t h it a i) := by
  have hef : e ∉ [it, a] := by simp [h1, h3.symm]
  refine turn_w (wr := [e, it]) (by simp) (fun b hb => hb) (fun i h ⟨⟨old, he⟩, hi⟩ b hb => ?_) (fun i h h' ⟨⟨old, he⟩, hi⟩ k => ⟨⟨old, k e (by simp) _ he⟩, hi.at fun o q => k it (by simp) o q⟩) (fun A i s Q E ⟨⟨_, he⟩, _⟩ h => wpAny_pyIter_enum he h) ?_ ?_
  · rcases List.mem_cons.mp hb with z | hb
    · rw [z]; exact ⟨_, he, fun v q => nomatch q⟩
    · rw [List.mem_singleton.mp hb]; exact hi.obj
  · intro X hP hw hK hc i pins s σ H I ⟨⟨old, he⟩, hi⟩ ⟨xs, hq, hl⟩
    subst hP hw hK
    obtain ⟨its, r, p, z⟩ := seq_s I hq
    have D := draws_s (P := X.prog) (w := X.w) (A := X.A.in1) t (I.ok.hd hc) it a h2 its.toArray
    refine ⟨_, _, _, _, _, WalksT.enumFrom 0 D e h1 hef (by simp), by rw [List.size_toArray, ← r.length]; exact hl, ⟨⟨old, he⟩, hi, p⟩, fun h hh => ⟨hh.1, hh.2.1⟩, fun vals ⟨tk, x, hx, ev⟩ => ?_⟩
    obtain ⟨y, hy, ry⟩ := sqB_get (t := t) (X := X) (pins := pins) (σ := σ) (s := s) (a := a) r hx
    subst ev
    refine ⟨[.int (i : Nat), y], by show 2 ≤ sizeLine; decide, .cons ⟨tk, by rw [Int.zero_add]⟩ (.cons ry .nil), fun T hT => ⟨T, y, hT, rfl, rfl, fun xs' hq' => by rw [seq_inj I hq' hq]; exact hy⟩⟩
  · intro X hP hw hK hc i pins s σ H I ⟨⟨old, he⟩, hi⟩ ⟨xs, hq, hl⟩
    subst hP hw hK
    obtain ⟨its, r, p, z⟩ := seq_s I hq
    have D := draws_s (P := X.prog) (w := X.w) (A := X.A.in1) t (I.ok.hd hc) it a h2 its.toArray
    have hn : i = its.toArray.size := by rw [List.size_toArray, ← r.length]; exact hl
    subst hn
    exact ⟨_, _, _, _, WalksT.enumFrom 0 D e h1 hef (by simp), ⟨⟨old, he⟩, hi, p⟩⟩
set_option maxHeartbeats 1000000 in
theorem meets_enum1 {v : Value} {o : Obj} {H : Heap → Prop} (B : Begins v o H) :
    Meets (Builtin.«enumerate.__new__» ⟨[.type "enumerate", v], []⟩) (fun _ R s => H s.heap ∧
      R (.ok (.ret (.ref (s.heap.push o).objs.size))) { s with heap := (s.heap.push o).push { cls := .type "enumerate", data := .fields #[.none, .bool false, .ref s.heap.objs.size, rawInt 0, .none, .none] } }) :=
  .of_wp fun prog w A R s h => by
    obtain ⟨hp, g, d, tk, os⟩ := s; obtain ⟨h1, h⟩ := h
    have hsub := sub_enumerate
    have q1 : ∀ {A' : Around} {E : Value → Shared → Prop} {Q : Value → Shared → Prop}, Q (.ref hp.objs.size) ⟨hp.push o, g, d, tk, os⟩ → wpAny (model prog w) A' (pyIter v) Q E ⟨hp, g, d, tk, os⟩ :=
      fun q => B.iter prog w _ _ ⟨hp, g, d, tk, os⟩ _ h1 q
    wp_walk using q1
    refine wpAny_stack_any fun st => wpAny_pure ?_
    split
    · rename_i c _ _ _ _ _
      cases (c == Value.type "enumerate")
      · wp_walk using q1
        exact ⟨_, rfl, h⟩
      · wp_walk using q1
        exact ⟨_, rfl, h⟩
    · wp_walk using q1
      exact ⟨_, rfl, h⟩
section
variable {prog : Program} {w : World} {A : Around} {E : Value → Shared → Prop} {s : Shared}
theorem enum1_begins {v : Value} {o : Obj} {H : Heap → Prop} {Q : Value → Shared → Prop} (B : Begins v o H) (h1 : H s.heap)
    (h : ∀ h', IsEnum h' (s.heap.objs.size + 1) s.heap.objs.size 0 .none → h'.get? s.heap.objs.size = some o → h'.objs.size = s.heap.objs.size + 2 →
      (∀ b o, s.heap.get? b = some o → h'.get? b = some o) → Q (.ref (s.heap.objs.size + 1)) { s with heap := h' }) :
    wpAny (model prog w) A (call (.type "enumerate") [v]) Q E s := by
  refine callType_new F.called_enumerate (by decide) (F.typeCall_enumerate_1 _) (F.newCall_enumerate_1 _) (fun obj => F.args_object_init_2 obj _) F.entry_enumerate_new
    (meets_enum1 B) ⟨h1, ?_⟩
  have hz : (s.heap.push o).objs.size = s.heap.objs.size + 1 := Heap.size_push ..
  show _ ∧ _
  rw [hz]
  have he : IsEnum ((s.heap.push o).push { cls := .type "enumerate", data := .fields #[.none, .bool false, .ref s.heap.objs.size, rawInt 0, .none, .none] }) (s.heap.objs.size + 1) s.heap.objs.size 0 .none := by
    have := Heap.get?_push_size (s.heap.push o) (o := { cls := .type "enumerate", data := .fields #[.none, .bool false, .ref s.heap.objs.size, rawInt 0, .none, .none] }) rfl
    rw [hz] at this; exact this
  refine ⟨⟨_, he, rfl⟩, h _ he (Heap.get?_push_of_some _ (Heap.get?_push_size _ B.free)) (by rw [Heap.size_push, hz]) fun b o x => Heap.get?_push_of_some _ (Heap.get?_push_of_some _ x)⟩
end
section
variable {X : Cx}
def iEn (K : PySem.W.Frag) (ta : TA) : TI := fun σ H R => ta σ H fun vs H1 => ∃ t a xs, vs = [.ref a] ∧ SqB t K H1 a xs ∧ R (ItE t K a) H1
theorem pi_en {e : Expr} {ta : TA} {p pos tpos : Pos} {elts : List Expr} {kk : Nat} (hg : Gl X "enumerate") (hm : X.mg "enumerate" = none) (ha : PA X [e] ta) (hs : starEach [e] X.env = [(false, eval e X.env)]) :
    PI X (.Tuple elts kk tpos) (.Call (.Name "enumerate" p) [e] [] pos) (iEn X.K ta) := by
  refine ⟨fun pins s σ H R I h => ?_⟩
  refine Call_ (ld_blt I hg hm boot_enumerate (PyProof.Rows.callWith_type1 (thn (ha.run pos pins s σ H _ I h) fun us s1 ⟨vs, H1, I1, r1, q1⟩ => ?_) hs rfl))
  obtain ⟨t, a, xs, ex, hq, q⟩ := q1
  subst ex
  cases r1 with
  | cons r rr =>
    cases rr
    cases r
    obtain ⟨its, rv, p', hz⟩ := seq_s I1 hq
    have la : a < s1.heap.objs.size := p'.lt
    refine enum1_begins (begins_s t a its.toArray) p' fun h' he ho hsz hk => wpAny_pyIter_enum he ?_
    have I2 : Inv X pins σ H1 { s1 with heap := h' } := I1.kept (t' := s1.toks) hk
    refine ⟨s1.heap.objs.size + 1, [s1.heap.objs.size + 1, s1.heap.objs.size], _, _, H1, rfl, I2, turn_e t (a := a) (Nat.succ_ne_self _) (Nat.ne_of_lt la) (Nat.ne_of_lt (Nat.lt_succ_of_lt la)), ⟨⟨.none, he⟩, StI.new ho⟩, fun b hb => ?_, q⟩
    have e' : b = s1.heap.objs.size + 1 ∨ b = s1.heap.objs.size := by simpa using hb
    have hle : s1.heap.objs.size ≤ b := by
      rcases e' with z | z
      · rw [z]; exact Nat.le_add_right _ _
      · rw [z]; exact Nat.le_refl _
    exact I1.fpOk hle (I1.hok.fresh hle)

/-! ### zip -/
def ItZ2 (t1 t2 : Bool) (K : PySem.W.Frag) (a b : Addr) : It :=
  ⟨fun i H => ∃ xs ys, SqB t1 K H a xs ∧ SqB t2 K H b ys ∧ i < min xs.length ys.length,
   fun i H x H' => ∃ T u v, H T = none ∧ x = .ref T ∧ H' = upd H T (.tup [u, v]) ∧ (∀ xs, SqB t1 K H a xs → xs[i]? = some u) ∧ ∀ ys, SqB t2 K H b ys → ys[i]? = some v,
   fun i H => ∃ xs ys, SqB t1 K H a xs ∧ SqB t2 K H b ys ∧ i = min xs.length ys.length⟩
def ItZ3 (t1 t2 t3 : Bool) (K : PySem.W.Frag) (a b c : Addr) : It :=
  ⟨fun i H => ∃ xs ys zs, SqB t1 K H a xs ∧ SqB t2 K H b ys ∧ SqB t3 K H c zs ∧ i < min (min xs.length ys.length) zs.length,
   fun i H x H' => ∃ T u v z, H T = none ∧ x = .ref T ∧ H' = upd H T (.tup [u, v, z]) ∧ (∀ xs, SqB t1 K H a xs → xs[i]? = some u) ∧ (∀ ys, SqB t2 K H b ys → ys[i]? = some v) ∧ ∀ zs, SqB t3 K H c zs → zs[i]? = some z,
   fun i H => ∃ xs ys zs, SqB t1 K H a xs ∧ SqB t2 K H b ys ∧ SqB t3 K H c zs ∧ i = min (min xs.length ys.length) zs.length⟩
theorem turn_z2 {P : Program} {w : World} {K : PySem.W.Frag} {elts : List Expr} {kk : Nat} {tpos : Pos} (t1 t2 : Bool) {N a b : Addr} (la : a < N) (lb : b < N) :
    Turn P w K (.Tuple elts kk tpos) (ItZ2 t1 t2 K a b) [N + 4, N + 2, N + 3, N, N + 1] (N + 4) (fun i h => IsZip h (N + 4) (N + 2) (N + 3) .none ∧ IsTupOf2 h (N + 2) (.ref N) (.ref (N + 1)) ∧ (∃ a1 a2, IsTupOf2 h (N + 3) a1 a2) ∧ StI t1 h N a i ∧ StI t2 h (N + 1) b i) := by
  have S : ZipSep2 (N + 4) (N + 2) (N + 3) N (N + 1) [N, a] [N + 1, b] := zip_sep2 (fp1 := [a]) (fp2 := [b]) (by simpa using la) (by simpa using lb)
  have na : a ≠ N := Nat.ne_of_lt la
  have nb : b ≠ N + 1 := Nat.ne_of_lt (Nat.lt_succ_of_lt lb)
  refine turn_w (wr := [N + 4, N + 3, N, N + 1]) (by simp) (fun b hb => by revert hb; simp; intro h; rcases h with h | h | h | h <;> simp [h]) (fun i h ⟨hz, hT, ⟨a1, a2, hO⟩, h1, h2⟩ c hc => ?_) (fun i h h' ⟨hz, hT, ⟨a1, a2, hO⟩, h1, h2⟩ k => ?_) (fun A i s Q E ⟨hz, _⟩ h => wpAny_pyIter_zip hz h) ?_ ?_
  · have hc : c = N + 4 ∨ c = N + 2 ∨ c = N + 3 ∨ c = N ∨ c = N + 1 := by simpa using hc
    rcases hc with z | z | z | z | z
    · rw [z]; exact ⟨_, hz, fun v q => nomatch q⟩
    · rw [z]; exact ⟨_, hT, fun v q => nomatch q⟩
    · rw [z]; exact ⟨_, hO, fun v q => nomatch q⟩
    · rw [z]; exact h1.obj
    · rw [z]; exact h2.obj
  · exact ⟨k _ (by simp) _ hz, k _ (by simp) _ hT, ⟨a1, a2, k _ (by simp) _ hO⟩, h1.at fun o q => k _ (by simp) o q, h2.at fun o q => k _ (by simp) o q⟩
  · intro X hP hw hK hc i pins s σ H I ⟨hz, hT, hO, h1, h2⟩ ⟨xs, ys, q1, q2, hl⟩
    subst hP hw hK
    obtain ⟨i1, r1, p1, _⟩ := seq_s I q1
    obtain ⟨i2, r2, p2, _⟩ := seq_s I q2
    have D1 := draws_s (P := X.prog) (w := X.w) (A := X.A.in1) t1 (I.ok.hd hc) N a na i1.toArray
    have D2 := draws_s (P := X.prog) (w := X.w) (A := X.A.in1) t2 (I.ok.hd hc) (N + 1) b nb i2.toArray
    refine ⟨_, _, _, _, _, WalksT.zipD2 S D1 D2, by rw [List.size_toArray, List.size_toArray, ← r1.length, ← r2.length]; exact hl, ⟨hz, hT, hO, ⟨h1, p1⟩, ⟨h2, p2⟩⟩, fun h hh => ⟨hh.1, hh.2.1, hh.2.2.1, hh.2.2.2.1.1, hh.2.2.2.2.1⟩, fun vals ⟨x, y, hx, hy, ev⟩ => ?_⟩
    obtain ⟨u, hu, ru⟩ := sqB_get (t := t1) (X := X) (pins := pins) (σ := σ) (s := s) (a := a) r1 hx
    obtain ⟨v, hv, rv⟩ := sqB_get (t := t1) (X := X) (pins := pins) (σ := σ) (s := s) (a := a) r2 hy
    subst ev
    exact ⟨[u, v], by show 2 ≤ sizeLine; decide, .cons ru (.cons rv .nil), fun T hT => ⟨T, u, v, hT, rfl, rfl, fun xs' hq' => by rw [seq_inj I hq' q1]; exact hu, fun xs' hq' => by rw [seq_inj I hq' q2]; exact hv⟩⟩
  · intro X hP hw hK hc i pins s σ H I ⟨hz, hT, hO, h1, h2⟩ ⟨xs, ys, q1, q2, hl⟩
    subst hP hw hK
    obtain ⟨i1, r1, p1, _⟩ := seq_s I q1
    obtain ⟨i2, r2, p2, _⟩ := seq_s I q2
    have D1 := draws_s (P := X.prog) (w := X.w) (A := X.A.in1) t1 (I.ok.hd hc) N a na i1.toArray
    have D2 := draws_s (P := X.prog) (w := X.w) (A := X.A.in1) t2 (I.ok.hd hc) (N + 1) b nb i2.toArray
    have hn : i = min i1.toArray.size i2.toArray.size := by rw [List.size_toArray, List.size_toArray, ← r1.length, ← r2.length]; exact hl
    subst hn
    exact ⟨_, _, _, _, WalksT.zipD2 S D1 D2, ⟨hz, hT, hO, ⟨h1, p1⟩, ⟨h2, p2⟩⟩⟩
theorem turn_z3 {P : Program} {w : World} {K : PySem.W.Frag} {elts : List Expr} {kk : Nat} {tpos : Pos} (t1 t2 t3 : Bool) {N a b c : Addr} (la : a < N) (lb : b < N) (lc : c < N) :
    Turn P w K (.Tuple elts kk tpos) (ItZ3 t1 t2 t3 K a b c) [N + 5, N + 3, N + 4, N, N + 1, N + 2] (N + 5) (fun i h => IsZip h (N + 5) (N + 3) (N + 4) .none ∧ IsTupOf3 h (N + 3) (.ref N) (.ref (N + 1)) (.ref (N + 2)) ∧ (∃ a1 a2 a3, IsTupOf3 h (N + 4) a1 a2 a3) ∧ StI t1 h N a i ∧ StI t2 h (N + 1) b i ∧ StI t3 h (N + 2) c i) := by
  have S : ZipSep3 (N + 5) (N + 3) (N + 4) N (N + 1) (N + 2) [N, a] [N + 1, b] [N + 2, c] := zip_sep3 (fp1 := [a]) (fp2 := [b]) (fp3 := [c]) (by simpa using la) (by simpa using lb) (by simpa using lc)
  have na : a ≠ N := Nat.ne_of_lt la
  have nb : b ≠ N + 1 := Nat.ne_of_lt (Nat.lt_succ_of_lt lb)
  have nc : c ≠ N + 2 := Nat.ne_of_lt (Nat.lt_succ_of_lt (Nat.lt_succ_of_lt lc))
  refine turn_w (wr := [N + 5, N + 4, N, N + 1, N + 2]) (by simp) (fun b hb => by revert hb; simp; intro h; rcases h with h | h | h | h | h <;> simp [h]) (fun i h ⟨hz, hT, ⟨a1, a2, a3, hO⟩, h1, h2, h3⟩ d hd => ?_) (fun i h h' ⟨hz, hT, ⟨a1, a2, a3, hO⟩, h1, h2, h3⟩ k => ?_) (fun A i s Q E ⟨hz, _⟩ h => wpAny_pyIter_zip hz h) ?_ ?_
  · have hd : d = N + 5 ∨ d = N + 3 ∨ d = N + 4 ∨ d = N ∨ d = N + 1 ∨ d = N + 2 := by simpa using hd
    rcases hd with z | z | z | z | z | z
    · rw [z]; exact ⟨_, hz, fun v q => nomatch q⟩
    · rw [z]; exact ⟨_, hT, fun v q => nomatch q⟩
    · rw [z]; exact ⟨_, hO, fun v q => nomatch q⟩
    · rw [z]; exact h1.obj
    · rw [z]; exact h2.obj
    · rw [z]; exact h3.obj
  · exact ⟨k _ (by simp) _ hz, k _ (by simp) _ hT, ⟨a1, a2, a3, k _ (by simp) _ hO⟩, h1.at fun o q => k _ (by simp) o q, h2.at fun o q => k _ (by simp) o q, h3.at fun o q => k _ (by simp) o q⟩
  · intro X hP hw hK hc i pins s σ H I ⟨hz, hT, hO, h1, h2, h3⟩ ⟨xs, ys, zs, q1, q2, q3, hl⟩
    subst hP hw hK
    obtain ⟨i1, r1, p1, _⟩ := seq_s I q1
    obtain ⟨i2, r2, p2, _⟩ := seq_s I q2
    obtain ⟨i3, r3, p3, _⟩ := seq_s I q3
    have D1 := draws_s (P := X.prog) (w := X.w) (A := X.A.in1) t1 (I.ok.hd hc) N a na i1.toArray
    have D2 := draws_s (P := X.prog) (w := X.w) (A := X.A.in1) t2 (I.ok.hd hc) (N + 1) b nb i2.toArray
    have D3 := draws_s (P := X.prog) (w := X.w) (A := X.A.in1) t3 (I.ok.hd hc) (N + 2) c nc i3.toArray
    refine ⟨_, _, _, _, _, WalksT.zipD3 S D1 D2 D3, by rw [List.size_toArray, List.size_toArray, List.size_toArray, ← r1.length, ← r2.length, ← r3.length]; exact hl, ⟨hz, hT, hO, ⟨h1, p1⟩, ⟨h2, p2⟩, ⟨h3, p3⟩⟩, fun h hh => ⟨hh.1, hh.2.1, hh.2.2.1, hh.2.2.2.1.1, hh.2.2.2.2.1.1, hh.2.2.2.2.2.1⟩, fun vals ⟨x, y, z, hx, hy, hz, ev⟩ => ?_⟩
    obtain ⟨u, hu, ru⟩ := sqB_get (t := t1) (X := X) (pins := pins) (σ := σ) (s := s) (a := a) r1 hx
    obtain ⟨v, hv, rv⟩ := sqB_get (t := t1) (X := X) (pins := pins) (σ := σ) (s := s) (a := a) r2 hy
    obtain ⟨o, ho, ro⟩ := sqB_get (t := t1) (X := X) (pins := pins) (σ := σ) (s := s) (a := a) r3 hz
    subst ev
    exact ⟨[u, v, o], by show 3 ≤ sizeLine; decide, .cons ru (.cons rv (.cons ro .nil)), fun T hT => ⟨T, u, v, o, hT, rfl, rfl, fun xs' hq' => by rw [seq_inj I hq' q1]; exact hu, fun xs' hq' => by rw [seq_inj I hq' q2]; exact hv, fun xs' hq' => by rw [seq_inj I hq' q3]; exact ho⟩⟩
  · intro X hP hw hK hc i pins s σ H I ⟨hz, hT, hO, h1, h2, h3⟩ ⟨xs, ys, zs, q1, q2, q3, hl⟩
    subst hP hw hK
    obtain ⟨i1, r1, p1, _⟩ := seq_s I q1
    obtain ⟨i2, r2, p2, _⟩ := seq_s I q2
    obtain ⟨i3, r3, p3, _⟩ := seq_s I q3
    have D1 := draws_s (P := X.prog) (w := X.w) (A := X.A.in1) t1 (I.ok.hd hc) N a na i1.toArray
    have D2 := draws_s (P := X.prog) (w := X.w) (A := X.A.in1) t2 (I.ok.hd hc) (N + 1) b nb i2.toArray
    have D3 := draws_s (P := X.prog) (w := X.w) (A := X.A.in1) t3 (I.ok.hd hc) (N + 2) c nc i3.toArray
    have hn : i = min (min i1.toArray.size i2.toArray.size) i3.toArray.size := by rw [List.size_toArray, List.size_toArray, List.size_toArray, ← r1.length, ← r2.length, ← r3.length]; exact hl
    subst hn
    exact ⟨_, _, _, _, WalksT.zipD3 S D1 D2 D3, ⟨hz, hT, hO, ⟨h1, p1⟩, ⟨h2, p2⟩, ⟨h3, p3⟩⟩⟩
end
end Snd
end

section
set_option Elab.async false
set_option linter.all false
set_option maxRecDepth 100000
/-! S22s: enumerate of texts, beside lists and tuples. -/
namespace Snd
open PySem PySem.Spec L2
open PyProof.Rows hiding St
open Mini (PV W Sl M CR Bi Ty Mu Fl)
variable {G : Gb} {H H' : Hp} {F F' : Fz} {L L' A B C T : List WV}
theorem draws_t {P : Program} {w : World} {A : Around} (hh : A.handled = none) (it : Addr) (x : Str) (t : Tok) : Draws P w A it [it] x.cps.size (fun i v => ∃ c u, x.cps[i]? = some c ∧ v = .str ⟨#[c]⟩ u) (fun i h => h.IsStrIter it (strIterType x) x t i) := by
  unfold strIterType
  split
  · exact Draws.strAscii hh it x t
  · exact Draws.strWide hh it x t
def ItES (x : Str) : It :=
  ⟨fun i H => i < x.cps.size, fun i H z H' => ∃ T c, H T = none ∧ z = .ref T ∧ H' = upd H T (.tup [.int (i : Nat), .str ⟨#[c]⟩]) ∧ x.cps[i]? = some c, fun i H => i = x.cps.size⟩
theorem turn_eS {P : Program} {w : World} {K : PySem.W.Frag} {elts : List Expr} {kk : Nat} {tpos : Pos} {x : Str} {tk0 : Tok} {e it : Addr} (h1 : e ≠ it) :
    Turn P w K (.Tuple elts kk tpos) (ItES x) [e, it] e (fun i h => (∃ old, IsEnum h e it ((0 : Int) + (i : Nat)) old) ∧ h.IsStrIter it (strIterType x) x tk0 i) := by
  have hef : e ∉ [it] := by simp [h1]
  refine turn_w (wr := [e, it]) (by simp) (fun b hb => hb) (fun i h ⟨⟨old, he⟩, hi⟩ b hb => ?_) (fun i h h' ⟨⟨old, he⟩, hi⟩ k => ⟨⟨old, k e (by simp) _ he⟩, ?_⟩) (fun A i s Q E ⟨⟨_, he⟩, _⟩ h => wpAny_pyIter_enum he h) ?_ ?_
  · rcases List.mem_cons.mp hb with z | hb
    · rw [z]; exact ⟨_, he, fun v q => nomatch q⟩
    · rw [List.mem_singleton.mp hb]
      obtain ⟨o, e1, e2, e3⟩ := hi
      exact ⟨o, e1, fun v q => by rw [e3] at q; cases q⟩
  · obtain ⟨o, e1, e2⟩ := hi
    exact ⟨o, k it (by simp) o e1, e2⟩
  · intro X hP hw hK hc i pins s σ H I ⟨⟨old, he⟩, hi⟩ hl
    subst hP hw hK
    have D := draws_t (P := X.prog) (w := X.w) (A := X.A.in1) (I.ok.hd hc) it x tk0
    refine ⟨_, _, _, _, _, WalksT.enumFrom 0 D e h1 hef (by simp), hl, ⟨⟨old, he⟩, hi⟩, fun h hh => ⟨hh.1, hh.2⟩, fun vals ⟨tk, v, ⟨c, u, hx, ev0⟩, ev⟩ => ?_⟩
    subst ev ev0
    refine ⟨[.int (i : Nat), .str ⟨#[c]⟩], by show 2 ≤ sizeLine; decide, .cons ⟨tk, by rw [Int.zero_add]⟩ (.cons ⟨u, rfl⟩ .nil), fun T hT => ⟨T, c, hT, rfl, rfl, hx⟩⟩
  · intro X hP hw hK hc i pins s σ H I ⟨⟨old, he⟩, hi⟩ hl
    subst hP hw hK
    have D := draws_t (P := X.prog) (w := X.w) (A := X.A.in1) (I.ok.hd hc) it x tk0
    have hl : i = x.cps.size := hl
    subst hl
    exact ⟨_, _, _, _, WalksT.enumFrom 0 D e h1 hef (by simp), ⟨⟨old, he⟩, hi⟩⟩
section
variable {X : Cx}
def iEnB (K : PySem.W.Frag) (ta : TA) : TI := fun σ H R => ta σ H fun vs H1 => (∃ t a xs, vs = [.ref a] ∧ SqB t K H1 a xs ∧ R (ItE t K a) H1) ∨ ∃ x, vs = [.str x] ∧ R (ItES x) H1
theorem pi_enB {e : Expr} {ta : TA} {p pos tpos : Pos} {elts : List Expr} {kk : Nat} (hg : Gl X "enumerate") (hm : X.mg "enumerate" = none) (ha : PA X [e] ta) (hs : starEach [e] X.env = [(false, eval e X.env)]) :
    PI X (.Tuple elts kk tpos) (.Call (.Name "enumerate" p) [e] [] pos) (iEnB X.K ta) := by
  refine ⟨fun pins s σ H R I h => ?_⟩
  refine Call_ (ld_blt I hg hm boot_enumerate (PyProof.Rows.callWith_type1 (thn (ha.run pos pins s σ H _ I h) fun us s1 ⟨vs, H1, I1, r1, q1⟩ => ?_) hs rfl))
  rcases q1 with ⟨t, a, xs, ex, hq, q⟩ | ⟨x, ex, q⟩
  · subst ex
    cases r1 with
    | cons r rr =>
      cases rr
      cases r
      obtain ⟨its, rv, p', hz⟩ := seq_s I1 hq
      have la : a < s1.heap.objs.size := p'.lt
      refine enum1_begins (begins_s t a its.toArray) p' fun h' he ho hsz hk => wpAny_pyIter_enum he ?_
      have I2 : Inv X pins σ H1 { s1 with heap := h' } := I1.kept (t' := s1.toks) hk
      refine ⟨s1.heap.objs.size + 1, [s1.heap.objs.size + 1, s1.heap.objs.size], _, _, H1, rfl, I2, turn_e t (a := a) (Nat.succ_ne_self _) (Nat.ne_of_lt la) (Nat.ne_of_lt (Nat.lt_succ_of_lt la)), ⟨⟨.none, he⟩, StI.new ho⟩, fun b hb => ?_, q⟩
      have e' : b = s1.heap.objs.size + 1 ∨ b = s1.heap.objs.size := by simpa using hb
      have hle : s1.heap.objs.size ≤ b := by
        rcases e' with z | z
        · rw [z]; exact Nat.le_add_right _ _
        · rw [z]; exact Nat.le_refl _
      exact I1.fpOk hle (I1.hok.fresh hle)
  · subst ex
    cases r1 with
    | cons r rr =>
      cases rr
      obtain ⟨tk, rfl⟩ := r
      refine enum1_begins (begins_text x tk) trivial fun h' he ho hsz hk => wpAny_pyIter_enum he ?_
      have I2 : Inv X pins σ H1 { s1 with heap := h' } := I1.kept (t' := s1.toks) hk
      refine ⟨s1.heap.objs.size + 1, [s1.heap.objs.size + 1, s1.heap.objs.size], _, _, H1, rfl, I2, turn_eS (x := x) (tk0 := tk) (Nat.succ_ne_self _), ⟨⟨.none, he⟩, ⟨_, ho, rfl, rfl⟩⟩, fun b hb => ?_, q⟩
      have e' : b = s1.heap.objs.size + 1 ∨ b = s1.heap.objs.size := by simpa using hb
      have hle : s1.heap.objs.size ≤ b := by
        rcases e' with z | z
        · rw [z]; exact Nat.le_add_right _ _
        · rw [z]; exact Nat.le_refl _
      exact I1.fpOk hle (I1.hok.fresh hle)
end
end Snd
end

section
set_option Elab.async false
set_option linter.all false
set_option maxRecDepth 100000
/-! S23: enumerate, zip as what is walked. -/
namespace Snd
open PySem PySem.Spec L2
open PyProof.Rows hiding St
open Mini (PV W Sl M CR Bi Ty Mu Fl)
variable {G : Gb} {H H' : Hp} {F F' : Fz} {L L' A B C T : List WV}

/-- a sequence that stands -/
theorem seqC {K : PySem.W.Frag} (hK : G.K = K) {v : PV} {ts : List PV} {x : V} (h : Lk G H v x) (e : Mini.itemsQ v = some ts) : ∃ t a, x = .ref a ∧ ∀ (H : Hp) (F : Fz), Rp G H F v x → ∃ vs, SqB t K H a vs ∧ Rps G H F ts vs := by
  cases v with
  | lst ts' =>
    cases e
    obtain ⟨a, vs, rfl, rd, rr⟩ := h
    exact ⟨false, a, rfl, fun H F ⟨a', vs, e, rd, rr⟩ => by cases e; exact ⟨vs, .inl rd.2, rr⟩⟩
  | tup ts' =>
    cases e
    obtain ⟨a, vs, rfl, rd, rr⟩ := h
    exact ⟨true, a, rfl, fun H F ⟨a', vs, e, rd, rr⟩ => by cases e; exact ⟨vs, .inl (.inl rd.2), rr⟩⟩
  | ktup ts' =>
    cases e
    obtain ⟨a, vs, rfl, rd, rr⟩ := h
    exact ⟨true, a, rfl, fun H F ⟨a', vs, e, rd, rr⟩ => by cases e; exact ⟨vs, .inr (hK ▸ rd), rr⟩⟩
  | _ => cases e
theorem enumFrom_len : ∀ (k : Nat) (xs : List PV), (Mini.enumFrom k xs).length = xs.length
  | _, [] => rfl
  | k, _ :: xs => congrArg (· + 1) (enumFrom_len (k + 1) xs)
theorem enumFrom_get : ∀ {k i : Nat} {xs : List PV} {v : PV}, (Mini.enumFrom k xs)[i]? = some v → ∃ u, xs[i]? = some u ∧ v = .tup [.int ((k + i : Nat) : Int), u]
  | _, _, [], _, e => by simp [Mini.enumFrom] at e
  | k, 0, x :: xs, v, e => by
    have e : PV.tup [.int (k : Nat), x] = v := by simpa [Mini.enumFrom] using e
    exact ⟨x, rfl, e.symm⟩
  | k, i + 1, x :: xs, v, e => by
    obtain ⟨u, h1, h2⟩ := enumFrom_get (k := k + 1) (i := i) (xs := xs) (v := v) (by simpa [Mini.enumFrom] using e)
    exact ⟨u, by simpa using h1, by rw [h2, show k + 1 + i = k + (i + 1) from by omega]⟩
theorem zip2_len : ∀ (xs ys : List PV), (Mini.zip2 xs ys).length = min xs.length ys.length
  | [], ys => by simp [Mini.zip2]
  | _ :: _, [] => by simp [Mini.zip2]
  | x :: xs, y :: ys => by simp [Mini.zip2, zip2_len xs ys]
theorem zip2_get : ∀ {i : Nat} {xs ys : List PV} {v : PV}, (Mini.zip2 xs ys)[i]? = some v → ∃ a b, xs[i]? = some a ∧ ys[i]? = some b ∧ v = .tup [a, b]
  | _, [], _, _, e => by simp [Mini.zip2] at e
  | _, _ :: _, [], _, e => by simp [Mini.zip2] at e
  | 0, x :: xs, y :: ys, v, e => ⟨x, y, rfl, rfl, by simpa [Mini.zip2] using e.symm⟩
  | i + 1, x :: xs, y :: ys, v, e => by
    obtain ⟨a, b, h1, h2, h3⟩ := zip2_get (i := i) (xs := xs) (ys := ys) (v := v) (by simpa [Mini.zip2] using e)
    exact ⟨a, b, by simpa using h1, by simpa using h2, h3⟩
theorem zip3_len : ∀ (xs ys zs : List PV), (Mini.zip3 xs ys zs).length = min (min xs.length ys.length) zs.length
  | [], ys, zs => by simp [Mini.zip3]
  | _ :: _, [], zs => by simp [Mini.zip3]
  | _ :: _, _ :: _, [] => by simp [Mini.zip3]
  | x :: xs, y :: ys, z :: zs => by simp [Mini.zip3, zip3_len xs ys zs]
theorem zip3_get : ∀ {i : Nat} {xs ys zs : List PV} {v : PV}, (Mini.zip3 xs ys zs)[i]? = some v → ∃ a b c, xs[i]? = some a ∧ ys[i]? = some b ∧ zs[i]? = some c ∧ v = .tup [a, b, c]
  | _, [], _, _, _, e => by simp [Mini.zip3] at e
  | _, _ :: _, [], _, _, e => by simp [Mini.zip3] at e
  | _, _ :: _, _ :: _, [], _, e => by simp [Mini.zip3] at e
  | 0, x :: xs, y :: ys, z :: zs, v, e => ⟨x, y, z, rfl, rfl, rfl, by simpa [Mini.zip3] using e.symm⟩
  | i + 1, x :: xs, y :: ys, z :: zs, v, e => by
    obtain ⟨a, b, c, h1, h2, h3, h4⟩ := zip3_get (i := i) (xs := xs) (ys := ys) (zs := zs) (v := v) (by simpa [Mini.zip3] using e)
    exact ⟨a, b, c, by simpa using h1, by simpa using h2, by simpa using h3, h4⟩
section
variable {X : Cx} {tg e a b c : Expr} {m ma mb mc : M W} {pos p tpos : Pos} {elts : List Expr} {kk : Nat}
theorem sit_enm (hK : G.K = X.K) (hg : Gl X "enumerate") (hm : X.mg "enumerate" = none) (ha : SEv G X a ma) (hs : starEach [a] X.env = [(false, eval a X.env)]) :
    SEit X G (.Tuple elts kk tpos) (.Call (.Name "enumerate" p) [a] [] pos) (do let x ← ma; let xs ← Mini.ofO (Mini.itemsS x.frz); pure (Mini.enumFrom 0 xs)) := by
  intro sl sl' σ H T xs ft g hm'
  obtain ⟨w, s1, h1, hm'⟩ := bind_ok.mp hm'
  obtain ⟨ts, s2, h2, hm'⟩ := bind_ok.mp hm'
  obtain ⟨e2, rfl⟩ := ofO_ok.mp h2
  obtain ⟨rfl, rfl⟩ := pure_ok.mp hm'
  refine (pi_enB hg hm (pa_cons pe_w pa_nil hs) hs).w ((ha.fz ft g h1).mono fun x H1 ⟨f1, g1⟩ => ?_)
  by_cases hstr : ∃ z, w.frz = .str z
  · obtain ⟨z, hz⟩ := hstr
    rw [hz] at e2
    have e2 : some (z.cps.toList.map fun c => PV.str ⟨#[c]⟩) = some ts := e2
    cases e2
    obtain ⟨F0, g0⟩ := g1
    have r0 : Rp G H1 F0 w.frz x := g0.rel _ List.mem_cons_self
    rw [hz] at r0
    obtain ⟨rfl, so⟩ := r0
    refine .inr ⟨z, rfl, [], ⟨fun i H L hi _ => ?_, fun i H x H' L v hv ⟨F, g⟩ ⟨T', c, hT, ex, eH, hc⟩ => ?_, fun H L _ => ?_⟩, f1, F0, g0.tail⟩
    · rw [enumFrom_len, List.length_map] at hi
      exact hi
    · obtain ⟨q, hq, rfl⟩ := enumFrom_get hv
      rw [List.getElem?_map] at hq
      obtain ⟨c', hc', rfl⟩ := Option.map_eq_some_iff.mp hq
      rw [Array.getElem?_toList, hc] at hc'
      cases hc'
      subst ex eH
      refine ⟨_, g.newTup hT ⟨_, _, rfl, ?_, ⟨_, _, rfl, ⟨rfl, ok_mem so (List.mem_of_getElem? (i := i) (by rw [Array.getElem?_toList]; exact hc))⟩, rfl⟩⟩⟩
      show V.int _ = V.int _
      rw [Nat.zero_add]
    · rw [enumFrom_len, List.length_map]
      rfl
  have e2 : Mini.itemsQ w.frz = some ts := by
    cases hw : w.frz with
    | str z => exact absurd ⟨z, hw⟩ hstr
    | _ => rw [hw] at e2; first | exact e2 | cases e2
  left
  obtain ⟨t, ad, rfl, sq⟩ := seqC hK g1.lk e2
  obtain ⟨F0, g0⟩ := g1
  obtain ⟨vs0, sq0, _⟩ := sq H1 F0 (g0.rel _ List.mem_cons_self)
  refine ⟨t, ad, vs0, rfl, sq0, [(.sh w.frz, .ref ad)], ⟨fun i H L hi ⟨F, g⟩ => ?_, fun i H x H' L v hv ⟨F, g⟩ ⟨T', u, hT, ex, eH, hu⟩ => ?_, fun H L ⟨F, g⟩ => ?_⟩, f1, F0, g0⟩
  · obtain ⟨vs, sq1, rr⟩ := sq H F (g.rel _ List.mem_cons_self)
    exact ⟨vs, sq1, by rw [enumFrom_len] at hi; rw [← rr.length]; exact hi⟩
  · obtain ⟨vs, sq1, rr⟩ := sq H F (g.rel _ List.mem_cons_self)
    obtain ⟨q, hq, rfl⟩ := enumFrom_get hv
    obtain ⟨z, hz, hr⟩ := rr.get hq
    rw [hu vs sq1] at hz
    cases hz
    subst ex eH
    refine ⟨_, g.newTup hT ⟨_, _, rfl, ?_, ⟨_, _, rfl, hr, rfl⟩⟩⟩
    show V.int _ = V.int _
    rw [Nat.zero_add]
  · obtain ⟨vs, sq1, rr⟩ := sq H F (g.rel _ List.mem_cons_self)
    exact ⟨vs, sq1, by rw [enumFrom_len, rr.length]⟩
def iZ2 (K : PySem.W.Frag) (ta : TA) : TI := fun σ H R => ta σ H fun vs H1 => ∃ t1 t2 a b xs ys, vs = [.ref a, .ref b] ∧ SqB t1 K H1 a xs ∧ SqB t2 K H1 b ys ∧ R (ItZ2 t1 t2 K a b) H1
def iZ3 (K : PySem.W.Frag) (ta : TA) : TI := fun σ H R => ta σ H fun vs H1 => ∃ t1 t2 t3 a b c xs ys zs, vs = [.ref a, .ref b, .ref c] ∧ SqB t1 K H1 a xs ∧ SqB t2 K H1 b ys ∧ SqB t3 K H1 c zs ∧ R (ItZ3 t1 t2 t3 K a b c) H1
theorem pi_z2 {ta : TA} (hg : Gl X "zip") (hm : X.mg "zip" = none) (ha : PA X [a, b] ta) (hs : starEach [a, b] X.env = (false, eval a X.env) :: starEach [b] X.env) (hpl : (backTo pos (starEach [b] X.env)).any (·.1) = false) :
    PI X (.Tuple elts kk tpos) (.Call (.Name "zip" p) [a, b] [] pos) (iZ2 X.K ta) := by
  refine ⟨fun pins s σ H R I h => ?_⟩
  refine Call_ (ld_blt I hg hm PyProof.Rows.boot_zip (PyProof.Rows.callWith_type1 (thn (ha.run pos pins s σ H _ I h) fun us s1 ⟨vs, H1, I1, r1, q1⟩ => ?_) hs hpl))
  obtain ⟨t1, t2, a, b, xs, ys, ex, hqx, hqy, q⟩ := q1
  subst ex
  obtain ⟨u1, u2, rfl, ra, rb⟩ := vals2 r1
  cases ra
  cases rb
  obtain ⟨i1, rv1, p1, _⟩ := seq_s I1 hqx
  obtain ⟨i2, rv2, p2, _⟩ := seq_s I1 hqy
  have la := p1.lt
  have lb := p2.lt
  refine zip_begins2 (begins_s t1 a i1.toArray) (begins_s t2 b i2.toArray) p1 p2 fun h' hz hTI hTO h1 h2 hsz hk => wpAny_pyIter_zip hz ?_
  have I2 : Inv X pins σ H1 { s1 with heap := h' } := I1.kept (t' := s1.toks) hk
  refine ⟨s1.heap.objs.size + 4, [s1.heap.objs.size + 4, s1.heap.objs.size + 2, s1.heap.objs.size + 3, s1.heap.objs.size, s1.heap.objs.size + 1], _, _, H1, rfl, I2, turn_z2 t1 t2 la lb, ⟨hz, hTI, ⟨_, _, hTO⟩, StI.new h1, StI.new h2⟩, fun c hcm => ?_, q⟩
  have hle : s1.heap.objs.size ≤ c := by
    have e' : c = s1.heap.objs.size + 4 ∨ c = s1.heap.objs.size + 2 ∨ c = s1.heap.objs.size + 3 ∨ c = s1.heap.objs.size ∨ c = s1.heap.objs.size + 1 := by simpa using hcm
    rcases e' with z | z | z | z | z <;> rw [z] <;> first | exact Nat.le_refl _ | exact Nat.le_add_right _ _
  exact I1.fpOk hle (I1.hok.fresh hle)
theorem pi_z3 {ta : TA} (hg : Gl X "zip") (hm : X.mg "zip" = none) (ha : PA X [a, b, c] ta) (hs : starEach [a, b, c] X.env = (false, eval a X.env) :: starEach [b, c] X.env) (hpl : (backTo pos (starEach [b, c] X.env)).any (·.1) = false) :
    PI X (.Tuple elts kk tpos) (.Call (.Name "zip" p) [a, b, c] [] pos) (iZ3 X.K ta) := by
  refine ⟨fun pins s σ H R I h => ?_⟩
  refine Call_ (ld_blt I hg hm PyProof.Rows.boot_zip (PyProof.Rows.callWith_type1 (thn (ha.run pos pins s σ H _ I h) fun us s1 ⟨vs, H1, I1, r1, q1⟩ => ?_) hs hpl))
  obtain ⟨t1, t2, t3, a, b, c, xs, ys, zs, ex, hqx, hqy, hqz, q⟩ := q1
  subst ex
  obtain ⟨u1, r1', e1, ra⟩ : ∃ u r', us = u :: r' ∧ RelV (.ref a) u := by cases r1 with | cons h t => exact ⟨_, _, rfl, h⟩
  subst e1
  obtain ⟨u2, u3, e2, rb, rc⟩ := vals2 (x := .ref b) (y := .ref c) (us := r1') (by cases r1 with | cons h t => exact t)
  subst e2
  cases ra
  cases rb
  cases rc
  obtain ⟨i1, rv1, p1, _⟩ := seq_s I1 hqx
  obtain ⟨i2, rv2, p2, _⟩ := seq_s I1 hqy
  obtain ⟨i3, rv3, p3, _⟩ := seq_s I1 hqz
  have la := p1.lt
  have lb := p2.lt
  have lc := p3.lt
  refine zip_begins3 (begins_s t1 a i1.toArray) (begins_s t2 b i2.toArray) (begins_s t3 c i3.toArray) p1 p2 p3 fun h' hz hTI hTO h1 h2 h3 hsz hk => wpAny_pyIter_zip hz ?_
  have I2 : Inv X pins σ H1 { s1 with heap := h' } := I1.kept (t' := s1.toks) hk
  refine ⟨s1.heap.objs.size + 5, [s1.heap.objs.size + 5, s1.heap.objs.size + 3, s1.heap.objs.size + 4, s1.heap.objs.size, s1.heap.objs.size + 1, s1.heap.objs.size + 2], _, _, H1, rfl, I2, turn_z3 t1 t2 t3 la lb lc, ⟨hz, hTI, ⟨_, _, _, hTO⟩, StI.new h1, StI.new h2, StI.new h3⟩, fun c hcm => ?_, q⟩
  have hle : s1.heap.objs.size ≤ c := by
    have e' : c = s1.heap.objs.size + 5 ∨ c = s1.heap.objs.size + 3 ∨ c = s1.heap.objs.size + 4 ∨ c = s1.heap.objs.size ∨ c = s1.heap.objs.size + 1 ∨ c = s1.heap.objs.size + 2 := by simpa using hcm
    rcases e' with z | z | z | z | z | z <;> rw [z] <;> first | exact Nat.le_refl _ | exact Nat.le_add_right _ _
  exact I1.fpOk hle (I1.hok.fresh hle)
theorem sit_zp2 (hK : G.K = X.K) (hg : Gl X "zip") (hm : X.mg "zip" = none) (ha : SEv G X a ma) (hb : SEv G X b mb) (hs : starEach [a, b] X.env = (false, eval a X.env) :: starEach [b] X.env) (hs2 : starEach [b] X.env = (false, eval b X.env) :: starEach [] X.env) (hpl : (backTo pos (starEach [b] X.env)).any (·.1) = false) :
    SEit X G (.Tuple elts kk tpos) (.Call (.Name "zip" p) [a, b] [] pos) (do let x ← ma; let y ← mb; let xs ← Mini.ofO (Mini.itemsQ x.frz); let ys ← Mini.ofO (Mini.itemsQ y.frz); pure (Mini.zip2 xs ys)) := by
  intro sl sl' σ H T xs ft g hm'
  obtain ⟨w1, s1, h1, hm'⟩ := bind_ok.mp hm'
  obtain ⟨w2, s2, h2, hm'⟩ := bind_ok.mp hm'
  obtain ⟨ts, s3, h3, hm'⟩ := bind_ok.mp hm'
  obtain ⟨us, s4, h4, hm'⟩ := bind_ok.mp hm'
  obtain ⟨e3, rfl⟩ := ofO_ok.mp h3
  obtain ⟨e4, rfl⟩ := ofO_ok.mp h4
  obtain ⟨rfl, rfl⟩ := pure_ok.mp hm'
  refine (pi_z2 hg hm (pa_cons pe_w (pa_cons pe_w pa_nil hs2) hs) hs hpl).w ((ha.fz ft g h1).mono fun x H1 ⟨f1, g1⟩ => ?_)
  refine (hb.fz (T := (.sh w1.frz, x) :: T) f1 g1.back h2).mono fun y H2 ⟨f2, g2⟩ => ?_
  have g3 : Good G H2 ((.sh w1.frz, x) :: (.sh w2.frz, y) :: (prs s2 σ ++ T)) := Good.swap (g2.perm (.cons _ List.perm_middle))
  obtain ⟨t1, a1, rfl, sq1⟩ := seqC hK g3.lk e3
  obtain ⟨t2, a2, rfl, sq2⟩ := seqC hK g2.lk e4
  obtain ⟨F0, g0⟩ := g3
  obtain ⟨v1, q1, _⟩ := sq1 H2 F0 (g0.rel _ List.mem_cons_self)
  obtain ⟨v2, q2, _⟩ := sq2 H2 F0 (g0.rel _ (List.mem_cons_of_mem _ List.mem_cons_self))
  refine ⟨t1, t2, a1, a2, v1, v2, rfl, q1, q2, [(.sh w1.frz, .ref a1), (.sh w2.frz, .ref a2)], ⟨fun i H L hi ⟨F, g⟩ => ?_, fun i H x H' L v hv ⟨F, g⟩ ⟨T', u, v', hT, ex, eH, hu, hv'⟩ => ?_, fun H L ⟨F, g⟩ => ?_⟩, f2, F0, g0⟩
  · obtain ⟨vs, p1, rr⟩ := sq1 H F (g.rel _ List.mem_cons_self)
    obtain ⟨vs2, p2, rr2⟩ := sq2 H F (g.rel _ (List.mem_cons_of_mem _ List.mem_cons_self))
    exact ⟨vs, vs2, p1, p2, by rw [zip2_len] at hi; rw [← rr.length, ← rr2.length]; exact hi⟩
  · obtain ⟨vs, p1, rr⟩ := sq1 H F (g.rel _ List.mem_cons_self)
    obtain ⟨vs2, p2, rr2⟩ := sq2 H F (g.rel _ (List.mem_cons_of_mem _ List.mem_cons_self))
    obtain ⟨b1, b2, hb1, hb2, rfl⟩ := zip2_get hv
    obtain ⟨z1, hz1, hr1⟩ := rr.get hb1
    obtain ⟨z2, hz2, hr2⟩ := rr2.get hb2
    rw [hu vs p1] at hz1
    rw [hv' vs2 p2] at hz2
    cases hz1
    cases hz2
    subst ex eH
    exact ⟨_, g.newTup hT ⟨_, _, rfl, hr1, ⟨_, _, rfl, hr2, rfl⟩⟩⟩
  · obtain ⟨vs, p1, rr⟩ := sq1 H F (g.rel _ List.mem_cons_self)
    obtain ⟨vs2, p2, rr2⟩ := sq2 H F (g.rel _ (List.mem_cons_of_mem _ List.mem_cons_self))
    exact ⟨vs, vs2, p1, p2, by rw [zip2_len, rr.length, rr2.length]⟩
theorem sit_zp3 (hK : G.K = X.K) (hg : Gl X "zip") (hm : X.mg "zip" = none) (ha : SEv G X a ma) (hb : SEv G X b mb) (hc : SEv G X c mc) (hs : starEach [a, b, c] X.env = (false, eval a X.env) :: starEach [b, c] X.env) (hs2 : starEach [b, c] X.env = (false, eval b X.env) :: starEach [c] X.env) (hs3 : starEach [c] X.env = (false, eval c X.env) :: starEach [] X.env) (hpl : (backTo pos (starEach [b, c] X.env)).any (·.1) = false) :
    SEit X G (.Tuple elts kk tpos) (.Call (.Name "zip" p) [a, b, c] [] pos) (do let x ← ma; let y ← mb; let z ← mc; let xs ← Mini.ofO (Mini.itemsQ x.frz); let ys ← Mini.ofO (Mini.itemsQ y.frz); let zs ← Mini.ofO (Mini.itemsQ z.frz); pure (Mini.zip3 xs ys zs)) := by
  intro sl sl' σ H T xs ft g hm'
  obtain ⟨w1, s1, h1, hm'⟩ := bind_ok.mp hm'
  obtain ⟨w2, s2, h2, hm'⟩ := bind_ok.mp hm'
  obtain ⟨w3, s3, h3, hm'⟩ := bind_ok.mp hm'
  obtain ⟨ts, s4, h4, hm'⟩ := bind_ok.mp hm'
  obtain ⟨us, s5, h5, hm'⟩ := bind_ok.mp hm'
  obtain ⟨os, s6, h6, hm'⟩ := bind_ok.mp hm'
  obtain ⟨e4, rfl⟩ := ofO_ok.mp h4
  obtain ⟨e5, rfl⟩ := ofO_ok.mp h5
  obtain ⟨e6, rfl⟩ := ofO_ok.mp h6
  obtain ⟨rfl, rfl⟩ := pure_ok.mp hm'
  refine (pi_z3 hg hm (pa_cons pe_w (pa_cons pe_w (pa_cons pe_w pa_nil hs3) hs2) hs) hs hpl).w ((ha.fz ft g h1).mono fun x H1 ⟨f1, g1⟩ => ?_)
  refine (hb.fz (T := (.sh w1.frz, x) :: T) f1 g1.back h2).mono fun y H2 ⟨f2, g2⟩ => ?_
  have g3 : Good G H2 (prs s2 σ ++ (.sh w1.frz, x) :: (.sh w2.frz, y) :: T) := g2.perm (((List.Perm.cons _ List.perm_middle).trans (.swap _ _ _)).trans ((List.Perm.cons _ List.perm_middle.symm).trans List.perm_middle.symm))
  refine (hc.fz (T := (.sh w1.frz, x) :: (.sh w2.frz, y) :: T) f2 g3 h3).mono fun z H3 ⟨f3, g4⟩ => ?_
  have g5 : Good G H3 ((.sh w1.frz, x) :: (.sh w2.frz, y) :: (.sh w3.frz, z) :: (prs s3 σ ++ T)) := by
    refine g4.perm ((List.Perm.cons _ (List.perm_middle.trans (List.Perm.cons _ List.perm_middle))).trans ?_)
    exact (List.Perm.swap _ _ _).trans (List.Perm.cons _ (.swap _ _ _))
  obtain ⟨t1, a1, rfl, sq1⟩ := seqC hK g5.lk e4
  obtain ⟨t2, a2, rfl, sq2⟩ := seqC hK g5.tail.lk e5
  obtain ⟨t3, a3, rfl, sq3⟩ := seqC hK g5.tail.tail.lk e6
  have m1 : ∀ {L : List WV}, ((W.sh w1.frz, V.ref a1) : WV) ∈ (.sh w1.frz, .ref a1) :: (.sh w2.frz, .ref a2) :: (.sh w3.frz, .ref a3) :: L := by simp
  have m2 : ∀ {L : List WV}, ((W.sh w2.frz, V.ref a2) : WV) ∈ (.sh w1.frz, .ref a1) :: (.sh w2.frz, .ref a2) :: (.sh w3.frz, .ref a3) :: L := by simp
  have m3 : ∀ {L : List WV}, ((W.sh w3.frz, V.ref a3) : WV) ∈ (.sh w1.frz, .ref a1) :: (.sh w2.frz, .ref a2) :: (.sh w3.frz, .ref a3) :: L := by simp
  obtain ⟨F0, g0⟩ := g5
  obtain ⟨v1, q1, _⟩ := sq1 H3 F0 (g0.rel _ m1)
  obtain ⟨v2, q2, _⟩ := sq2 H3 F0 (g0.rel _ m2)
  obtain ⟨v3, q3, _⟩ := sq3 H3 F0 (g0.rel _ m3)
  refine ⟨t1, t2, t3, a1, a2, a3, v1, v2, v3, rfl, q1, q2, q3, [(.sh w1.frz, .ref a1), (.sh w2.frz, .ref a2), (.sh w3.frz, .ref a3)], ⟨fun i H L hi ⟨F, g⟩ => ?_, fun i H x H' L v hv ⟨F, g⟩ ⟨T', u, v', o', hT, ex, eH, hu, hv', ho'⟩ => ?_, fun H L ⟨F, g⟩ => ?_⟩, f3, F0, g0⟩
  · obtain ⟨vs, p1, rr⟩ := sq1 H F (g.rel _ m1)
    obtain ⟨vs2, p2, rr2⟩ := sq2 H F (g.rel _ m2)
    obtain ⟨vs3, p3, rr3⟩ := sq3 H F (g.rel _ m3)
    exact ⟨vs, vs2, vs3, p1, p2, p3, by rw [zip3_len] at hi; rw [← rr.length, ← rr2.length, ← rr3.length]; exact hi⟩
  · obtain ⟨vs, p1, rr⟩ := sq1 H F (g.rel _ m1)
    obtain ⟨vs2, p2, rr2⟩ := sq2 H F (g.rel _ m2)
    obtain ⟨vs3, p3, rr3⟩ := sq3 H F (g.rel _ m3)
    obtain ⟨b1, b2, b3, hb1, hb2, hb3, rfl⟩ := zip3_get hv
    obtain ⟨z1, hz1, hr1⟩ := rr.get hb1
    obtain ⟨z2, hz2, hr2⟩ := rr2.get hb2
    obtain ⟨z3, hz3, hr3⟩ := rr3.get hb3
    rw [hu vs p1] at hz1
    rw [hv' vs2 p2] at hz2
    rw [ho' vs3 p3] at hz3
    cases hz1
    cases hz2
    cases hz3
    subst ex eH
    exact ⟨_, g.newTup hT ⟨_, _, rfl, hr1, ⟨_, _, rfl, hr2, ⟨_, _, rfl, hr3, rfl⟩⟩⟩⟩
  · obtain ⟨vs, p1, rr⟩ := sq1 H F (g.rel _ m1)
    obtain ⟨vs2, p2, rr2⟩ := sq2 H F (g.rel _ m2)
    obtain ⟨vs3, p3, rr3⟩ := sq3 H F (g.rel _ m3)
    exact ⟨vs, vs2, vs3, p1, p2, p3, by rw [zip3_len, rr.length, rr2.length, rr3.length]⟩
end
end Snd
end

section
set_option Elab.async false
set_option linter.all false
set_option maxRecDepth 100000
/-! S24: a dict is locked while it is walked. -/
namespace Snd
open PySem PySem.Spec L2
open PyProof.Rows hiding St
open Mini (PV W Sl M CR Bi Ty Mu Fl)
variable {G : Gb} {H H' : Hp} {F F' : Fz} {L L' A B C T : List WV} {Z : Addr → Option (Obj × HO)}

mutual
theorem Rp.z : ∀ (t : PV) (x : V), Rp G H F t x → Rp (G.at Z) H F t x
  | .non, _, h => h
  | .bl _, _, h => h
  | .int _, _, h => h
  | .str _, _, h => h
  | .tup ts, x, ⟨a, vs, e, q, r⟩ => ⟨a, vs, e, q, Rps.z ts vs r⟩
  | .lst ts, x, ⟨a, vs, e, q, r⟩ => ⟨a, vs, e, q, Rps.z ts vs r⟩
  | .dk ts, x, ⟨a, us, e, q, r⟩ => ⟨a, us, e, q, RpK.z ts us r⟩
  | .dt ts, x, ⟨a, us, e, q, r⟩ => ⟨a, us, e, q, RpT.z ts us r⟩
  | .rng _ _, x, h => h
  | .ins c fs, x, ⟨a, dx, us, e, q, h, r⟩ => ⟨a, dx, us, e, q, h, RpF.z fs us r⟩
  | .clo _ _, _, h => h
  | .ktup ts, x, ⟨a, vs, e, q, r⟩ => ⟨a, vs, e, q, Rps.z ts vs r⟩
  | .kdk ts, x, ⟨a, us, e, q, r⟩ => ⟨a, us, e, q, RpK.z ts us r⟩
theorem Rps.z : ∀ (ts : List PV) (vs : List V), Rps G H F ts vs → Rps (G.at Z) H F ts vs
  | [], _, h => h
  | t :: ts, _, ⟨x, r, e, h, g⟩ => ⟨x, r, e, Rp.z t x h, Rps.z ts r g⟩
theorem RpK.z : ∀ (ts : List (Mini.Key × PV)) (vs : List (Key × V)), RpK G H F ts vs → RpK (G.at Z) H F ts vs
  | [], _, h => h
  | (n, t) :: ts, _, ⟨x, r, e, o, h, g⟩ => ⟨x, r, e, o, Rp.z t x h, RpK.z ts r g⟩
theorem RpT.z : ∀ (ts : List (List Mini.Key × PV)) (vs : List (List Key × V)), RpT G H F ts vs → RpT (G.at Z) H F ts vs
  | [], _, h => h
  | (n, t) :: ts, _, ⟨x, r, e, o, h, g⟩ => ⟨x, r, e, o, Rp.z t x h, RpT.z ts r g⟩
theorem RpF.z : ∀ (ts : List (Nat × PV)) (vs : List (Str × V)), RpF G H F ts vs → RpF (G.at Z) H F ts vs
  | [], _, h => h
  | (n, t) :: ts, _, ⟨x, r, e, h, g⟩ => ⟨x, r, e, Rp.z t x h, RpF.z ts r g⟩
end
mutual
theorem RW.z : ∀ (w : W) (x : V), RW G H F w x → RW (G.at Z) H F w x
  | .sh v, x, h => Rp.z v x h
  | .own v, x, h => by
    have h : Own G H F v x := h
    cases v with
    | lst ts => obtain ⟨a, vs, rfl, e, r⟩ := h; exact ⟨a, vs, rfl, e, Rps.z _ _ r⟩
    | dk ts => obtain ⟨a, vs, rfl, e, r⟩ := h; exact ⟨a, vs, rfl, e, RpK.z _ _ r⟩
    | dt ts => obtain ⟨a, vs, rfl, e, r⟩ := h; exact ⟨a, vs, rfl, e, RpT.z _ _ r⟩
    | _ => exact (show False from h).elim
  | .obj c fs, x, ⟨a, dx, us, e, q, r⟩ => ⟨a, dx, us, e, q, RWs.z fs us r⟩
theorem RWs.z : ∀ (fs : List (Nat × W)) (us : List (Str × V)), RWs G H F fs us → RWs (G.at Z) H F fs us
  | [], _, h => h
  | (n, w) :: fs, _, ⟨x, r, e, h, g⟩ => ⟨x, r, e, RW.z w x h, RWs.z fs r g⟩
end
/-- what a walk over d wants: d is locked -/
def zAdd (Z : Addr → Option (Obj × HO)) (d : Addr) (o : Obj) (u : HO) : Addr → Option (Obj × HO) := fun a => if a = d then some (o, u) else Z a
theorem Gd.lock {d : Addr} {u : HO} {od : Obj} (g : Gd G H F L) (fd : F d) (hd : H d = some u) (lu : Lockable u) : Gd (G.at (zAdd G.Z d od u)) (upd H d (.frz od u)) F L := by
  have nf : ∀ o v, u ≠ .frz o v := fun o v e => by subst e; exact lu
  have ni : ∀ C dx us, u ≠ .ins C dx us := fun o v w e => by subst e; exact lu
  have nt : ∀ vs, u ≠ .tup vs := fun o e => by subst e; exact lu
  have k : Kp H (upd H d (.frz od u)) F := fun a fa => by
    by_cases e : a = d
    · subst e
      refine ⟨fun v nv r => ?_, fun C dx us r => ?_, fun vs r => ?_, fun _ => by rw [upd_same]; exact fun z => nomatch z⟩
      · rcases r with r | ⟨o, r⟩
        · rw [hd] at r; cases r; exact .inr ⟨od, upd_same⟩
        · rw [hd] at r; cases r; exact absurd rfl (nf _ _)
      · rw [hd] at r; cases r; exact absurd rfl (ni _ _ _)
      · rw [hd] at r; cases r; exact absurd rfl (nt _)
    · refine ⟨fun v _ r => ?_, fun C dx us r => by rw [upd_ne e]; exact r, fun vs r => by rw [upd_ne e]; exact r, fun r => by rw [upd_ne e]; exact r⟩
      rcases r with r | ⟨o', r⟩
      · exact .inl (by rw [upd_ne e]; exact r)
      · exact .inr ⟨o', by rw [upd_ne e]; exact r⟩
  have ha : ∀ a ∈ oL H L, (upd H d (.frz od u)) a = H a := fun a ha => upd_ne fun e => g.out a ha (e ▸ fd)
  have e : ∀ p ∈ L, RW G (upd H d (.frz od u)) F p.1 p.2 ∧ oA (upd H d (.frz od u)) p.1 p.2 = oA H p.1 p.2 := fun p hp => RW.frame k (fun _ z => z) p.1 p.2 (fun a q => ha a (mem_oL.mpr ⟨p, hp, q⟩)) (g.rel p hp)
  have eo : oL (upd H d (.frz od u)) L = oL H L := oL_frame fun p hp => (e p hp).2
  have nz : G.Z d = none := by
    cases hz : G.Z d with
    | none => rfl
    | some q =>
      obtain ⟨o, v⟩ := q
      have := (g.lck d o v hz).2
      rw [hd] at this
      exact absurd (Option.some.inj this) (nf _ _)
  refine ⟨fun p hp => RW.z p.1 p.2 (e p hp).1, by rw [eo]; exact g.nod, fun a q => g.out a (by rw [← eo]; exact q), fun a fa z => (k a fa).the (g.the a fa) z, fun a o v hz => ?_, fun a o v fa hz lv => ?_⟩
  · have hz : (if a = d then some (od, u) else G.Z a) = some (o, v) := hz
    by_cases e : a = d
    · subst e
      rw [if_pos rfl] at hz
      cases hz
      exact ⟨fd, upd_same⟩
    · rw [if_neg e] at hz
      obtain ⟨f1, h1⟩ := g.lck a o v hz
      exact ⟨f1, by rw [upd_ne e]; exact h1⟩
  · show (if a = d then some (od, u) else G.Z a) = some (o, v)
    by_cases e : a = d
    · subst e
      rw [upd_same] at hz
      cases hz
      rw [if_pos rfl]
    · rw [upd_ne e] at hz
      rw [if_neg e]
      exact g.nfz a o v fa hz lv
theorem Gd.unlock {d : Addr} {u : HO} {od : Obj} (g : Gd (G.at (zAdd G.Z d od u)) H F L) (hn : G.Z d = none) (lu : Lockable u) : H d = some (.frz od u) ∧ Gd G (upd H d u) F L := by
  obtain ⟨fd, hd⟩ := g.lck d od u (show (if d = d then some (od, u) else G.Z d) = some (od, u) from if_pos rfl)
  refine ⟨hd, ?_⟩
  have k : Kp H (upd H d u) F := fun a fa => by
    by_cases e : a = d
    · subst e
      refine ⟨fun v nv r => ?_, fun C dx us r => ?_, fun vs r => ?_, fun _ => by rw [upd_same]; exact fun z => nomatch z⟩
      · rcases r with r | ⟨o, r⟩
        · rw [hd] at r; cases r; exact absurd rfl (nv _ _)
        · rw [hd] at r; cases r; exact .inl upd_same
      · rw [hd] at r; cases r
      · rw [hd] at r; cases r
    · refine ⟨fun v _ r => ?_, fun C dx us r => by rw [upd_ne e]; exact r, fun vs r => by rw [upd_ne e]; exact r, fun r => by rw [upd_ne e]; exact r⟩
      rcases r with r | ⟨o', r⟩
      · exact .inl (by rw [upd_ne e]; exact r)
      · exact .inr ⟨o', by rw [upd_ne e]; exact r⟩
  have ha : ∀ a ∈ oL H L, upd H d u a = H a := fun a ha => upd_ne fun e => g.out a ha (e ▸ fd)
  have e : ∀ p ∈ L, RW (G.at (zAdd G.Z d od u)) (upd H d u) F p.1 p.2 ∧ oA (upd H d u) p.1 p.2 = oA H p.1 p.2 := fun p hp => RW.frame k (fun _ z => z) p.1 p.2 (fun a q => ha a (mem_oL.mpr ⟨p, hp, q⟩)) (g.rel p hp)
  have eo : oL (upd H d u) L = oL H L := oL_frame fun p hp => (e p hp).2
  refine ⟨fun p hp => RW.z (G := G.at (zAdd G.Z d od u)) (Z := G.Z) p.1 p.2 (e p hp).1, by rw [eo]; exact g.nod, fun a q => g.out a (by rw [← eo]; exact q), fun a fa z => (k a fa).the (g.the a fa) z, fun a o v hz => ?_, fun a o v fa hz lv => ?_⟩
  case refine_2 =>
    by_cases e : a = d
    · subst e
      rw [upd_same] at hz
      cases hz
      exact (show False from lu).elim
    · rw [upd_ne e] at hz
      have := g.nfz a o v fa hz lv
      have this : (if a = d then some (od, u) else G.Z a) = some (o, v) := this
      rw [if_neg e] at this
      exact this
  have na : a ≠ d := fun e => by rw [e, hn] at hz; cases hz
  obtain ⟨f1, h1⟩ := g.lck a o v (show (if a = d then some (od, u) else G.Z a) = some (o, v) from by rw [if_neg na]; exact hz)
  exact ⟨f1, by rw [upd_ne na]; exact h1⟩
end Snd
end

section
set_option Elab.async false
set_option linter.all false
set_option maxRecDepth 100000
/-! S25: the items of a dict with tuple keys. -/
namespace Snd
open PySem PySem.Spec L2
open PyProof.Rows hiding St
open Mini (PV W Sl M CR Bi Ty Mu Fl)
variable {G : Gb} {H H' : Hp} {F F' : Fz} {L L' A B C T : List WV}

section
variable {X : Cx} {pins : List (Addr × Obj)} {σ : St} {s : Shared} {d : Addr} {o : Obj}
theorem frzT' {kvs : List (List Key × V)} (I : Inv X pins σ H s) (h : H d = some (.frz o (.dT kvs))) :
    (d == sysModules) = false ∧ s.heap.get? d = some o ∧ o.ExactDict ∧ kvs.length ≤ sizeLine ∧ ∃ (es : Array DictEntry) (ep : Nat), o.data = .dict es ep ∧ es.size = kvs.length ∧
      ∀ (i : Nat) (k : List Key) (v : V), kvs[i]? = some (k, v) → ∃ (en : DictEntry) (q : Addr), es[i]? = some en ∧ en.key = .ref q ∧ H q = some (.tup (k.map kV)) ∧ RelV v en.val := by
  obtain ⟨hd, z, hs, xs, pr, o', es, ep, ho, hx, hdt, he, _⟩ := I.hok d _ h
  rw [hd] at ho
  cases ho
  refine ⟨hs, hd, hx, z, es, ep, hdt, ?_, fun i k v e => ?_⟩
  · have l1 : es.size = xs.length := size_of_entries he
    have l2 : kvs.length = xs.length := Paired.length pr
    omega
  · obtain ⟨b, hb, e1, e2, e3⟩ := paired_get pr e
    have q := entry_at he i
    rw [hb] at q
    exact ⟨_, b.2.1, q, rfl, e2, e3⟩
def ItT (d : Addr) (o : Obj) (kvs : List (List Key × V)) : It :=
  ⟨fun i H => H d = some (.frz o (.dT kvs)) ∧ i < kvs.length, fun i H x H' => ∃ T k v q, kvs[i]? = some (k, v) ∧ H q = some (.tup (k.map kV)) ∧ x = .ref T ∧ H T = none ∧ H' = upd H T (.tup [.ref q, v]), fun i H => H d = some (.frz o (.dT kvs)) ∧ i = kvs.length⟩
theorem turn_it {P : Program} {w : World} {K : PySem.W.Frag} {es : Array DictEntry} {ep : Nat} {kvs : List (List Key × V)} {elts : List Expr} {kk : Nat} {tpos : Pos} (it : Addr) (hne : d ≠ it) (hod : o.data = .dict es ep) (hsz : es.size = kvs.length) :
    Turn P w K (.Tuple elts kk tpos) (ItT d o kvs) [it] it (fun i h => ∃ ok ov, IsItemIter h it d i es.size ep ok ov) := by
  refine turn_w (wr := [it]) (by simp) (fun b hb => hb) (fun i h ⟨ok, ov, e⟩ b hb => ?_) (fun i h h' ⟨ok, ov, e⟩ k => ⟨ok, ov, k it (by simp) _ e⟩) (fun A i s Q E ⟨_, _, e⟩ h => PySem.W.kcp_self e h) ?_ ?_
  · rw [List.mem_singleton.mp hb]; exact ⟨_, e, fun v z => nomatch z⟩
  · intro X hP hw hK hc i pins s σ H I st ⟨hd, hi⟩
    subst hP hw hK
    obtain ⟨hs, hgd, hx, hz, es', ep', hdt, hsz', ent⟩ := frzT' I hd
    obtain ⟨rfl, rfl⟩ := dict_ep hod hdt
    obtain ⟨⟨k, v⟩, hkv⟩ : ∃ p, kvs[i]? = some p := ⟨kvs[i], List.getElem?_eq_getElem hi⟩
    obtain ⟨en, q, hen, hkey, hq, rv⟩ := ent i k v hkv
    refine ⟨_, _, _, _, _, WalksT.rawItems (I.ok.hd hc) it d hne es' ep', by rw [hsz]; exact hi, ⟨st, ⟨o, hgd, hx, hdt⟩⟩, fun h hh => hh.1, fun vals ⟨hi', ev⟩ => ?_⟩
    have e1 : es'[i] = en := by
      have : es'[i]? = some es'[i] := Array.getElem?_eq_getElem hi'
      rw [hen] at this
      exact (Option.some.inj this).symm
    rw [e1] at ev
    subst ev
    exact ⟨[.ref q, v], by show 2 ≤ sizeLine; decide, .cons (show RelV (.ref q) en.key from hkey) (.cons rv .nil), fun T hT => ⟨T, k, v, q, hkv, hq, rfl, hT, rfl⟩⟩
  · intro X hP hw hK hc i pins s σ H I st ⟨hd, hi⟩
    subst hP hw hK
    obtain ⟨hs, hgd, hx, hz, es', ep', hdt, hsz', ent⟩ := frzT' I hd
    obtain ⟨rfl, rfl⟩ := dict_ep hod hdt
    have hn : i = es'.size := by rw [hsz]; exact hi
    subst hn
    exact ⟨_, _, _, _, WalksT.rawItems (I.ok.hd hc) it d hne es' ep', ⟨st, ⟨o, hgd, hx, hdt⟩⟩⟩
def iItT (td : TE) : TI := fun σ H R => td σ H fun x H1 => ∃ d o kvs, x = .ref d ∧ H1 d = some (.frz o (.dT kvs)) ∧ R (ItT d o kvs) H1
theorem pi_itT {e : Expr} {td : TE} {apos cpos tpos : Pos} {elts : List Expr} {kk : Nat} (he : PE X e td) (hbase : attributeBase e "items" X.env (eval e X.env) = eval e X.env) (hline : (apos.endLine == cpos.line) = true) :
    PI X (.Tuple elts kk tpos) (.Call (.Attribute e "items" apos) [] [] cpos) (iItT td) := by
  refine ⟨fun pins s σ H R I h => ?_⟩
  refine wpAny_Call_method (T := "dict") (id := "dict.items") hbase rfl hline PySem.F.plainAttrs_dict PySem.F.slot_dict_items PySem.F.type_dict_items (thn (he.run pins s σ H _ I h) fun u s1 ⟨x, H1, I1, rx, d, o, kvs, ex, hd, q⟩ => ?_)
  subst ex
  obtain rfl : u = Value.ref d := rx
  obtain ⟨hs, hgd, hx, hz, es, ep, hdt, hsz, ent⟩ := frzT' I1 hd
  have raw : s1.heap.DictRaw d es ep := ⟨o, hgd, hx, hdt⟩
  refine ⟨raw.typeIs, fun b q' => by cases q'; exact ⟨o, hgd, hx.2.1⟩, ?_⟩
  have I2 : Inv X pins σ H1 { s1 with heap := s1.heap.push { cls := .type "dict_items", data := .fields #[.ref d] } } := I1.kept (t' := s1.toks) fun b ob q => Heap.get?_push_of_some _ q
  have ld : d < s1.heap.objs.size := Heap.lt_size hgd
  have fin : wpAny (model X.prog X.w) X.A (pyIter (.ref s1.heap.objs.size)) (PIE X pins σ (.Tuple elts kk tpos) R) X.xe { s1 with heap := s1.heap.push { cls := .type "dict_items", data := .fields #[.ref d] } } := by
    refine wpAny_pyIter_items_raw (d := d) ⟨_, Heap.get?_push_size _ rfl, rfl, rfl⟩ ⟨o, Heap.get?_push_of_some _ hgd, hx, hdt⟩ ?_
    refine pi_one (tk := s1.toks) I2 _ (turn_it _ (Nat.ne_of_lt (by rw [Heap.size_push]; exact Nat.lt_succ_of_lt ld)) hdt hsz) ⟨.none, .none, ?_⟩ q
    exact Heap.get?_push_size _ rfl
  show wpAny _ _ (callWith cpos (.builtin "dict.items") [.ref d] [] []) _ X.xe s1
  exact method_meetsIn PySem.F.slot_dict_items PySem.F.entry_dict_items rfl (PySem.evalArgs_none ⟨rfl, raw.typeIs, PySem.F.args_dict_items_1 _, _, DT.meetsItems (es := es) (ep := ep) hs, ⟨o, hgd, hx, hdt⟩, fin⟩)
end
theorem RpT.get : ∀ {kvs : List (List Mini.Key × PV)} {us : List (List Key × V)} {i : Nat} {k : List Mini.Key} {t : PV}, RpT G H F kvs us → kvs[i]? = some (k, t) → ∃ v, us[i]? = some (k, v) ∧ k.all kOk = true ∧ Rp G H F t v
  | [], _, _, _, _, _, e => by simp at e
  | (j, u) :: kvs, _, 0, k, t, ⟨x, r, e0, ok, h, h'⟩, e => by
    have e : (j, u) = (k, t) := by simpa using e
    cases e
    rw [e0]
    exact ⟨x, rfl, ok, h⟩
  | (j, u) :: kvs, _, i + 1, k, t, ⟨x, r, e0, ok, h, h'⟩, e => by
    obtain ⟨v, h1, h2⟩ := RpT.get (i := i) h' (by simpa using e)
    rw [e0]
    exact ⟨v, by simpa using h1, h2⟩
/-- what a walk over a locked dict yields -/
theorem walk_it {d : Addr} {od : Obj} {us : List (List Key × V)} {kvs : List (List Mini.Key × PV)} (hZ : G.Z d = some (od, .dT us)) : WalkR G (ItT d od us) [(.sh (.dt kvs), .ref d)] (kvs.map fun p => .tup [.tup (p.1.map Mini.pvKey), p.2]) := by
  have at_ : ∀ {H : Hp} {F : Fz} {L : List WV}, Gd G H F ((.sh (.dt kvs), .ref d) :: L) → H d = some (.frz od (.dT us)) ∧ RpT G H F kvs us := fun {H F L} g => by
    have hd := (g.lck d od _ hZ).2
    obtain ⟨a, us2, e, q, r⟩ := g.rel _ List.mem_cons_self
    cases e
    refine ⟨hd, ?_⟩
    rcases q.2 with q | ⟨o', q⟩
    · rw [hd] at q; cases q
    · rw [hd] at q; cases q; exact r
  refine ⟨fun i H L hi ⟨F, g⟩ => ?_, fun i H x H' L v hv ⟨F, g⟩ ⟨T', k, v', q, h1, h2, ex, hT, eH⟩ => ?_, fun H L ⟨F, g⟩ => ?_⟩
  · obtain ⟨hd, r⟩ := at_ g
    exact ⟨hd, by rw [List.length_map] at hi; rw [← rpT_len r]; exact hi⟩
  · obtain ⟨hd, r⟩ := at_ g
    rw [List.getElem?_map] at hv
    obtain ⟨⟨k0, t⟩, e1, rfl⟩ := Option.map_eq_some_iff.mp hv
    obtain ⟨z, e2, ok, hr⟩ := r.get e1
    rw [h1] at e2
    cases e2
    subst ex eH
    have g2 := g.tupIn h2
    refine ⟨_, g2.newTup hT ⟨_, _, rfl, ⟨q, _, rfl, ⟨Fz.more_self, h2⟩, ?_⟩, ⟨_, _, rfl, Rp.up hr fun a z => .inl z, rfl⟩⟩⟩
    exact Gd.keysIn.keyR _ ok
  · obtain ⟨hd, r⟩ := at_ g
    exact ⟨hd, by rw [List.length_map, rpT_len r]⟩
end Snd
end

section
set_option Elab.async false
set_option linter.all false
set_option maxRecDepth 100000
/-! S26: comprehensions over the items of a dict. -/
namespace Snd
open PySem PySem.Spec L2
open PyProof.Rows hiding St
open Mini (PV W Sl M CR Bi Ty Mu Fl)
variable {G : Gb} {H H' : Hp} {F F' : Fz} {L L' A B C T : List WV}

/-- a place that is read -/
def RdPl (G : Gb) (X : Cx) (ae : Expr) (mrd : M PV) : Prop := ∀ (sl sl1 : Sl) (σ : St) (H : Hp) (T : List WV) (v : PV), Fit sl σ → Good G H (prs sl σ ++ T) → mrd sl = .ok v sl1 →
  ∃ x F, Gd G H F ((.sh v, x) :: (prs sl1 σ ++ T)) ∧ Fit sl1 σ ∧ ∀ H2, (∀ a C dx us, H a = some (.ins C dx us) → H2 a = H a) → ∀ Q : VK, Q x H2 → wE X ae σ H2 Q
section
variable {X : Cx} {elt ae kx : Expr} {elts ifs : List Expr} {me mk : M W} {mrd : M PV} {mt : M Bool} {pos p apos cpos tpos : Pos} {scope : Scope} {kk : Nat} {x : Str}
theorem rd_var {j : Nat} (hN : X.N[j]? = some x) (hv : Vis X.env.scope x) (hd : (x == ("__debug__" : Str)) = false) (hcd : (x == ("__classdict__" : Str)) = false) : RdPl G X (.Name x p) (Mini.frzR (Mini.rdVar j)) := by
  intro sl sl1 σ H T v ft g hm
  obtain ⟨w, s1, h1, h2⟩ := bind_ok.mp hm
  obtain ⟨rfl, rfl⟩ := pure_ok.mp h2
  unfold Mini.rdVar at h1
  split at h1
  · rename_i w0 e1
    cases h1
    obtain ⟨x0, e2⟩ := ft.get e1
    obtain ⟨F, g'⟩ := ((g.takeS e1 e2).freeze.dup).give2 (lt_of_get e1) e2
    exact ⟨x0, F, g', ft.set e2, fun H2 _ Q q => wE.var hN hv hd hcd e2 q⟩
  · cases h1
theorem rd_fld {fok : Nat → Nat → Bool} (n : Nms G) (hf : FOk G X.K fok) {j f : Nat} (hN : X.N[j]? = some x) (hv : Vis X.env.scope x) (hd : (x == ("__debug__" : Str)) = false) (hcd : (x == ("__classdict__" : Str)) = false) : RdPl G X (.Attribute (.Name x p) (G.fnm f) pos) (Mini.frzR (Mini.rdFld fok j f)) := by
  intro sl sl1 σ H T v ft g hm
  obtain ⟨w, s1, h1, h2⟩ := bind_ok.mp hm
  obtain ⟨rfl, rfl⟩ := pure_ok.mp h2
  unfold Mini.rdFld at h1
  split at h1
  · rename_i c fs e1
    obtain ⟨x0, e2⟩ := ft.get e1
    split at h1
    · rename_i ok
      split at h1
      · rename_i u e3
        cases h1
        obtain ⟨F, g1⟩ := g
        obtain ⟨a, dx, us, rfl, ha, r⟩ := (g1.perm ((prs_get e1 e2).append_right T)).rel _ List.mem_cons_self
        obtain ⟨z, h1, h2⟩ := RWs.look n r e3
        obtain ⟨c1, c2⟩ := hf _ _ ok
        refine ⟨z, F, g1.sh h2, ft, fun H2 k Q q => ?_⟩
        exact (pe_fld pe_w rfl).w (wE.var hN hv hd hcd e2 ⟨a, _, dx, us, z, rfl, (k _ _ _ _ ha).trans ha, c1, c2, h1, q⟩)
      · cases h1
    · cases h1
  · rename_i v e1
    obtain ⟨x0, e2⟩ := ft.get e1
    split at h1
    · rename_i u e3
      cases h1
      obtain ⟨F, g1⟩ := g
      have r : Rp G H F v x0 := (g1.perm ((prs_get e1 e2).append_right T)).rel _ List.mem_cons_self
      cases v with
      | ins c fs =>
        have e3 : (if fok c f then Mini.lookF f fs else none) = some u := e3
        split at e3
        · rename_i ok
          obtain ⟨a, dx, us, rfl, fa, ha, r⟩ := r
          obtain ⟨z, h1, h2⟩ := RpF.look n r e3
          obtain ⟨c1, c2⟩ := hf _ _ ok
          refine ⟨z, F, g1.sh h2, ft, fun H2 k Q q => ?_⟩
          exact (pe_fld pe_w rfl).w (wE.var hN hv hd hcd e2 ⟨a, _, dx, us, z, rfl, (k _ _ _ _ ha).trans ha, c1, c2, h1, q⟩)
        · cases e3
      | _ => cases e3
    · cases h1
  · cases h1
theorem sv_lcD (hc : X.calm = true) (hN : X.N.Nodup) {own : List (Str × Nat)} {t : Mini.Tg} {g1 : TG} (hr : RdPl G X ae mrd) (hbase : attributeBase ae "items" X.env (eval ae X.env) = eval ae X.env) (hline : (apos.endLine == cpos.line) = true)
    (ok : BlkOk X.N X.env.scope scope own) (hg : ∀ (s : Shared) (H : Hp) (C : Addr) (cl : List (Str × Addr)) (fp : List Addr), PG (Blk X scope s H C cl fp) (.Tuple elts kk tpos) g1) (h2 : ∀ Z, SGo (G.at Z) X (notIn (own.map (·.2))) g1 (Mini.stTg t))
    (ht : ∀ Z (s : Shared) (H : Hp) (C : Addr) (cl : List (Str × Addr)) (fp : List Addr), SEts (G.at Z) (Blk X scope s H C cl fp) ifs mt) (he : ∀ Z (s : Shared) (H : Hp) (C : Addr) (cl : List (Str × Addr)) (fp : List Addr), SEv (G.at Z) (Blk X scope s H C cl fp) elt me) :
    SEv G X (.ListComp elt [⟨.Tuple elts kk tpos, .Call (.Attribute ae "items" apos) [] [] cpos, ifs, 0⟩] scope pos) (do let xs ← (do let v ← mrd; Mini.ofO (Mini.pairs v)); let r ← Mini.inBlock (own.map (·.2)) (Mini.compLoop (own.map (·.2)) t mt (Mini.frzR me) xs []); pure (.own (.lst r))) := by
  intro sl sl' σ H T w ft g hm
  obtain ⟨xs, s1, e1, hm⟩ := bind_ok.mp hm
  obtain ⟨r, s2, e2, hm⟩ := bind_ok.mp hm
  obtain ⟨rfl, rfl⟩ := pure_ok.mp hm
  obtain ⟨v, s3, e3, e4⟩ := bind_ok.mp e1
  obtain ⟨e5, rfl⟩ := ofO_ok.mp e4
  obtain ⟨x, F, g1, f1, hx⟩ := hr _ _ σ H T v ft g e3
  have isd : ∃ kvs, v = .dt kvs ∧ xs = kvs.map fun p => .tup [.tup (p.1.map Mini.pvKey), p.2] := by
    cases v with
    | dt kvs => cases e5; exact ⟨kvs, rfl, rfl⟩
    | _ => cases e5
  obtain ⟨kvs, rfl, rfl⟩ := isd
  obtain ⟨d, us, rfl, ⟨fd, rd⟩, rr⟩ := g1.rel _ List.mem_cons_self
  rcases rd with hd | ⟨o, hd⟩
  · have nz : G.Z d = none := by
      cases hz : G.Z d with
      | none => rfl
      | some q =>
        obtain ⟨o, v⟩ := q
        have := (g1.lck d o v hz).2
        rw [hd] at this
        cases this
    refine (pe_lock (pe_lc hc hN pi_w ok hg (fun _ _ _ _ _ => pts_u) (fun _ _ _ _ _ => pe_u) fun _ => rfl)).w ⟨d, .dT us, hd, trivial, fun od => ?_⟩
    have g2 := g1.lock (od := od) fd hd trivial
    have hZ : (G.at (zAdd G.Z d od (.dT us))).Z d = some (od, .dT us) := if_pos rfl
    refine lc_go0 (G := G.at (zAdd G.Z d od (.dT us))) (T := T) (h2 _) (ht _) (he _) ?_ e2 fun D H' f' ⟨F', g'⟩ => ?_
    · refine (pi_itT pe_w hbase hline).w (hx _ (fun a C dx us' e => upd_ne fun q => ?_) _ ⟨d, od, us, rfl, upd_same, [(.sh (.dt kvs), .ref d)], walk_it hZ, f1, F, g2⟩)
      rw [q, hd] at e; cases e
    · obtain ⟨q1, q2⟩ := g'.unlock nz trivial
      exact ⟨q1, f', F', q2⟩
  · have hZ : G.Z d = some (o, .dT us) := g1.nfz d o _ fd hd trivial
    refine (pe_lc hc hN pi_w ok hg (fun _ _ _ _ _ => pts_u) (fun _ _ _ _ _ => pe_u) fun _ => rfl).w ?_
    refine lc_go0 (T := T) (h2 G.Z) (ht G.Z) (he G.Z) ?_ e2 fun D H' f' g' => ⟨f', g'⟩
    exact (pi_itT pe_w hbase hline).w (hx _ (fun a C dx us' e => rfl) _ ⟨d, o, us, rfl, hd, [(.sh (.dt kvs), .ref d)], walk_it hZ, f1, F, g1⟩)
end
end Snd
end

section
set_option Elab.async false
set_option linter.all false
set_option maxRecDepth 100000
/-! S27: dict displays. -/
namespace Snd
open PySem PySem.Spec L2
open PyProof.Rows hiding St
open Mini (PV W Sl M CR Bi Ty Mu Fl)
variable {G : Gb} {H H' : Hp} {F F' : Fz} {L L' A B C T : List WV}

def prL : List PV → List (V × V) → List WV
  | .tup [a, b] :: us, (x, y) :: ps => (.sh a, x) :: (.sh b, y) :: prL us ps
  | _, _ => []
section
variable {X : Cx} {pos : Pos}
def SVs (G : Gb) (X : Cx) : List Expr → List (M W) → Prop
  | [], [] => True
  | e :: es, m :: ms => SEv G X e m ∧ SVs G X es ms
  | _, _ => False
def trsE (X : Cx) : List Expr → List Expr → List (TE × TE)
  | k :: ks, v :: vs => (wE X k, wE X v) :: trsE X ks vs
  | _, _ => []
theorem pps_w : ∀ {ks vs : List Expr}, ks.length = vs.length → PPs X pos (ks.map some) vs (trsE X ks vs)
  | [], [], _ => pps_nil
  | k :: ks, v :: vs, h => pps_cons pe_w pe_w (pps_w (by simpa using h))
  | [], _ :: _, h => by simp at h
  | _ :: _, [], h => by simp at h
theorem pairs_ok {σ : St} : ∀ {ks vs : List Expr} {mk mv : List (M W)} {sl sl' : Sl} {H : Hp} {T : List WV} {us : List PV} {Q : List (V × V) → Hp → Prop}, SVs G X ks mk → SVs G X vs mv → Fit sl σ → Good G H (prs sl σ ++ T) → Mini.evPs mk mv sl = .ok us sl' →
    (∀ ps H', us.length = ps.length → ps.length = ks.length → Fit sl' σ → Good G H' (prL us ps ++ (prs sl' σ ++ T)) → (∀ u ∈ us, ∃ a b, u = .tup [a, b]) → Q ps H') → tPairs (trsE X ks vs) σ H Q
  | [], [], [], [], sl, sl', H, T, us, Q, _, _, ft, g, hm, q => by
    have hm : (pure [] : M (List PV)) sl = .ok us sl' := hm
    obtain ⟨rfl, rfl⟩ := pure_ok.mp hm
    exact q [] H rfl rfl ft g (fun _ h => absurd h (by simp))
  | k :: ks, v :: vs, m :: mk, n :: mv, sl, sl', H, T, us, Q, hk, hv, ft, g, hm, q => by
    have hm : (do let a ← m; let b ← n; let r ← Mini.evPs mk mv; pure (.tup [a.frz, b.frz] :: r) : M (List PV)) sl = .ok us sl' := hm
    obtain ⟨a, s1, e1, hm⟩ := bind_ok.mp hm
    obtain ⟨b, s2, e2, hm⟩ := bind_ok.mp hm
    obtain ⟨r, s3, e3, hm⟩ := bind_ok.mp hm
    obtain ⟨rfl, rfl⟩ := pure_ok.mp hm
    refine (hk.1.fz ft g e1).mono fun x H1 ⟨f1, g1⟩ => ?_
    refine (hv.1.fz f1 g1.back e2).mono fun y H2 ⟨f2, g2⟩ => ?_
    refine pairs_ok hk.2 hv.2 f2 g2.back e3 fun ps H3 l1 l2 f3 g3 hu => ?_
    refine q ((x, y) :: ps) H3 (congrArg (· + 1) l1) (congrArg (· + 1) l2) f3 ?_ fun u hu' => ?_
    · show Good G H3 ((.sh a.frz, x) :: (.sh b.frz, y) :: (prL r ps ++ (prs s3 σ ++ T)))
      have g4 : Good G H3 ((.sh b.frz, y) :: (prL r ps ++ (prs s3 σ ++ (.sh a.frz, x) :: T))) := g3.rise
      have g5 : Good G H3 (((.sh b.frz, y) :: prL r ps) ++ (prs s3 σ ++ (.sh a.frz, x) :: T)) := g4
      exact g5.rise
    · rcases List.mem_cons.mp hu' with rfl | hu'
      · exact ⟨_, _, rfl⟩
      · exact hu u hu'
  | [], [], [], _ :: _, _, _, _, _, _, _, _, h, _, _, _, _ => h.elim
  | [], [], _ :: _, _, _, _, _, _, _, _, h, _, _, _, _, _ => h.elim
  | [], _ :: _, _, [], _, _, _, _, _, _, _, h, _, _, _, _ => h.elim
  | [], _ :: _, [], _ :: _, sl, sl', _, _, _, _, _, _, _, _, hm, _ => by cases hm
  | [], _ :: _, _ :: _, _ :: _, _, _, _, _, _, _, h, _, _, _, _, _ => h.elim
  | _ :: _, _, [], _, _, _, _, _, _, _, h, _, _, _, _, _ => h.elim
  | _ :: _, [], _ :: _, [], sl, sl', _, _, _, _, _, _, _, _, hm, _ => by cases hm
  | _ :: _, [], _ :: _, _ :: _, _, _, _, _, _, _, _, h, _, _, _, _ => h.elim
  | _ :: _, _ :: _, _ :: _, [], _, _, _, _, _, _, _, h, _, _, _, _ => h.elim
theorem mk_ok : ∀ {us : List PV} {ps : List (V × V)} {acc l : List (Mini.Key × PV)} {ka : List (Key × V)} {R : List WV}, us.length = ps.length → (∀ u ∈ us, ∃ a b, u = .tup [a, b]) → Gd G H F (prL us ps ++ R) → Mini.mkDK us acc = some l → RpK G H F acc ka →
    ∃ kvs : List (Key × V), ps = kvs.map (fun kv => (kV kv.1, kv.2)) ∧ RpK G H F l (mergeK ka kvs)
  | [], [], acc, l, ka, R, _, _, g, e, r => by
    cases e
    exact ⟨[], rfl, r⟩
  | u :: us, (x, y) :: ps, acc, l, ka, R, hl, hu, g, e, r => by
    obtain ⟨a, b, rfl⟩ := hu _ List.mem_cons_self
    have g : Gd G H F ((.sh a, x) :: (.sh b, y) :: (prL us ps ++ R)) := g
    have e : (match Mini.keyOf a with
      | some k => Mini.mkDK us (Mini.putK k b acc)
      | none => none) = some l := e
    cases hk : Mini.keyOf a with
    | none => rw [hk] at e; cases e
    | some k =>
      rw [hk] at e
      have ra : Rp G H F a x := g.rel _ List.mem_cons_self
      have rb : Rp G H F b y := g.tail.rel _ List.mem_cons_self
      obtain ⟨rfl, ok⟩ := keyOf_kV hk ra.lk
      obtain ⟨kvs, e1, r1⟩ := mk_ok (by simpa using hl) (fun v hv => hu v (List.mem_cons_of_mem _ hv)) g.tail.tail e (r.put ok rb)
      exact ⟨(k, y) :: kvs, by rw [e1]; rfl, r1⟩
  | [], _ :: _, _, _, _, _, h, _, _, _, _ => by simp at h
  | _ :: _, [], _, _, _, _, h, _, _, _, _ => by simp at h
theorem sv_dct {ks vs : List Expr} {mk mv : List (M W)} (hk : SVs G X ks mk) (hv : SVs G X vs mv) (h0 : ks ≠ []) (h15 : ks.length ≤ 15) (hl : ks.length = vs.length) :
    SEv G X (.Dict (ks.map some) vs pos) (do let ps ← Mini.evPs mk mv; Mini.ofO ((Mini.mkDK ps []).map fun l => .own (.dk l))) := by
  intro sl sl' σ H T w ft g hm
  obtain ⟨us, s1, e1, hm⟩ := bind_ok.mp hm
  obtain ⟨e2, rfl⟩ := ofO_ok.mp hm
  obtain ⟨l, e3, rfl⟩ := Option.map_eq_some_iff.mp e2
  refine (pe_disp (pps_w hl) (by simp) (by simpa using hl) (by simpa using h0) (by simpa using h15)).w fun p hp => ?_
  obtain ⟨F, g⟩ := g
  have g1 : Good G (upd H p (.dK [])) ((.own (.dk []), .ref p) :: (prs sl σ ++ T)) := ⟨F, g.newDK hp rfl⟩
  refine pairs_ok hk hv ft g1.back e1 fun ps H2 l1 l2 f2 g2 hu => ?_
  obtain ⟨F2, g3⟩ : Good G H2 ((.own (.dk []), .ref p) :: (prL us ps ++ (prs s1 σ ++ T))) := g2.rise
  obtain ⟨a, us0, e4, ha, ru⟩ := (show Own G H2 F2 (.dk []) (.ref p) from g3.rel _ List.mem_cons_self)
  cases e4
  have ru : us0 = [] := ru
  subst ru
  obtain ⟨kvs, e5, r5⟩ := mk_ok (ka := []) l1 hu g3.tail e3 rfl
  refine ⟨ha, kvs, e5, ?_, f2, ?_⟩
  · have : ps.length = kvs.length := by rw [e5, List.length_map]
    omega
  · have g6 := g3.chg (o := .dK (mergeK [] kvs)) (v' := .dk l) ⟨p, _, rfl, upd_same, RpK.mono (.upd g3.notF) (fun _ z => z) _ _ r5⟩
    exact ⟨F2, Gd.perm (Gd.drop (T := prL us ps) (g6.perm List.perm_middle.symm)) (.refl _)⟩
end
end Snd
end

section
set_option Elab.async false
set_option linter.all false
set_option maxRecDepth 100000
/-! SDt: dict(..), displays with tuple keys. -/
namespace Snd
open PySem PySem.Spec L2
open PyProof.Rows hiding St
open Mini (PV W Sl M CR Bi Ty Mu Fl)

/-! ### numbers told apart by their bits -/
def dist : Nat → List Nat → Bool
  | 0, l => decide (l.length ≤ 1)
  | n + 1, l => decide (l.length ≤ 1) || (dist n (l.filter (·.testBit n)) && dist n (l.filter (fun x => !x.testBit n)))
theorem nodup_filters {p : Nat → Bool} : ∀ {l : List Nat}, (l.filter p).Nodup → (l.filter (fun x => !p x)).Nodup → l.Nodup
  | [], _, _ => List.nodup_nil
  | a :: l, h1, h2 => by
    have t1 : (l.filter p).Nodup := by
      rw [List.filter_cons] at h1
      split at h1
      · exact (List.nodup_cons.mp h1).2
      · exact h1
    have t2 : (l.filter (fun x => !p x)).Nodup := by
      rw [List.filter_cons] at h2
      split at h2
      · exact (List.nodup_cons.mp h2).2
      · exact h2
    refine List.nodup_cons.mpr ⟨fun hm => ?_, nodup_filters t1 t2⟩
    cases q : p a with
    | true =>
      rw [List.filter_cons, if_pos q] at h1
      exact (List.nodup_cons.mp h1).1 (List.mem_filter.mpr ⟨hm, q⟩)
    | false =>
      rw [List.filter_cons, if_pos (by rw [q]; rfl)] at h2
      exact (List.nodup_cons.mp h2).1 (List.mem_filter.mpr ⟨hm, by rw [q]; rfl⟩)
theorem nodup_le1 : ∀ {l : List Nat}, l.length ≤ 1 → l.Nodup
  | [], _ => List.nodup_nil
  | [a], _ => by simp
  | a :: b :: l, h => by simp at h
theorem dist_nodup : ∀ {n : Nat} {l : List Nat}, dist n l = true → l.Nodup
  | 0, l, h => nodup_le1 (of_decide_eq_true h)
  | n + 1, l, h => by
    rcases Bool.or_eq_true_iff.mp h with h | h
    · exact nodup_le1 (of_decide_eq_true h)
    · obtain ⟨h1, h2⟩ := Bool.and_eq_true_iff.mp h
      exact nodup_filters (dist_nodup h1) (dist_nodup h2)
/-- the hash of a pair of small numbers -/
def hI (i j : Int) : Int := reduceHash (Builtin.Tuple.tupleHashOf [hashInt i, hashInt j])
def hN (n : Nat) : Nat := (hI (n / 32 : Nat) (n % 32 : Nat) + 2 ^ 63).toNat
theorem hN_dist : dist 64 ((List.range 1024).map hN) = true := by decide +kernel
theorem hI_inj {i j k l : Int} (i0 : 0 ≤ i) (i1 : i < 32) (j0 : 0 ≤ j) (j1 : j < 32) (k0 : 0 ≤ k) (k1 : k < 32) (l0 : 0 ≤ l) (l1 : l < 32) (h : hI i j = hI k l) : i = k ∧ j = l := by
  have nd := List.pairwise_iff_getElem.mp (dist_nodup hN_dist)
  have at_ : ∀ {a b : Int}, 0 ≤ a → a < 32 → 0 ≤ b → b < 32 → hN (32 * a.toNat + b.toNat) = (hI a b + 2 ^ 63).toNat := by
    intro a b a0 a1 b0 b1
    unfold hN
    have e1 : (32 * a.toNat + b.toNat) / 32 = a.toNat := by omega
    have e2 : (32 * a.toNat + b.toNat) % 32 = b.toNat := by omega
    rw [e1, e2, Int.toNat_of_nonneg a0, Int.toNat_of_nonneg b0]
  have e : hN (32 * i.toNat + j.toNat) = hN (32 * k.toNat + l.toNat) := by rw [at_ i0 i1 j0 j1, at_ k0 k1 l0 l1, h]
  have len : ((List.range 1024).map hN).length = 1024 := by simp
  have ne : ∀ m n : Nat, m < 1024 → n < 1024 → m < n → hN m = hN n → False := by
    intro m n hm hn hl q
    have := nd m n (by rw [len]; exact hm) (by rw [len]; exact hn) hl
    simp only [List.getElem_map, List.getElem_range] at this
    exact this q
  rcases Nat.lt_trichotomy (32 * i.toNat + j.toNat) (32 * k.toNat + l.toNat) with q | q | q
  · exact (ne _ _ (by omega) (by omega) q e).elim
  · omega
  · exact (ne _ _ (by omega) (by omega) q e.symm).elim
theorem smallK_ex {k : List Key} (h : Mini.smallK k = true) : ∃ i j : Int, k = [.inl i, .inl j] ∧ 0 ≤ i ∧ i < 32 ∧ 0 ≤ j ∧ j < 32 := by
  unfold Mini.smallK at h
  split at h
  · simp only [Bool.and_eq_true, decide_eq_true_eq] at h
    exact ⟨_, _, rfl, h.1, h.2.1, h.2.2.1, h.2.2.2⟩
  · cases h
theorem hash_nodup {P : Program} {w : World} {ks : List (List Key)} (h : ks.all Mini.smallK = true) (n : ks.Nodup) : (ks.map (tupleKind (mixKind P w)).hash).Nodup := by
  refine List.pairwise_map.mpr (n.imp_of_mem fun {a b} ha hb hne e => hne ?_)
  obtain ⟨i, j, rfl, i0, i1, j0, j1⟩ := smallK_ex (List.all_eq_true.mp h a ha)
  obtain ⟨k, l, rfl, k0, k1, l0, l1⟩ := smallK_ex (List.all_eq_true.mp h b hb)
  have e : hI i j = hI k l := e
  obtain ⟨rfl, rfl⟩ := hI_inj i0 i1 j0 j1 k0 k1 l0 l1 e
  rfl

section
variable {X : Cx}
theorem dt_new {P : Program} {w : World} {H : Hp} {h : Heap} {a : Addr} {kvs : List (List Key × V)} {xs : List (List Key × Addr × Value)} (z : kvs.length ≤ sizeLine) (hd : (a == sysModules) = false) (rel : KT H kvs xs) (dd : h.DictOfH (tupleKind (mixKind P w)) a xs) : ObjOk P w H h a (.dT kvs) := by
  obtain ⟨o, es, ep, h1, h2, h3, h4, _, h5⟩ := dd
  exact ⟨z, hd, xs, rel, o, es, ep, h1, h2, h3, h4, h5⟩
/-- dict(d) of a dict with tuple keys: a copy -/
theorem call_dictTT : CallR X (.type "dict") (fun xs H Q => X.A.units + 5 < cLine ∧ ∃ (a : Addr) (kvs : List (List Key × V)), xs = [.ref a] ∧ Rd H a (.dT kvs) ∧ (kvs.map (·.1)).all Mini.smallK = true ∧ ∀ p, H p = none → Q (.ref p) (upd H p (.dT kvs))) := by
  intro pins s σ H xs us Q I r q
  obtain ⟨hu, a, kvs, ex, hd, hs, q⟩ := q
  subst ex
  obtain ⟨u, eu, rx⟩ := vals1 r
  subst eu
  cases rx
  obtain ⟨z, lo, ys, rel, dd⟩ := dt_rd I.hok hd
  have ek : ys.map (·.1) = kvs.map (·.1) := by
    clear dd q hs hd z
    induction rel with
    | nil => rfl
    | cons h t ih => rw [List.map_cons, List.map_cons, ih, h.1]
  have hl : kvs.length = ys.length := Paired.length rel
  have nd : (ys.map (·.1)).Nodup := by obtain ⟨_, _, _, _, _, _, _, _, n⟩ := dd; exact n
  have hyn : (ys.map fun x => (tupleKind (mixKind X.prog X.w)).hash x.1).Nodup := by
    have := hash_nodup (P := X.prog) (w := X.w) (ks := ys.map (·.1)) (by rw [ek]; exact hs) nd
    rw [List.map_map] at this
    exact this
  have hap : ∀ {s' : Shared}, s'.heap.DictOfH (tupleKind (mixKind X.prog X.w)) a ys → ∀ x ∈ ys, s'.TypeIs (.ref x.2.1) "tuple" := fun d => keyed_apart tupleKind_stays d
  have hlt : a < s.heap.objs.size := by obtain ⟨_, _, _, hg, _⟩ := dd; exact Heap.lt_size hg
  refine callType_codes (Q₁ := fun obj s₁ => obj = .ref s.heap.objs.size ∧ s₁ = { s with heap := s.heap.push { cls := .type "dict", data := .dict #[] } }) F.kt_called_dict (F.kt_typeCall_dict_1 _) F.entry_dict_init (kt_code_dict_new _ ⟨rfl, rfl⟩) ?_
  rintro obj s₁ ⟨rfl, rfl⟩
  have hnew : (s.heap.push { cls := .type "dict", data := .dict #[] }).DictOfH (tupleKind (mixKind X.prog X.w)) s.heap.objs.size [] := Heap.DictOfH.new s.heap
  have dd' : (s.heap.push { cls := .type "dict", data := .dict #[] }).DictOfH (tupleKind (mixKind X.prog X.w)) a ys := by
    obtain ⟨o, es, ep, h1, h2, h3, h4, h6, h5⟩ := dd
    exact ⟨o, es, ep, Heap.get?_push_of_some _ h1, h2, h3, h4, fun x hx => tupleKind_stays.stays (fun b o vs n e _ => Heap.get?_push_of_some _ e) (h6 x hx), h5⟩
  refine ⟨hnew.typeIs, F.args_dict_init_2 _ _, ?_⟩
  unfold Builtin.«dict.__init__»
  refine wpAny_bind ?_
  unfold Builtin.Dict.selfAndRest
  refine wpAny_bind (wpAny_notOrdered_dict hnew.typeIs ?_)
  show wpAny _ _ (pure (s.heap.objs.size, [Value.ref a])) _ _ _
  refine wpAny_pure ?_
  refine updateFrom_dictH (A := X.A.in1) .none (show X.A.in1.in1.units < cLine from ?_) (Nat.ne_of_gt hlt) lo hnew dd' (.inr ⟨hap dd', hyn⟩) (by rw [List.length_nil, Nat.zero_add, ← hl]; exact z) fun h' hd' ho' hs' => ?_
  · have := hu
    first | exact Nat.lt_of_le_of_lt (Nat.le_refl _) (by omega) | (show X.A.units + 1 + 1 < cLine; omega) | skip
  · rw [storedAllH_nil_of_nodup ys nd] at hd'
    have hm : (s.heap.objs.size == sysModules) = false := beq_eq_false_iff_ne.mpr (Nat.ne_of_gt I.big)
    have kp : ∀ b o, s.heap.get? b = some o → h'.get? b = some o := fun b o e => (hs'.2 b (Nat.ne_of_lt (Heap.lt_size e))).trans (Heap.get?_push_of_some _ e)
    refine ⟨rfl, .ref s.heap.objs.size, upd H s.heap.objs.size (.dT kvs), I.laid (t' := s.toks) kp (Nat.le_refl _) (dt_new z hm (rel.keeps fun b ys e => ?_) hd'), rfl, q _ (I.hok.fresh (Nat.le_refl _))⟩
    rw [upd_ne (fun z => by rw [z, I.hok.fresh (Nat.le_refl _)] at e; cases e)]
    exact e

/-! ### pairs -/
def mergeT (kvs more : List (List Key × V)) : List (List Key × V) := more.foldl (fun acc kv => putK acc kv.1 kv.2) kvs
theorem length_mergeT : ∀ (more kvs : List (List Key × V)), (mergeT kvs more).length ≤ kvs.length + more.length
  | [], kvs => by show kvs.length ≤ kvs.length + 0; omega
  | p :: r, kvs => by
    have h1 := length_mergeT r (putK kvs p.1 p.2)
    have h2 := length_putK kvs p.1 p.2
    show (mergeT (putK kvs p.1 p.2) r).length ≤ _
    rw [List.length_cons]; omega
theorem KT_merge {H : Hp} : ∀ {more : List (List Key × V)} {rs : List (List Key × Addr × Value)} {kvs : List (List Key × V)} {vs : List (List Key × Addr × Value)}, KT H more rs → KT H kvs vs → KT H (mergeT kvs more) (storedAllH vs rs) := by
  intro more rs kvs vs r
  induction r generalizing kvs vs with
  | nil => intro q; exact q
  | @cons p q ps qs h t ih =>
    intro r0
    obtain ⟨h1, h2, h3⟩ := h
    have e : KT H (putK kvs p.1 p.2) (storedH vs q.1 q.2.1 q.2.2) := by
      rw [← h1]
      exact r0.put p.1 h2 h3
    exact ih e
theorem pairs_ofT {pins : List (Addr × Obj)} {σ : St} {H : Hp} {s : Shared} (I : Inv X pins σ H s) : ∀ {ps : List Addr} {kvs : List (List Key × V)}, Paired (fun p kv => ∃ b, SqT X.K H p [.ref b, kv.2] ∧ H b = some (.tup (kv.1.map kV))) ps kvs →
    ∃ prs : List (List Key × Addr × Value), KT H kvs prs ∧ prs.length = ps.length ∧ ∀ (j : Nat) (q : List Key × Addr × Value), prs[j]? = some q → ∃ p : Addr, ps[j]? = some p ∧ IsTup s.heap p #[.ref q.2.1, q.2.2]
  | _, _, .nil => ⟨[], .nil, rfl, fun j q e => by simp at e⟩
  | _, _, .cons (a := p) (b := kv) h t => by
    obtain ⟨prs, r, hl, hp⟩ := pairs_ofT I t
    obtain ⟨b, h1, h2⟩ := h
    obtain ⟨its, rv, ht, _⟩ := I.tuple h1
    obtain ⟨u, y, ei, ru, ry⟩ := vals2 rv
    subst ei
    obtain rfl : u = Value.ref b := ru
    refine ⟨(kv.1, b, y) :: prs, .cons ⟨rfl, h2, ry⟩ r, by rw [List.length_cons, List.length_cons, hl], fun j q e => ?_⟩
    cases j with
    | zero =>
      have e' : (kv.1, b, y) = q := Option.some.inj e
      subst e'
      exact ⟨p, rfl, ht⟩
    | succ j =>
      obtain ⟨p', e1, e2⟩ := hp j q (by simpa using e)
      exact ⟨p', by simpa using e1, e2⟩
/-- dict(xs) of a list of pairs whose keys are tuples -/
theorem call_dictPT (hcalm : X.calm = true) : CallR X (.type "dict") (fun xs H Q => X.A.units + 5 < cLine ∧ ∃ (a : Addr) (ps : List Addr) (kvs : List (List Key × V)), xs = [.ref a] ∧ SqL X.K H a (ps.map V.ref) ∧ Paired (fun p kv => ∃ b, SqT X.K H p [.ref b, kv.2] ∧ H b = some (.tup (kv.1.map kV))) ps kvs ∧
    ∀ p, H p = none → Q (.ref p) (upd H p (.dT (mergeT [] kvs)))) := by
  intro pins s σ H xs us Q I r q
  obtain ⟨hu, a, ps, kvs, ex, hq, hp, q⟩ := q
  subst ex
  obtain ⟨u, eu, rx⟩ := vals1 r
  subst eu
  cases rx
  obtain ⟨its, rv, pl, hz⟩ := I.list hq
  have ei := refs_at rv
  subst ei
  rw [List.length_map] at hz
  obtain ⟨prs, rel, hl, hpr⟩ := pairs_ofT I hp
  have his : ∀ x ∈ prs, (tupleKind (mixKind X.prog X.w)).is s.heap x.1 x.2.1 := by
    clear hpr hl
    induction rel with
    | nil => exact fun x hx => nomatch hx
    | cons h t ih =>
      intro x hx
      rcases List.mem_cons.mp hx with rfl | hx
      · exact key_of I.hok (by rw [← h.1]; exact h.2.1)
      · obtain ⟨ps', e⟩ : ∃ ps', True := ⟨ps, trivial⟩
        exact allIs I t x hx
  refine call_dict_pairsH (knd := tupleKind (mixKind X.prog X.w)) (ps := prs) (PairArg.list a (ps.map Value.ref).toArray (fun j => ps.getD j 0) (prs.map fun q => (Value.ref q.2.1, q.2.2))) (I.ok.hd hcalm) (show X.A.in1.in1.units < cLine from ?_) ⟨pl, by simp [hl], fun j k v e => ?_⟩ ⟨by simp, fun i key v e => ?_⟩ (fun h' hk x hx => ?_) (by simp only [List.length_map]; rw [hl]; exact hz) fun h' tk hd' k => ?_
  · show X.A.units + 1 + 1 < cLine
    omega
  · rw [List.getElem?_map] at e
    obtain ⟨q', e1, e2⟩ := Option.map_eq_some_iff.mp e
    cases e2
    obtain ⟨p, e3, o, h1, h2, n, h3⟩ := hpr j q' e1
    have e4 : ps.getD j 0 = p := by rw [List.getD_eq_getElem?_getD, e3]; rfl
    show (List.map Value.ref ps).toArray[j]? = some (Value.ref (ps.getD j 0)) ∧ PairAt s.heap (ps.getD j 0) _ _
    rw [e4]
    exact ⟨by simp [e3], .inl ⟨o, h1, h2, n, h3⟩⟩
  · have e : (prs.map fun q => (Value.ref q.2.1, q.2.2))[i]? = some (key, v) := e
    rw [List.getElem?_map] at e
    obtain ⟨q', e1, e2⟩ := Option.map_eq_some_iff.mp e
    cases e2
    exact ⟨_, _, e1, rfl⟩
  · have hx0 := his x hx
    refine tupleKind_stays.stays (fun b o vs n e hd => hk b o (fun z => ?_) (fun z => nomatch z) e) hx0
    exact absurd (Heap.lt_size e) (by rw [z]; exact Nat.lt_irrefl _)
  · have hm : (s.heap.objs.size == sysModules) = false := beq_eq_false_iff_ne.mpr (Nat.ne_of_gt I.big)
    have hlen : (mergeT [] kvs).length ≤ sizeLine := by
      refine Nat.le_trans (length_mergeT kvs []) ?_
      rw [List.length_nil, Nat.zero_add, Paired.length rel, hl]
      exact hz
    have kp : ∀ b o, s.heap.get? b = some o → h'.get? b = some o := fun b o e => k b o (fun z => nomatch z) e
    refine ⟨.ref s.heap.objs.size, upd H s.heap.objs.size (.dT (mergeT [] kvs)), I.laid (t' := tk) kp (Nat.le_refl _) (dt_new hlen hm (KT.keeps (KT_merge rel .nil) fun b ys e => ?_) hd'), rfl, q _ (I.hok.fresh (Nat.le_refl _))⟩
    rw [upd_ne (fun z => by rw [z, I.hok.fresh (Nat.le_refl _)] at e; cases e)]
    exact e
where
  allIs {pins : List (Addr × Obj)} {σ : St} {H : Hp} {s : Shared} (I : Inv X pins σ H s) : ∀ {l : List (List Key × V)} {m : List (List Key × Addr × Value)}, KT H l m → ∀ x ∈ m, (tupleKind (mixKind X.prog X.w)).is s.heap x.1 x.2.1
    | _, _, .nil, x, hx => nomatch hx
    | _, _, .cons h t, x, hx => by
      rcases List.mem_cons.mp hx with rfl | hx
      · exact key_of I.hok (by rw [← h.1]; exact h.2.1)
      · exact allIs I t x hx

/-! ### displays -/
def tDispT (trs : List (TE × TE)) : TE := fun σ H Q => ∀ p, H p = none → tPairs trs σ (upd H p (.dT [])) fun ps H2 => H2 p = some (.dT []) ∧ ∃ kvs : List (List Key × V), Paired (fun (xy : V × V) (kv : List Key × V) => xy.2 = kv.2 ∧ ∃ b, xy.1 = .ref b ∧ H2 b = some (.tup (kv.1.map kV))) ps kvs ∧ kvs.length ≤ 15 ∧
  Q (.ref p) (upd H2 p (.dT (mergeT [] kvs)))
theorem carries_ofT {P : Program} {w : World} {H : Hp} {h : Heap} (ok : HOk P w H h) : ∀ {ps : List (V × V)} {kvs : List (List Key × V)} {ws : List (Value × Value)}, VV ps ws → Paired (fun (xy : V × V) (kv : List Key × V) => xy.2 = kv.2 ∧ ∃ b, xy.1 = .ref b ∧ H b = some (.tup (kv.1.map kV))) ps kvs →
    ∃ rs, CarriesH (tupleKind (mixKind P w)) h ws rs ∧ KT H kvs rs
  | [], [], _, .nil, .nil => ⟨[], True.intro, .nil⟩
  | p :: ps, kv :: kvs, _, .cons h1 t1, .cons h2 t2 => by
    obtain ⟨rs, c, q⟩ := carries_ofT ok t1 t2
    obtain ⟨e1, b, e2, e3⟩ := h2
    obtain ⟨r1, r2⟩ := h1
    rw [e2] at r1
    rw [e1] at r2
    rename_i kvV _
    refine ⟨(kv.1, b, kvV.2) :: rs, ⟨r1, rfl, key_of ok e3, c⟩, .cons ⟨rfl, e3, r2⟩ q⟩
theorem pe_dispT {pos : Pos} {keys : List (Option Expr)} {values : List Expr} {trs : List (TE × TE)} (hu : X.A.units + 5 < cLine) (h : PPs X pos keys values trs) (hall : keys.all (·.isSome) = true) (hl : keys.length = values.length) (h0 : keys ≠ [])
    (h15 : keys.length ≤ 15) : PE X (.Dict keys values pos) (tDispT trs) := by
  refine ⟨fun pins s σ H Q I q => ?_⟩
  have hn := I.hok.fresh (Nat.le_refl s.heap.objs.size)
  have I1 := I.laid (a := s.heap.objs.size) (o := .dT []) (h' := s.heap.push { cls := .type "dict", data := .dict #[] }) (t' := s.toks) (fun _ _ q => Heap.get?_push_of_some _ q) (Nat.le_refl _) (dt_empty s.heap I.big)
  have hpl := pairTrees_length keys values X.env pos hall hl
  rw [arm_eval_Dict, zip_pairTrees keys values X.env pos hall hl, dictDisplay_pairs (pairTrees keys values X.env pos) (fun e => h0 (List.length_eq_zero_iff.mp (by rw [← hpl, e]; rfl))) (by omega)]
  refine wpAny_bind (wpAny_standAt (wpAny_bind (wpAny_subDictH (knd := tupleKind (mixKind X.prog X.w)) (Q := fun d s' => wpAny (model X.prog X.w) X.A (pure (Value.ref d)) (EP X pins σ Q) X.xe s') (show X.A.units < cLine by omega) (by omega)
    (thn (h.run pins _ σ _ _ I1 (q _ hn)) fun ws s2 ⟨ps, H2, I2, rel, e, kvs, ep, lk, q2⟩ => ?_))))
  obtain ⟨rs, c, rk⟩ := carries_ofT I2.hok rel ep
  obtain ⟨z, hd, vs0, r0, dd⟩ := dt_of I2.hok e
  cases r0
  refine ⟨rs, c, dd, fun h' tk dd' hs => wpAny_pure ⟨.ref s.heap.objs.size, _, ?_, rfl, q2⟩⟩
  have hz : (mergeT [] kvs).length ≤ sizeLine := by
    have h1 := length_mergeT kvs []
    rw [List.length_nil] at h1
    rw [sizeLine_eq]; omega
  have he : ∃ q, h'.get? s.heap.objs.size = some q := let ⟨q, _, _, hq, _⟩ := dd'; ⟨q, hq⟩
  refine d_write (t' := tk) I2 (by rw [e]; exact True.intro) hs he (dt_new hz hd (KT.keeps (KT_merge rk .nil) fun b ys eb => ?_) dd')
  rw [upd_ne (fun z => by rw [z, e] at eb; cases eb)]
  exact eb
end
variable {G : Gb} {H H' : Hp} {F F' : Fz} {L L' A B C T : List WV}
theorem mkT_ok : ∀ {us : List PV} {ps : List (V × V)} {acc l : List (List Mini.Key × PV)} {ka : List (List Key × V)} {R : List WV}, us.length = ps.length → (∀ u ∈ us, ∃ a b, u = .tup [a, b]) → Gd G H F (prL us ps ++ R) → Mini.mkDT us acc = some l → RpT G H F acc ka →
    ∃ kvs : List (List Key × V), Paired (fun (xy : V × V) (kv : List Key × V) => xy.2 = kv.2 ∧ ∃ b, xy.1 = .ref b ∧ H b = some (.tup (kv.1.map kV))) ps kvs ∧ RpT G H F l (mergeT ka kvs)
  | [], [], acc, l, ka, R, _, _, g, e, r => by
    cases e
    exact ⟨[], .nil, r⟩
  | u :: us, (x, y) :: ps, acc, l, ka, R, hl, hu, g, e, r => by
    obtain ⟨a, b, rfl⟩ := hu _ List.mem_cons_self
    have g : Gd G H F ((.sh a, x) :: (.sh b, y) :: (prL us ps ++ R)) := g
    have e : (match Mini.tkeyOf a with
      | some k => Mini.mkDT us (Mini.putK k b acc)
      | none => none) = some l := e
    cases hk : Mini.tkeyOf a with
    | none => rw [hk] at e; cases e
    | some k =>
      rw [hk] at e
      have ra : Rp G H F a x := g.rel _ List.mem_cons_self
      have rb : Rp G H F b y := g.tail.rel _ List.mem_cons_self
      obtain ⟨c, rfl, hc, ok⟩ := tkeyOf_kV hk ra.lk
      obtain ⟨kvs, e1, r1⟩ := mkT_ok (by simpa using hl) (fun v hv => hu v (List.mem_cons_of_mem _ hv)) g.tail.tail e (r.put ok rb)
      exact ⟨(k, y) :: kvs, .cons ⟨rfl, c, rfl, hc⟩ e1, r1⟩
  | [], _ :: _, _, _, _, _, h, _, _, _, _ => by simp at h
  | _ :: _, [], _, _, _, _, h, _, _, _, _ => by simp at h
/-- the tuples that are keys stay when a fresh place is written -/
theorem sv_dctT {X : Cx} {pos : Pos} {ks vs : List Expr} {mk mv : List (M W)} (hu5 : X.A.units + 5 < cLine) (hk : SVs G X ks mk) (hv : SVs G X vs mv) (h0 : ks ≠ []) (h15 : ks.length ≤ 15) (hl : ks.length = vs.length) :
    SEv G X (.Dict (ks.map some) vs pos) (do let ps ← Mini.evPs mk mv; Mini.ofO ((Mini.mkDT ps []).map fun l => .own (.dt l))) := by
  intro sl sl' σ H T w ft g hm
  obtain ⟨us, s1, e1, hm⟩ := bind_ok.mp hm
  obtain ⟨e2, rfl⟩ := ofO_ok.mp hm
  obtain ⟨l, e3, rfl⟩ := Option.map_eq_some_iff.mp e2
  refine (pe_dispT hu5 (pps_w hl) (by simp) (by simpa using hl) (by simpa using h0) (by simpa using h15)).w fun p hp => ?_
  obtain ⟨F, g⟩ := g
  have g1 : Good G (upd H p (.dT [])) ((.own (.dt []), .ref p) :: (prs sl σ ++ T)) := ⟨F, g.newDT hp rfl⟩
  refine pairs_ok hk hv ft g1.back e1 fun ps H2 l1 l2 f2 g2 hu => ?_
  obtain ⟨F2, g3⟩ : Good G H2 ((.own (.dt []), .ref p) :: (prL us ps ++ (prs s1 σ ++ T))) := g2.rise
  obtain ⟨a, us0, e4, ha, ru⟩ := (show Own G H2 F2 (.dt []) (.ref p) from g3.rel _ List.mem_cons_self)
  cases e4
  have ru : us0 = [] := ru
  subst ru
  obtain ⟨kvs, e5, r5⟩ := mkT_ok (ka := []) l1 hu g3.tail e3 rfl
  refine ⟨ha, kvs, e5, ?_, f2, ?_⟩
  · have : ps.length = kvs.length := Paired.length e5
    omega
  · have g6 := g3.chg (o := .dT (mergeT [] kvs)) (v' := .dt l) ⟨p, _, rfl, upd_same, RpT.mono (.upd g3.notF) (fun _ z => z) _ _ r5⟩
    exact ⟨F2, Gd.perm (Gd.drop (T := prL us ps) (g6.perm List.perm_middle.symm)) (.refl _)⟩

/-! ### dict(..) -/
theorem prs_okK : ∀ {us : List PV} {vs : List V} {acc l : List (Mini.Key × PV)} {ka : List (Key × V)}, Rps G H F us vs → Mini.mkDK us acc = some l → RpK G H F acc ka →
    ∃ (ps : List Addr) (kvs : List (Key × V)), vs = ps.map V.ref ∧ Paired (fun p (kv : Key × V) => H p = some (.tup [kV kv.1, kv.2])) ps kvs ∧ RpK G H F l (mergeK ka kvs)
  | [], vs, acc, l, ka, h, e, r => by
    have h : vs = [] := h
    subst h
    cases e
    exact ⟨[], [], rfl, .nil, r⟩
  | u :: us, vs, acc, l, ka, h, e, r => by
    obtain ⟨x, r', rfl, hu, h⟩ := h
    unfold Mini.mkDK at e
    split at e
    · rename_i q; cases q
    · rename_i k v us' q
      cases q
      split at e
      · rename_i kk hk
        obtain ⟨a, ws, rfl, ⟨fa, ha⟩, x1, t1, rfl, hk1, x2, t2, rfl, hv1, e0⟩ := hu
        have e0 : t2 = [] := e0
        subst e0
        obtain ⟨rfl, ok⟩ := keyOf_kV hk hk1.lk
        obtain ⟨ps, kvs, e1, e2, e3⟩ := prs_okK h e (r.put ok hv1)
        exact ⟨a :: ps, (kk, x2) :: kvs, by rw [e1]; rfl, .cons ha e2, e3⟩
      · cases e
    · cases e
theorem prs_okT : ∀ {us : List PV} {vs : List V} {acc l : List (List Mini.Key × PV)} {ka : List (List Key × V)}, Rps G H F us vs → Mini.mkDT us acc = some l → RpT G H F acc ka →
    ∃ (ps : List Addr) (kvs : List (List Key × V)), vs = ps.map V.ref ∧ Paired (fun p (kv : List Key × V) => ∃ b, H p = some (.tup [.ref b, kv.2]) ∧ H b = some (.tup (kv.1.map kV))) ps kvs ∧ RpT G H F l (mergeT ka kvs)
  | [], vs, acc, l, ka, h, e, r => by
    have h : vs = [] := h
    subst h
    cases e
    exact ⟨[], [], rfl, .nil, r⟩
  | u :: us, vs, acc, l, ka, h, e, r => by
    obtain ⟨x, r', rfl, hu, h⟩ := h
    unfold Mini.mkDT at e
    split at e
    · rename_i q; cases q
    · rename_i k v us' q
      cases q
      split at e
      · rename_i kk hk
        obtain ⟨a, ws, rfl, ⟨fa, ha⟩, x1, t1, rfl, hk1, x2, t2, rfl, hv1, e0⟩ := hu
        have e0 : t2 = [] := e0
        subst e0
        obtain ⟨c, rfl, hc, ok⟩ := tkeyOf_kV hk hk1.lk
        obtain ⟨ps, kvs, e1, e2, e3⟩ := prs_okT h e (r.put ok hv1)
        exact ⟨a :: ps, (kk, x2) :: kvs, by rw [e1]; rfl, .cons ⟨c, ha, hc⟩ e2, e3⟩
      · cases e
    · cases e
theorem small_of : ∀ {kvs : List (List Mini.Key × PV)} {us : List (List Key × V)}, RpT G H F kvs us → kvs.map (·.1) = us.map (·.1)
  | [], us, h => by rw [show us = [] from h]; rfl
  | _ :: _, us, ⟨x, r, e, _, _, h⟩ => by rw [e, List.map_cons, List.map_cons, small_of h]
theorem bi_dict {X : Cx} (b : Bs G X) (hu : X.A.units + 5 < cLine) {rp : PV → Option Str} {k : Bi} (hk : k = .dictK ∨ k = .dictT) {v : PV} {x : V} {w : W} {Q : VK} {L : List WV} (gd : Gd G H F L) (h1 : Vw G H F v x) (e : Mini.builtin rp k [v] = some w)
    (q : ∀ z H', Good G H' ((w, z) :: L) → Q z H') : CallW X (.type "dict") [x] H Q := by
  rcases hk with rfl | rfl
  · cases v with
    | dk kvs =>
      have e : some (W.own (.dk kvs)) = some w := e
      cases e
      obtain ⟨a, us, rfl, rd, rr⟩ := h1
      exact CallR.w call_dictD ⟨a, us, rfl, rd, fun p hp => q _ _ ⟨_, gd.newDK hp rr⟩⟩
    | lst xs =>
      have e : (Mini.mkDK xs []).map (fun l => W.own (.dk l)) = some w := e
      obtain ⟨l, e1, rfl⟩ := Option.map_eq_some_iff.mp e
      obtain ⟨a, vs, rfl, rd, rr⟩ := h1
      obtain ⟨ps, kvs, rfl, e3, e4⟩ := prs_okK (ka := []) rr e1 rfl
      exact CallR.w (call_dictP b.calm) ⟨a, ps, kvs, rfl, .inl rd, e3.mono fun _ _ h => .inl (.inl h), fun p hp => q _ _ ⟨_, gd.newDK hp e4⟩⟩
    | _ => cases e
  · cases v with
    | dt kvs =>
      have e : (if (kvs.map (·.1)).all Mini.smallK then some (W.own (.dt kvs)) else none) = some w := e
      split at e
      · rename_i hs
        cases e
        obtain ⟨a, us, rfl, rd, rr⟩ := h1
        exact CallR.w call_dictTT ⟨hu, a, us, rfl, rd, by rw [← small_of rr]; exact hs, fun p hp => q _ _ ⟨_, gd.newDT hp rr⟩⟩
      · cases e
    | lst xs =>
      have e : (Mini.mkDT xs []).map (fun l => W.own (.dt l)) = some w := e
      obtain ⟨l, e1, rfl⟩ := Option.map_eq_some_iff.mp e
      obtain ⟨a, vs, rfl, rd, rr⟩ := h1
      obtain ⟨ps, kvs, rfl, e3, e4⟩ := prs_okT (ka := []) rr e1 rfl
      exact CallR.w (call_dictPT b.calm) ⟨hu, a, ps, kvs, rfl, .inl rd, e3.mono fun _ _ ⟨c, h, h'⟩ => ⟨c, .inl (.inl h), h'⟩, fun p hp => q _ _ ⟨_, gd.newDT hp e4⟩⟩
    | _ => cases e
theorem sv_dict {X : Cx} {a : Expr} {mb : M PV} {pos p : Pos} {x : Str} (b : Bs G X) {rp : PV → Option Str} {k : Bi} (hk : k = .dictK ∨ k = .dictT) (hg : Gl X x) (hm : X.mg x = none) (hv : bootBuiltins x = some (.type "dict")) (hn : x ≠ "__name__") (hdb : (x == ("__debug__" : Str)) = false)
    (ha : SEb G X a mb) (he : starEach [a] X.env = (false, eval a X.env) :: starEach [] X.env) :
    SEv G X (.Call (.Name x p) [a] [] pos) (do let v ← mb; Mini.ofO (Mini.builtin rp k [v])) := by
  intro sl sl' σ H T w ft g hm'
  obtain ⟨v, s1, h3, hm'⟩ := bind_ok.mp hm'
  obtain ⟨e4, rfl⟩ := ofO_ok.mp hm'
  refine (pe_callF (.inr ⟨_, rfl⟩) hg hm hv (pa_cons pe_w pa_nil he) hn hdb he rfl).w ((ha _ _ σ H T v ft g h3).mono fun z H1 ⟨f1, F, g1, v1⟩ => ?_)
  exact bi_dict b (by have := b.un; omega) hk g1 v1 e4 fun z H' g' => ⟨f1, g'⟩
end Snd
end

section
set_option Elab.async false
set_option linter.all false
set_option maxRecDepth 100000
/-! SRp: repr of data (dicts with int and text keys among them), at the law's own level. -/
namespace Snd
open PySem PySem.Spec L2
open PyProof.Rows hiding St
open Mini (PV W Sl M)
variable {G : Gb} {H H' : Hp} {F F' : Fz} {L L' T : List WV} {σ : St}

def keyT : Mini.Key → PyData
  | .inl i => .int i
  | .inr x => .str x
mutual
def toT : PV → PyData
  | .bl b => .bool b
  | .int i => .int i
  | .str s => .str s
  | .lst xs => .list (toTs xs)
  | .tup xs => .tuple (toTs xs)
  | .ktup xs => .tuple (toTs xs)
  | .dk kvs => .dict (toTK kvs)
  | _ => .none
def toTs : List PV → List PyData
  | [] => []
  | x :: xs => toT x :: toTs xs
def toTK : List (Mini.Key × PV) → List (PyData × PyData)
  | [] => []
  | p :: r => toTP p :: toTK r
def toTP : Mini.Key × PV → PyData × PyData
  | (k, v) => (keyT k, toT v)
end
mutual
/-- what repr serves -/
def dtOk : PV → Bool
  | .non | .bl _ | .int _ | .str _ => true
  | .lst xs => dtOks xs
  | .tup xs => dtOks xs
  | .ktup xs => dtOks xs
  | .dk kvs => dtOkK kvs
  | _ => false
def dtOks : List PV → Bool
  | [] => true
  | x :: xs => dtOk x && dtOks xs
def dtOkK : List (Mini.Key × PV) → Bool
  | [] => true
  | p :: r => dtOkP p && dtOkK r
def dtOkP : Mini.Key × PV → Bool
  | (_, v) => dtOk v
end
def rpStd (v : PV) : Option Str := if (dtOk v && (PyData.showable (toT v) && (decide ((toT v).depth ≤ 100) && decide ((toT v).shown.length ≤ Mini.SZ)))) = true then some (toT v).shown else none

section
variable {X : Cx} {pins : List (Addr × Obj)} {s : Shared}
theorem and2 {a b : Bool} (h : (a && b) = true) : a = true ∧ b = true := Bool.and_eq_true_iff.mp h
theorem key_reads {k : Mini.Key} {v : Value} (h : keyIs k v = true) : Reads s.heap v (keyT k) [] := by
  rcases keyIs_shape h with ⟨i, t, rfl, rfl⟩ | ⟨x, t, rfl, rfl⟩
  · exact .int i t
  · exact .str x t
theorem pairs_reads : ∀ {es : List DictEntry} {ks : List (Mini.Key × Value)}, Pairs (mixKind X.prog X.w) es ks → ReadsAll s.heap (es.map (·.key)) (ks.map fun p => keyT p.1) [] ∧ es.map (·.val) = ks.map (·.2)
  | _, _, .nil => ⟨.nil, rfl⟩
  | _, _, .cons h1 h2 h => by
    obtain ⟨i1, i2⟩ := pairs_reads h
    exact ⟨.cons (as := []) (bs := []) (key_reads h1) i1, by rw [List.map_cons, List.map_cons, h2, i2]⟩
mutual
theorem Rp.rds (I : Inv X pins σ H s) (hK : G.K = X.K) : ∀ (v : PV) (x : V) (u : Value), dtOk v = true → Rp G H F v x → RelV x u → ∃ as, Reads s.heap u (toT v) as ∧ ∀ b ∈ as, H b ≠ none
  | .non, x, u, _, h, r => by
    cases h; cases r
    exact ⟨_, .none, fun b hb => absurd hb (by simp)⟩
  | .bl b, x, u, _, h, r => by
    cases h; cases r
    exact ⟨_, .bool b, fun b hb => absurd hb (by simp)⟩
  | .int i, x, u, _, h, r => by
    cases h
    obtain ⟨t, rfl⟩ := r
    exact ⟨_, .int i t, fun b hb => absurd hb (by simp)⟩
  | .str z, x, u, _, h, r => by
    obtain ⟨rfl, _⟩ := h
    obtain ⟨t, rfl⟩ := r
    exact ⟨_, .str z t, fun b hb => absurd hb (by simp)⟩
  | .lst ts, x, u, d, ⟨a, vs, e, q, rr⟩, r => by
    subst e
    cases r
    obtain ⟨its, rv, ⟨o, n, ho, hc, _, hd⟩, _⟩ := I.list (.inl q.2)
    obtain ⟨as, hr, ha⟩ := Rps.rds I hK ts vs its d rr rv
    refine ⟨_, .list ho hc hd hr, fun b hb => ?_⟩
    rcases List.mem_cons.mp hb with rfl | hb
    · rcases q.2 with z | ⟨o', z⟩ <;> · rw [z]; exact fun y => nomatch y
    · exact ha b hb
  | .tup ts, x, u, d, ⟨a, vs, e, q, rr⟩, r => by
    subst e
    cases r
    obtain ⟨its, rv, ⟨o, ho, hc, n, hd⟩, _⟩ := I.tuple (.inl (.inl q.2))
    obtain ⟨as, hr, ha⟩ := Rps.rds I hK ts vs its d rr rv
    exact ⟨_, .tuple ho hc hd hr, ha⟩
  | .ktup ts, x, u, d, ⟨a, vs, e, q, rr⟩, r => by
    subst e
    cases r
    rw [hK] at q
    obtain ⟨its, rv, ⟨o, ho, hc, n, hd⟩, _⟩ := I.tuple (.inr q)
    obtain ⟨as, hr, ha⟩ := Rps.rds I hK ts vs its d rr rv
    exact ⟨_, .tuple ho hc hd hr, ha⟩
  | .dk kvs, x, u, d, ⟨a, us, e, q, rr⟩, r => by
    subst e
    cases r
    obtain ⟨_, hsm, ks, hkv, o, es, ep, ho, hex, hd, hkeys, hp, hnd⟩ := q.2.ok I.hok
    obtain ⟨p1, p2⟩ := pairs_reads (X := X) (s := s) hp
    obtain ⟨as, hr, ha⟩ := RpK.rds I hK kvs us ks d rr hkv
    have ek : ks.map (fun p => keyT p.1) = (toTK kvs).map (·.1) := by
      have key : ∀ {kvs : List (Mini.Key × PV)} {us : List (Key × V)} {ks : List (Key × Value)}, RpK G H F kvs us → KV us ks → ks.map (fun p => keyT p.1) = (toTK kvs).map (·.1) := by
        intro kvs
        induction kvs with
        | nil =>
          intro us ks h1 h2
          have h1 : us = [] := h1
          subst h1
          cases h2
          rfl
        | cons p kvs ih =>
          intro us ks h1 h2
          obtain ⟨k, v⟩ := p
          obtain ⟨y, r', e1, _, _, h1⟩ := h1
          subst e1
          cases h2 with
          | cons c1 c2 =>
            show keyT _ :: _ = keyT k :: _
            rw [← c1.1, ih h1 c2]
      exact key rr hkv
    have hex' : o.cls = .type "dict" := hex.1
    refine ⟨_, .dict ho hex' hd (by rw [← ek]; exact p1) (by rw [p2]; exact hr), fun b hb => ?_⟩
    rcases List.mem_append.mp hb with hb | hb
    · have : b = a := by simpa using hb
      subst this
      rcases q.2 with z | ⟨o', z⟩ <;> · rw [z]; exact fun y => nomatch y
    · exact ha b hb
  | .dt _, _, _, d, _, _ => nomatch d
  | .rng _ _, _, _, d, _, _ => nomatch d
  | .ins _ _, _, _, d, _, _ => nomatch d
  | .clo _ _, _, _, d, _, _ => nomatch d
  | .kdk _, _, _, d, _, _ => nomatch d
theorem Rps.rds (I : Inv X pins σ H s) (hK : G.K = X.K) : ∀ (ts : List PV) (vs : List V) (us : List Value), dtOks ts = true → Rps G H F ts vs → Vals vs us → ∃ as, ReadsAll s.heap us (toTs ts) as ∧ ∀ b ∈ as, H b ≠ none
  | [], vs, us, _, h, r => by
    have h : vs = [] := h
    subst h
    cases r
    exact ⟨_, .nil, fun b hb => absurd hb (by simp)⟩
  | t :: ts, vs, us, d, ⟨x, r', e, h1, h2⟩, r => by
    subst e
    cases r with
    | cons r1 r2 =>
      obtain ⟨d1, d2⟩ := and2 d
      obtain ⟨as, q1, a1⟩ := Rp.rds I hK t x _ d1 h1 r1
      obtain ⟨bs, q2, a2⟩ := Rps.rds I hK ts r' _ d2 h2 r2
      refine ⟨_, .cons q1 q2, fun b hb => ?_⟩
      rcases List.mem_append.mp hb with hb | hb
      · exact a1 b hb
      · exact a2 b hb
theorem RpK.rds (I : Inv X pins σ H s) (hK : G.K = X.K) : ∀ (ts : List (Mini.Key × PV)) (vs : List (Key × V)) (us : List (Key × Value)), dtOkK ts = true → RpK G H F ts vs → KV vs us → ∃ as, ReadsAll s.heap (us.map (·.2)) ((toTK ts).map (·.2)) as ∧ ∀ b ∈ as, H b ≠ none
  | [], vs, us, _, h, r => by
    have h : vs = [] := h
    subst h
    cases r
    exact ⟨_, .nil, fun b hb => absurd hb (by simp)⟩
  | (k, t) :: ts, vs, us, d, ⟨x, r', e, _, h1, h2⟩, r => by
    subst e
    cases r with
    | cons r1 r2 =>
      obtain ⟨d1, d2⟩ := and2 d
      obtain ⟨as, q1, a1⟩ := Rp.rds I hK t x _ d1 h1 r1.2
      obtain ⟨bs, q2, a2⟩ := RpK.rds I hK ts r' _ d2 h2 r2
      refine ⟨_, .cons q1 q2, fun b hb => ?_⟩
      rcases List.mem_append.mp hb with hb | hb
      · exact a1 b hb
      · exact a2 b hb
end
end
/-! ### the text's signs -/
theorem rc_ok {q c : Nat} (hq : q < 0x110000) (hc : c < 0x110000) : ∀ d ∈ Builtin.Str.reprChar q c, d < 0x110000 := by
  intro d hd
  have hx : ∀ w, ∀ d ∈ List.replicate (w - ((Nat.toDigits 16 c).map Char.toNat).length) 48 ++ (Nat.toDigits 16 c).map Char.toNat, d < 0x110000 := fun w d hd => by
    rcases List.mem_append.mp hd with hd | hd
    · have := (List.mem_replicate.mp hd).2
      omega
    · obtain ⟨ch, _, rfl⟩ := List.mem_map.mp hd
      have hv : ch.val.toNat < 0xD800 ∨ (0xDFFF < ch.val.toNat ∧ ch.val.toNat < 0x110000) := ch.valid
      show ch.val.toNat < 0x110000
      omega
  unfold Builtin.Str.reprChar at hd
  dsimp only at hd
  repeat' split at hd
  all_goals first
    | (simp only [List.mem_cons, List.not_mem_nil, or_false] at hd; omega)
    | (rcases List.mem_append.mp hd with hd | hd
       · simp only [List.mem_cons, List.not_mem_nil, or_false] at hd; omega
       · exact hx _ d hd)
theorem ok_cps {x : Str} (h : ∀ c ∈ x.cps.toList, c < 0x110000) : PyData.strOk x = true := by
  unfold PyData.strOk
  rw [← Array.all_toList]
  exact List.all_eq_true.mpr fun c hc => decide_eq_true (h c hc)
theorem cps_ok {x : Str} (h : PyData.strOk x = true) : ∀ c ∈ x.cps.toList, c < 0x110000 := by
  unfold PyData.strOk at h
  rw [← Array.all_toList] at h
  exact fun c hc => of_decide_eq_true (List.all_eq_true.mp h c hc)
theorem ok_repr {x : Str} (h : PyData.strOk x = true) : PyData.strOk (reprText x) = true := by
  have hq : reprQuote x < 0x110000 := by unfold reprQuote; split <;> omega
  have hc := cps_ok h
  refine ok_cps fun c m => ?_
  unfold reprText at m
  have key : ∀ (l : List Nat) (acc : Array Nat), (∀ c ∈ l, c < 0x110000) → (∀ c ∈ acc.toList, c < 0x110000) → ∀ c ∈ (l.foldl (fun out c => out ++ (Builtin.Str.reprChar (reprQuote x) c).toArray) acc).toList, c < 0x110000 := by
    intro l
    induction l with
    | nil => intro acc _ h2 c m; exact h2 c m
    | cons a l ih =>
      intro acc h1 h2
      refine ih _ (fun c m => h1 c (List.mem_cons_of_mem _ m)) fun c m => ?_
      rw [Array.toList_append] at m
      rcases List.mem_append.mp m with m | m
      · exact h2 c m
      · exact rc_ok hq (h1 a List.mem_cons_self) c (by simpa using m)
  rw [Array.toList_push] at m
  rcases List.mem_append.mp m with m | m
  · rw [← Array.foldl_toList] at m
    exact key _ _ hc (by simpa using hq) c m
  · have : c = reprQuote x := by simpa using m
    omega
mutual
/-- every text among the data is one of signs -/
def tOk : PyData → Bool
  | .str x => PyData.strOk x
  | .list xs => tOks xs
  | .tuple xs => tOks xs
  | .dict kvs => tOkK kvs
  | _ => true
def tOks : List PyData → Bool
  | [] => true
  | x :: xs => tOk x && tOks xs
def tOkK : List (PyData × PyData) → Bool
  | [] => true
  | p :: r => tOkP p && tOkK r
def tOkP : PyData × PyData → Bool
  | (k, v) => tOk k && tOk v
end
theorem ok_text {ts : List Str} (h : ∀ t ∈ ts, PyData.strOk t = true) {a b : Str} (ha : PyData.strOk a = true) (hb : PyData.strOk b = true) : PyData.strOk (a ++ Str.join ", " ts ++ b) = true := ok_app (ok_app ha (ok_join (ok_ofString _) h)) hb
mutual
theorem ok_shown : ∀ d : PyData, tOk d = true → PyData.strOk d.shown = true
  | .none, _ => by rw [PyData.shown_none]; exact ok_ofString _
  | .bool b, _ => by rw [PyData.shown_bool]; cases b <;> exact ok_ofString _
  | .int i, _ => by rw [PyData.shown_int]; exact ok_ofString _
  | .str x, h => by rw [PyData.shown_str]; exact ok_repr h
  | .list xs, h => by
    rw [PyData.shown_list]
    exact ok_text (ok_shownAll xs h) (ok_ofString _) (ok_ofString _)
  | .tuple xs, h => by
    rw [PyData.shown_tuple]
    exact ok_text (ok_shownAll xs h) (ok_ofString _) (ok_ofString _)
  | .dict kvs, h => by
    rw [PyData.shown_dict]
    exact ok_text (ok_shownKv kvs h) (ok_ofString _) (ok_ofString _)
theorem ok_shownAll : ∀ xs : List PyData, tOks xs = true → ∀ t ∈ PyData.shownAll xs, PyData.strOk t = true
  | [], _, t, m => by rw [PyData.shownAll_nil] at m; cases m
  | x :: xs, h, t, m => by
    rw [PyData.shownAll_cons] at m
    rcases List.mem_cons.mp m with rfl | m
    · exact ok_shown x (and2 h).1
    · exact ok_shownAll xs (and2 h).2 t m
theorem ok_shownKv : ∀ kvs : List (PyData × PyData), tOkK kvs = true → ∀ t ∈ PyData.shownKv kvs, PyData.strOk t = true
  | [], _, t, m => by rw [PyData.shownKv_nil] at m; cases m
  | (k, v) :: r, h, t, m => by
    rw [PyData.shownKv_cons] at m
    rcases List.mem_cons.mp m with rfl | m
    · obtain ⟨h1, h2⟩ := and2 (show (tOk k && tOk v) = true from (and2 h).1)
      exact ok_app (ok_app (ok_shown k h1) (ok_ofString _)) (ok_shown v h2)
    · exact ok_shownKv r (and2 h).2 t m
end
mutual
theorem Rp.tok : ∀ (v : PV) (x : V), Rp G H F v x → tOk (toT v) = true
  | .non, _, _ => rfl
  | .bl _, _, _ => rfl
  | .int _, _, _ => rfl
  | .str _, _, h => h.2
  | .lst ts, x, ⟨_, vs, _, _, r⟩ => Rps.tok ts vs r
  | .tup ts, x, ⟨_, vs, _, _, r⟩ => Rps.tok ts vs r
  | .ktup ts, x, ⟨_, vs, _, _, r⟩ => Rps.tok ts vs r
  | .dk kvs, x, ⟨_, us, _, _, r⟩ => RpK.tok kvs us r
  | .dt _, _, _ => rfl
  | .rng _ _, _, _ => rfl
  | .ins _ _, _, _ => rfl
  | .clo _ _, _, _ => rfl
  | .kdk _, _, _ => rfl
theorem Rps.tok : ∀ (ts : List PV) (vs : List V), Rps G H F ts vs → tOks (toTs ts) = true
  | [], _, _ => rfl
  | t :: ts, _, ⟨x, r, _, h1, h2⟩ => by
    show (tOk (toT t) && tOks (toTs ts)) = true
    rw [Rp.tok t x h1, Rps.tok ts r h2]; rfl
theorem RpK.tok : ∀ (ts : List (Mini.Key × PV)) (vs : List (Key × V)), RpK G H F ts vs → tOkK (toTK ts) = true
  | [], _, _ => rfl
  | (k, t) :: ts, _, ⟨x, r, _, hk, h1, h2⟩ => by
    show ((tOk (keyT k) && tOk (toT t)) && tOkK (toTK ts)) = true
    rw [Rp.tok t x h1, RpK.tok ts r h2]
    have : tOk (keyT k) = true := by cases k <;> first | rfl | exact hk
    rw [this]; rfl
end
section
variable {X : Cx} {a : Expr} {mb : M PV} {pos p : Pos}
theorem rp_call (hK : G.K = X.K) (hg : X.A.guards = some []) (hu : X.A.units + 200 < cLine) (hs : ∃ o, X.K.lookup sysModules = some o) {v : PV} {x : V} {z : Str} {Q : VK} (h : Lk G H v x) (e : rpStd v = some z) (q : Q (.str z) H) : CallW X (.builtin "repr") [x] H Q := by
  intro pins s σ us I r
  unfold rpStd at e
  split at e
  · rename_i hh
    cases e
    obtain ⟨h1, hh⟩ := and2 hh
    obtain ⟨h2, hh⟩ := and2 hh
    obtain ⟨h3, h4⟩ := and2 hh
    have h3 := of_decide_eq_true h3
    have h4 : (toT v).shown.length ≤ sizeLine := by rw [SZ_eq]; exact of_decide_eq_true h4
    cases r with
    | cons r1 r2 =>
      cases r2
      rename_i u
      obtain ⟨as, rd, hb⟩ := Rp.rds I hK v x u h1 h r1
      have fin : ∀ h' tk u', (∀ b o, s.heap.get? b = some o → h'.get? b = some o) → EP X pins σ Q (.str (toT v).shown u') { s with heap := h', toks := tk } := fun h' tk u' k => ⟨.str (toT v).shown, H, I.kept k, ⟨_, rfl⟩, q⟩
      have hsm : (toT v).hasDict = true → sysModules ∉ as := fun _ m => by
        obtain ⟨o, ho⟩ := hs
        exact hb _ m (I.bs _ _ (I.ok.mod.kin _ _ ho)).2
      generalize hd : toT v = d at rd h2 h3 h4 fin hsm ⊢
      cases rd with
      | none => exact PySem.P.repr_of_none (fin s.heap _ _ fun _ _ e => e)
      | bool b => exact PySem.P.repr_of_bool (fin s.heap _ _ fun _ _ e => e)
      | int i t => exact PySem.P.repr_of_int (of_decide_eq_true h2) (fin s.heap _ _ fun _ _ e => e)
      | str y t => exact PySem.P.repr_of_str (fin s.heap _ _ fun _ _ e => e) h4
      | list c1 c2 c3 c4 => exact repr_of_reads' (.list c1 c2 c3 c4) h2 hsm hg (by omega) (fun _ _ e => e) (fun h' u' tk k => fin h' tk u' k) h4
      | tuple c1 c2 c3 c4 => exact repr_of_reads' (.tuple c1 c2 c3 c4) h2 hsm hg (by omega) (fun _ _ e => e) (fun h' u' tk k => fin h' tk u' k) h4
      | dict c1 c2 c3 c4 c5 => exact repr_of_reads' (.dict c1 c2 c3 c4 c5) h2 hsm hg (by omega) (fun _ _ e => e) (fun h' u' tk k => fin h' tk u' k) h4
  · cases e
theorem boot_rp : bootBuiltins "repr" = some (.builtin "repr") := by rfl
theorem sv_repr (b : Bs G X) {rp : PV → Option Str} (hr : ∀ v z, rp v = some z → rpStd v = some z ∧ X.A.guards = some [] ∧ X.A.units + 200 < cLine ∧ ∃ o, X.K.lookup sysModules = some o) (hg : Gl X "repr") (hm : X.mg "repr" = none) (ha : SEb G X a mb) (he : starEach [a] X.env = (false, eval a X.env) :: starEach [] X.env) :
    SEv G X (.Call (.Name "repr" p) [a] [] pos) (do let v ← mb; Mini.ofO (Mini.builtin rp .repr [v])) := by
  intro sl sl' σ H T w ft g hm'
  obtain ⟨v, s1, h1, h2⟩ := bind_ok.mp hm'
  obtain ⟨e2, rfl⟩ := ofO_ok.mp h2
  obtain ⟨z, e3, rfl⟩ := Option.map_eq_some_iff.mp (show (rp v).map (fun x => W.sh (.str x)) = some w from e2)
  obtain ⟨r1, r2, r3, r4⟩ := hr v z e3
  refine (pe_callF (.inl ⟨_, rfl⟩) hg hm boot_rp (pa_cons pe_w pa_nil he) (by decide) (by decide) he rfl).w ((ha _ _ σ H T v ft g h1).mono fun x H1 ⟨f1, F, g1, v1⟩ => ?_)
  refine rp_call b.K r2 r3 r4 v1.lk r1 ⟨f1, F, g1.sh ⟨rfl, ?_⟩⟩
  unfold rpStd at r1
  split at r1
  · cases r1
    exact ok_shown _ (Rp.tok v x v1.lk)
  · cases r1
end
end Snd
end

section
set_option Elab.async false
set_option linter.all false
set_option maxRecDepth 100000
/-! Ck: does a piece of IR say what a piece of text says? A check by name and place; what it grants is shown in S28 and behind. -/
namespace Ck
open PySem L2
open Mini (E S Tg Fn PV BOp COp Bi Me Mu Ty)

structure Tabs where
  /-- a def's name, its number, how many arguments -/
  fns : List (Str × (Nat × Nat))
  /-- a class that is made: its name, number, how many arguments -/
  cls : List (Str × (Nat × Nat))
  /-- a class that is asked for -/
  tys : List (Str × Nat)
  glb : List (Str × Nat)
  fld : List Str
  /-- a method's name, how many arguments (with self) -/
  mth : List (Str × Nat)
  /-- the built-in names that the module has none of -/
  fre : List Str
abbrev Sc := List (Str × NameKind)

def notStar : Expr → Bool
  | .Starred .. => false
  | _ => true
def notSl : Expr → Bool
  | .Slice .. => false
  | _ => true
def notFlow : Expr → Bool
  | .UnaryOp .Not _ _ => false
  | .BoolOp .. => false
  | .IfExp .. => false
  | .Compare .. => false
  | _ => true
def noSup : Expr → Bool
  | .Call (.Name _ _) [] [] _ => false
  | _ => true
def notComp : Expr → Bool
  | .ListComp .. => false
  | .SetComp .. => false
  | .DictComp .. => false
  | _ => true
def notSet : Expr → Bool
  | .Set .. => false
  | _ => true
def isName : Expr → Bool
  | .Name .. => true
  | _ => false
def isTup : Expr → Bool
  | .Tuple .. => true
  | _ => false
def nodb (x : Str) : Bool := !(x == ("__debug__" : Str)) && !(x == ("__classdict__" : Str))
def vis (sc : Sc) (x : Str) : Bool := match sc.lookup x with
  | some .local => true
  | some .cell => true
  | some .free => true
  | _ => false
def loc (sc : Sc) (x : Str) : Bool := match sc.lookup x with
  | some .local => true
  | some .cell => true
  | _ => false
def isLoc (sc : Sc) (x : Str) : Bool := match sc.lookup x with
  | some .local => true
  | _ => false
def gl (sc : Sc) (x : Str) : Bool := match sc.lookup x with
  | some .globalImplicit => true
  | _ => false
def vr (N : List Str) (sc : Sc) (i : Nat) (x : Str) : Bool := decide (N[i]? = some x) && (vis sc x && nodb x)
def litOk : PV → Const → Bool
  | .non, .none => true
  | .bl a, .bool b => a == b
  | .int i, .int j => decide (i = j)
  | .str x, .str y => decide (x = y) && PyData.strOk x
  | _, _ => false
def ckL {α : Type} (f : α → Expr → Bool) : List α → List Expr → Bool
  | [], [] => true
  | a :: as, e :: es => f a e && (notStar e && ckL f as es)
  | _, _ => false
def opOf : BOp → Operator
  | .add => .Add | .sub => .Sub | .mul => .Mult | .fdiv => .FloorDiv | .mod => .Mod | .pow => .Pow
def cmOf : COp → CmpOp
  | .eq => .Eq | .ne => .NotEq | .lt => .Lt | .le => .LtE | .gt => .Gt | .ge => .GtE | .is_ => .Is | .isnt => .IsNot | .in_ => .In | .notin => .NotIn
/-- an IR variable stands for a name -/
def pl (a : E) (x : Expr) : Bool := match a with
  | .var _ => isName x
  | _ => true
def rel (sc names : Sc) : Sc := names.map fun (n, k) => if (k == .free && sc.lookup n == some .cell) then (n, .cell) else (n, k)
def ownP (N : List Str) (own : List Nat) : List (Str × Nat) := own.map fun j => ((N[j]?).getD "", j)
def scp (sc : Sc) : Scope := ⟨.function, sc, false, false, []⟩
/-- a target; in a block only names that are local there -/
def ckT (N : List Str) (b : Bool) (P : Nat → Bool) : Nat → Sc → Tg → Expr → Bool
  | 0, _, _, _ => false
  | n + 1, sc, t, e => match t with
    | .nm i _ => (match e with
      | .Name x _ => decide (N[i]? = some x) && ((if b then isLoc sc x else loc sc x) && !(P i))
      | _ => false)
    | .tp ts => (match e with
      | .Tuple xs _ _ => ckL (ckT N b P n sc) ts xs
      | _ => false)
def bname (T : Tabs) (sc : Sc) (x y : Str) : Bool := decide (x = y) && (gl sc x && decide (x ∈ T.fre))
def tyC (T : Tabs) (sc : Sc) : Ty → Expr → Bool
  | .int, .Name x _ => bname T sc x "int"
  | .bool, .Name x _ => bname T sc x "bool"
  | .str, .Name x _ => bname T sc x "str"
  | .list, .Name x _ => bname T sc x "list"
  | .tuple, .Name x _ => bname T sc x "tuple"
  | .dict, .Name x _ => bname T sc x "dict"
  | .cls c, .Name x _ => decide (T.tys.lookup x = some c) && (gl sc x && nodb x)
  | _, _ => false
def biN : Bi → Str
  | .len => "len" | .int => "int" | .abs => "abs" | .str => "str" | .repr => "repr" | .bool => "bool" | .min => "min" | .max => "max" | .sum => "sum" | .sorted => "sorted" | .tuple => "tuple"
  | .list => "list" | .dictK => "dict" | .dictT => "dict" | .lenSet => "len" | .all => "all" | .any => "any" | .rng => "range"
def muN : Mu → Str
  | .append => "append" | .extend => "extend" | .pop => "pop" | .popAt => "pop" | _ => ""
def biOk : Bi → Bool
  | .lenSet => false
  | _ => true
def muOk : Mu → Bool
  | .append => true
  | .extend => true
  | .pop => true
  | .popAt => true
  | _ => false
/-- what any target may walk -/
def anyIt : E → Bool
  | .enm _ => false
  | .zp2 _ _ => false
  | .zp3 _ _ _ => false
  | .prs _ => false
  | _ => true
def notPrs : E → Bool
  | .prs _ => false
  | _ => true
def part (f : E → Expr → Bool) (i : E) : Option Expr → Bool
  | none => Mini.isNoPart i
  | some e => !(Mini.isNoPart i) && f i e
def notIn (vs : List Nat) (i : Nat) : Bool := !vs.contains i
/-- a place that is read: a name, a name's field -/
def ckP (T : Tabs) (N : List Str) (sc : Sc) (a : E) (e : Expr) : Bool := match a with
  | .var j => (match e with
    | .Name x _ => vr N sc j x
    | _ => false)
  | .fld (.var j) f => (match e with
    | .Attribute (.Name x _) nm _ => vr N sc j x && decide (T.fld[f]? = some nm)
    | _ => false)
  | _ => false
def isiC (T : Tabs) (sc : Sc) (ts : List Ty) (y : Expr) : Bool := match ts with
  | [t] => tyC T sc t y
  | [t, t2] => (match y with
    | .Tuple [y1, y2] _ _ => tyC T sc t y1 && tyC T sc t2 y2
    | _ => false)
  | _ => false
def arC (b : Bi) : List E → Bool
  | [_] => true
  | [_, _] => (match b with
    | .min => true
    | .max => true
    | .rng => true
    | _ => false)
  | _ => false
def meC (nm : Str) : Me → List E → Bool
  | .join, [_] => decide (nm = ("join" : Str))
  | .getD, [_, _] => decide (nm = ("get" : Str))
  | _, _ => false
def muC : Mu → List E → Bool
  | .pop, [] => true
  | _, _ :: _ => true
  | _, _ => false
def prC (T : Tabs) (N : List Str) (sc : Sc) (a : E) (t : Expr) : Expr → Bool
  | .Call (.Attribute ae nm ap) [] [] p => decide (nm = ("items" : Str)) && (ckP T N sc a ae && (ap.endLine == p.line && isTup t))
  | _ => false
def ifC (f : E → Expr → Bool) : List E → List Expr → Bool
  | [], [] => true
  | [c], [c'] => f c c'
  | _, _ => false
def notBO1 : Expr → Bool
  | .BoolOp _ [_] _ => false
  | _ => true
def ckI (T : Tabs) (N : List Str) (n : Nat) (rc : Sc → E → Expr → Bool) (sc : Sc) (ir : E) (e : Expr) : Bool := match ir with
      | .var i => (match e with
        | .Name x _ => vr N sc i x
        | _ => false)
      | .mov i => (match e with
        | .Name x _ => vr N sc i x
        | _ => false)
      | .lit v => (match e with
        | .Constant c _ _ => litOk v c
        | _ => false)
      | .glb g => (match e with
        | .Name x _ => decide (T.glb.lookup x = some g) && (gl sc x && nodb x)
        | _ => false)
      | .tup es => (match e with
        | .Tuple xs _ _ => ckL (rc sc) es xs
        | _ => false)
      | .lst es => (match e with
        | .List xs _ => ckL (rc sc) es xs
        | _ => false)
      | .dct t ks vs => (match e with
        | .Dict ks' vs' _ => (match ks, vs with
          | [], [] => ks'.isEmpty && vs'.isEmpty
          | _, _ => (decide (ks.length ≤ 15) && (ks'.all (·.isSome) && (ckL (rc sc) ks (ks'.filterMap id) && (ckL (rc sc) vs vs' && decide (ks.length = vs.length))))))
        | _ => false)
      | .bin o a b => (match e with
        | .BinOp x op y _ => decide (opOf o = op) && (rc sc a x && rc sc b y)
        | _ => false)
      | .neg a => (match e with
        | .UnaryOp .USub x _ => rc sc a x
        | _ => false)
      | .not_ a => (match e with
        | .UnaryOp .Not x _ => rc sc a x
        | _ => false)
      | .and_ a b => (match e with
        | .BoolOp .And (x :: y :: r) p => rc sc a x && rc sc b (.BoolOp .And (y :: r) p)
        | _ => false)
      | .or_ a b => (match e with
        | .BoolOp .Or (x :: y :: r) p => rc sc a x && rc sc b (.BoolOp .Or (y :: r) p)
        | _ => false)
      | .cmp o a b => (match e with
        | .Compare x [op] [y] _ => decide (cmOf o = op) && (rc sc a x && (rc sc b y && notSet y))
        | _ => false)
      | .chn o o2 a b c => (match e with
        | .Compare x [op, op2] [y, z] _ => decide (cmOf o = op) && (decide (cmOf o2 = op2) && (rc sc a x && (rc sc b y && (rc sc c z && notSet z))))
        | _ => false)
      | .ite c a b => (match e with
        | .IfExp x y z _ => rc sc c x && (rc sc a y && rc sc b z)
        | _ => false)
      | .idx a i => (match e with
        | .Subscript x y _ => rc sc a x && (rc sc i y && (notSl y && pl a x))
        | _ => false)
      | .slc a lo hi => (match e with
        | .Subscript x (.Slice l h none _) _ => rc sc a x && (part (rc sc) lo l && (part (rc sc) hi h && pl a x))
        | _ => false)
      | .rev a => (match e with
        | .Subscript x (.Slice none none (some (.UnaryOp .USub (.Constant (.int 1) _ _) _)) _) _ => rc sc a x
        | _ => false)
      | .fld a f => (match e with
        | .Attribute x nm _ => decide (T.fld[f]? = some nm) && (rc sc a x && (noSup x && pl a x))
        | _ => false)
      | .isi a ts => (match e with
        | .Call (.Name g _) [x, y] [] _ => bname T sc g "isinstance" && (rc sc a x && (notStar x && isiC T sc ts y))
        | _ => false)
      | .call f es => (match e with
        | .Call (.Name g _) (x :: xs) [] _ => decide (T.fns.lookup g = some (f, es.length)) && (gl sc g && (nodb g && ckL (rc sc) es (x :: xs)))
        | _ => false)
      | .new c es => (match e with
        | .Call (.Name g _) (x :: xs) [] _ => decide (T.cls.lookup g = some (c, es.length)) && (gl sc g && (nodb g && ckL (rc sc) es (x :: xs)))
        | _ => false)
      | .blt b es => (match e with
        | .Call (.Name g _) xs [] _ => bname T sc g (biN b) && (biOk b && (ckL (rc sc) es xs && arC b es))
        | _ => false)
      | .meth m a es => (match e with
        | .Call (.Attribute x nm ap) xs [] p => rc sc a x && (pl a x && (noSup x && (ap.endLine == p.line && (ckL (rc sc) es xs && meC nm m es))))
        | _ => false)
      | .mut m i f es => (match e with
        | .Call (.Attribute (.Name x _) nm ap) xs [] p => f.isNone && (muOk m && (decide (nm = muN m) && (vr N sc i x && (ap.endLine == p.line && (decide (es.length < 20) && (ckL (rc sc) es xs && muC m es))))))
        | _ => false)
      | .omth m a es => (match e with
        | .Call (.Attribute (.Name x _) nm ap) (y :: ys) [] p => (match a with
          | .var j => vr N sc j x && (decide (T.mth[m]? = some (nm, es.length + 1)) && (ap.endLine == p.line && (decide (es.length < 20) && ckL (rc sc) es (y :: ys))))
          | _ => false)
        | _ => false)
      | .comp elt own tg it ifs => (match e with
        | .ListComp x [⟨t, i, cs, 0⟩] scope _ => blkC N (scp sc) scope (ownP N own) && (ckT N true (notIn own) n (rel sc scope.names) tg t && (rc (rel sc scope.names) elt x && (ifC (rc (rel sc scope.names)) ifs cs && (match it with
            | .prs a => prC T N sc a t i
            | _ => rc sc it i && ((anyIt it || isTup t) && (notSet i && notBO1 i))))))
        | _ => false)
      | .dcomp _ k v own tg it ifs => (match e with
        | .DictComp x y [⟨t, i, cs, 0⟩] scope _ => blkC N (scp sc) scope (ownP N own) && (ckT N true (notIn own) n (rel sc scope.names) tg t && (rc (rel sc scope.names) k x && (rc (rel sc scope.names) v y && (ifC (rc (rel sc scope.names)) ifs cs && (rc sc it i && (notPrs it && ((anyIt it || isTup t) && (notSet i && notBO1 i))))))))
        | _ => false)
      | .enm a => (match e with
        | .Call (.Name g _) [x] [] _ => bname T sc g "enumerate" && (rc sc a x && notStar x)
        | _ => false)
      | .zp2 a b => (match e with
        | .Call (.Name g _) [x, y] [] _ => bname T sc g "zip" && (rc sc a x && (notStar x && (rc sc b y && notStar y)))
        | _ => false)
      | .zp3 a b c => (match e with
        | .Call (.Name g _) [x, y, z] [] _ => bname T sc g "zip" && (rc sc a x && (notStar x && (rc sc b y && (notStar y && (rc sc c z && notStar z)))))
        | _ => false)
      | _ => false
def ck (T : Tabs) (N : List Str) : Nat → Sc → E → Expr → Bool
  | 0, _, _, _ => false
  | n + 1, sc, ir, .BoolOp _ [x] _ => ck T N n sc ir x
  | n + 1, sc, ir, e => ckI T N n (ck T N n) sc ir e

/-! ### statements -/
def swC (sc : Sc) (v : Expr) (x : Str) (line : Nat) : Bool := match v with
  | .ListComp _ _ s _ => isLoc sc x && (line == v.pos.line && !(s.names.any fun (n, k) => n == x && (k == .local || k == .cell)))
  | .SetComp _ _ s _ => isLoc sc x && (line == v.pos.line && !(s.names.any fun (n, k) => n == x && (k == .local || k == .cell)))
  | .DictComp _ _ _ s _ => isLoc sc x && (line == v.pos.line && !(s.names.any fun (n, k) => n == x && (k == .local || k == .cell)))
  | _ => false
def isLc : Expr → Bool
  | .ListComp .. => true
  | _ => false
def notTupE : Expr → Bool
  | .Tuple .. => false
  | .List .. => false
  | _ => true
def ckSL (f : S → Stmt → Bool) : List S → List Stmt → Bool
  | [], [] => true
  | ss, .Expr (.Constant (.str _) _ _) _ :: r => ckSL f ss r
  | s :: ss, x :: r => f s x && ckSL f ss r
  | _, _ => false
def parC (N : List Str) (P : Nat → Bool) (sc : Sc) : List (Nat × Bool) → List Expr → Bool
  | [(i, _), (j, _)], [.Name x px, .Name y py] => decide (N[i]? = some x) && (decide (N[j]? = some y) && (isLoc sc x && (isLoc sc y && (px.line == py.line && (decide (i ≠ j) && (decide (x ≠ y) && (!(P i) && !(P j))))))))
  | [(i, _), (j, _), (l, _)], [.Name x px, .Name y py, .Name z pz] => decide (N[i]? = some x) && (decide (N[j]? = some y) && (decide (N[l]? = some z) && (isLoc sc x && (isLoc sc y && (isLoc sc z && (px.line == py.line && (px.line == pz.line &&
      (decide (i ≠ j) && (decide (i ≠ l) && (decide (j ≠ l) && (decide (x ≠ y) && (decide (x ≠ z) && (decide (y ≠ z) && (!(P i) && (!(P j) && !(P l))))))))))))))))
  | _, _ => false
/-- names that are told one by one out of a tuple: one of them a cell, or more than three -/
def isLocL (sc : Sc) (line : Nat) : Expr → Bool
  | .Name x p => isLoc sc x && p.line == line
  | _ => false
def headLine : List Expr → Nat
  | e :: _ => e.pos.line
  | [] => 0
def parT (N : List Str) (P : Nat → Bool) (sc : Sc) (is : List (Nat × Bool)) (ts : List Expr) : Bool :=
  decide (is.length = ts.length) && ((is.zip ts).all (fun q => match q.2 with
    | .Name x _ => decide (N[q.1.1]? = some x) && (loc sc x && !(P q.1.1))
    | _ => false) && ((decide (ts.length ≠ 2) && decide (ts.length ≠ 3)) || ts.any fun e => !(isLocL sc (headLine ts) e)))
/-- a comprehension that is told to a name straight -/
def lcC : E → Expr → Bool
  | .comp _ _ _ it _, .ListComp .. => notPrs it
  | .dcomp .., .DictComp .. => true
  | _, _ => false
def asgC (N : List Str) (sc : Sc) (v : E) (x : Expr) : Expr → Bool
  | .Name y py => (match swC sc x y py.line with
    | true => lcC v x
    | false => true)
  | .Tuple .. => notTupE x && notComp x
  | _ => false
def augC : BOp → Bool
  | .add => true
  | .sub => true
  | .mul => true
  | _ => false
def ckS (T : Tabs) (N : List Str) (P : Nat → Bool) (sc : Sc) : Nat → S → Stmt → Bool
  | 0, _, _ => false
  | n + 1, s, st => match s with
    | .asg t v => (match st with
      | .Assign [tg] x p => ck T N n sc v x && (ckT N false P n sc t tg && asgC N sc v x tg)
      | _ => false)
    | .par is es => (match st with
      | .Assign [.Tuple ts _ _] (.Tuple xs _ _) _ => ckL (ck T N n sc) es xs && (decide (xs.length = is.length) && ((!(xs.all (constantsAlone 8)) && (!(xs.all (foldedForSure 8)) && parC N P sc is ts)) || (decide (xs.length ≤ 1000) && parT N P sc is ts)))
      | _ => false)
    | .seti i f k v => (match st with
      | .Assign [.Subscript (.Name x _) y _] z _ => f.isNone && (vr N sc i x && (ck T N n sc k y && (notSl y && (ck T N n sc v z && notComp z))))
      | _ => false)
    | .setf i f v => (match st with
      | .Assign [.Attribute (.Name x _) nm _] z _ => vr N sc i x && (decide (T.fld[f]? = some nm) && ck T N n sc v z)
      | _ => false)
    | .aug i o v => (match st with
      | .AugAssign (.Name x _) op z _ => decide (N[i]? = some x) && (loc sc x && (decide (opOf o = op) && (augC o && (ck T N n sc v z && !(P i)))))
      | _ => false)
    | .exp v => (match st with
      | .Expr z _ => ck T N n sc v z && notComp z
      | _ => false)
    | .ret v => (match st with
      | .Return (some z) _ => ck T N n sc v z
      | _ => false)
    | .retN => (match st with
      | .Return none _ => true
      | _ => false)
    | .ifs c a b => (match st with
      | .If z x y _ => ck T N n sc c z && (ckSL (ckS T N P sc n) a x && ckSL (ckS T N P sc n) b y)
      | _ => false)
    | .fors t it b => (match st with
      | .For tg i x [] _ => ck T N n sc it i && (notPrs it && ((anyIt it || isTup tg) && (notSet i && (notBO1 i && (ckT N false P n sc t tg && ckSL (ckS T N P sc n) b x)))))
      | _ => false)
    | .whl c b => (match st with
      | .While z x [] _ => ck T N n sc c z && ckSL (ckS T N P sc n) b x
      | _ => false)
    | .pass => (match st with
      | .Pass _ => true
      | _ => false)
    | .brk => (match st with
      | .Break _ => true
      | _ => false)
    | .cnt => (match st with
      | .Continue _ => true
      | _ => false)
    | .stop => true
    | .rais _ => true
end Ck
end

section
set_option Elab.async false
set_option linter.all false
set_option maxRecDepth 100000
/-! S28: what a check grants: names, forms; what is known of the surroundings; lists. -/
namespace Snd
open PySem PySem.Spec L2
open PyProof.Rows hiding St
open Mini (PV W Sl M E)
open Ck (notStar notSl notFlow noSup notComp notSet isName isTup nodb vis loc isLoc gl vr anyIt notPrs)
variable {G : Gb} {X : Cx} {T : Ck.Tabs} {C : Mini.Ctx}

theorem star_cons {e : Expr} {es : List Expr} {env : Env} (h : notStar e = true) : starEach (e :: es) env = (false, eval e env) :: starEach es env := by
  cases e <;> first | rfl | cases h
theorem he_of {e : Expr} {env : Env} (h : notFlow e = true) (whole) : isTrue e env whole = (do let v ← whole; standAt e.pos; holding [v] (truthy v)) := by
  cases e with
  | UnaryOp o x p => cases o <;> first | rfl | cases h
  | _ => first | rfl | cases h
theorem sl_of {e : Expr} (h : notSl e = true) : PlainIx e := by
  intro o i
  cases e <;> first | rfl | cases h
theorem fold_of {e : Expr} {env : Env} (h : notSet e = true) (x) : foldedSetIterable e env x = pure x := by
  cases e <;> first | rfl | cases h
theorem base_of {e : Expr} {env : Env} {m : Str} {w} (h : noSup e = true) : attributeBase e m env w = w := by
  cases e with
  | Call f as kw p =>
    cases f with
    | Name x q =>
      cases as with
      | nil =>
        cases kw with
        | nil => cases h
        | cons _ _ => rfl
      | cons _ _ => rfl
    | _ => cases as <;> rfl
  | _ => rfl
theorem marks_of {o : CmpOp} {e : Expr} (h : notSet e = true) : behindInMarks o e = false := by
  cases e <;> first | rfl | cases h
theorem marks2_of {o p : CmpOp} {a e : Expr} (h : notSet e = true) : lastMarks [o, p] [a, e] = false := marks_of h
theorem vis_of {sc : Ck.Sc} {x : Str} (hs : X.env.scope.names = sc) (h : vis sc x = true) : Vis X.env.scope x := by
  subst hs
  unfold Ck.vis at h
  unfold Vis
  split at h <;> first | (cases h; done) | simp_all
theorem loc_of {sc : Ck.Sc} {x : Str} (hs : X.env.scope.names = sc) (h : loc sc x = true) : L2.Loc X.env.scope x := by
  subst hs
  unfold Ck.loc at h
  unfold L2.Loc
  split at h <;> first | (cases h; done) | simp_all
theorem isLoc_of {sc : Ck.Sc} {x : Str} (hs : X.env.scope.names = sc) (h : isLoc sc x = true) : X.env.scope.names.lookup x = some .local := by
  subst hs
  unfold Ck.isLoc at h
  split at h <;> first | (cases h; done) | simp_all
theorem gl_of {sc : Ck.Sc} {x : Str} (hs : X.env.scope.names = sc) (h : gl sc x = true) : Gl X x := by
  subst hs
  unfold Ck.gl at h
  split at h <;> first | (cases h; done) | skip
  rename_i q
  exact q
theorem and_of {a b : Bool} (h : (a && b) = true) : a = true ∧ b = true := Bool.and_eq_true_iff.mp h
theorem not_of {a : Bool} (h : (!a) = true) : a = false := by simpa using h
theorem nodb_of {x : Str} (h : nodb x = true) : (x == ("__debug__" : Str)) = false ∧ (x == ("__classdict__" : Str)) = false := ⟨not_of (and_of h).1, not_of (and_of h).2⟩
theorem vr_of {sc : Ck.Sc} {i : Nat} {x : Str} (hs : X.env.scope.names = sc) (h : vr X.N sc i x = true) : X.N[i]? = some x ∧ Vis X.env.scope x ∧ (x == ("__debug__" : Str)) = false ∧ (x == ("__classdict__" : Str)) = false := by
  obtain ⟨h1, h2⟩ := and_of h
  obtain ⟨h2, h3⟩ := and_of h2
  exact ⟨of_decide_eq_true h1, vis_of hs h2, nodb_of h3⟩

/-- what is known of the surroundings -/
structure EnvOk (G : Gb) (X : Cx) (T : Ck.Tabs) (C : Mini.Ctx) : Prop where
  b : Bs G X
  nd : X.N.Nodup
  n : Nms G
  fo : FOk G X.K C.fok
  ko : KOk G C.cok
  nm : ∀ f x, T.fld[f]? = some x → G.fnm f = x
  fn : ∀ g f m, T.fns.lookup g = some (f, m) → ∃ a fd ps k, X.mg g = some (.ref a) ∧ PySem.W.keepIn X.K (.ref a) = true ∧ Binds X.K fd ps [] ∧ Room k X.A ∧ FnOk X.prog X.w X.K X.mg X.base NoX k a fd ps (spOf G (C.call f) m)
  cl : ∀ g c m, T.cls.lookup g = some (c, m) → ∃ i a fd ps k, C.init c = some i ∧ X.mg g = some (.ref (G.cad c)) ∧ Mk X.K (G.cad c) a ∧ Binds X.K fd ps [] ∧ Room (k + 1) X.A ∧ FnOk X.prog X.w X.K X.mg X.base NoX k a fd ps (spOf G (C.call i) (m + 1))
  ty : ∀ x c, T.tys.lookup x = some c → X.mg x = some (.ref (G.cad c)) ∧ C.cok c = true
  gb : ∀ x g, T.glb.lookup x = some g → ∃ u v p, X.mg x = some u ∧ RelV v u ∧ C.glb g = some p ∧ ∀ H F, Rp G H F p v
  mt : ∀ (m : Nat) nm k, T.mth[m]? = some (nm, k) → (∀ f, G.fnm f ≠ nm) ∧ ∀ cl i, C.meth cl m = some i → ∃ g fd ps k', Cls X.K (G.cad cl) ∧ Meth X.K (G.cad cl) nm g ∧ FnOk X.prog X.w X.K X.mg X.base NoX k' g fd ps (spOf G (C.call i) k) ∧ Room k' X.A ∧ Binds X.K fd ps []
  fr : ∀ x, x ∈ T.fre → X.mg x = none
  rp : ∀ v z, C.rp v = some z → rpStd v = some z ∧ X.A.guards = some [] ∧ X.A.units + 200 < cLine ∧ ∃ o, X.K.lookup sysModules = some o
theorem EnvOk.blk (h : EnvOk G X T C) {s : Shared} {H0 : Hp} {scope : Scope} {D : Addr} {cl : List (Str × Addr)} {fp : List Addr} : EnvOk G (Blk X scope s H0 D cl fp) T C :=
  ⟨⟨h.b.K, h.b.calm, h.b.un, h.b.kd⟩, h.nd, h.n, h.fo, h.ko, h.nm, h.fn, h.cl, h.ty, h.gb, h.mt, h.fr, h.rp⟩
theorem EnvOk.z {Z : Addr → Option (Obj × HO)} (h : EnvOk G X T C) : EnvOk (G.at Z) X T C :=
  ⟨⟨h.b.K, h.b.calm, h.b.un, h.b.kd⟩, h.nd, ⟨h.n.inj⟩, h.fo, ⟨h.ko.cls, h.ko.ha, h.ko.hn, h.ko.htk, h.ko.hm, fun c t => by
    have := h.ko.own c t
    cases t <;> exact this, h.ko.blt⟩, h.nm, h.fn, h.cl, h.ty, fun x g e => by
      obtain ⟨u, v, p, h1, h2, h3, h4⟩ := h.gb x g e
      exact ⟨u, v, p, h1, h2, h3, fun H F => Rp.z _ _ (h4 H F)⟩, h.mt, h.fr, h.rp⟩

def isBO : Expr → Bool
  | .BoolOp .. => true
  | _ => false
def isBO1 : Expr → Bool
  | .BoolOp _ [_] _ => true
  | _ => false
/-- an expression of the text by a piece of IR, in all ways in which it is asked -/
structure ES (G : Gb) (X : Cx) (C : Mini.Ctx) (ir : E) (e : Expr) : Prop where
  v : SEv G X e (Mini.sem C ir).v
  b : SEb G X e (Mini.sem C ir).b
  t : SEt G X e (Mini.sem C ir).t
  w : isBO e = true → SEw G X e (Mini.sem C ir).t
  it : ∀ tg, (anyIt ir = true ∨ isTup tg = true) → isBO1 e = false → SEit X G tg e (Mini.sem C ir).it
  arg : SEa G X e (Mini.sem C ir).arg
theorem notFlow_bo {e : Expr} (h : notFlow e = true) : isBO e = true → False := by
  cases e <;> first | (intro q; cases q; done) | (cases h; done)
theorem ES.mk' (hK : G.K = X.K) {ir : E} {e : Expr} {m : M W} (hs : Mini.sem C ir = Mini.mk m) (hf : notFlow e = true) (h : SEv G X e m) : ES G X C ir e := by
  refine ⟨?_, ?_, ?_, fun q => (notFlow_bo hf q).elim, fun tg _ _ => ?_, ?_⟩ <;> rw [hs]
  · exact h
  · exact h.b
  · exact SEv.t hK h (he_of hf)
  · exact sit_any hK h
  · exact h.ar
def ALLS (P : E → Expr → Prop) : List E → List Expr → Prop
  | [], [] => True
  | a :: as, e :: es => P a e ∧ notStar e = true ∧ ALLS P as es
  | _, _ => False
theorem all_of {P : E → Expr → Prop} {f : E → Expr → Bool} (h : ∀ a e, f a e = true → P a e) : ∀ {as : List E} {es : List Expr}, Ck.ckL f as es = true → ALLS P as es
  | [], [], _ => trivial
  | a :: as, e :: es, q => ⟨h _ _ (and_of q).1, (and_of (and_of q).2).1, all_of h (and_of (and_of q).2).2⟩
  | [], _ :: _, q => nomatch q
  | _ :: _, [], q => nomatch q
theorem ALLS.stars {P : E → Expr → Prop} : ∀ {as : List E} {es : List Expr}, ALLS P as es → ∀ env pos, (backTo pos (starEach es env)).any (·.1) = false
  | [], [], _, _, _ => rfl
  | a :: as, e :: es, q, env, pos => by
    rw [star_cons q.2.1]
    exact ALLS.stars q.2.2 env pos
  | [], _ :: _, q, _, _ => q.elim
  | _ :: _, [], q, _, _ => q.elim
theorem ALLS.few {P : E → Expr → Prop} : ∀ {as : List E} {es : List Expr}, ALLS P as es → ∀ env pos, (backTo pos (starEach es env)).all (fun x => !x.1) = true
  | [], [], _, _, _ => rfl
  | a :: as, e :: es, q, env, pos => by
    rw [star_cons q.2.1]
    show (!false && (backTo pos (starEach es env)).all (fun x => !x.1)) = true
    rw [ALLS.few q.2.2 env pos]
    rfl
  | [], _ :: _, q, _, _ => q.elim
  | _ :: _, [], q, _, _ => q.elim
theorem ALLS.len {P : E → Expr → Prop} : ∀ {as : List E} {es : List Expr}, ALLS P as es → as.length = es.length
  | [], [], _ => rfl
  | a :: as, e :: es, q => congrArg (· + 1) q.2.2.len
  | [], _ :: _, q => q.elim
  | _ :: _, [], q => q.elim
theorem ALLS.ss : ∀ {as : List E} {es : List Expr}, ALLS (ES G X C) as es → SEs G X es (Mini.evs C as)
  | [], [], _ => ss_nil
  | a :: as, e :: es, q => ss_cons q.1.v q.2.2.ss (star_cons q.2.1)
  | [], _ :: _, q => q.elim
  | _ :: _, [], q => q.elim
theorem ALLS.sas : ∀ {as : List E} {es : List Expr}, ALLS (ES G X C) as es → SEas G X es (Mini.evArgs C as)
  | [], [], _ => sas_nil
  | a :: as, e :: es, q => sas_cons q.1.arg q.2.2.sas (star_cons q.2.1)
  | [], _ :: _, q => q.elim
  | _ :: _, [], q => q.elim
theorem ALLS.sws : ∀ {as : List E} {es : List Expr}, ALLS (ES G X C) as es → SEws G X es (Mini.evWs C as)
  | [], [], _ => sws_nil
  | a :: as, e :: es, q => sws_cons q.1.v q.2.2.sws (star_cons q.2.1)
  | [], _ :: _, q => q.elim
  | _ :: _, [], q => q.elim
theorem ALLS.svs : ∀ {as : List E} {es : List Expr}, ALLS (ES G X C) as es → SVs G X es (Mini.evL C as)
  | [], [], _ => trivial
  | a :: as, e :: es, q => ⟨q.1.v, q.2.2.svs⟩
  | [], _ :: _, q => q.elim
  | _ :: _, [], q => q.elim
theorem args_len : ∀ {as : List E} {s s' : Sl} {vs : List Mini.Arg}, Mini.evArgs C as s = .ok vs s' → vs.length = as.length
  | [], s, s', vs, h => by
    obtain ⟨rfl, rfl⟩ := pure_ok.mp (show (pure [] : M (List Mini.Arg)) s = .ok vs s' from h)
    rfl
  | a :: as, s, s', vs, h => by
    obtain ⟨v, s1, h1, h⟩ := bind_ok.mp (show (do let a ← (Mini.sem C a).arg; let as ← Mini.evArgs C as; pure (a :: as) : M (List Mini.Arg)) s = .ok vs s' from h)
    obtain ⟨ws, s2, h2, h⟩ := bind_ok.mp h
    obtain ⟨rfl, rfl⟩ := pure_ok.mp h
    exact congrArg (· + 1) (args_len h2)
theorem vals_len : ∀ {as : List E} {s s' : Sl} {vs : List PV}, Mini.evs C as s = .ok vs s' → vs.length = as.length
  | [], s, s', vs, h => by
    obtain ⟨rfl, rfl⟩ := pure_ok.mp (show (pure [] : M (List PV)) s = .ok vs s' from h)
    rfl
  | a :: as, s, s', vs, h => by
    obtain ⟨v, s1, h1, h⟩ := bind_ok.mp (show (do let w ← (Mini.sem C a).v; let vs ← Mini.evs C as; pure (w.frz :: vs) : M (List PV)) s = .ok vs s' from h)
    obtain ⟨ws, s2, h2, h⟩ := bind_ok.mp h
    obtain ⟨rfl, rfl⟩ := pure_ok.mp h
    exact congrArg (· + 1) (vals_len h2)
end Snd
end

section
set_option Elab.async false
set_option linter.all false
set_option maxRecDepth 100000
/-! S29: what a check of an expression grants, form by form. -/
namespace Snd
open PySem PySem.Spec L2
open PyProof.Rows hiding St
open Mini (PV W Sl M E)
open Ck (notStar notSl notFlow noSup notComp notSet isName isTup nodb vis loc isLoc gl vr anyIt notPrs pl)
variable {G : Gb} {X : Cx} {T : Ck.Tabs} {C : Mini.Ctx}

/-! ### targets -/
mutual
def gOf (K : PySem.W.Frag) : Mini.Tg → TG
  | .nm i _ => gName i
  | .tp ts => gTup K ts.length (gsOf K ts)
def gsOf (K : PySem.W.Frag) : List Mini.Tg → TGs
  | [] => gNil
  | t :: ts => gCons (gOf K t) (gsOf K ts)
end
theorem asg_cons {e : Expr} {es : List Expr} {env : Env} (h : notStar e = true) : assignEach (e :: es) env = (false, assign e env) :: assignEach es env := by
  cases e <;> first | rfl | cases h
theorem ckT_ok {N : List Str} {P : Nat → Bool} : ∀ (n : Nat) {X : Cx} {b : Bool} {sc : Ck.Sc} {t : Mini.Tg} {e : Expr}, X.N = N → X.env.scope.names = sc → X.N.Nodup → X.calm = true → (b = true ∨ ∀ x, loc sc x = true → X.fn x = true ∨ isLoc sc x = true) →
    Ck.ckT N b P n sc t e = true → PG X e (gOf X.K t)
  | 0, _, _, _, _, _, _, _, _, _, _, h => nomatch h
  | n + 1, X, b, sc, .nm i k, e, hN, hs, nd, hc, hb, h => by
    cases e with
    | Name x p =>
      obtain ⟨h1, h2⟩ := and_of (show (decide (N[i]? = some x) && ((if b then isLoc sc x else loc sc x) && !(P i))) = true from h)
      obtain ⟨h2, h3⟩ := and_of h2
      have h1 := of_decide_eq_true h1
      subst hN
      cases b with
      | true =>
        have q := isLoc_of hs h2
        exact pg_name nd h1 (.inl q) (.inr q)
      | false =>
        refine pg_name nd h1 (loc_of hs h2) ?_
        rcases hb with hb | hb
        · cases hb
        · rcases hb x h2 with q | q
          · exact .inl q
          · exact .inr (isLoc_of hs q)
    | _ => cases h
  | n + 1, X, b, sc, .tp ts, e, hN, hs, nd, hc, hb, h => by
    cases e with
    | Tuple xs k p =>
      have h : Ck.ckL (Ck.ckT N b P n sc) ts xs = true := h
      have key : ∀ {ts : List Mini.Tg} {xs : List Expr}, Ck.ckL (Ck.ckT N b P n sc) ts xs = true → PGs X xs (gsOf X.K ts) ∧ (assignEach xs X.env).length = ts.length ∧ (assignEach xs X.env).findIdx? (·.1) = none := by
        intro ts
        induction ts with
        | nil =>
          intro xs q
          cases xs with
          | nil => exact ⟨pgs_nil, rfl, rfl⟩
          | cons _ _ => cases q
        | cons t ts ih =>
          intro xs q
          cases xs with
          | nil => cases q
          | cons x xs =>
            obtain ⟨q1, q2⟩ := and_of (show (Ck.ckT N b P n sc t x && (notStar x && Ck.ckL (Ck.ckT N b P n sc) ts xs)) = true from q)
            obtain ⟨q2, q3⟩ := and_of q2
            obtain ⟨i1, i2, i3⟩ := ih q3
            have e1 := asg_cons (es := xs) (env := X.env) q2
            refine ⟨pgs_cons (ckT_ok n hN hs nd hc hb q1) i1 (by rw [e1]; rfl), ?_, ?_⟩
            · rw [e1]; exact congrArg (· + 1) i2
            · rw [e1, List.findIdx?_cons, i3]; rfl
      obtain ⟨i1, i2, i3⟩ := key h
      exact pg_tup hc i1 i2 i3
    | _ => cases h
theorem ckT_sg {N : List Str} {P : Nat → Bool} (hK : G.K = X.K) : ∀ (n : Nat) {b : Bool} {sc : Ck.Sc} {t : Mini.Tg} {e : Expr}, Ck.ckT N b P n sc t e = true → SGo G X P (gOf X.K t) (Mini.stTg t)
  | 0, _, _, _, _, h => nomatch h
  | n + 1, b, sc, .nm i k, e, h => by
    cases e with
    | Name x p =>
      obtain ⟨h1, h2⟩ := and_of (show (decide (N[i]? = some x) && ((if b then isLoc sc x else loc sc x) && !(P i))) = true from h)
      exact sg_name (not_of (and_of h2).2)
    | _ => cases h
  | n + 1, b, sc, .tp ts, e, h => by
    cases e with
    | Tuple xs k p =>
      have h : Ck.ckL (Ck.ckT N b P n sc) ts xs = true := h
      have key : ∀ {ts : List Mini.Tg} {xs : List Expr}, Ck.ckL (Ck.ckT N b P n sc) ts xs = true → SGs G P (gsOf X.K ts) (Mini.stTgs ts) := by
        intro ts
        induction ts with
        | nil => intro xs q; exact sgs_nil
        | cons t ts ih =>
          intro xs q
          cases xs with
          | nil => cases q
          | cons x xs =>
            obtain ⟨q1, q2⟩ := and_of (show (Ck.ckT N b P n sc t x && (notStar x && Ck.ckL (Ck.ckT N b P n sc) ts xs)) = true from q)
            exact sgs_cons (ckT_sg hK n q1) (ih (and_of q2).2)
      exact sg_tup hK (key h) rfl
    | _ => cases h

/-! ### a block -/
theorem ownP_snd {N : List Str} {own : List Nat} : (Ck.ownP N own).map (·.2) = own := by
  unfold Ck.ownP
  rw [List.map_map]
  exact List.map_id _
theorem rel_names {sc : Ck.Sc} {scope : Scope} {D : Addr} {cl : List (Str × Addr)} (hs : X.env.scope.names = sc) (hk : X.env.scope.kind = .function) : (compEnvC scope cl D X.env).scope.names = Ck.rel sc scope.names := by
  subst hs
  have e : (compEnvC scope cl D X.env).scope.names = scope.names.map fun (p : Str × NameKind) => if (p.2 == NameKind.free && X.env.scope.kind == ScopeKind.function && X.env.scope.names.lookup p.1 == some NameKind.cell) then (p.1, NameKind.cell) else (p.1, p.2) := rfl
  rw [e, hk]
  unfold Ck.rel
  refine List.map_congr_left fun p hp => ?_
  have : (ScopeKind.function == ScopeKind.function) = true := rfl
  simp only [this, Bool.and_true]
theorem blk_ok {sc : Ck.Sc} {scope : Scope} {own : List (Str × Nat)} (hs : X.env.scope.names = sc) (h : blkC X.N (Ck.scp sc) scope own = true) : BlkOk X.N X.env.scope scope own := by
  have ok := blkOk_by h
  exact ⟨ok.kind, ok.uniq, ok.ix, fun y hy e => by rw [hs]; exact ok.free y hy e, ok.own⟩

/-! ### forms -/
theorem es_var (h : EnvOk G X T C) {sc : Ck.Sc} (hs : X.env.scope.names = sc) {i : Nat} {x : Str} {p : Pos} (q : vr X.N sc i x = true) : ES G X C (.var i) (.Name x p) := by
  obtain ⟨h1, h2, h3, h4⟩ := vr_of hs q
  have hv := sv_var (G := G) (pos := p) h1 h2 h3 h4
  refine ⟨hv, sb_var h1 h2 h3 h4, SEb.t h.b.K (sb_var h1 h2 h3 h4) (he_of rfl), fun q => (nomatch q), fun tg _ _ => sit_any h.b.K hv, sa_var h1 h2 h3 h4⟩
theorem es_bo1 {ir : E} {o : BoolOp} {x : Expr} {p : Pos} (h : ES G X C ir x) : ES G X C ir (.BoolOp o [x] p) := by
  have run : ∀ {σ : St} {H : Hp} {Q : VK}, wE X x σ H Q → wE X (.BoolOp o [x] p) σ H Q := fun q => (pe_one pe_w).w q
  refine ⟨sv_one h.v, fun sl sl' σ H T v ft g hm => run (h.b sl sl' σ H T v ft g hm), (sw_one h.t).t, fun _ => sw_one h.t, fun tg _ q => (nomatch q), fun sl sl' σ H T v ft g hm => run (h.arg sl sl' σ H T v ft g hm)⟩
theorem es_lit (h : EnvOk G X T C) {v : PV} {c : Const} {j : Nat} {p : Pos} (q : Ck.litOk v c = true) : ES G X C (.lit v) (.Constant c j p) := by
  refine ES.mk' h.b.K rfl rfl ?_
  cases v with
  | non => cases c with
    | none => exact sv_non
    | _ => cases q
  | bl a => cases c with
    | bool b =>
      have : a = b := by simpa [Ck.litOk] using q
      subst this
      exact sv_bl
    | _ => cases q
  | int a => cases c with
    | int b =>
      have : a = b := by simpa [Ck.litOk] using q
      subst this
      exact sv_int
    | _ => cases q
  | str a => cases c with
    | str b =>
      obtain ⟨q1, q2⟩ := and_of (show (decide (a = b) && PyData.strOk a) = true from q)
      have := of_decide_eq_true q1
      subst this
      exact sv_str q2
    | _ => cases q
  | _ => cases c <;> cases q
theorem es_glb (h : EnvOk G X T C) {sc : Ck.Sc} (hs : X.env.scope.names = sc) {g : Nat} {x : Str} {p : Pos} (q1 : T.glb.lookup x = some g) (q2 : gl sc x = true) (q3 : nodb x = true) : ES G X C (.glb g) (.Name x p) := by
  obtain ⟨u, v, pv, h1, h2, h3, h4⟩ := h.gb x g q1
  refine ES.mk' (m := Mini.ofO ((C.glb g).map .sh)) h.b.K rfl rfl ?_
  rw [h3]
  exact sv_const (pe_glob (gl_of hs q2) h1 h2 (nodb_of q3).1) h4
theorem opOf_eq (o : Mini.BOp) : Ck.opOf o = opOf o := by cases o <;> rfl
theorem cmOf_eq (o : Mini.COp) : Ck.cmOf o = cmOf o := by cases o <;> rfl
theorem es_bin (h : EnvOk G X T C) {o : Mini.BOp} {op : Operator} {a b : E} {x y : Expr} {p : Pos} (q : Ck.opOf o = op) (h1 : ES G X C a x) (h2 : ES G X C b y) : ES G X C (.bin o a b) (.BinOp x op y p) := by
  rw [opOf_eq] at q
  subst q
  exact ES.mk' h.b.K rfl rfl (sv_bin h.b h1.v h2.v)
theorem es_not (h : EnvOk G X T C) {a : E} {x : Expr} {p : Pos} (h1 : ES G X C a x) : ES G X C (.not_ a) (.UnaryOp .Not x p) := by
  have hv := sv_not (G := G) (pos := p) h.b.K h1.v
  exact ⟨hv, hv.b, st_not h1.t, fun q => (nomatch q), fun tg _ _ => sit_any h.b.K hv, hv.ar⟩
theorem es_and (h : EnvOk G X T C) {a b : E} {x y : Expr} {r : List Expr} {p : Pos} (h1 : ES G X C a x) (h2 : ES G X C b (.BoolOp .And (y :: r) p)) : ES G X C (.and_ a b) (.BoolOp .And (x :: y :: r) p) := by
  have hv := sv_and (G := G) h.b.K h1.v h2.v
  have hw := sw_and (G := G) h1.t (h2.w rfl)
  exact ⟨hv, hv.b, hw.t, fun _ => hw, fun tg _ _ => sit_any h.b.K hv, hv.ar⟩
theorem es_or (h : EnvOk G X T C) {a b : E} {x y : Expr} {r : List Expr} {p : Pos} (h1 : ES G X C a x) (h2 : ES G X C b (.BoolOp .Or (y :: r) p)) : ES G X C (.or_ a b) (.BoolOp .Or (x :: y :: r) p) := by
  have hv := sv_or (G := G) h.b.K h1.v h2.v
  have hw := sw_or (G := G) h1.t (h2.w rfl)
  exact ⟨hv, hv.b, hw.t, fun _ => hw, fun tg _ _ => sit_any h.b.K hv, hv.ar⟩
theorem es_cmp (h : EnvOk G X T C) {o : Mini.COp} {op : CmpOp} {a b : E} {x y : Expr} {p : Pos} (q : Ck.cmOf o = op) (h1 : ES G X C a x) (h2 : ES G X C b y) (q2 : notSet y = true) : ES G X C (.cmp o a b) (.Compare x [op] [y] p) := by
  rw [cmOf_eq] at q
  subst q
  have hv := sv_cmp (G := G) (pos := p) h.b h1.v h2.b (marks_of (o := cmOf o) q2)
  exact ⟨hv, hv.b, st_cmp h.b h1.v h2.b (marks_of q2), fun q => (nomatch q), fun tg _ _ => sit_any h.b.K hv, hv.ar⟩
theorem es_chn (h : EnvOk G X T C) {o o2 : Mini.COp} {op op2 : CmpOp} {a b c : E} {x y z : Expr} {p : Pos} (q : Ck.cmOf o = op) (q2 : Ck.cmOf o2 = op2) (h1 : ES G X C a x) (h2 : ES G X C b y) (h3 : ES G X C c z) (q3 : notSet z = true) : ES G X C (.chn o o2 a b c) (.Compare x [op, op2] [y, z] p) := by
  rw [cmOf_eq] at q q2
  subst q q2
  have hv := sv_chn (G := G) (pos := p) h.b h1.v h2.v h3.v (marks2_of (o := cmOf o) (p := cmOf o2) (a := y) q3)
  exact ⟨hv, hv.b, st_chn h.b h1.v h2.v h3.v (marks2_of q3), fun q => (nomatch q), fun tg _ _ => sit_any h.b.K hv, hv.ar⟩
theorem es_ite (h : EnvOk G X T C) {c a b : E} {x y z : Expr} {p : Pos} (h1 : ES G X C c x) (h2 : ES G X C a y) (h3 : ES G X C b z) : ES G X C (.ite c a b) (.IfExp x y z p) := by
  have hv := sv_ite (G := G) (pos := p) h1.t h2.v h3.v
  exact ⟨hv, hv.b, st_ite h1.t h2.t h3.t, fun q => (nomatch q), fun tg _ _ => sit_any h.b.K hv, hv.ar⟩
theorem es_idx (h : EnvOk G X T C) {sc : Ck.Sc} (hs : X.env.scope.names = sc) {a i : E} {x y : Expr} {p : Pos} (h1 : ES G X C a x) (h2 : ES G X C i y) (q : notSl y = true) (q2 : pl a x = true) (q3 : ∀ j z pz, a = .var j → x = .Name z pz → vr X.N sc j z = true) : ES G X C (.idx a i) (.Subscript x y p) := by
  cases a with
  | var j =>
    cases x with
    | Name z pz =>
      obtain ⟨e1, e2, e3, e4⟩ := vr_of hs (q3 j z pz rfl rfl)
      exact ES.mk' h.b.K rfl rfl (sv_idxP h.b e1 e2 e3 e4 h2.v (sl_of q))
    | _ => cases q2
  | _ => exact ES.mk' h.b.K rfl rfl (sv_idx h.b h1.v h2.v (sl_of q))
theorem es_slc (h : EnvOk G X T C) {sc : Ck.Sc} (hs : X.env.scope.names = sc) {a lo hi : E} {x : Expr} {l r : Option Expr} {p sp : Pos} (h1 : ES G X C a x) (hl : SEp G X l (Mini.partM lo (Mini.sem C lo).v)) (hh : SEp G X r (Mini.partM hi (Mini.sem C hi).v)) (q2 : pl a x = true) (q3 : ∀ j z pz, a = .var j → x = .Name z pz → vr X.N sc j z = true) :
    ES G X C (.slc a lo hi) (.Subscript x (.Slice l r none sp) p) := by
  cases a with
  | var j =>
    cases x with
    | Name z pz =>
      obtain ⟨e1, e2, e3, e4⟩ := vr_of hs (q3 j z pz rfl rfl)
      exact ES.mk' h.b.K rfl rfl (sv_slcP h.b e1 e2 e3 e4 hl hh)
    | _ => cases q2
  | _ => exact ES.mk' h.b.K rfl rfl (sv_slc h.b h1.v hl hh)
theorem es_fld (h : EnvOk G X T C) {sc : Ck.Sc} (hs : X.env.scope.names = sc) {a : E} {f : Nat} {x : Expr} {nm : Str} {p : Pos} (q : T.fld[f]? = some nm) (h1 : ES G X C a x) (q1 : noSup x = true) (q2 : pl a x = true) (q3 : ∀ j z pz, a = .var j → x = .Name z pz → vr X.N sc j z = true) : ES G X C (.fld a f) (.Attribute x nm p) := by
  have q := h.nm f nm q
  subst q
  cases a with
  | var j =>
    cases x with
    | Name z pz =>
      obtain ⟨e1, e2, e3, e4⟩ := vr_of hs (q3 j z pz rfl rfl)
      exact ES.mk' h.b.K rfl rfl (sv_fldP h.n h.fo e1 e2 e3 e4)
    | _ => cases q2
  | _ => exact ES.mk' h.b.K rfl rfl (sv_fld h.n h.fo h1.v (base_of q1))
end Snd
end

section
set_option Elab.async false
set_option linter.all false
set_option maxRecDepth 100000
/-! S30: what a check of an expression grants: calls, comprehensions, walks. -/
namespace Snd
open PySem PySem.Spec L2
open PyProof.Rows hiding St
open Mini (PV W Sl M E Ty)
open Ck (notStar notSl notFlow noSup notComp notSet isName isTup nodb vis loc isLoc gl vr anyIt notPrs pl bname)
variable {G : Gb} {X : Cx} {T : Ck.Tabs} {C : Mini.Ctx}

theorem bname_of (h : EnvOk G X T C) {sc : Ck.Sc} (hs : X.env.scope.names = sc) {x y : Str} (q : bname T sc x y = true) : x = y ∧ Gl X y ∧ X.mg y = none := by
  obtain ⟨q1, q2⟩ := and_of q
  obtain ⟨q2, q3⟩ := and_of q2
  have e : x = y := of_decide_eq_true q1
  subst e
  exact ⟨rfl, gl_of hs q2, h.fr _ (of_decide_eq_true q3)⟩
theorem boot_of {k : Mini.Bi} (hk : Ck.biOk k = true) : bootBuiltins (Ck.biN k) = some (biV k) := by
  cases k <;> first | (cases hk; done) | rfl
theorem biN_ne {k : Mini.Bi} : Ck.biN k ≠ "__name__" ∧ (Ck.biN k == ("__debug__" : Str)) = false := by
  cases k <;> exact ⟨by decide, by decide⟩
theorem ty_of (h : EnvOk G X T C) {sc : Ck.Sc} (hs : X.env.scope.names = sc) {t : Ty} {y : Expr} (q : Ck.tyC T sc t y = true) : PE X y (tC (tyV G t)) ∧ tyOk C.cok t = true ∧ notStar y = true := by
  cases y with
  | Name x p =>
    cases t with
    | cls c =>
      obtain ⟨q1, q2⟩ := and_of (show (decide (T.tys.lookup x = some c) && (gl sc x && nodb x)) = true from q)
      obtain ⟨q2, q3⟩ := and_of q2
      obtain ⟨h1, h2⟩ := h.ty x c (of_decide_eq_true q1)
      exact ⟨pe_glob (gl_of hs q2) h1 rfl (nodb_of q3).1, h2, rfl⟩
    | _ =>
      obtain ⟨rfl, h1, h2⟩ := bname_of h hs q
      exact ⟨pe_bltn h1 h2 rfl rfl (by decide) (by decide), rfl, rfl⟩
  | _ => cases t <;> cases q
theorem es_isi (h : EnvOk G X T C) {sc : Ck.Sc} (hs : X.env.scope.names = sc) {a : E} {ts : List Ty} {g : Str} {x y : Expr} {p gp : Pos} (q : bname T sc g "isinstance" = true) (h1 : ES G X C a x) (q1 : notStar x = true)
    (q2 : Ck.isiC T sc ts y = true) : ES G X C (.isi a ts) (.Call (.Name g gp) [x, y] [] p) := by
  obtain ⟨rfl, g1, g2⟩ := bname_of h hs q
  match ts, q2 with
  | [t], q2 =>
    obtain ⟨t1, t2, t3⟩ := ty_of h hs q2
    exact ES.mk' h.b.K rfl rfl (sv_isi h.b.K h.ko t2 g1 g2 h1.b t1 (star_cons q1) (star_cons t3) (by rw [star_cons t3]; rfl))
  | [t, u], q2 =>
    cases y with
    | Tuple ys kk tp =>
      match ys, q2 with
      | [y1, y2], q2 =>
        obtain ⟨e1, e2⟩ := and_of q2
        obtain ⟨t1, t2, t3⟩ := ty_of h hs e1
        obtain ⟨u1, u2, u3⟩ := ty_of h hs e2
        exact ES.mk' h.b.K rfl rfl (sv_isi2 h.b.K h.ko t2 u2 g1 g2 h1.b t1 u1 (star_cons q1) (star_cons t3) (star_cons u3))
    | _ => cases q2
theorem es_call (h : EnvOk G X T C) {sc : Ck.Sc} (hs : X.env.scope.names = sc) {f : Nat} {es : List E} {g : Str} {x : Expr} {xs : List Expr} {p gp : Pos} (q : T.fns.lookup g = some (f, es.length)) (q1 : gl sc g = true) (q2 : nodb g = true) (h1 : ALLS (ES G X C) es (x :: xs)) :
    ES G X C (.call f es) (.Call (.Name g gp) (x :: xs) [] p) := by
  obtain ⟨a, fd, ps, k, f1, f2, f3, f4, f5⟩ := h.fn g f _ q
  refine ES.mk' h.b.K rfl rfl ?_
  cases es with
  | nil => exact h1.elim
  | cons e es => exact sv_call f5 f4 (gl_of hs q1) f1 f2 f3 (nodb_of q2).1 (star_cons h1.2.1) (h1.2.2.stars _ _) h1.sas fun s as s' hm => args_len hm
theorem es_new (h : EnvOk G X T C) {sc : Ck.Sc} (hs : X.env.scope.names = sc) {c : Nat} {es : List E} {g : Str} {x : Expr} {xs : List Expr} {p gp : Pos} (q : T.cls.lookup g = some (c, es.length)) (q1 : gl sc g = true) (q2 : nodb g = true) (h1 : ALLS (ES G X C) es (x :: xs)) :
    ES G X C (.new c es) (.Call (.Name g gp) (x :: xs) [] p) := by
  obtain ⟨i, a, fd, ps, k, f1, f2, f3, f4, f5, f6⟩ := h.cl g c _ q
  refine ES.mk' (m := do let as ← Mini.evArgs C es; Mini.newM C c as) h.b.K rfl rfl ?_
  have e : Mini.newM C c = fun as => (fun s => match Mini.lendA as s with
      | some (ws, s1) => match C.call i (.obj c [] :: ws) with
        | .ok (.sh .non) (some w :: outs) => .ok w (Mini.backA as outs s1)
        | .ex x (_ :: outs) => .ex x (Mini.backA as outs s1)
        | _ => .no
      | none => .no : M W) := by
    funext as
    unfold Mini.newM
    rw [f1] <;> rfl
  rw [e]
  cases es with
  | nil => exact h1.elim
  | cons e es => exact sv_new f3 f6 f5 (gl_of hs q1) f2 f4 (nodb_of q2).1 (star_cons h1.2.1) (h1.2.2.stars _ _) h1.sas fun s as s' hm => args_len hm
theorem ES.mkIt {ir : E} {e : Expr} {m : M (List PV)} (hs : Mini.sem C ir = Mini.mkIt m) (hf : notFlow e = true) (h : ∀ tg, (anyIt ir = true ∨ isTup tg = true) → SEit X G tg e m) : ES G X C ir e := by
  refine ⟨?_, ?_, ?_, fun q => (notFlow_bo hf q).elim, fun tg q _ => ?_, ?_⟩ <;> rw [hs]
  · exact fun sl sl' σ H T w ft g hm => nomatch (show (Mini.R.no : Mini.R W) = .ok w sl' from hm)
  · exact fun sl sl' σ H T w ft g hm => nomatch (show (Mini.R.no : Mini.R PV) = .ok w sl' from hm)
  · exact fun sl sl' σ H T w ft g hm => nomatch (show (Mini.R.no : Mini.R Bool) = .ok w sl' from hm)
  · exact h tg q
  · exact fun sl sl' σ H T w ft g hm => nomatch (show (Mini.R.no : Mini.R Mini.Arg) = .ok w sl' from hm)
theorem es_rng1 (h : EnvOk G X T C) {sc : Ck.Sc} (hs : X.env.scope.names = sc) {a : E} {g : Str} {x : Expr} {p gp : Pos} (q : bname T sc g "range" = true) (h1 : ES G X C a x) (q1 : notStar x = true) : ES G X C (.blt .rng [a]) (.Call (.Name g gp) [x] [] p) := by
  obtain ⟨rfl, g1, g2⟩ := bname_of h hs q
  refine ES.mkIt rfl rfl fun tg _ => sit_rng1 g1 g2 h1.b (star_cons q1)
theorem es_rng2 (h : EnvOk G X T C) {sc : Ck.Sc} (hs : X.env.scope.names = sc) {a c : E} {g : Str} {x y : Expr} {p gp : Pos} (q : bname T sc g "range" = true) (h1 : ALLS (ES G X C) [a, c] [x, y]) : ES G X C (.blt .rng [a, c]) (.Call (.Name g gp) [x, y] [] p) := by
  obtain ⟨rfl, g1, g2⟩ := bname_of h hs q
  have e : starEach [y] X.env = [(false, eval y X.env)] := star_cons h1.2.2.2.1
  refine ES.mkIt rfl rfl fun tg _ => sit_rng2 g1 g2 h1.ss (fun s vs s' hm => vals_len hm) (by rw [star_cons h1.2.1, e]) e
theorem es_blt1 (h : EnvOk G X T C) {sc : Ck.Sc} (hs : X.env.scope.names = sc) {k : Mini.Bi} {a : E} {g : Str} {x : Expr} {p gp : Pos} (hk : Ck.biOk k = true) (q : bname T sc g (Ck.biN k) = true) (h1 : ES G X C a x) (q1 : notStar x = true) : ES G X C (.blt k [a]) (.Call (.Name g gp) [x] [] p) := by
  by_cases hr : k = .rng
  · subst hr; exact es_rng1 h hs q h1 q1
  · by_cases hp : k = .repr
    · subst hp
      obtain ⟨rfl, g1, g2⟩ := bname_of h hs q
      exact ES.mk' (m := do let v ← (Mini.sem C a).b; Mini.ofO (Mini.builtin C.rp .repr [v])) h.b.K rfl rfl (sv_repr h.b h.rp g1 g2 h1.b (star_cons q1))
    · obtain ⟨rfl, g1, g2⟩ := bname_of h hs q
      have n3 : k ≠ .lenSet := fun e => by subst e; cases hk
      by_cases hd : k = .dictK ∨ k = .dictT
      · refine ES.mk' (m := do let v ← (Mini.sem C a).b; Mini.ofO (Mini.builtin C.rp k [v])) h.b.K (by rcases hd with rfl | rfl <;> rfl) rfl (sv_dict h.b hd g1 g2 ((boot_of hk).trans (by rcases hd with rfl | rfl <;> rfl)) biN_ne.1 biN_ne.2 h1.b (star_cons q1))
      have n4 : k ≠ .dictK := fun e => hd (.inl e)
      have n5 : k ≠ .dictT := fun e => hd (.inr e)
      refine ES.mk' (m := do let v ← (Mini.sem C a).b; Mini.ofO (Mini.builtin C.rp k [v])) h.b.K (by cases k <;> first | rfl | exact absurd rfl hr) rfl (sv_blt1 h.b hp hr n3 n4 n5 g1 g2 (boot_of hk) biN_ne.1 biN_ne.2 h1.b (star_cons q1))
theorem es_blt2 (h : EnvOk G X T C) {sc : Ck.Sc} (hs : X.env.scope.names = sc) {k : Mini.Bi} {a c : E} {g : Str} {x y : Expr} {p gp : Pos} (hk : k = .min ∨ k = .max) (q : bname T sc g (Ck.biN k) = true) (h1 : ALLS (ES G X C) [a, c] [x, y]) : ES G X C (.blt k [a, c]) (.Call (.Name g gp) [x, y] [] p) := by
  obtain ⟨rfl, g1, g2⟩ := bname_of h hs q
  refine ES.mk' (m := do let vs ← Mini.evs C [a, c]; Mini.ofO (Mini.builtin C.rp k vs)) h.b.K (by rcases hk with rfl | rfl <;> rfl) rfl (sv_blt2 h.b hk g1 g2 (boot_of (by rcases hk with rfl | rfl <;> rfl)) biN_ne.1 biN_ne.2 h1.ss (star_cons h1.2.1) (h1.2.2.stars _ _))
theorem few_of {es : List E} {xs : List Expr} {p : Pos} (h1 : ALLS (ES G X C) es xs) (hl : es.length < 20) :
    ((backTo p (starEach xs X.env)).all (fun x => !x.1) && (backToKw p (keywordEach [] X.env)).all (fun x => x.1.isSome) && decide (xs.length + ([] : List Keyword).length + (if ([] : List Keyword).isEmpty then 0 else 1) < 30)) = true := by
  rw [h1.few]
  have : xs.length < 20 := by rw [← h1.len]; exact hl
  show (true && true && decide (xs.length + 0 + 0 < 30)) = true
  rw [decide_eq_true (by omega)]
  rfl
theorem es_join (h : EnvOk G X T C) {sc : Ck.Sc} (hs : X.env.scope.names = sc) {a c : E} {x y : Expr} {ap p : Pos} (h1 : ES G X C a x) (q1 : pl a x = true) (q2 : noSup x = true) (q3 : (ap.endLine == p.line) = true) (h2 : ALLS (ES G X C) [c] [y]) (q4 : ∀ j z pz, a = .var j → x = .Name z pz → vr X.N sc j z = true) :
    ES G X C (.meth .join a [c]) (.Call (.Attribute x "join" ap) [y] [] p) := by
  have e : starEach [y] X.env = [(false, eval y X.env)] := star_cons h2.2.1
  cases a with
  | var j =>
    cases x with
    | Name z pz =>
      obtain ⟨e1, e2, e3, e4⟩ := vr_of hs (q4 j z pz rfl rfl)
      exact ES.mk' h.b.K rfl rfl (sv_joinP h.b e1 e2 e3 e4 h2.1.v e q3)
    | _ => cases q1
  | _ => exact ES.mk' h.b.K rfl rfl (sv_join h.b h1.v h2.1.v e (base_of q2) q3)
theorem es_getD (h : EnvOk G X T C) {sc : Ck.Sc} (hs : X.env.scope.names = sc) {a c d : E} {x y z : Expr} {ap p : Pos} (h1 : ES G X C a x) (q1 : pl a x = true) (q2 : noSup x = true) (q3 : (ap.endLine == p.line) = true) (h2 : ALLS (ES G X C) [c, d] [y, z]) (q4 : ∀ j z pz, a = .var j → x = .Name z pz → vr X.N sc j z = true) :
    ES G X C (.meth .getD a [c, d]) (.Call (.Attribute x "get" ap) [y, z] [] p) := by
  have e : starEach [z] X.env = [(false, eval z X.env)] := star_cons h2.2.2.2.1
  have m2 : M2 X x "get" ap y z p := ⟨base_of q2, few_of h2 (by simp : [c, d].length < 20), q3, by rw [star_cons h2.2.1, e]; rfl⟩
  cases a with
  | var j =>
    cases x with
    | Name w pz =>
      obtain ⟨e1, e2, e3, e4⟩ := vr_of hs (q4 j w pz rfl rfl)
      exact ES.mk' h.b.K rfl rfl (sv_getDP h.b e1 e2 e3 e4 h2.1.v h2.2.2.1.v m2)
    | _ => cases q1
  | _ => exact ES.mk' h.b.K rfl rfl (sv_getD h.b h1.v h2.1.v h2.2.2.1.v m2)
theorem muN_eq {k : Mini.Mu} (hk : Ck.muOk k = true) : Ck.muN k = muN k ∧ (k = .append ∨ k = .extend ∨ k = .pop ∨ k = .popAt) := by
  cases k <;> first | (cases hk; done) | exact ⟨rfl, by simp⟩
theorem es_mut (h : EnvOk G X T C) {sc : Ck.Sc} (hs : X.env.scope.names = sc) {k : Mini.Mu} {i : Nat} {es : List E} {x : Str} {xp ap p : Pos} {y : Expr} {ys : List Expr} (hk : Ck.muOk k = true) (q : vr X.N sc i x = true) (q1 : (ap.endLine == p.line) = true) (q2 : es.length < 20) (h1 : ALLS (ES G X C) es (y :: ys)) :
    ES G X C (.mut k i none es) (.Call (.Attribute (.Name x xp) (Ck.muN k) ap) (y :: ys) [] p) := by
  obtain ⟨e1, e2, e3, e4⟩ := vr_of hs q
  obtain ⟨n1, n2⟩ := muN_eq hk
  rw [n1]
  refine ES.mk' h.b.K rfl rfl ?_
  cases es with
  | nil => exact h1.elim
  | cons e es => exact sv_mut h.b n2 e1 e2 e3 e4 h1.ss (few_of h1 q2) q1 (star_cons h1.2.1) (h1.2.2.stars _ _)
theorem es_pop (h : EnvOk G X T C) {sc : Ck.Sc} (hs : X.env.scope.names = sc) {i : Nat} {x : Str} {xp ap p : Pos} (q : vr X.N sc i x = true) (q1 : (ap.endLine == p.line) = true) : ES G X C (.mut .pop i none []) (.Call (.Attribute (.Name x xp) (Ck.muN .pop) ap) [] [] p) := by
  obtain ⟨e1, e2, e3, e4⟩ := vr_of hs q
  exact ES.mk' h.b.K rfl rfl (sv_mut0 h.b e1 e2 e3 e4 q1)
theorem form_ok {env : Env} {x nm : Str} {xp ap p : Pos} {xs : List Expr} (hf : methodCallForm (xs.length + ([] : List Keyword).length) (backTo p (starEach xs env)) (backToKw p (keywordEach [] env)) = true) (hl : (ap.endLine == p.line) = true) :
    ∃ pl, eval (.Call (.Attribute (.Name x xp) nm ap) xs [] p) env = (do
      let ov ← eval (.Name x xp) env
      standAt ap.atName
      let (f, first) ← holding [ov] (getMethod ov nm pl)
      callWith p f first (backTo p (starEach xs env)) (backToKw p (keywordEach [] env))) := by
  refine ⟨(do return (← importBound (.Name x xp) env).getD true), ?_⟩
  show (do
    let ov ← eval (.Name x xp) env
    standAt ap.atName
    methodCall (.Name x xp) nm ap p env ov (xs.length + ([] : List Keyword).length) (backTo p (starEach xs env)) (backToKw p (keywordEach [] env))) = _
  unfold methodCall
  rw [hf]
  have e : methodCallPos true (.Name x xp) env ap p = pure p := by
    unfold methodCallPos
    rw [hl]
    rfl
  rw [e]
  rfl
theorem es_omth (h : EnvOk G X T C) {sc : Ck.Sc} (hs : X.env.scope.names = sc) {m j : Nat} {es : List E} {x nm : Str} {xp ap p : Pos} {y : Expr} {ys : List Expr} (q : vr X.N sc j x = true) (q1 : T.mth[m]? = some (nm, es.length + 1)) (q2 : (ap.endLine == p.line) = true) (q3 : es.length < 20) (h1 : ALLS (ES G X C) es (y :: ys)) :
    ES G X C (.omth m (.var j) es) (.Call (.Attribute (.Name x xp) nm ap) (y :: ys) [] p) := by
  obtain ⟨e1, e2, e3, e4⟩ := vr_of hs q
  obtain ⟨m1, m2⟩ := h.mt m nm _ q1
  refine ES.mk' (m := do
      let c ← Mini.clsVar j
      match C.meth c m with
      | some f => do let as ← Mini.evArgs C es; Mini.callM (C.call f) (.rf j :: as)
      | none => Mini.fail) h.b.K rfl rfl ?_
  cases es with
  | nil => exact h1.elim
  | cons e es =>
    refine sv_omth (C := fun c => C.meth c m) (cc := C.call) e1 e2 e3 e4 m1 (fun cl i hi => ?_) (star_cons h1.2.1) (h1.2.2.stars _ _) (fun _ => form_ok ?_ q2) h1.sas fun s as s' hm => by rw [args_len hm, List.length_cons, h1.2.2.len]
    · obtain ⟨g, fd, ps, k', c1, c2, c3, c4, c5⟩ := m2 cl i hi
      exact ⟨g, fd, ps, _, k', c1, c2, c3, c4, c5, by rw [List.length_cons, h1.2.2.len]⟩
    · have := few_of (p := p) h1 q3
      exact this
end Snd
end

section
set_option Elab.async false
set_option linter.all false
set_option maxRecDepth 100000
/-! S31: comprehensions, walks; the whole check of an expression. -/
namespace Snd
open PySem PySem.Spec L2
open PyProof.Rows hiding St
open Mini (PV W Sl M E Ty)
open Ck (notStar notSl notFlow noSup notComp notSet isName isTup nodb vis loc isLoc gl vr anyIt notPrs pl bname)
variable {G : Gb} {X : Cx} {T : Ck.Tabs} {C : Mini.Ctx}

theorem isTup_of {tg : Expr} (h : isTup tg = true) : ∃ es k p, tg = .Tuple es k p := by
  cases tg <;> first | (cases h; done) | exact ⟨_, _, _, rfl⟩
theorem es_enm (h : EnvOk G X T C) {sc : Ck.Sc} (hs : X.env.scope.names = sc) {a : E} {g : Str} {x : Expr} {p gp : Pos} (q : bname T sc g "enumerate" = true) (h1 : ES G X C a x) (q1 : notStar x = true) : ES G X C (.enm a) (.Call (.Name g gp) [x] [] p) := by
  obtain ⟨rfl, g1, g2⟩ := bname_of h hs q
  refine ES.mkIt rfl rfl fun tg ht => ?_
  rcases ht with ht | ht
  · cases ht
  · obtain ⟨es, k, tp, rfl⟩ := isTup_of ht
    exact sit_enm h.b.K g1 g2 h1.v (star_cons q1)
theorem es_zp2 (h : EnvOk G X T C) {sc : Ck.Sc} (hs : X.env.scope.names = sc) {a b : E} {g : Str} {x y : Expr} {p gp : Pos} (q : bname T sc g "zip" = true) (h1 : ES G X C a x) (q1 : notStar x = true) (h2 : ES G X C b y) (q2 : notStar y = true) : ES G X C (.zp2 a b) (.Call (.Name g gp) [x, y] [] p) := by
  obtain ⟨rfl, g1, g2⟩ := bname_of h hs q
  refine ES.mkIt rfl rfl fun tg ht => ?_
  rcases ht with ht | ht
  · cases ht
  · obtain ⟨es, k, tp, rfl⟩ := isTup_of ht
    exact sit_zp2 h.b.K g1 g2 h1.v h2.v (star_cons q1) (star_cons q2) (by rw [star_cons q2]; rfl)
theorem es_zp3 (h : EnvOk G X T C) {sc : Ck.Sc} (hs : X.env.scope.names = sc) {a b c : E} {g : Str} {x y z : Expr} {p gp : Pos} (q : bname T sc g "zip" = true) (h1 : ES G X C a x) (q1 : notStar x = true) (h2 : ES G X C b y) (q2 : notStar y = true) (h3 : ES G X C c z) (q3 : notStar z = true) : ES G X C (.zp3 a b c) (.Call (.Name g gp) [x, y, z] [] p) := by
  obtain ⟨rfl, g1, g2⟩ := bname_of h hs q
  refine ES.mkIt rfl rfl fun tg ht => ?_
  rcases ht with ht | ht
  · cases ht
  · obtain ⟨es, k, tp, rfl⟩ := isTup_of ht
    exact sit_zp3 h.b.K g1 g2 h1.v h2.v h3.v (star_cons q1) (star_cons q2) (star_cons q3) (by rw [star_cons q2, star_cons q3]; rfl)
theorem opts_of : ∀ {ks : List (Option Expr)}, ks.all (·.isSome) = true → ks = (ks.filterMap id).map some
  | [], _ => rfl
  | none :: _, h => by simp at h
  | some k :: ks, h => by
    have : ks.all (·.isSome) = true := by simpa using h
    show some k :: ks = some k :: (ks.filterMap id).map some
    rw [← opts_of this]
theorem es_dct0 (h : EnvOk G X T C) {t : Bool} {p : Pos} : ES G X C (.dct t [] []) (.Dict [] [] p) := by
  cases t with
  | true => exact ES.mk' h.b.K rfl rfl sv_dnewT
  | false => exact ES.mk' (m := pure (.own (.dk []))) h.b.K rfl rfl sv_dnewK
theorem es_dctT (h : EnvOk G X T C) {ks vs : List E} {xs ys : List Expr} {p : Pos} (h1 : ALLS (ES G X C) ks xs) (h2 : ALLS (ES G X C) vs ys) (q : ks ≠ []) (q1 : ks.length ≤ 15) (q2 : ks.length = vs.length) : ES G X C (.dct true ks vs) (.Dict (xs.map some) ys p) := by
  have q0 : xs ≠ [] := fun e => by
    subst e
    cases ks with
    | nil => exact q rfl
    | cons _ _ => exact h1.elim
  refine ES.mk' h.b.K (m := do let ps ← Mini.evPs (Mini.evL C ks) (Mini.evL C vs); Mini.ofO ((Mini.mkDT ps []).map fun l => .own (.dt l))) (by cases ks with | nil => exact absurd rfl q | cons _ _ => rfl) rfl (sv_dctT (by have := h.b.un; omega) h1.svs h2.svs q0 (by rw [← h1.len]; exact q1) (by rw [← h1.len, ← h2.len]; exact q2))
theorem es_dct (h : EnvOk G X T C) {ks vs : List E} {xs ys : List Expr} {p : Pos} (h1 : ALLS (ES G X C) ks xs) (h2 : ALLS (ES G X C) vs ys) (q : ks ≠ []) (q1 : ks.length ≤ 15) (q2 : ks.length = vs.length) : ES G X C (.dct false ks vs) (.Dict (xs.map some) ys p) := by
  refine ES.mk' h.b.K rfl rfl (sv_dct h1.svs h2.svs (fun e => ?_) (by rw [← h1.len]; exact q1) (by rw [← h1.len, ← h2.len]; exact q2))
  subst e
  cases ks with
  | nil => exact q rfl
  | cons _ _ => exact h1.elim

/-! ### comprehensions -/
section
variable {sc : Ck.Sc} {n : Nat}
/-- what is checked in a block -/
def Rc (T : Ck.Tabs) (C : Mini.Ctx) (rc : Ck.Sc → E → Expr → Bool) (N : List Str) : Prop := ∀ {G : Gb} {X : Cx} {sc : Ck.Sc} {ir : E} {e : Expr}, EnvOk G X T C → X.N = N → X.env.scope.names = sc → X.env.scope.kind = .function → rc sc ir e = true → ES G X C ir e
theorem blk_es {rc : Ck.Sc → E → Expr → Bool} (R : Rc T C rc X.N) (h : EnvOk G X T C) (hs : X.env.scope.names = sc) (hk : X.env.scope.kind = .function) {scope : Scope} (ok : BlkOk X.N X.env.scope scope []) {ir : E} {e : Expr} (q : rc (Ck.rel sc scope.names) ir e = true) (s : Shared) (H : Hp) (D : Addr) (cl : List (Str × Addr)) (fp : List Addr) : ES G (Blk X scope s H D cl fp) C ir e :=
  R h.blk rfl (rel_names hs hk) ok.kind q
theorem blk_kind {scope : Scope} {own : List (Str × Nat)} (ok : BlkOk X.N X.env.scope scope own) (s : Shared) (H : Hp) (D : Addr) (cl : List (Str × Addr)) (fp : List Addr) : (Blk X scope s H D cl fp).env.scope.kind = .function := ok.kind
theorem ifs_of {rc : Ck.Sc → E → Expr → Bool} {ifs : List E} {cs : List Expr} {sc' : Ck.Sc} (q : Ck.ifC (rc sc') ifs cs = true) {X' : Cx} (f : ∀ c c', rc sc' c c' = true → ES G X' C c c') : SEts G X' cs (Mini.evTs C ifs) := by
  match ifs, cs, q with
  | [], [], _ => exact sts_nil
  | [c], [c'], q => exact sts_one (f c c' q).t
theorem es_comp {rc : Ck.Sc → E → Expr → Bool} (R : Rc T C rc X.N) (h : EnvOk G X T C) (hs : X.env.scope.names = sc) (hk : X.env.scope.kind = .function) {elt it : E} {own : List Nat} {tg : Mini.Tg} {ifs : List E} {x t i : Expr} {cs : List Expr} {scope : Scope} {p : Pos}
    (q1 : blkC X.N (Ck.scp sc) scope (Ck.ownP X.N own) = true) (q2 : Ck.ckT X.N true (Ck.notIn own) n (Ck.rel sc scope.names) tg t = true) (q3 : rc (Ck.rel sc scope.names) elt x = true)
    (q4 : Ck.ifC (rc (Ck.rel sc scope.names)) ifs cs = true) (q5 : rc sc it i = true) (q6 : anyIt it = true ∨ isTup t = true) (q7 : notSet i = true) (q8 : isBO1 i = false) :
    SEv G X (.ListComp x [⟨t, i, cs, 0⟩] scope p) (do let xs ← (Mini.sem C it).it; let r ← Mini.inBlock own (Mini.compLoop own tg (Mini.evTs C ifs) (Mini.frzR (Mini.sem C elt).v) xs []); pure (.own (.lst r))) := by
  have ok := blk_ok hs q1
  have hv := sv_lc (G := G) (pos := p) (t := tg) (mt := Mini.evTs C ifs) h.b.calm h.nd ((R h rfl hs hk q5).it t q6 q8) ok (fun s H D cl fp => ckT_ok n (X := Blk X scope s H D cl fp) rfl (rel_names hs hk) h.nd h.b.calm (.inl rfl) q2)
    (by rw [ownP_snd]; exact ckT_sg h.b.K n q2) (fun s H D cl fp => ifs_of q4 fun c c' q => R h.blk rfl (rel_names hs hk) ok.kind q) (fun s H D cl fp => (R h.blk rfl (rel_names hs hk) ok.kind q3).v) (fold_of q7)
  rw [ownP_snd] at hv
  exact hv
theorem es_setc {rc : Ck.Sc → E → Expr → Bool} (R : Rc T C rc X.N) (h : EnvOk G X T C) (hs : X.env.scope.names = sc) (hk : X.env.scope.kind = .function) {elt it : E} {own : List Nat} {tg : Mini.Tg} {ifs : List E} {x t i : Expr} {cs : List Expr} {scope : Scope} {p py sp : Pos} {y : Str} {j : Nat} {k : Bool} {P : Nat → Bool}
    (hy : X.N[j]? = some y) (hyl : X.env.scope.names.lookup y = some .local) (hsw : swapsWith (.ListComp x [⟨t, i, cs, 0⟩] scope p) (some (.Name y py)) sp.line X.env = pure true) (hP : P j = false)
    (q1 : blkC X.N (Ck.scp sc) scope (Ck.ownP X.N own) = true) (q2 : Ck.ckT X.N true (Ck.notIn own) n (Ck.rel sc scope.names) tg t = true) (q3 : rc (Ck.rel sc scope.names) elt x = true)
    (q4 : Ck.ifC (rc (Ck.rel sc scope.names)) ifs cs = true) (q5 : rc sc it i = true) (q6 : anyIt it = true ∨ isTup t = true) (q7 : notSet i = true) (q8 : isBO1 i = false) :
    SS G X P (.Assign [.Name y py] (.ListComp x [⟨t, i, cs, 0⟩] scope p) sp) (do let w ← (do let xs ← (Mini.sem C it).it; let r ← Mini.inBlock own (Mini.compLoop own tg (Mini.evTs C ifs) (Mini.frzR (Mini.sem C elt).v) xs []); pure (.own (.lst r))); Mini.stTg (.nm j k) w; pure .nx) := by
  have ok := blk_ok hs q1
  have hv := s_setLc (G := G) (pos := p) (spos := sp) (py := py) (t := tg) (k := k) (P := P) (mt := Mini.evTs C ifs) h.b.calm h.nd hy hyl hsw ((R h rfl hs hk q5).it t q6 q8) ok (fun s H D cl fp => ckT_ok n (X := Blk X scope s H D cl fp) rfl (rel_names hs hk) h.nd h.b.calm (.inl rfl) q2)
    (by rw [ownP_snd]; exact ckT_sg h.b.K n q2) (fun s H D cl fp => ifs_of q4 fun c c' q => R h.blk rfl (rel_names hs hk) ok.kind q) (fun s H D cl fp => (R h.blk rfl (rel_names hs hk) ok.kind q3).v) (fold_of q7) hP
  rw [ownP_snd] at hv
  exact hv
theorem rdp_of (h : EnvOk G X T C) (hs : X.env.scope.names = sc) {a : E} {ae : Expr} (q : Ck.ckP T X.N sc a ae = true) : RdPl G X ae (Mini.frzR (Mini.sem C a).v) ∧ noSup ae = true := by
  cases a with
  | var j =>
    cases ae with
    | Name x p =>
      obtain ⟨e1, e2, e3, e4⟩ := vr_of hs (show vr X.N sc j x = true from q)
      exact ⟨rd_var e1 e2 e3 e4, rfl⟩
    | _ => cases q
  | fld a f =>
    cases a with
    | var j =>
      cases ae with
      | Attribute o nm p =>
        cases o with
        | Name x px =>
          obtain ⟨q1, q2⟩ := and_of (show (vr X.N sc j x && decide (T.fld[f]? = some nm)) = true from q)
          obtain ⟨e1, e2, e3, e4⟩ := vr_of hs q1
          have q := h.nm f nm (of_decide_eq_true q2)
          subst q
          exact ⟨rd_fld h.n h.fo e1 e2 e3 e4, rfl⟩
        | _ => cases q
      | _ => cases q
    | _ => cases q
  | _ => cases q
theorem es_compD {rc : Ck.Sc → E → Expr → Bool} (R : Rc T C rc X.N) (h : EnvOk G X T C) (hs : X.env.scope.names = sc) (hk : X.env.scope.kind = .function) {elt a : E} {own : List Nat} {tg : Mini.Tg} {ifs : List E} {x t ae : Expr} {cs : List Expr} {scope : Scope} {p ap ip : Pos}
    (q1 : blkC X.N (Ck.scp sc) scope (Ck.ownP X.N own) = true) (q2 : Ck.ckT X.N true (Ck.notIn own) n (Ck.rel sc scope.names) tg t = true) (q3 : rc (Ck.rel sc scope.names) elt x = true)
    (q4 : Ck.ifC (rc (Ck.rel sc scope.names)) ifs cs = true) (q5 : Ck.ckP T X.N sc a ae = true) (q6 : isTup t = true) (q7 : (ap.endLine == ip.line) = true) :
    SEv G X (.ListComp x [⟨t, .Call (.Attribute ae "items" ap) [] [] ip, cs, 0⟩] scope p) (do let xs ← (do let v ← Mini.frzR (Mini.sem C a).v; Mini.ofO (Mini.pairs v)); let r ← Mini.inBlock own (Mini.compLoop own tg (Mini.evTs C ifs) (Mini.frzR (Mini.sem C elt).v) xs []); pure (.own (.lst r))) := by
  have ok := blk_ok hs q1
  obtain ⟨es, kk, tp, rfl⟩ := isTup_of q6
  obtain ⟨r1, r2⟩ := rdp_of h hs q5
  have hv := sv_lcD (G := G) (pos := p) (t := tg) (mt := Mini.evTs C ifs) h.b.calm h.nd r1 (base_of r2) q7 ok (fun s H D cl fp => ckT_ok n (X := Blk X scope s H D cl fp) rfl (rel_names hs hk) h.nd h.b.calm (.inl rfl) q2)
    (by intro Z; rw [ownP_snd]; exact ckT_sg (G := G.at Z) h.b.K n q2) (fun Z s H D cl fp => ifs_of q4 fun c c' q => R h.blk.z rfl (rel_names hs hk) ok.kind q) (fun Z s H D cl fp => (R h.blk.z rfl (rel_names hs hk) ok.kind q3).v)
  rw [ownP_snd] at hv
  exact hv
theorem es_dcomp {rc : Ck.Sc → E → Expr → Bool} (R : Rc T C rc X.N) (h : EnvOk G X T C) (hs : X.env.scope.names = sc) (hk : X.env.scope.kind = .function) {kx elt it : E} {tk : Bool} {own : List Nat} {tg : Mini.Tg} {ifs : List E} {x y t i : Expr} {cs : List Expr} {scope : Scope} {p : Pos}
    (q1 : blkC X.N (Ck.scp sc) scope (Ck.ownP X.N own) = true) (q2 : Ck.ckT X.N true (Ck.notIn own) n (Ck.rel sc scope.names) tg t = true) (q3 : rc (Ck.rel sc scope.names) kx x = true) (q3' : rc (Ck.rel sc scope.names) elt y = true)
    (q4 : Ck.ifC (rc (Ck.rel sc scope.names)) ifs cs = true) (q5 : rc sc it i = true) (q6 : anyIt it = true ∨ isTup t = true) (q7 : notSet i = true) (q8 : isBO1 i = false) : ES G X C (.dcomp tk kx elt own tg it ifs) (.DictComp x y [⟨t, i, cs, 0⟩] scope p) := by
  have ok := blk_ok hs q1
  have hv := sv_dc (G := G) (pos := p) (t := tg) (mt := Mini.evTs C ifs) h.b tk h.nd ((R h rfl hs hk q5).it t q6 q8) ok (fun s H D cl fp => ckT_ok n (X := Blk X scope s H D cl fp) rfl (rel_names hs hk) h.nd h.b.calm (.inl rfl) q2)
    (by rw [ownP_snd]; exact ckT_sg h.b.K n q2) (fun s H D cl fp => ifs_of q4 fun c c' q => R h.blk rfl (rel_names hs hk) ok.kind q) (fun s H D cl fp => (R h.blk rfl (rel_names hs hk) ok.kind q3).v) (fun s H D cl fp => (R h.blk rfl (rel_names hs hk) ok.kind q3').v) (fold_of q7)
  rw [ownP_snd] at hv
  exact ES.mk' h.b.K rfl rfl hv
theorem es_setdc {rc : Ck.Sc → E → Expr → Bool} (R : Rc T C rc X.N) (h : EnvOk G X T C) (hs : X.env.scope.names = sc) (hk : X.env.scope.kind = .function) {kx elt it : E} {tk : Bool} {own : List Nat} {tg : Mini.Tg} {ifs : List E} {x y' t i : Expr} {cs : List Expr} {scope : Scope} {p py sp : Pos} {y : Str} {j : Nat} {k : Bool} {P : Nat → Bool}
    (hy : X.N[j]? = some y) (hyl : X.env.scope.names.lookup y = some .local) (hsw : swapsWith (.DictComp x y' [⟨t, i, cs, 0⟩] scope p) (some (.Name y py)) sp.line X.env = pure true) (hP : P j = false)
    (q1 : blkC X.N (Ck.scp sc) scope (Ck.ownP X.N own) = true) (q2 : Ck.ckT X.N true (Ck.notIn own) n (Ck.rel sc scope.names) tg t = true) (q3 : rc (Ck.rel sc scope.names) kx x = true) (q3' : rc (Ck.rel sc scope.names) elt y' = true)
    (q4 : Ck.ifC (rc (Ck.rel sc scope.names)) ifs cs = true) (q5 : rc sc it i = true) (q6 : anyIt it = true ∨ isTup t = true) (q7 : notSet i = true) (q8 : isBO1 i = false) :
    SS G X P (.Assign [.Name y py] (.DictComp x y' [⟨t, i, cs, 0⟩] scope p) sp) (do let w ← (do let xs ← (Mini.sem C it).it; let r ← Mini.inBlock own (Mini.dcLoop own tg (Mini.evTs C ifs) (do let a ← (Mini.sem C kx).v; let b ← (Mini.sem C elt).v; pure (a.frz, b.frz)) xs (if tk then .dt [] else .dk [])); pure (.own r)); Mini.stTg (.nm j k) w; pure .nx) := by
  have ok := blk_ok hs q1
  have hv := s_setDc (G := G) (pos := p) (spos := sp) (py := py) (t := tg) (k := k) (P := P) (mt := Mini.evTs C ifs) h.b tk h.nd hy hyl hsw ((R h rfl hs hk q5).it t q6 q8) ok (fun s H D cl fp => ckT_ok n (X := Blk X scope s H D cl fp) rfl (rel_names hs hk) h.nd h.b.calm (.inl rfl) q2)
    (by rw [ownP_snd]; exact ckT_sg h.b.K n q2) (fun s H D cl fp => ifs_of q4 fun c c' q => R h.blk rfl (rel_names hs hk) ok.kind q) (fun s H D cl fp => (R h.blk rfl (rel_names hs hk) ok.kind q3).v) (fun s H D cl fp => (R h.blk rfl (rel_names hs hk) ok.kind q3').v) (fold_of q7) hP
  rw [ownP_snd] at hv
  exact hv
end
end Snd
end

section
set_option Elab.async false
set_option linter.all false
set_option maxRecDepth 100000
/-! S32: the whole check of an expression. -/
namespace Snd
open PySem PySem.Spec L2
open PyProof.Rows hiding St
open Mini (PV W Sl M E Ty)
open Ck (notStar notSl notFlow noSup notComp notSet isName isTup nodb vis loc isLoc gl vr anyIt notPrs pl bname)
variable {G : Gb} {X : Cx} {T : Ck.Tabs} {C : Mini.Ctx}

theorem bo1_of {i : Expr} (h : Ck.notBO1 i = true) : isBO1 i = false := by
  cases i with
  | BoolOp o vs p =>
    cases vs with
    | nil => rfl
    | cons a r => cases r with
      | nil => cases h
      | cons b r => rfl
  | _ => rfl
theorem part_of {rc : E → Expr → Bool} (R : ∀ a e, rc a e = true → ES G X C a e) {lo : E} {l : Option Expr} (q : Ck.part rc lo l = true) : SEp G X l (Mini.partM lo (Mini.sem C lo).v) := by
  cases l with
  | none => exact sp_none q
  | some e =>
    obtain ⟨q1, q2⟩ := and_of (show (!(Mini.isNoPart lo) && rc lo e) = true from q)
    exact sp_some (not_of q1) (R _ _ q2).v
/-- what a checked variable is -/
def VrR (rc : Ck.Sc → E → Expr → Bool) (N : List Str) : Prop := ∀ sc j z pz, rc sc (.var j) (.Name z pz) = true → vr N sc j z = true
set_option maxHeartbeats 4000000 in
theorem ckI_ok {rc : Ck.Sc → E → Expr → Bool} {n : Nat} (R : Rc T C rc X.N) (V : VrR rc X.N) (h : EnvOk G X T C) {sc : Ck.Sc} (hs : X.env.scope.names = sc) (hk : X.env.scope.kind = .function) {ir : E} {e : Expr} (q : Ck.ckI T X.N n rc sc ir e = true) : ES G X C ir e := by
  have R1 : ∀ a e, rc sc a e = true → ES G X C a e := fun a e q => R h rfl hs hk q
  have vv : ∀ {a : E} {x : Expr}, rc sc a x = true → ∀ j z pz, a = .var j → x = .Name z pz → vr X.N sc j z = true := fun q j z pz e1 e2 => V sc j z pz (by rw [← e1, ← e2]; exact q)
  cases ir with
  | var i =>
    cases e with
    | Name x p => exact es_var h hs q
    | _ => cases q
  | mov i =>
    cases e with
    | Name x p =>
      obtain ⟨e1, e2, e3, e4⟩ := vr_of hs (show vr X.N sc i x = true from q)
      exact ES.mk' h.b.K rfl rfl (sv_mov e1 e2 e3 e4)
    | _ => cases q
  | lit v =>
    cases e with
    | Constant c j p => exact es_lit h q
    | _ => cases q
  | glb g =>
    cases e with
    | Name x p =>
      obtain ⟨q1, q2⟩ := and_of (show (decide (T.glb.lookup x = some g) && (gl sc x && nodb x)) = true from q)
      exact es_glb h hs (of_decide_eq_true q1) (and_of q2).1 (and_of q2).2
    | _ => cases q
  | tup es =>
    cases e with
    | Tuple xs k p => exact ES.mk' h.b.K rfl rfl (sv_tup (all_of R1 q).ss)
    | _ => cases q
  | lst es =>
    cases e with
    | List xs p => exact ES.mk' h.b.K rfl rfl (sv_lst (all_of R1 q).ss)
    | _ => cases q
  | dct t ks vs =>
    cases e with
    | Dict ks' vs' p =>
      by_cases e0 : ks = [] ∧ vs = []
      · obtain ⟨rfl, rfl⟩ := e0
        obtain ⟨q1, q2⟩ := and_of (show (ks'.isEmpty && vs'.isEmpty) = true from q)
        have e1 : ks' = [] := by simpa using q1
        have e2 : vs' = [] := by simpa using q2
        subst e1 e2
        exact es_dct0 h
      · have q : (decide (ks.length ≤ 15) && (ks'.all (·.isSome) && (Ck.ckL (rc sc) ks (ks'.filterMap id) && (Ck.ckL (rc sc) vs vs' && decide (ks.length = vs.length))))) = true := by
          cases ks with
          | nil => cases vs with
            | nil => exact absurd ⟨rfl, rfl⟩ e0
            | cons _ _ => exact q
          | cons _ _ => exact q
        obtain ⟨q2, q⟩ := and_of q
        obtain ⟨q3, q⟩ := and_of q
        obtain ⟨q4, q⟩ := and_of q
        obtain ⟨q5, q6⟩ := and_of q
        have q6 : ks.length = vs.length := of_decide_eq_true q6
        rw [opts_of q3]
        have n0 : ks ≠ [] := fun e => by
          subst e
          exact e0 ⟨rfl, List.eq_nil_of_length_eq_zero q6.symm⟩
        cases t with
        | true => exact es_dctT h (all_of R1 q4) (all_of R1 q5) n0 (of_decide_eq_true q2) q6
        | false => exact es_dct h (all_of R1 q4) (all_of R1 q5) n0 (of_decide_eq_true q2) q6
    | _ => cases q
  | bin o a b =>
    cases e with
    | BinOp x op y p =>
      obtain ⟨q1, q⟩ := and_of (show (decide (Ck.opOf o = op) && (rc sc a x && rc sc b y)) = true from q)
      exact es_bin h (of_decide_eq_true q1) (R1 _ _ (and_of q).1) (R1 _ _ (and_of q).2)
    | _ => cases q
  | neg a =>
    cases e with
    | UnaryOp o x p =>
      cases o with
      | USub => exact ES.mk' h.b.K rfl rfl (sv_neg (R1 _ _ q).v)
      | _ => cases q
    | _ => cases q
  | not_ a =>
    cases e with
    | UnaryOp o x p =>
      cases o with
      | Not => exact es_not h (R1 _ _ q)
      | _ => cases q
    | _ => cases q
  | and_ a b =>
    cases e with
    | BoolOp o vs p =>
      match o, vs, q with
      | .And, x :: y :: r, q =>
        obtain ⟨q1, q2⟩ := and_of (show (rc sc a x && rc sc b (.BoolOp .And (y :: r) p)) = true from q)
        exact es_and h (R1 _ _ q1) (R1 _ _ q2)
    | _ => cases q
  | or_ a b =>
    cases e with
    | BoolOp o vs p =>
      match o, vs, q with
      | .Or, x :: y :: r, q =>
        obtain ⟨q1, q2⟩ := and_of (show (rc sc a x && rc sc b (.BoolOp .Or (y :: r) p)) = true from q)
        exact es_or h (R1 _ _ q1) (R1 _ _ q2)
    | _ => cases q
  | cmp o a b =>
    cases e with
    | Compare x ops cs p =>
      match ops, cs, q with
      | [op], [y], q =>
        obtain ⟨q1, q⟩ := and_of (show (decide (Ck.cmOf o = op) && (rc sc a x && (rc sc b y && notSet y))) = true from q)
        obtain ⟨q2, q⟩ := and_of q
        exact es_cmp h (of_decide_eq_true q1) (R1 _ _ q2) (R1 _ _ (and_of q).1) (and_of q).2
    | _ => cases q
  | chn o o2 a b c =>
    cases e with
    | Compare x ops cs p =>
      match ops, cs, q with
      | [op, op2], [y, z], q =>
        obtain ⟨q1, q⟩ := and_of (show (decide (Ck.cmOf o = op) && (decide (Ck.cmOf o2 = op2) && (rc sc a x && (rc sc b y && (rc sc c z && notSet z))))) = true from q)
        obtain ⟨q2, q⟩ := and_of q
        obtain ⟨q3, q⟩ := and_of q
        obtain ⟨q4, q⟩ := and_of q
        exact es_chn h (of_decide_eq_true q1) (of_decide_eq_true q2) (R1 _ _ q3) (R1 _ _ q4) (R1 _ _ (and_of q).1) (and_of q).2
    | _ => cases q
  | ite c a b =>
    cases e with
    | IfExp x y z p =>
      obtain ⟨q1, q⟩ := and_of (show (rc sc c x && (rc sc a y && rc sc b z)) = true from q)
      exact es_ite h (R1 _ _ q1) (R1 _ _ (and_of q).1) (R1 _ _ (and_of q).2)
    | _ => cases q
  | idx a i =>
    cases e with
    | Subscript x y p =>
      obtain ⟨q1, q⟩ := and_of (show (rc sc a x && (rc sc i y && (notSl y && pl a x))) = true from q)
      obtain ⟨q2, q⟩ := and_of q
      exact es_idx h hs (R1 _ _ q1) (R1 _ _ q2) (and_of q).1 (and_of q).2 (vv q1)
    | _ => cases q
  | slc a lo hi =>
    cases e with
    | Subscript x y p =>
      cases y with
      | Slice l r st sp =>
        cases st with
        | none =>
          obtain ⟨q1, q⟩ := and_of (show (rc sc a x && (Ck.part (rc sc) lo l && (Ck.part (rc sc) hi r && pl a x))) = true from q)
          obtain ⟨q2, q⟩ := and_of q
          exact es_slc h hs (R1 _ _ q1) (part_of R1 q2) (part_of R1 (and_of q).1) (and_of q).2 (vv q1)
        | some _ => cases q
      | _ => cases q
    | _ => cases q
  | rev a =>
    cases e with
    | Subscript x y p =>
      match y, q with
      | .Slice none none (some (.UnaryOp .USub (.Constant (.int 1) k p1) p2)) p3, q => exact ES.mk' h.b.K rfl rfl (sv_rev h.b (R1 _ _ (show rc sc a x = true from q)).b)
    | _ => cases q
  | fld a f =>
    cases e with
    | Attribute x nm p =>
      obtain ⟨q1, q⟩ := and_of (show (decide (T.fld[f]? = some nm) && (rc sc a x && (noSup x && pl a x))) = true from q)
      obtain ⟨q2, q⟩ := and_of q
      exact es_fld h hs (of_decide_eq_true q1) (R1 _ _ q2) (and_of q).1 (and_of q).2 (vv q2)
    | _ => cases q
  | isi a ts =>
    cases e with
    | Call f as kw p =>
      match f, as, kw, q with
      | .Name g gp, [x, y], [], q =>
        obtain ⟨q1, q⟩ := and_of (show (bname T sc g "isinstance" && (rc sc a x && (notStar x && Ck.isiC T sc ts y))) = true from q)
        obtain ⟨q2, q⟩ := and_of q
        exact es_isi h hs q1 (R1 _ _ q2) (and_of q).1 (and_of q).2
    | _ => cases q
  | call f es =>
    cases e with
    | Call f' as kw p =>
      match f', as, kw, q with
      | .Name g gp, x :: xs, [], q =>
        obtain ⟨q1, q⟩ := and_of (show (decide (T.fns.lookup g = some (f, es.length)) && (gl sc g && (nodb g && Ck.ckL (rc sc) es (x :: xs)))) = true from q)
        obtain ⟨q2, q⟩ := and_of q
        exact es_call h hs (of_decide_eq_true q1) q2 (and_of q).1 (all_of R1 (and_of q).2)
    | _ => cases q
  | new c es =>
    cases e with
    | Call f' as kw p =>
      match f', as, kw, q with
      | .Name g gp, x :: xs, [], q =>
        obtain ⟨q1, q⟩ := and_of (show (decide (T.cls.lookup g = some (c, es.length)) && (gl sc g && (nodb g && Ck.ckL (rc sc) es (x :: xs)))) = true from q)
        obtain ⟨q2, q⟩ := and_of q
        exact es_new h hs (of_decide_eq_true q1) q2 (and_of q).1 (all_of R1 (and_of q).2)
    | _ => cases q
  | blt k es =>
    cases e with
    | Call f' as kw p =>
      match f', kw, q with
      | .Name g gp, [], q =>
        obtain ⟨q1, q⟩ := and_of (show (bname T sc g (Ck.biN k) && (Ck.biOk k && (Ck.ckL (rc sc) es as && Ck.arC k es))) = true from q)
        obtain ⟨q2, q⟩ := and_of q
        obtain ⟨q3, q⟩ := and_of q
        have al := all_of R1 q3
        match es, as, al, q with
        | [a], [x], al, q => exact es_blt1 h hs q2 q1 al.1 al.2.1
        | [a, b], [x, y], al, q =>
          cases k with
          | min => exact es_blt2 h hs (.inl rfl) q1 al
          | max => exact es_blt2 h hs (.inr rfl) q1 al
          | rng => exact es_rng2 h hs q1 al
          | _ => cases q
    | _ => cases q
  | meth m a es =>
    cases e with
    | Call f' as kw p =>
      match f', kw, q with
      | .Attribute x nm ap, [], q =>
        obtain ⟨q1, q⟩ := and_of (show (rc sc a x && (pl a x && (noSup x && (ap.endLine == p.line && (Ck.ckL (rc sc) es as && Ck.meC nm m es))))) = true from q)
        obtain ⟨q2, q⟩ := and_of q
        obtain ⟨q3, q⟩ := and_of q
        obtain ⟨q4, q⟩ := and_of q
        obtain ⟨q5, q⟩ := and_of q
        have al := all_of R1 q5
        match m, es, as, al, q with
        | .join, [c], [y], al, q =>
          have q : nm = "join" := of_decide_eq_true q
          subst q
          exact es_join h hs (R1 _ _ q1) q2 q3 q4 al (vv q1)
        | .getD, [c, d], [y, z], al, q =>
          have q : nm = "get" := of_decide_eq_true q
          subst q
          exact es_getD h hs (R1 _ _ q1) q2 q3 q4 al (vv q1)
    | _ => cases q
  | «mut» m i f es =>
    cases e with
    | Call f' as kw p =>
      match f', kw, q with
      | .Attribute (.Name x xp) nm ap, [], q =>
        obtain ⟨q1, q⟩ := and_of (show (f.isNone && (Ck.muOk m && (decide (nm = Ck.muN m) && (vr X.N sc i x && (ap.endLine == p.line && (decide (es.length < 20) && (Ck.ckL (rc sc) es as && Ck.muC m es))))))) = true from q)
        obtain ⟨q2, q⟩ := and_of q
        obtain ⟨q3, q⟩ := and_of q
        obtain ⟨q4, q⟩ := and_of q
        obtain ⟨q5, q⟩ := and_of q
        obtain ⟨q6, q⟩ := and_of q
        obtain ⟨q7, q8⟩ := and_of q
        have al := all_of R1 q7
        have q1 : f = none := by simpa using q1
        have q3 : nm = Ck.muN m := of_decide_eq_true q3
        subst q1 q3
        cases es with
        | nil =>
          cases as with
          | cons _ _ => exact al.elim
          | nil =>
            cases m with
            | pop => exact es_pop h hs q4 q5
            | _ => cases q8
        | cons a es =>
          cases as with
          | nil => exact al.elim
          | cons y ys => exact es_mut h hs q2 q4 q5 (of_decide_eq_true q6) al
    | _ => cases q
  | omth m a es =>
    cases e with
    | Call f' as kw p =>
      match f', as, kw, a, q with
      | .Attribute (.Name x xp) nm ap, y :: ys, [], .var j, q =>
        obtain ⟨q1, q⟩ := and_of (show (vr X.N sc j x && (decide (T.mth[m]? = some (nm, es.length + 1)) && (ap.endLine == p.line && (decide (es.length < 20) && Ck.ckL (rc sc) es (y :: ys))))) = true from q)
        obtain ⟨q2, q⟩ := and_of q
        obtain ⟨q3, q⟩ := and_of q
        exact es_omth h hs q1 (of_decide_eq_true q2) q3 (of_decide_eq_true (and_of q).1) (all_of R1 (and_of q).2)
    | _ => cases q
  | comp elt own tg it ifs =>
    cases e with
    | ListComp x gs scope p =>
      match gs, q with
      | [⟨t, i, cs, 0⟩], q =>
        by_cases hp : ∃ a, it = .prs a
        · obtain ⟨a, rfl⟩ := hp
          obtain ⟨q1, q⟩ := and_of (show (blkC X.N (Ck.scp sc) scope (Ck.ownP X.N own) && (Ck.ckT X.N true (Ck.notIn own) n (Ck.rel sc scope.names) tg t && (rc (Ck.rel sc scope.names) elt x && (Ck.ifC (rc (Ck.rel sc scope.names)) ifs cs && Ck.prC T X.N sc a t i)))) = true from q)
          obtain ⟨q2, q⟩ := and_of q
          obtain ⟨q3, q⟩ := and_of q
          obtain ⟨q4, q5⟩ := and_of q
          match i, q5 with
          | .Call (.Attribute ae nm ap) [] [] ip, q5 =>
            obtain ⟨q6, q7⟩ := and_of (show (decide (nm = ("items" : Str)) && (Ck.ckP T X.N sc a ae && (ap.endLine == ip.line && isTup t))) = true from q5)
            obtain ⟨q7, q8⟩ := and_of q7
            have q6 : nm = "items" := of_decide_eq_true q6
            subst q6
            exact ES.mk' h.b.K rfl rfl (es_compD R h hs hk q1 q2 q3 q4 q7 (and_of q8).2 (and_of q8).1)
        · have q : (blkC X.N (Ck.scp sc) scope (Ck.ownP X.N own) && (Ck.ckT X.N true (Ck.notIn own) n (Ck.rel sc scope.names) tg t && (rc (Ck.rel sc scope.names) elt x && (Ck.ifC (rc (Ck.rel sc scope.names)) ifs cs && (rc sc it i && ((anyIt it || isTup t) && (notSet i && Ck.notBO1 i))))))) = true := by
            cases it with
            | prs a => exact absurd ⟨a, rfl⟩ hp
            | _ => exact q
          obtain ⟨q1, q⟩ := and_of q
          obtain ⟨q2, q⟩ := and_of q
          obtain ⟨q3, q⟩ := and_of q
          obtain ⟨q4, q⟩ := and_of q
          obtain ⟨q5, q⟩ := and_of q
          obtain ⟨q6, q⟩ := and_of q
          exact ES.mk' h.b.K rfl rfl (es_comp R h hs hk q1 q2 q3 q4 q5 (Bool.or_eq_true_iff.mp q6) (and_of q).1 (bo1_of (and_of q).2))
    | _ => cases q
  | dcomp tk k v own tg it ifs =>
    cases e with
    | DictComp x y gs scope p =>
      match gs, q with
      | [⟨t, i, cs, 0⟩], q =>
        obtain ⟨q1, q⟩ := and_of (show (blkC X.N (Ck.scp sc) scope (Ck.ownP X.N own) && (Ck.ckT X.N true (Ck.notIn own) n (Ck.rel sc scope.names) tg t && (rc (Ck.rel sc scope.names) k x && (rc (Ck.rel sc scope.names) v y && (Ck.ifC (rc (Ck.rel sc scope.names)) ifs cs && (rc sc it i && (notPrs it && ((anyIt it || isTup t) && (notSet i && Ck.notBO1 i))))))))) = true from q)
        obtain ⟨q2, q⟩ := and_of q
        obtain ⟨q3, q⟩ := and_of q
        obtain ⟨q3', q⟩ := and_of q
        obtain ⟨q4, q⟩ := and_of q
        obtain ⟨q5, q⟩ := and_of q
        obtain ⟨_, q⟩ := and_of q
        obtain ⟨q6, q⟩ := and_of q
        exact es_dcomp R h hs hk q1 q2 q3 q3' q4 q5 (Bool.or_eq_true_iff.mp q6) (and_of q).1 (bo1_of (and_of q).2)
    | _ => cases q
  | enm a =>
    cases e with
    | Call f' as kw p =>
      match f', as, kw, q with
      | .Name g gp, [x], [], q =>
        obtain ⟨q1, q⟩ := and_of (show (bname T sc g "enumerate" && (rc sc a x && notStar x)) = true from q)
        exact es_enm h hs q1 (R1 _ _ (and_of q).1) (and_of q).2
    | _ => cases q
  | zp2 a b =>
    cases e with
    | Call f' as kw p =>
      match f', as, kw, q with
      | .Name g gp, [x, y], [], q =>
        obtain ⟨q1, q⟩ := and_of (show (bname T sc g "zip" && (rc sc a x && (notStar x && (rc sc b y && notStar y)))) = true from q)
        obtain ⟨q2, q⟩ := and_of q
        obtain ⟨q3, q⟩ := and_of q
        exact es_zp2 h hs q1 (R1 _ _ q2) q3 (R1 _ _ (and_of q).1) (and_of q).2
    | _ => cases q
  | zp3 a b c =>
    cases e with
    | Call f' as kw p =>
      match f', as, kw, q with
      | .Name g gp, [x, y, z], [], q =>
        obtain ⟨q1, q⟩ := and_of (show (bname T sc g "zip" && (rc sc a x && (notStar x && (rc sc b y && (notStar y && (rc sc c z && notStar z)))))) = true from q)
        obtain ⟨q2, q⟩ := and_of q
        obtain ⟨q3, q⟩ := and_of q
        obtain ⟨q4, q⟩ := and_of q
        obtain ⟨q5, q⟩ := and_of q
        exact es_zp3 h hs q1 (R1 _ _ q2) q3 (R1 _ _ q4) q5 (R1 _ _ (and_of q).1) (and_of q).2
    | _ => cases q
  | _ => cases e <;> cases q
theorem ck_step {N : List Str} {n : Nat} {sc : Ck.Sc} {ir : E} {e : Expr} (h : Ck.ck T N (n + 1) sc ir e = true) : (∃ o x p, e = .BoolOp o [x] p ∧ Ck.ck T N n sc ir x = true) ∨ Ck.ckI T N n (Ck.ck T N n) sc ir e = true := by
  cases e with
  | BoolOp o vs p =>
    cases vs with
    | nil => exact .inr h
    | cons a r => cases r with
      | nil => exact .inl ⟨o, a, p, rfl, h⟩
      | cons b r => exact .inr h
  | _ => exact .inr h
theorem vr_ck {N : List Str} : ∀ n, VrR (Ck.ck T N n) N
  | 0 => fun _ _ _ _ q => nomatch q
  | n + 1 => fun _ _ _ _ q => q
theorem ck_ok {N : List Str} : ∀ n, Rc T C (Ck.ck T N n) N
  | 0 => fun _ _ _ _ q => nomatch q
  | n + 1 => fun h hN hs hk q => by
    subst hN
    rcases ck_step q with ⟨o, x, p, rfl, q⟩ | q
    · exact es_bo1 (ck_ok n h rfl hs hk q)
    · exact ckI_ok (ck_ok n) (vr_ck n) h hs hk q
end Snd
end

section
set_option Elab.async false
set_option linter.all false
set_option maxRecDepth 100000
/-! S33: the whole check of a statement. -/
namespace Snd
open PySem PySem.Spec L2
open PyProof.Rows hiding St
open Mini (PV W Sl M E Ty Fl S)
open Ck (notStar notSl notFlow noSup notComp notSet isName isTup nodb vis loc isLoc gl vr anyIt notPrs pl bname)
variable {G : Gb} {X : Cx} {T : Ck.Tabs} {C : Mini.Ctx} {P : Nat → Bool} {sc : Ck.Sc}

theorem bk_fn (hk : X.env.scope.kind = .function) : X.env.blockKind = .function := by
  unfold Env.blockKind
  rw [hk]
  rfl
theorem isLoc_eq (hs : X.env.scope.names = sc) (x : Str) : (X.env.kindOf x == some .local) = isLoc sc x := by
  subst hs
  unfold Ck.isLoc Env.kindOf
  split
  · rename_i h; rw [h]; rfl
  · rename_i h
    cases q : X.env.scope.names.lookup x with
    | none => rfl
    | some k => cases k <;> first | exact absurd q h | rfl
theorem sw_eq (hs : X.env.scope.names = sc) (hk : X.env.scope.kind = .function) (v : Expr) (y : Str) (py : Pos) (l : Nat) : swapsWith v (some (.Name y py)) l X.env = pure (Ck.swC sc v y py.line) := by
  have e1 := bk_fn hk
  have e2 := isLoc_eq hs y
  cases v with
  | ListComp elt gs s p =>
    show (pure (X.env.blockKind == .function && X.env.kindOf y == some .local && py.line == p.line && !(s.names.any fun (n, k) => n == y && (k == .local || k == .cell))) : Sem Bool) = _
    rw [e1, e2]
    show (pure _ : Sem Bool) = pure (isLoc sc y && (py.line == p.line && !(s.names.any fun (n, k) => n == y && (k == .local || k == .cell))))
    rw [show (ScopeKind.function == ScopeKind.function) = true from rfl, Bool.true_and, Bool.and_assoc]
  | SetComp elt gs s p =>
    show (pure (X.env.blockKind == .function && X.env.kindOf y == some .local && py.line == p.line && !(s.names.any fun (n, k) => n == y && (k == .local || k == .cell))) : Sem Bool) = _
    rw [e1, e2]
    show (pure _ : Sem Bool) = pure (isLoc sc y && (py.line == p.line && !(s.names.any fun (n, k) => n == y && (k == .local || k == .cell))))
    rw [show (ScopeKind.function == ScopeKind.function) = true from rfl, Bool.true_and, Bool.and_assoc]
  | DictComp a b gs s p =>
    show (pure (X.env.blockKind == .function && X.env.kindOf y == some .local && py.line == p.line && !(s.names.any fun (n, k) => n == y && (k == .local || k == .cell))) : Sem Bool) = _
    rw [e1, e2]
    show (pure _ : Sem Bool) = pure (isLoc sc y && (py.line == p.line && !(s.names.any fun (n, k) => n == y && (k == .local || k == .cell))))
    rw [show (ScopeKind.function == ScopeKind.function) = true from rfl, Bool.true_and, Bool.and_assoc]
  | _ => rfl
theorem ckT_nm {N : List Str} {n : Nat} {b : Bool} {t : Mini.Tg} {y : Str} {py : Pos} (h : Ck.ckT N b P n sc t (.Name y py) = true) : ∃ i k, t = .nm i k ∧ N[i]? = some y ∧ P i = false := by
  cases n with
  | zero => cases h
  | succ n =>
    cases t with
    | nm i k =>
      obtain ⟨h1, h2⟩ := and_of (show (decide (N[i]? = some y) && ((if b then isLoc sc y else loc sc y) && !(P i))) = true from h)
      exact ⟨i, k, rfl, of_decide_eq_true h1, not_of (and_of h2).2⟩
    | tp ts => cases h
theorem ss_asg {n m : Nat} (h : EnvOk G X T C) (hs : X.env.scope.names = sc) (hk : X.env.scope.kind = .function) (hl : ∀ x, loc sc x = true → X.fn x = true ∨ isLoc sc x = true) {t : Mini.Tg} {v : E} {tg x : Expr} {p : Pos}
    (q1 : Ck.ck T X.N n sc v x = true) (q2 : Ck.ckT X.N false P m sc t tg = true) (q3 : Ck.asgC X.N sc v x tg = true) : SS G X P (.Assign [tg] x p) (Mini.exS C (.asg t v)) := by
  have hx := ck_ok n h rfl hs hk q1
  cases tg with
  | Name y py =>
    obtain ⟨i, k, rfl, hN, hP⟩ := ckT_nm q2
    have q3 : (match Ck.swC sc x y py.line with
      | true => Ck.lcC v x
      | false => true) = true := q3
    have sw := sw_eq hs hk x y py p.line
    cases hw : Ck.swC sc x y py.line with
    | false =>
      rw [hw] at sw
      exact s_asg hx.v (ckT_ok m rfl hs h.nd h.b.calm (.inr hl) q2) (ckT_sg h.b.K m q2) sw rfl rfl
    | true =>
      rw [hw] at q3 sw
      cases v with
      | comp elt own tg it ifs =>
        cases x with
        | ListComp xe gs scope lp =>
          have q3 : notPrs it = true := q3
          cases n with
          | zero => cases q1
          | succ n =>
            have q1 : Ck.ckI T X.N n (Ck.ck T X.N n) sc (.comp elt own tg it ifs) (.ListComp xe gs scope lp) = true := q1
            match gs, q1, sw with
            | [⟨t, i', cs, 0⟩], q1, sw =>
              have q : (blkC X.N (Ck.scp sc) scope (Ck.ownP X.N own) && (Ck.ckT X.N true (Ck.notIn own) n (Ck.rel sc scope.names) tg t && (Ck.ck T X.N n (Ck.rel sc scope.names) elt xe && (Ck.ifC (Ck.ck T X.N n (Ck.rel sc scope.names)) ifs cs && (Ck.ck T X.N n sc it i' && ((anyIt it || isTup t) && (notSet i' && Ck.notBO1 i'))))))) = true := by
                cases it with
                | prs a => cases q3
                | _ => exact q1
              obtain ⟨r1, q⟩ := and_of q
              obtain ⟨r2, q⟩ := and_of q
              obtain ⟨r3, q⟩ := and_of q
              obtain ⟨r4, q⟩ := and_of q
              obtain ⟨r5, q⟩ := and_of q
              obtain ⟨r6, q⟩ := and_of q
              have hloc : X.env.scope.names.lookup y = some .local := isLoc_of hs (and_of (show (isLoc sc y && (py.line == lp.line && !(scope.names.any fun (n, k) => n == y && (k == .local || k == .cell)))) = true from hw)).1
              exact es_setc (ck_ok n) h hs hk hN hloc sw hP r1 r2 r3 r4 r5 (Bool.or_eq_true_iff.mp r6) (and_of q).1 (bo1_of (and_of q).2)
        | _ => cases q3
      | dcomp tk kx elt own tg it ifs =>
        cases x with
        | DictComp xe ye gs scope lp =>
          cases n with
          | zero => cases q1
          | succ n =>
            have q1 : Ck.ckI T X.N n (Ck.ck T X.N n) sc (.dcomp tk kx elt own tg it ifs) (.DictComp xe ye gs scope lp) = true := q1
            match gs, q1, sw with
            | [⟨t, i', cs, 0⟩], q1, sw =>
              obtain ⟨r1, q⟩ := and_of (show (blkC X.N (Ck.scp sc) scope (Ck.ownP X.N own) && (Ck.ckT X.N true (Ck.notIn own) n (Ck.rel sc scope.names) tg t && (Ck.ck T X.N n (Ck.rel sc scope.names) kx xe && (Ck.ck T X.N n (Ck.rel sc scope.names) elt ye && (Ck.ifC (Ck.ck T X.N n (Ck.rel sc scope.names)) ifs cs && (Ck.ck T X.N n sc it i' && (notPrs it && ((anyIt it || isTup t) && (notSet i' && Ck.notBO1 i'))))))))) = true from q1)
              obtain ⟨r2, q⟩ := and_of q
              obtain ⟨r3, q⟩ := and_of q
              obtain ⟨r3', q⟩ := and_of q
              obtain ⟨r4, q⟩ := and_of q
              obtain ⟨r5, q⟩ := and_of q
              obtain ⟨_, q⟩ := and_of q
              obtain ⟨r6, q⟩ := and_of q
              have hloc : X.env.scope.names.lookup y = some .local := isLoc_of hs (and_of (show (isLoc sc y && (py.line == lp.line && !(scope.names.any fun (n, k) => n == y && (k == .local || k == .cell)))) = true from hw)).1
              exact es_setdc (ck_ok n) h hs hk hN hloc sw hP r1 r2 r3 r3' r4 r5 (Bool.or_eq_true_iff.mp r6) (and_of q).1 (bo1_of (and_of q).2)
        | _ => cases q3
      | _ => cases q3
  | Tuple ts tk tp =>
    obtain ⟨r1, r2⟩ := and_of (show (Ck.notTupE x && notComp x) = true from q3)
    refine s_asg hx.v (ckT_ok m rfl hs h.nd h.b.calm (.inr hl) q2) (ckT_sg h.b.K m q2) ?_ ?_ rfl
    · cases x <;> first | (cases r2; done) | rfl
    · cases x <;> first | (cases r1; done) | rfl
  | _ => cases q3
theorem swapped2 (hs : X.env.scope.names = sc) (hk : X.env.scope.kind = .function) {x y : Str} {px py pt pt2 : Pos} {kt k2 : Nat} {a c : Expr} (h1 : notStar a = true) (h2 : notStar c = true) (hx : isLoc sc x = true) (hy : isLoc sc y = true) (hl : (px.line == py.line) = true) (hne : x ≠ y)
    (n1 : [a, c].all (constantsAlone 8) = false) (n2 : [a, c].all (foldedForSure 8) = false) : swappedStores [.Tuple [.Name x px, .Name y py] kt pt] (.Tuple [a, c] k2 pt2) X.env = pure (some [x, y]) := by
  have e1 := bk_fn hk
  have e2 := isLoc_eq hs x
  have e3 := isLoc_eq hs y
  have hl2 : (py.line == px.line) = true := by simpa using (by simpa using hl : px.line = py.line).symm
  have hd : ([x, y].eraseDups.length != [x, y].length) = false := by
    have : (y == x) = false := by simpa using fun e : y = x => hne e.symm
    simp [List.eraseDups_cons, this]
  unfold swappedStores
  simp only [List.length_cons, List.length_nil, e1, n1, n2, Expr.pos, List.head?_cons, Option.map_some, Option.getD_some, List.filterMap_cons, List.filterMap_nil, e2, e3, hx, hy, hl2, beq_self_eq_true, Bool.and_self, if_true, hd]
  refine (if_neg (by decide)).trans ((if_neg fun hh => ?_).trans ((if_neg ?_).trans rfl))
  · obtain ⟨e, me, he⟩ := List.any_eq_true.mp hh
    have : notStar e = true := by
      simp only [List.mem_cons, List.not_mem_nil, or_false] at me
      rcases me with rfl | rfl <;> assumption
    cases e <;> first | (cases he; done) | (cases this; done)
  · rw [show ([x, y].eraseDups.length != 0 + 1 + 1) = false from hd]
    decide
theorem swapped3 (hs : X.env.scope.names = sc) (hk : X.env.scope.kind = .function) {x y z : Str} {px py pz pt pt2 : Pos} {kt k2 : Nat} {a c d : Expr} (h1 : notStar a = true) (h2 : notStar c = true) (h3 : notStar d = true) (hx : isLoc sc x = true) (hy : isLoc sc y = true) (hz : isLoc sc z = true) (hl : (px.line == py.line) = true) (hl' : (px.line == pz.line) = true) (hne : x ≠ y) (hne' : x ≠ z) (hne2 : y ≠ z)
    (n1 : [a, c, d].all (constantsAlone 8) = false) (n2 : [a, c, d].all (foldedForSure 8) = false) : swappedStores [.Tuple [.Name x px, .Name y py, .Name z pz] kt pt] (.Tuple [a, c, d] k2 pt2) X.env = pure (some [x, y, z]) := by
  have e1 := bk_fn hk
  have e2 := isLoc_eq hs x
  have e3 := isLoc_eq hs y
  have e4 := isLoc_eq hs z
  have hl2 : (py.line == px.line) = true := by simpa using (by simpa using hl : px.line = py.line).symm
  have hl3 : (pz.line == px.line) = true := by simpa using (by simpa using hl' : px.line = pz.line).symm
  have hd : ([x, y, z].eraseDups.length != [x, y, z].length) = false := by
    have t1 : (y == x) = false := by simpa using fun e : y = x => hne e.symm
    have t2 : (z == x) = false := by simpa using fun e : z = x => hne' e.symm
    have t3 : (z == y) = false := by simpa using fun e : z = y => hne2 e.symm
    simp [List.eraseDups_cons, t1, t2, t3]
  unfold swappedStores
  simp only [List.length_cons, List.length_nil, e1, n1, n2, Expr.pos, List.head?_cons, Option.map_some, Option.getD_some, List.filterMap_cons, List.filterMap_nil, e2, e3, e4, hx, hy, hz, hl2, hl3, beq_self_eq_true, Bool.and_self, if_true, hd]
  refine (if_neg (by decide)).trans ((if_neg fun hh => ?_).trans ((if_neg ?_).trans rfl))
  · obtain ⟨e, me, he⟩ := List.any_eq_true.mp hh
    have : notStar e = true := by
      simp only [List.mem_cons, List.not_mem_nil, or_false] at me
      rcases me with rfl | rfl | rfl <;> assumption
    cases e <;> first | (cases he; done) | (cases this; done)
  · rw [show ([x, y, z].eraseDups.length != 0 + 1 + 1 + 1) = false from hd]
    decide
end Snd
end

section
set_option Elab.async false
set_option linter.all false
set_option maxRecDepth 100000
/-! S33b: names that are told out of a tuple, one by one. -/
namespace Snd
open PySem PySem.Spec L2
open PyProof.Rows hiding St
open Mini (PV W Sl M E Ty Fl S)
open Ck (notStar vis loc isLoc)
variable {G : Gb} {X : Cx} {T : Ck.Tabs} {C : Mini.Ctx} {P : Nat → Bool} {sc : Ck.Sc}
def gNs : List (Nat × Bool) → TGs
  | [] => gNil
  | (i, _) :: r => gCons (gName i) (gNs r)
theorem par_go {H : Hp} {T : List WV} : ∀ {is : List (Nat × Bool)} {ws : List W} {xs : List V} {sl sl' : Sl} {σ : St} {Q : St → Hp → Prop}, (∀ p ∈ is, P p.1 = false) → Fit sl σ → ws.length = xs.length → Good G H (ws.zip xs ++ (prs sl σ ++ T)) → Mini.stPar is ws sl = .ok () sl' →
    (∀ σ', Keep P σ σ' → Fit sl' σ' → Good G H (prs sl' σ' ++ T) → Q σ' H) → gNs is xs σ H Q
  | [], [], xs, sl, sl', σ, Q, _, ft, hl, g, h, q => by
    cases xs with
    | cons _ _ => simp at hl
    | nil =>
      obtain ⟨_, rfl⟩ := pure_ok.mp (show (pure () : M Unit) sl = .ok () sl' from h)
      exact ⟨rfl, q σ .refl ft g⟩
  | [], w :: ws, xs, sl, sl', σ, Q, _, ft, hl, g, h, q => (fail_ok.mp (show (Mini.fail : M Unit) sl = .ok () sl' from h)).elim
  | (i, k) :: r, [], xs, sl, sl', σ, Q, _, ft, hl, g, h, q => (fail_ok.mp (show (Mini.fail : M Unit) sl = .ok () sl' from h)).elim
  | (i, k) :: r, w :: ws, xs, sl, sl', σ, Q, hP, ft, hl, g, h, q => by
    cases xs with
    | nil => simp at hl
    | cons x xs =>
      obtain ⟨_, s1, e1, e2⟩ := bind_ok.mp (show (do Mini.stVar i k w; Mini.stPar r ws : M Unit) sl = .ok () sl' from h)
      obtain ⟨l1, rfl⟩ := stVar_ok e1
      refine ⟨x, xs, rfl, ?_⟩
      have g1 : Good G H ((w, x) :: (prs sl σ ++ (ws.zip xs ++ T))) := by
        refine g.perm (List.Perm.cons _ ?_)
        show (ws.zip xs ++ (prs sl σ ++ T)).Perm _
        rw [← List.append_assoc, ← List.append_assoc]
        exact List.perm_append_comm.append_right T
      have g2 := Good.store (k := k) ft l1 g1
      refine par_go (fun p hp => hP p (List.mem_cons_of_mem _ hp)) ft.store (by simpa using hl) ?_ e2 fun σ' k' => q σ' ((Keep.set (hP _ List.mem_cons_self)).trans k')
      refine g2.perm ?_
      rw [← List.append_assoc, ← List.append_assoc]
      exact List.perm_append_comm.append_right T
theorem s_parT {is : List (Nat × Bool)} {ts xs : List Expr} {ms : M (List W)} {kt k2 : Nat} {pt pt2 pos : Pos} (hc : X.calm = true) (hP : ∀ p ∈ is, P p.1 = false) (hg : PGs X ts (gNs is)) (hn : (assignEach ts X.env).length = is.length) (hf : (assignEach ts X.env).findIdx? (·.1) = none) (hs : SEws G X xs ms) (hx : xs.length = is.length) (hz : xs.length ≤ 1000)
    (hw : swappedStores [.Tuple ts kt pt] (.Tuple xs k2 pt2) X.env = pure none) :
    SS G X P (.Assign [.Tuple ts kt pt] (.Tuple xs k2 pt2) pos) (do let ws ← ms; Mini.stPar is ws; pure .nx) := by
  intro sl sl' σ H T fl D ft g h en
  obtain ⟨ws, s1, e1, h⟩ := bind_ok.mp h
  obtain ⟨_, s2, e2, h⟩ := bind_ok.mp h
  obtain ⟨rfl, rfl⟩ := pure_ok.mp h
  refine (ps_asg (pe_tup pa_w) (pg_tup hc hg hn hf) rfl hw rfl).w ((hs _ _ σ H T ws ft g e1).mono fun vs H1 ⟨f1, hl, g1⟩ => ?_)
  have len : ws.length = is.length := by
    have key : ∀ {is : List (Nat × Bool)} {ws : List W} {s s' : Sl}, Mini.stPar is ws s = .ok () s' → ws.length = is.length := by
      intro is
      induction is with
      | nil =>
        intro ws s s' h
        cases ws with
        | nil => rfl
        | cons _ _ => exact (fail_ok.mp (show (Mini.fail : M Unit) s = .ok () s' from h)).elim
      | cons p r ih =>
        intro ws s s' h
        cases ws with
        | nil => exact (fail_ok.mp (show (Mini.fail : M Unit) s = .ok () s' from h)).elim
        | cons w ws =>
          obtain ⟨_, s1, e1, e2⟩ := bind_ok.mp (show (do Mini.stVar p.1 p.2 w; Mini.stPar r ws : M Unit) s = .ok () s' from h)
          exact congrArg (· + 1) (ih e2)
    exact key e2
  refine ⟨by rw [← hl, len, ← hx]; exact Nat.le_trans hz (by decide), fun p hp => ⟨p, vs, rfl, .inl (.inl upd_same), by rw [← hl, len], ?_⟩⟩
  exact par_go hP f1 hl (g1.alloc hp) e2 fun σ' k' f' g' => en σ' _ k' f' g'
def nmF (env : Env) (l : Nat) : Expr → Option Str
  | .Name id pos => if env.kindOf id == some .local && pos.line == l then some id else none
  | _ => none
theorem nmF_short (hs : X.env.scope.names = sc) (l : Nat) : ∀ {us : List Expr}, (us.any fun e => !(Ck.isLocL sc l e)) = true → (us.filterMap (nmF X.env l)).length < us.length
  | [], q => nomatch q
  | u :: us, q => by
    have le : (us.filterMap (nmF X.env l)).length ≤ us.length := List.length_filterMap_le _ _
    rw [List.any_cons] at q
    rw [List.filterMap_cons]
    rcases Bool.or_eq_true_iff.mp q with q | q
    · have q := not_of q
      have e0 : nmF X.env l u = none := by
        cases u with
        | Name x p =>
          have q : (isLoc sc x && p.line == l) = false := q
          show (if (X.env.kindOf x == some .local && p.line == l) = true then some x else none) = none
          rw [isLoc_eq hs, q]
          rfl
        | _ => rfl
      rw [e0]
      exact Nat.lt_succ_of_le le
    · have i := nmF_short hs l q
      split
      · exact Nat.lt_succ_of_lt i
      · simp only [List.length_cons]
        omega
theorem swapN (hs : X.env.scope.names = sc) {ts xs : List Expr} {kt k2 : Nat} {pt pt2 : Pos}
    (h : ((decide (ts.length ≠ 2) && decide (ts.length ≠ 3)) || ts.any fun e => !(Ck.isLocL sc (Ck.headLine ts) e)) = true) : swappedStores [.Tuple ts kt pt] (.Tuple xs k2 pt2) X.env = pure none := by
  unfold swappedStores
  show (if (!(ts.length == 2 || ts.length == 3) || xs.length != ts.length || X.env.blockKind != .function) = true then pure none else _) = pure none
  by_cases c1 : (!(ts.length == 2 || ts.length == 3) || xs.length != ts.length || X.env.blockKind != .function) = true
  · rw [if_pos c1]
  · rw [if_neg c1]
    refine ite_eq_left_iff.mpr fun c2 => ?_
    refine ite_eq_left_iff.mpr fun c3 => ?_
    exfalso
    apply c3
    have hh : (ts.any fun e => !(Ck.isLocL sc (Ck.headLine ts) e)) = true := by
      rcases Bool.or_eq_true_iff.mp h with q | q
      · exfalso
        obtain ⟨q1, q2⟩ := and_of q
        have q1 : ts.length ≠ 2 := of_decide_eq_true q1
        have q2 : ts.length ≠ 3 := of_decide_eq_true q2
        apply c1
        simp [q1, q2]
      · exact q
    have hl : ((ts.head?.map (·.pos.line)).getD 0) = Ck.headLine ts := by cases ts <;> rfl
    have sh := nmF_short hs (Ck.headLine ts) hh
    rw [hl]
    have ne : (ts.filterMap (nmF X.env (Ck.headLine ts))).length ≠ ts.length := by omega
    rw [Bool.or_eq_true]
    left
    exact bne_iff_ne.mpr ne
end Snd
end

section
set_option Elab.async false
set_option linter.all false
set_option maxRecDepth 100000
/-! S34: the whole check of a statement, of a body. -/
namespace Snd
open PySem PySem.Spec L2
open PyProof.Rows hiding St
open Mini (PV W Sl M E Ty Fl S)
open Ck (notStar notSl notFlow noSup notComp notSet isName isTup nodb vis loc isLoc gl vr anyIt notPrs pl bname)
variable {G : Gb} {X : Cx} {T : Ck.Tabs} {C : Mini.Ctx} {P : Nat → Bool} {sc : Ck.Sc}

theorem ss_doc {sts : List Stmt} {m : M Fl} {z : Str} {j : Nat} {p pos : Pos} (h : SSs G X P sts m) : SSs G X P (.Expr (.Constant (.str z) j p) pos :: sts) m := by
  have := ss_cons' (s_doc (G := G) (X := X) (P := P) (z := z) (j := j) (p := p) (pos := pos)) h
  exact this
theorem isDoc_or (x : Stmt) : (∃ z j p pos, x = .Expr (.Constant (.str z) j p) pos) ∨ ∀ f s ss r, Ck.ckSL f (s :: ss) (x :: r) = (f s x && Ck.ckSL f ss r) ∧ Ck.ckSL f [] (x :: r) = false := by
  cases x with
  | Expr e pos =>
    cases e with
    | Constant c j p =>
      cases c with
      | str z => exact .inl ⟨z, j, p, pos, rfl⟩
      | _ => exact .inr fun f s ss r => ⟨rfl, rfl⟩
    | _ => exact .inr fun f s ss r => ⟨rfl, rfl⟩
  | _ => exact .inr fun f s ss r => ⟨rfl, rfl⟩
theorem sl_ok {f : S → Stmt → Bool} (R : ∀ s x, f s x = true → SS G X P x (Mini.exS C s)) : ∀ {sts : List Stmt} {ss : List S}, Ck.ckSL f ss sts = true → SSs G X P sts (Mini.exSs C ss)
  | [], [], _ => ss_nil'
  | [], _ :: _, h => nomatch h
  | x :: r, ss, h => by
    rcases isDoc_or x with ⟨z, j, p, pos, rfl⟩ | q
    · have h : Ck.ckSL f ss r = true := by cases ss <;> exact h
      exact ss_doc (sl_ok R h)
    · cases ss with
      | nil => rw [(q f .pass [] r).2] at h; cases h
      | cons s ss =>
        rw [(q f s ss r).1] at h
        exact ss_cons' (R _ _ (and_of h).1) (sl_ok R (and_of h).2)
theorem aug_of {o : Mini.BOp} (h : Ck.augC o = true) : o = .add ∨ o = .sub ∨ o = .mul := by
  cases o <;> first | (cases h; done) | simp
theorem ss_par {n : Nat} (h : EnvOk G X T C) (hs : X.env.scope.names = sc) (hk : X.env.scope.kind = .function) {is : List (Nat × Bool)} {es : List E} {ts xs : List Expr} {kt k2 : Nat} {pt pt2 p : Pos}
    (q1 : Ck.ckL (Ck.ck T X.N n sc) es xs = true) (q2 : xs.all (constantsAlone 8) = false) (q3 : xs.all (foldedForSure 8) = false) (q4 : xs.length = is.length) (q5 : Ck.parC X.N P sc is ts = true) :
    SS G X P (.Assign [.Tuple ts kt pt] (.Tuple xs k2 pt2) p) (Mini.exS C (.par is es)) := by
  have al := all_of (fun a e q => ck_ok n h rfl hs hk q) q1
  match is, ts, q4, q5 with
  | [(i, ki), (j, kj)], [.Name x px, .Name y py], q4, q5 =>
    obtain ⟨r1, q⟩ := and_of (show (decide (X.N[i]? = some x) && (decide (X.N[j]? = some y) && (isLoc sc x && (isLoc sc y && (px.line == py.line && (decide (i ≠ j) && (decide (x ≠ y) && (!(P i) && !(P j))))))))) = true from q5)
    obtain ⟨r2, q⟩ := and_of q
    obtain ⟨r3, q⟩ := and_of q
    obtain ⟨r4, q⟩ := and_of q
    obtain ⟨r5, q⟩ := and_of q
    obtain ⟨r6, q⟩ := and_of q
    obtain ⟨r7, q⟩ := and_of q
    match es, xs, al, q4, q2, q3 with
    | [a, c], [ax, cx], al, _, q2, q3 =>
      exact s_par2 h.b.calm h.nd (of_decide_eq_true r1) (of_decide_eq_true r2) (of_decide_eq_true r6) (isLoc_of hs r3) (isLoc_of hs r4) al.sws (not_of (and_of q).1) (not_of (and_of q).2) (swapped2 hs hk al.2.1 al.2.2.2.1 r3 r4 r5 (of_decide_eq_true r7) q2 q3)
    | [], _ :: _, al, _, _, _ => exact al.elim
    | [_], [_, _], al, _, _, _ => exact al.2.2.elim
    | _ :: _ :: _ :: _, [_, _], al, _, _, _ => exact al.2.2.2.2.elim
  | [(i, ki), (j, kj), (l, kl)], [.Name x px, .Name y py, .Name z pz], q4, q5 =>
    obtain ⟨r1, q⟩ := and_of (show (decide (X.N[i]? = some x) && (decide (X.N[j]? = some y) && (decide (X.N[l]? = some z) && (isLoc sc x && (isLoc sc y && (isLoc sc z && (px.line == py.line && (px.line == pz.line &&
      (decide (i ≠ j) && (decide (i ≠ l) && (decide (j ≠ l) && (decide (x ≠ y) && (decide (x ≠ z) && (decide (y ≠ z) && (!(P i) && (!(P j) && !(P l))))))))))))))))) = true from q5)
    obtain ⟨r2, q⟩ := and_of q
    obtain ⟨r3, q⟩ := and_of q
    obtain ⟨r4, q⟩ := and_of q
    obtain ⟨r5, q⟩ := and_of q
    obtain ⟨r6, q⟩ := and_of q
    obtain ⟨r7, q⟩ := and_of q
    obtain ⟨r8, q⟩ := and_of q
    obtain ⟨r9, q⟩ := and_of q
    obtain ⟨r10, q⟩ := and_of q
    obtain ⟨r11, q⟩ := and_of q
    obtain ⟨r12, q⟩ := and_of q
    obtain ⟨r13, q⟩ := and_of q
    obtain ⟨r14, q⟩ := and_of q
    obtain ⟨r15, q⟩ := and_of q
    match es, xs, al, q4, q2, q3 with
    | [a, c, d], [ax, cx, dx], al, _, q2, q3 =>
      exact s_par3 h.b.calm h.nd (of_decide_eq_true r1) (of_decide_eq_true r2) (of_decide_eq_true r3) (of_decide_eq_true r9) (of_decide_eq_true r10) (of_decide_eq_true r11) (isLoc_of hs r4) (isLoc_of hs r5) (isLoc_of hs r6) al.sws (not_of r15) (not_of (and_of q).1) (not_of (and_of q).2)
        (swapped3 hs hk al.2.1 al.2.2.2.1 al.2.2.2.2.2.1 r4 r5 r6 r7 r8 (of_decide_eq_true r12) (of_decide_eq_true r13) (of_decide_eq_true r14) q2 q3)
    | [], _ :: _, al, _, _, _ => exact al.elim
    | [_], [_, _, _], al, _, _, _ => exact al.2.2.elim
    | [_, _], [_, _, _], al, _, _, _ => exact al.2.2.2.2.elim
    | _ :: _ :: _ :: _ :: _, [_, _, _], al, _, _, _ => exact al.2.2.2.2.2.2.elim
theorem pgs_of {is : List (Nat × Bool)} {ts : List Expr} (h : EnvOk G X T C) (hs : X.env.scope.names = sc) (hl : ∀ x, loc sc x = true → X.fn x = true ∨ isLoc sc x = true) (hlen : is.length = ts.length)
    (q : ((is.zip ts).all fun q => match q.2 with
      | .Name x _ => decide (X.N[q.1.1]? = some x) && (loc sc x && !(P q.1.1))
      | _ => false) = true) : PGs X ts (gNs is) ∧ (assignEach ts X.env).length = is.length ∧ (assignEach ts X.env).findIdx? (·.1) = none ∧ ∀ p ∈ is, P p.1 = false := by
  induction is generalizing ts with
  | nil =>
    cases ts with
    | nil => exact ⟨pgs_nil, rfl, rfl, fun p hp => absurd hp (by simp)⟩
    | cons _ _ => simp at hlen
  | cons p r ih =>
    cases ts with
    | nil => simp at hlen
    | cons t ts =>
      rw [List.zip_cons_cons, List.all_cons] at q
      obtain ⟨q1, q2⟩ := and_of q
      obtain ⟨i1, i2, i3, i4⟩ := ih (by simpa using hlen) q2
      cases t with
      | Name x px =>
        obtain ⟨r1, r2⟩ := and_of (show (decide (X.N[p.1]? = some x) && (loc sc x && !(P p.1))) = true from q1)
        obtain ⟨r2, r3⟩ := and_of r2
        have e1 := asg_cons (e := .Name x px) (es := ts) (env := X.env) rfl
        have pn : PG X (.Name x px) (gName p.1) := by
          refine pg_name h.nd (of_decide_eq_true r1) (loc_of hs r2) ?_
          rcases hl x r2 with z | z
          · exact .inl z
          · exact .inr (isLoc_of hs z)
        refine ⟨pgs_cons pn i1 (by rw [e1]; rfl), ?_, ?_, fun p' hp => ?_⟩
        · rw [e1]; exact congrArg (· + 1) i2
        · rw [e1, List.findIdx?_cons, i3]; rfl
        · rcases List.mem_cons.mp hp with rfl | hp
          · exact not_of r3
          · exact i4 p' hp
      | _ => cases q1
theorem ckS_ok (h : EnvOk G X T C) (hs : X.env.scope.names = sc) (hk : X.env.scope.kind = .function) (hx : PassesOwn (model X.prog X.w) X.A X.env X.xe) (hl : ∀ x, loc sc x = true → X.fn x = true ∨ isLoc sc x = true) :
    ∀ n {s : S} {st : Stmt}, Ck.ckS T X.N P sc n s st = true → SS G X P st (Mini.exS C s)
  | 0, _, _, q => nomatch q
  | n + 1, s, st, q => by
    have R : ∀ a e, Ck.ck T X.N n sc a e = true → ES G X C a e := fun a e q => ck_ok n h rfl hs hk q
    have ih : ∀ s x, Ck.ckS T X.N P sc n s x = true → SS G X P x (Mini.exS C s) := fun s x q => ckS_ok h hs hk hx hl n q
    cases s with
    | asg t v =>
      cases st with
      | Assign ts x p =>
        match ts, q with
        | [tg], q =>
          obtain ⟨q1, q⟩ := and_of (show (Ck.ck T X.N n sc v x && (Ck.ckT X.N false P n sc t tg && Ck.asgC X.N sc v x tg)) = true from q)
          exact ss_asg h hs hk hl q1 (and_of q).1 (and_of q).2
      | _ => cases q
    | par is es =>
      cases st with
      | Assign ts x p =>
        match ts, x, q with
        | [.Tuple ts kt pt], .Tuple xs k2 pt2, q =>
          obtain ⟨q1, q⟩ := and_of (show (Ck.ckL (Ck.ck T X.N n sc) es xs && (decide (xs.length = is.length) && ((!(xs.all (constantsAlone 8)) && (!(xs.all (foldedForSure 8)) && Ck.parC X.N P sc is ts)) || (decide (xs.length ≤ 1000) && Ck.parT X.N P sc is ts)))) = true from q)
          obtain ⟨q2, q⟩ := and_of q
          have q2 := of_decide_eq_true q2
          rcases Bool.or_eq_true_iff.mp q with q | q
          · obtain ⟨q3, q⟩ := and_of q
            exact ss_par h hs hk q1 (not_of q3) (not_of (and_of q).1) q2 (and_of q).2
          · obtain ⟨q3, q⟩ := and_of q
            obtain ⟨q4, q⟩ := and_of q
            obtain ⟨q5, q6⟩ := and_of q
            obtain ⟨p1, p2, p3, p4⟩ := pgs_of h hs hl (of_decide_eq_true q4) q5
            exact s_parT h.b.calm p4 p1 p2 p3 (all_of R q1).sws q2 (of_decide_eq_true q3) (swapN hs q6)
      | _ => cases q
    | seti i f k v =>
      cases st with
      | Assign ts z p =>
        match ts, q with
        | [.Subscript (.Name x xp) y tp], q =>
          obtain ⟨q1, q⟩ := and_of (show (f.isNone && (vr X.N sc i x && (Ck.ck T X.N n sc k y && (notSl y && (Ck.ck T X.N n sc v z && notComp z))))) = true from q)
          obtain ⟨q2, q⟩ := and_of q
          obtain ⟨q3, q⟩ := and_of q
          obtain ⟨q4, q⟩ := and_of q
          obtain ⟨q5, nc⟩ := and_of q
          have q1 : f = none := by simpa using q1
          subst q1
          obtain ⟨e1, e2, e3, e4⟩ := vr_of hs q2
          exact s_seti h.b e1 e2 e3 e4 (R _ _ q3).v (R _ _ q5).v (fun v => by cases y <;> first | (cases q4; done) | rfl) (by cases z <;> first | (cases nc; done) | rfl) rfl
      | _ => cases q
    | setf i f v =>
      cases st with
      | Assign ts z p =>
        match ts, q with
        | [.Attribute (.Name x xp) nm tp], q =>
          obtain ⟨q1, q⟩ := and_of (show (vr X.N sc i x && (decide (T.fld[f]? = some nm) && Ck.ck T X.N n sc v z)) = true from q)
          obtain ⟨e1, e2, e3, e4⟩ := vr_of hs q1
          have qn := h.nm f nm (of_decide_eq_true (and_of q).1)
          subst qn
          exact s_setf h.n h.fo e1 e2 e3 e4 (R _ _ (and_of q).2).v (by cases z <;> rfl)
      | _ => cases q
    | aug i o v =>
      cases st with
      | AugAssign tg op z p =>
        match tg, q with
        | .Name x xp, q =>
          obtain ⟨q1, q⟩ := and_of (show (decide (X.N[i]? = some x) && (loc sc x && (decide (Ck.opOf o = op) && (Ck.augC o && (Ck.ck T X.N n sc v z && !(P i)))))) = true from q)
          obtain ⟨q2, q⟩ := and_of q
          obtain ⟨q3, q⟩ := and_of q
          obtain ⟨q4, q⟩ := and_of q
          obtain ⟨q5, q6⟩ := and_of q
          have q3 : Ck.opOf o = op := of_decide_eq_true q3
          rw [opOf_eq] at q3
          subst q3
          refine s_aug (aug_of q4) h.nd (of_decide_eq_true q1) (loc_of hs q2) ?_ (R _ _ q5).v (not_of q6)
          rcases hl x q2 with e | e
          · exact .inl e
          · exact .inr (isLoc_of hs e)
      | _ => cases q
    | exp v =>
      cases st with
      | Expr z p =>
        obtain ⟨q1, q2⟩ := and_of (show (Ck.ck T X.N n sc v z && notComp z) = true from q)
        exact s_exp (R _ _ q1).v (by cases z <;> first | (cases q2; done) | rfl)
      | _ => cases q
    | ret v =>
      cases st with
      | Return o p =>
        cases o with
        | none => cases q
        | some z => exact s_ret (R _ _ q).v
      | _ => cases q
    | retN =>
      cases st with
      | Return o p =>
        cases o with
        | none => exact s_retN
        | some z => cases q
      | _ => cases q
    | ifs c a b =>
      cases st with
      | If z x y p =>
        obtain ⟨q1, q⟩ := and_of (show (Ck.ck T X.N n sc c z && (Ck.ckSL (Ck.ckS T X.N P sc n) a x && Ck.ckSL (Ck.ckS T X.N P sc n) b y)) = true from q)
        exact s_if (R _ _ q1).t (sl_ok ih (and_of q).1) (sl_ok ih (and_of q).2)
      | _ => cases q
    | fors t it b =>
      cases st with
      | For tg i x oe p =>
        cases oe with
        | nil =>
          obtain ⟨q1, q⟩ := and_of (show (Ck.ck T X.N n sc it i && (notPrs it && ((anyIt it || isTup tg) && (notSet i && (Ck.notBO1 i && (Ck.ckT X.N false P n sc t tg && Ck.ckSL (Ck.ckS T X.N P sc n) b x)))))) = true from q)
          obtain ⟨_, q⟩ := and_of q
          obtain ⟨q3, q⟩ := and_of q
          obtain ⟨q4, q⟩ := and_of q
          obtain ⟨q5, q⟩ := and_of q
          obtain ⟨q6, q⟩ := and_of q
          exact s_for hx h.b.calm ((R _ _ q1).it tg (Bool.or_eq_true_iff.mp q3) (bo1_of q5)) (ckT_ok n rfl hs h.nd h.b.calm (.inr hl) q6) (ckT_sg h.b.K n q6) (sl_ok ih q) (fold_of q4)
        | cons _ _ => cases q
      | _ => cases q
    | whl c b =>
      cases st with
      | While z x oe p =>
        cases oe with
        | nil =>
          obtain ⟨q1, q2⟩ := and_of (show (Ck.ck T X.N n sc c z && Ck.ckSL (Ck.ckS T X.N P sc n) b x) = true from q)
          exact s_while hx (R _ _ q1).t (sl_ok ih q2)
        | cons _ _ => cases q
      | _ => cases q
    | pass =>
      cases st with
      | Pass p => exact s_pass
      | _ => cases q
    | brk =>
      cases st with
      | Break p => exact s_brk
      | _ => cases q
    | cnt =>
      cases st with
      | Continue p => exact s_cnt
      | _ => cases q
    | stop => exact s_stop
    | rais e => exact s_stop
end Snd
end

section
set_option Elab.async false
set_option linter.all false
set_option maxRecDepth 100000
/-! S35: a whole program: what is checked of it, what that grants. -/
namespace Snd
open PySem PySem.Spec L2
open PyProof.Rows hiding St
open Mini (PV W Sl M E Ty Fl S CR)
open Ck (vis loc isLoc)

/-! ### binding -/
theorem lookup_zip {x : Str} : ∀ {ps : List Str} {us : List Value}, us.length = ps.length → x ∈ ps → (List.lookup x (ps.zip us)).isSome = true
  | [], _, _, h => by simp at h
  | p :: ps, [], e, _ => by simp at e
  | p :: ps, u :: us, e, h => by
    rw [List.zip_cons_cons, List.lookup_cons]
    cases q : x == p with
    | true => rfl
    | false =>
      rcases List.mem_cons.mp h with h | h
      · rw [h] at q; simp at q
      · exact lookup_zip (by simpa using e) h
theorem fm_congr {α β : Type} {f g : α → Option β} : ∀ {l : List α}, (∀ a ∈ l, f a = g a) → l.filterMap f = l.filterMap g
  | [], _ => rfl
  | a :: l, h => by rw [List.filterMap_cons, List.filterMap_cons, h a List.mem_cons_self, fm_congr fun b hb => h b (List.mem_cons_of_mem _ hb)]
theorem filterMap_zip : ∀ {ps : List Str} {us : List Value}, us.length = ps.length → ps.Nodup → (ps.filterMap fun n => (List.lookup n (ps.zip us)).map (n, ·)) = ps.zip us
  | [], us, _, _ => by cases us <;> rfl
  | p :: ps, [], e, _ => by simp at e
  | p :: ps, u :: us, e, nd => by
    obtain ⟨h1, h2⟩ := List.nodup_cons.mp nd
    have ih := filterMap_zip (ps := ps) (us := us) (by simpa using e) h2
    rw [List.filterMap_cons]
    rw [List.zip_cons_cons]
    have e0 : (List.lookup p ((p, u) :: ps.zip us)).map (p, ·) = some (p, u) := by rw [List.lookup_cons]; simp
    rw [e0]
    show (p, u) :: _ = (p, u) :: _
    congr 1
    rw [← ih]
    refine fm_congr fun n hn => ?_
    have ne : (n == p) = false := by
      cases q : n == p with
      | false => rfl
      | true =>
        rw [eq_of_beq q] at hn
        exact absurd hn h1
    rw [List.lookup_cons, ne, ih]
theorem bind_plain {name qual : Str} {body : List Stmt} {scope : Scope} {kV doc pm cdv ct : Value} {an : Option Addr} {as : List Arg} (nd : (as.map (·.arg)).Nodup) {us : List Value} (hl : us.length = (as.map (·.arg)).length) :
    bindArgs (PySem.W.fnOf name qual ⟨[], as, none, [], [], none, []⟩ body scope .none kV doc pm an cdv ct) ⟨us, []⟩ = pure ((as.map (·.arg)).zip us) := by
  have e1 : (decide (us.length > (as.map (·.arg)).length) && true) = false := by
    rw [Bool.and_true, decide_eq_false]
    omega
  have e2 : ((as.map (·.arg)).filter fun n => (List.lookup n ((as.map (·.arg)).zip us)).isNone) = [] := by
    refine List.filter_eq_nil_iff.mpr fun n hn q => ?_
    have := lookup_zip hl hn
    rw [Option.isNone_iff_eq_none] at q
    rw [q] at this
    cases this
  have e3 := filterMap_zip hl nd
  unfold bindArgs
  have es : seqItems? (Value.none) = pure none := rfl
  simp only [List.map_nil, List.nil_append, List.append_nil, es, List.forIn_nil, pure_bind, Option.getD_none, Option.isNone_none, e1, Bool.false_eq_true, if_false, List.length_nil, List.drop_nil, Nat.sub_zero, List.drop_length, List.take_length, e2, List.isEmpty_nil, Bool.not_true, List.zip_nil_right, e3]

/-! ### names of fields: by their places in a list -/
def fmOf (L : List Str) (i : Nat) : Str := (L[i]?).getD ⟨#[1114112 + i]⟩
def fmOk (L : List Str) : Bool := decide L.Nodup && L.all fun x => x.cps.toList.all fun c => decide (c < 1114112)
theorem fm_far {L : List Str} {i : Nat} (h : L[i]? = none) : fmOf L i = ⟨#[1114112 + i]⟩ := by unfold fmOf; rw [h]; rfl
theorem fm_in {L : List Str} {i : Nat} {x : Str} (h : L[i]? = some x) : fmOf L i = x := by unfold fmOf; rw [h]; rfl
theorem fm_ne {L : List Str} (ok : fmOk L = true) {x : Str} (hx : x ∈ L) (n : Nat) : x ≠ ⟨#[1114112 + n]⟩ := fun e => by
  obtain ⟨_, h⟩ := and_of ok
  have := List.all_eq_true.mp h x hx
  rw [e] at this
  have := List.all_eq_true.mp this (1114112 + n) (by simp)
  have := of_decide_eq_true this
  omega
theorem fm_inj {L : List Str} (ok : fmOk L = true) (i j : Nat) (h : fmOf L i = fmOf L j) : i = j := by
  have nd : L.Nodup := of_decide_eq_true (and_of ok).1
  cases hi : L[i]? with
  | none =>
    cases hj : L[j]? with
    | none =>
      rw [fm_far hi, fm_far hj] at h
      have : (1114112 + i) = 1114112 + j := by simpa using h
      omega
    | some y =>
      rw [fm_far hi, fm_in hj] at h
      exact absurd h.symm (fm_ne ok (List.mem_of_getElem? hj) i)
  | some x =>
    cases hj : L[j]? with
    | none =>
      rw [fm_in hi, fm_far hj] at h
      exact absurd h (fm_ne ok (List.mem_of_getElem? hi) j)
    | some y =>
      rw [fm_in hi, fm_in hj] at h
      subst h
      obtain ⟨h1, e1⟩ := List.getElem?_eq_some_iff.mp hi
      obtain ⟨h2, e2⟩ := List.getElem?_eq_some_iff.mp hj
      rcases Nat.lt_trichotomy i j with q | q | q
      · exact absurd (e1.trans e2.symm) (List.pairwise_iff_getElem.mp nd i j h1 h2 q)
      · exact q
      · exact absurd (e2.trans e1.symm) (List.pairwise_iff_getElem.mp nd j i h2 h1 q)
theorem fm_not {L : List Str} (ok : fmOk L = true) {x : Str} (hx : x ∉ L) (hc : (x.cps.toList.all fun c => decide (c < 1114112)) = true) (f : Nat) : fmOf L f ≠ x := fun e => by
  cases hi : L[f]? with
  | none =>
    rw [fm_far hi] at e
    rw [← e] at hc
    have := of_decide_eq_true (List.all_eq_true.mp hc (1114112 + f) (by simp))
    omega
  | some y =>
    rw [fm_in hi] at e
    subst e
    exact hx (List.mem_of_getElem? hi)

/-! ### what a whole program is, for the check -/
structure LD where
  /-- a def: its number, where it stands, the names of its slots, its parameters -/
  fns : List (Nat × He.DefD × List Str × List Str)
  T : Ck.Tabs
  /-- a class's name, by number -/
  cn : Nat → Str
  /-- the classes that are asked for; fields of classes -/
  ck : List Nat
  fk : List (Nat × Nat)
  ms : List (Nat × Nat × Nat)
  is : List (Nat × Nat)
  gv : List (Nat × PV)
  fuel : Nat
  spl : Str → Str → Option (List Str)
  fn : Nat → Option Mini.Fn
def LD.pr (D : LD) : Mini.Prog where
  fn := D.fn
  glb := fun g => D.gv.lookup g
  fuel := D.fuel
  meth := fun c m => (D.ms.find? fun q => q.1 == c && q.2.1 == m).map (·.2.2)
  init := fun c => D.is.lookup c
  fok := fun c f => D.fk.contains (c, f)
  cok := fun c => D.ck.contains c
  rp := fun _ => none
  spl := D.spl

/-- a def's check, by its text alone -/
def argsPlain (p : Arguments) : Bool := match p with
  | ⟨[], _, none, [], [], none, []⟩ => true
  | _ => false
def scOk (N ps : List Str) (sc : Scope) : Bool := (match sc.kind with | .function => true | _ => false) && (!sc.isCoroutine && (!sc.isGenerator && (decide N.Nodup && (decide (N.take ps.length = ps) &&
  ((ps.all fun x => match sc.names.lookup x with | some .local => true | some .cell => true | _ => false) && (sc.names.all fun y => match y.2 with | .free => false | _ => true))))))
theorem sc_of {N ps : List Str} {sc : Scope} (h : scOk N ps sc = true) : FnScope N ps sc := by
  obtain ⟨h1, h⟩ := and_of h
  obtain ⟨h2, h⟩ := and_of h
  obtain ⟨h3, h⟩ := and_of h
  obtain ⟨h4, h⟩ := and_of h
  obtain ⟨h5, h⟩ := and_of h
  obtain ⟨h6, h7⟩ := and_of h
  refine ⟨?_, not_of h2, not_of h3, of_decide_eq_true h4, of_decide_eq_true h5, fun x hx => ?_, fun y hy => ?_⟩
  · split at h1
    · assumption
    · cases h1
  · have := List.all_eq_true.mp h6 x hx
    split at this
    · exact .inl (by assumption)
    · exact .inr (by assumption)
    · cases this
  · have := List.all_eq_true.mp h7 y hy
    intro e
    rw [e] at this
    cases this
def defOk (D : LD) (q : Nat × He.DefD × List Str × List Str) : Bool := match D.fn q.1 with
  | some m => decide (m.np = q.2.2.2.length) && (decide (m.ns = q.2.2.1.length) && (argsPlain q.2.1.params && (decide (q.2.1.params.args.map (·.arg) = q.2.2.2) && (scOk q.2.2.1 q.2.2.2 q.2.1.scope && (q.2.1.dfl.isEmpty && (q.2.1.kwd.isEmpty &&
      Ck.ckSL (Ck.ckS D.T q.2.2.1 (lendP m.np m.lend) q.2.1.scope.names 60) m.body q.2.1.body))))))
  | none => false
def LD.def? (D : LD) (f : Nat) : Option (He.DefD × List Str × List Str) := D.fns.lookup f
/-- the tables name defs that are there -/
def tabOk (D : LD) : Bool :=
  (D.T.fns.all fun p => match D.def? p.2.1 with | some q => decide (q.1.at_ = (p.1, none)) && decide (q.2.2.length = p.2.2) | none => false) &&
  ((D.T.cls.all fun p => decide (D.cn p.2.1 = p.1) && (match D.is.lookup p.2.1 with | some i => (match D.def? i with | some q => decide (q.1.at_ = (p.1, some ("__init__" : Str))) && decide (q.2.2.length = p.2.2 + 1) | none => false) | none => false)) &&
  ((D.T.tys.all fun p => decide (D.cn p.2 = p.1) && D.ck.contains p.2) &&
  ((D.T.mth.all fun p => !D.T.fld.contains p.1 && p.1.cps.toList.all fun c => decide (c < 1114112)) &&
  ((D.ms.all fun q => match D.T.mth[q.2.1]? with | some (nm, k) => (match D.def? q.2.2 with | some d => decide (d.1.at_ = (D.cn q.1, some nm)) && decide (d.2.2.length = k) | none => false) | none => false) && fmOk D.T.fld))))
/-- the facts of the head -/
def faOf (D : LD) : List He.Fa :=
  D.T.fns.map (fun p => .glo p.1) ++ (D.T.cls.map (fun p => .glo p.1) ++ (D.T.cls.map (fun p => .mkr p.1) ++ (D.T.tys.map (fun p => .glo p.1) ++ (D.T.fre.map .free ++
    (D.fk.map (fun p => .cls (D.cn p.1)) ++ (D.fk.map (fun p => .noat (D.cn p.1) (fmOf D.T.fld p.2)) ++ (D.ms.map (fun q => .cls (D.cn q.1)) ++ D.ms.map (fun q => .meth (D.cn q.1) (((D.T.mth[q.2.1]?).map (·.1)).getD "")))))))))
def defsOf (D : LD) : List He.DefD := D.fns.map (·.2.1)

/-! ### facts of the written part -/
/-- a key of a written dict -/
def tkey (e : DictEntry) : Option Str := match e.key with
  | .str x _ => some x
  | _ => none
def kkey (k : Mini.Key) : Option Str := match k with
  | .inr x => some x
  | _ => none
def kpv (K : PySem.W.Frag) (kd : List Addr) : Nat → PV → Value → Bool
  | 0, _, _ => false
  | _ + 1, .non, .none => true
  | _ + 1, .bl b, .bool c => b == c
  | _ + 1, .int i, .int j _ => decide (i = j)
  | _ + 1, .str x, .str y _ => decide (x = y) && PyData.strOk x
  | n + 1, .ktup ts, .ref a => (match K.lookup a with
    | some ⟨.type c, _, .seq its _, _⟩ => decide (c = "tuple") && (decide (its.size ≤ sizeLine) && (decide (ts.length = its.toList.length) && (ts.zip its.toList).all fun q => kpv K kd n q.1 q.2))
    | _ => false)
  | n + 1, .kdk ts, .ref a => (match K.lookup a with
    | some ⟨_, _, .dict es _, _⟩ => kd.contains a && (decide (ts.length = es.toList.length) && (ts.zip es.toList).all fun q => kOk q.1.1 && (decide (kkey q.1.1 = tkey q.2) && ((tkey q.2).isSome && kpv K kd n q.1.2 q.2.val)))
    | _ => false)
  | _ + 1, _, _ => false
theorem nsIn_at {K : PySem.W.Frag} {a : Addr} {oc : Value} {od : Option Addr} {es : Array DictEntry} {n : Nat} {sl : Array (Option Value)} (h : K.lookup a = some ⟨oc, od, .dict es n, sl⟩) (z : Str) (hk : ∀ e ∈ es.toList, ∃ x, tkey e = some x) :
    PySem.W.nsIn K a z = some ((es.toList.find? (·.key.isStr z)).map (·.val)) := by
  unfold PySem.W.nsIn
  rw [h]
  show (match es.toList.find? (·.key.isStr z) with
    | some e => some (some e.val)
    | none => if es.toList.any (·.refKey) then none else some none) = _
  cases es.toList.find? (·.key.isStr z) with
  | some e => rfl
  | none =>
    have : es.toList.any (·.refKey) = false := by
      rw [List.any_eq_false]
      intro e he
      obtain ⟨x, hx⟩ := hk e he
      obtain ⟨k, v, hh⟩ := e
      unfold tkey at hx
      split at hx
      · rename_i q
        simp only at q
        subst q
        simp [DictEntry.refKey]
      · cases hx
    simp only [this]
    rfl
theorem kpv_ok {G : Gb} {kd : List Addr} (hkd : ∀ a ∈ kd, G.kd a) : ∀ (n : Nat) {p : PV} {u : Value}, kpv G.K kd n p u = true → ∃ v, RelV v u ∧ ∀ H F, Rp G H F p v
  | 0, _, _, h => nomatch h
  | n + 1, .non, u, h => by
    cases u with
    | none => exact ⟨.non, rfl, fun _ _ => rfl⟩
    | _ => cases h
  | n + 1, .bl b, u, h => by
    cases u with
    | bool c =>
      have : b = c := eq_of_beq (show (b == c) = true from h)
      subst this
      exact ⟨.bl b, rfl, fun _ _ => rfl⟩
    | _ => cases h
  | n + 1, .int i, u, h => by
    cases u with
    | int j t =>
      have : i = j := of_decide_eq_true h
      subst this
      exact ⟨.int i, ⟨t, rfl⟩, fun _ _ => rfl⟩
    | _ => cases h
  | n + 1, .str x, u, h => by
    cases u with
    | str y t =>
      obtain ⟨h1, h2⟩ := and_of (show (decide (x = y) && PyData.strOk x) = true from h)
      have := of_decide_eq_true h1
      subst this
      exact ⟨.str x, ⟨t, rfl⟩, fun _ _ => ⟨rfl, h2⟩⟩
    | _ => cases h
  | n + 1, .ktup ts, u, h => by
    cases u with
    | ref a =>
      have h : (match G.K.lookup a with
        | some ⟨.type c, _, .seq its _, _⟩ => decide (c = "tuple") && (decide (its.size ≤ sizeLine) && (decide (ts.length = its.toList.length) && (ts.zip its.toList).all fun q => kpv G.K kd n q.1 q.2))
        | _ => false) = true := h
      split at h
      · rename_i c od its m osl hk
        obtain ⟨h1, h⟩ := and_of h
        obtain ⟨h2, h⟩ := and_of h
        obtain ⟨h3, h4⟩ := and_of h
        have key : ∀ {ts : List PV} {us : List Value}, ts.length = us.length → ((ts.zip us).all fun q => kpv G.K kd n q.1 q.2) = true → ∃ vs, Vals vs us ∧ ∀ H F, Rps G H F ts vs := by
          intro ts
          induction ts with
          | nil =>
            intro us e _
            cases us with
            | nil => exact ⟨[], .nil, fun _ _ => rfl⟩
            | cons _ _ => simp at e
          | cons t ts ih =>
            intro us e q
            cases us with
            | nil => simp at e
            | cons u us =>
              rw [List.zip_cons_cons, List.all_cons] at q
              obtain ⟨q1, q2⟩ := and_of q
              obtain ⟨v, r, hv⟩ := kpv_ok hkd n q1
              obtain ⟨vs, rs, hvs⟩ := ih (by simpa using e) q2
              exact ⟨v :: vs, .cons r rs, fun H F => ⟨v, vs, rfl, hv H F, hvs H F⟩⟩
        obtain ⟨vs, r, hvs⟩ := key (of_decide_eq_true h3) h4
        exact ⟨.ref a, rfl, fun H F => ⟨a, vs, rfl, ⟨_, its, m, hk, congrArg Value.type (of_decide_eq_true h1), rfl, of_decide_eq_true h2, r⟩, hvs H F⟩⟩
      · cases h
    | _ => cases h
  | n + 1, .kdk ts, u, h => by
    cases u with
    | ref a =>
      have h : (match G.K.lookup a with
        | some ⟨_, _, .dict es _, _⟩ => kd.contains a && (decide (ts.length = es.toList.length) && (ts.zip es.toList).all fun q => kOk q.1.1 && (decide (kkey q.1.1 = tkey q.2) && ((tkey q.2).isSome && kpv G.K kd n q.1.2 q.2.val)))
        | _ => false) = true := h
      split at h
      · rename_i oc od es m osl hk
        obtain ⟨h0, h⟩ := and_of h
        obtain ⟨h3, h4⟩ := and_of h
        have key : ∀ {ts : List (Mini.Key × PV)} {es : List DictEntry}, ts.length = es.length → ((ts.zip es).all fun q => kOk q.1.1 && (decide (kkey q.1.1 = tkey q.2) && ((tkey q.2).isSome && kpv G.K kd n q.1.2 q.2.val))) = true →
            ∃ vs : List (Key × V), (∀ H F, RpK G H F ts vs) ∧ (∀ e ∈ es, ∃ x, tkey e = some x) ∧ ∀ z, RelO (valV vs (.inr z)) ((es.find? (·.key.isStr z)).map (·.val)) := by
          intro ts
          induction ts with
          | nil =>
            intro es e _
            cases es with
            | nil => exact ⟨[], fun _ _ => rfl, (fun e h => absurd h (by simp)), fun z => trivial⟩
            | cons _ _ => simp at e
          | cons t ts ih =>
            intro es e q
            cases es with
            | nil => simp at e
            | cons d es =>
              rw [List.zip_cons_cons, List.all_cons] at q
              obtain ⟨q1, q2⟩ := and_of q
              obtain ⟨q0, q1⟩ := and_of q1
              obtain ⟨q3, q1⟩ := and_of q1
              obtain ⟨q4, q1⟩ := and_of q1
              obtain ⟨x, hx⟩ := Option.isSome_iff_exists.mp q4
              have q3 := of_decide_eq_true q3
              obtain ⟨v, r, hv⟩ := kpv_ok hkd n q1
              obtain ⟨vs, rs, hvs, hz⟩ := ih (by simpa using e) q2
              obtain ⟨k, p⟩ := t
              rw [hx] at q3
              have ek : k = .inr x := by
                cases k with
                | inl _ => cases q3
                | inr y => exact congrArg Sum.inr (Option.some.inj q3)
              subst ek
              have dk : ∃ tk, d.key = .str x tk := by
                unfold tkey at hx
                split at hx
                · rename_i y tk q
                  cases hx
                  exact ⟨tk, q⟩
                · cases hx
              obtain ⟨tk, dk⟩ := dk
              refine ⟨(.inr x, v) :: vs, fun H F => ⟨v, vs, rfl, q0, hv H F, rs H F⟩, fun e he => ?_, fun z => ?_⟩
              · rcases List.mem_cons.mp he with rfl | he
                · exact ⟨x, hx⟩
                · exact hvs e he
              · by_cases e : x = z
                · subst e
                  rw [valV_pos rfl, List.find?_cons, dk]
                  simp only [Value.isStr, decide_true, beq_self_eq_true]
                  exact r
                · rw [valV_neg (fun q => e (Sum.inr.inj q)), List.find?_cons, dk]
                  have : (Value.str x tk).isStr z = false := by simpa [Value.isStr] using e
                  rw [this]
                  exact hz z
        obtain ⟨vs, r, hks, hz⟩ := key (of_decide_eq_true h3) h4
        refine ⟨.ref a, rfl, fun H F => ⟨a, vs, rfl, ⟨hkd a (List.contains_iff_mem.mp h0), fun z => ⟨_, nsIn_at hk z hks, hz z⟩⟩, r H F⟩⟩
      · cases h
    | _ => cases h
  | n + 1, .tup _, u, h => by cases u <;> cases h
  | n + 1, .lst _, u, h => by cases u <;> cases h
  | n + 1, .dk _, u, h => by cases u <;> cases h
  | n + 1, .dt _, u, h => by cases u <;> cases h
  | n + 1, .rng _ _, u, h => by cases u <;> cases h
  | n + 1, .ins _ _, u, h => by cases u <;> cases h
  | n + 1, .clo _ _, u, h => by cases u <;> cases h
/-- the written dicts with text keys -/
def kdsOf (D : LD) : List He.Tab := D.T.glb.filterMap fun p => match D.gv.lookup p.2 with
  | some (.kdk ts) => some (fun K => He.ga K p.1, ts.filterMap fun t => kkey t.1)
  | _ => none
def kdA (D : LD) (K : PySem.W.Frag) : List Addr := (kdsOf D).map fun t => t.1 K
def LD.gb (D : LD) (K : PySem.W.Frag) : Gb := { K := K, cad := fun c => He.ga K (D.cn c), fnm := fmOf D.T.fld, kd := fun a => a ∈ kdA D K }
def gvB (D : LD) (K : PySem.W.Frag) : Bool := D.T.glb.all fun p => match D.gv.lookup p.2, PySem.W.nsIn K mainGlobals p.1 with
  | some v, some (some u) => kpv K (kdA D K) 9 v u
  | _, _ => false
def tys6 : List Ty := [.int, .bool, .str, .list, .tuple, .dict]
def kokB (D : LD) (K : PySem.W.Frag) : Bool :=
  (D.ck.all fun c => (He.Fa.cls (D.cn c)).ok K && (decide (PySem.W.findIn K (.ref (He.ga K (D.cn c))) "__class__" = some (some (.builtin "object.__class__"))) && (decide (PySem.W.mroIn K (He.ga K (D.cn c)) (.type "object") = some true) &&
    ((tys6.all fun t => decide (PySem.W.kitOne K (.ref (He.ga K (D.cn c))) (tyU (D.gb K) t) = some false)) && (D.ck.all fun d => decide (PySem.W.kitOne K (.ref (He.ga K (D.cn c))) (.ref (He.ga K (D.cn d))) = some (c == d))))))) &&
  (decide (PySem.W.specialIn K (.builtin "object.__class__") "__get__" = some (some (.builtin "getset_descriptor.__get__"))) && (decide (PySem.W.takesIn K (.builtin "object.__class__") = some true) &&
    ((["NoneType", "bool", "int", "str", "list", "tuple", "dict"] : List String).all fun n => D.ck.all fun d => decide (PySem.W.kitOne K (.type n) (.ref (He.ga K (D.cn d))) = some false))))
theorem kok_of {D : LD} {K : PySem.W.Frag} (h : kokB D K = true) : KOk (D.gb K) D.pr.cok := by
  obtain ⟨h1, h⟩ := and_of h
  obtain ⟨h2, h⟩ := and_of h
  obtain ⟨h3, h4⟩ := and_of h
  have k : ∀ c, D.pr.cok c = true → _ := fun c hc => List.all_eq_true.mp h1 c (List.contains_iff_mem.mp hc)
  refine ⟨fun c hc => He.cls_ok (and_of (k c hc)).1, fun c hc => of_decide_eq_true (and_of (and_of (k c hc)).2).1, of_decide_eq_true h2, of_decide_eq_true h3, fun c hc => of_decide_eq_true (and_of (and_of (and_of (k c hc)).2).2).1, fun c t hc ht => ?_, fun n d hn hd => ?_⟩
  · obtain ⟨q1, q2⟩ := and_of (and_of (and_of (and_of (k c hc)).2).2).2
    cases t with
    | cls d => exact of_decide_eq_true (List.all_eq_true.mp q2 d (List.contains_iff_mem.mp ht))
    | int => exact of_decide_eq_true (List.all_eq_true.mp q1 .int (by simp [tys6]))
    | bool => exact of_decide_eq_true (List.all_eq_true.mp q1 .bool (by simp [tys6]))
    | str => exact of_decide_eq_true (List.all_eq_true.mp q1 .str (by simp [tys6]))
    | list => exact of_decide_eq_true (List.all_eq_true.mp q1 .list (by simp [tys6]))
    | tuple => exact of_decide_eq_true (List.all_eq_true.mp q1 .tuple (by simp [tys6]))
    | dict => exact of_decide_eq_true (List.all_eq_true.mp q1 .dict (by simp [tys6]))
  · exact of_decide_eq_true (List.all_eq_true.mp (List.all_eq_true.mp h4 n hn) d (List.contains_iff_mem.mp hd))
def noLst (K : PySem.W.Frag) : Bool := K.all fun q => match q.2 with
  | ⟨.type c, _, _, _⟩ => !decide (c = "list")
  | _ => true
def exB (D : LD) (K : PySem.W.Frag) : Bool := noLst K && (gvB D K && (kokB D K && (K.lookup sysModules).isSome))

/-! ### the head's Hook: the written part and the table of modules -/
def frY (g : Addr → Option Obj) (n : Nat) : PySem.W.Frag := He.frG g (sysModules :: He.asD g n)
abbrev AlY : Type := He.AlT × Bool
def obsY (n : Nat) (fa : List He.Fa) (fn : List He.DefD) (ts : List He.Tab) (ex : PySem.W.Frag → Bool) (g : Addr → Option Obj) : AlY := (He.obsT fa fn ts (frY g n), ex (frY g n))
structure SaysY (fa : List He.Fa) (fn : List He.DefD) (ts : List He.Tab) (ex : PySem.W.Frag → Bool) (w : World) (K : PySem.W.Frag) : Prop where
  t : He.SaysT fa fn ts w K
  more : ex K = true
theorem SaysY.d {fa : List He.Fa} {fn : List He.DefD} {ts : List He.Tab} {ex : PySem.W.Frag → Bool} {w : World} {K : PySem.W.Frag} (c : SaysY fa fn ts ex w K) : He.SaysD fa fn K := c.t.d
def hookY (n : Nat) (fa : List He.Fa) (fn : List He.DefD) (ts : List He.Tab) (ex : PySem.W.Frag → Bool) : PySem.W.Hook where
  α := AlY
  obs := fun s => obsY n fa fn ts ex s.heap.get?
  val := fun w => (He.valT fn ts w, true)
  says := fun w h => ∃ K : PySem.W.Frag, K.In h ∧ SaysY fa fn ts ex w K
  of := fun _ _ e => ⟨_, He.frG_in, ⟨congrArg (fun z : AlY => z.1) e, congrArg (fun z : AlY => z.2) e⟩⟩
  keeps := fun _ _ _ ⟨K, hK, c⟩ k => ⟨K, PySem.W.Frag.In.keeps hK k, c⟩
theorem obsY_eq {n : Nat} {fa : List He.Fa} {fn : List He.DefD} {ts : List He.Tab} {ex : PySem.W.Frag → Bool} {g : Addr → Option Obj} {s : Shared} (h : ∀ a, g a = s.heap.get? a) : obsY n fa fn ts ex g = (hookY n fa fn ts ex).obs s := by
  rw [funext h]
  rfl
end Snd
end

section
set_option Elab.async false
set_option linter.all false
set_option maxRecDepth 100000
/-! S36: every def of a checked program keeps what the interpreter says; the law's end. -/
namespace Snd
open PySem PySem.Spec L2
open PyProof.Rows hiding St
open Mini (PV W Sl M E Ty Fl S CR)
open Ck (vis loc isLoc)

theorem look_mem {α β : Type} [BEq α] [LawfulBEq α] {a : α} {b : β} : ∀ {l : List (α × β)}, l.lookup a = some b → (a, b) ∈ l
  | [], h => nomatch h
  | (c, d) :: r, h => by
    rw [List.lookup_cons] at h
    cases q : a == c with
    | true =>
      rw [q] at h
      have e : d = b := Option.some.inj h
      rw [eq_of_beq q, e]
      exact List.mem_cons_self
    | false =>
      rw [q] at h
      exact List.mem_cons_of_mem _ (look_mem h)
def ctxOf (P : Mini.Prog) (n : Nat) : Mini.Ctx := { call := Mini.callF P n, glb := P.glb, fuel := P.fuel, meth := P.meth, init := P.init, fok := P.fok, cok := P.cok, rp := P.rp, spl := P.spl }
theorem callF_succ {P : Mini.Prog} {n f : Nat} {m : Mini.Fn} (h : P.fn f = some m) : Mini.callF P (n + 1) f = Mini.runFn (ctxOf P n) m := by
  funext args
  show (match P.fn f with
    | some d => Mini.runFn { call := Mini.callF P n, glb := P.glb, fuel := P.fuel, meth := P.meth, init := P.init, fok := P.fok, cok := P.cok, rp := P.rp, spl := P.spl } d args
    | none => .no) = _
  rw [h]
  rfl
section
variable {D : LD} {P : Program} {w : World} {K : PySem.W.Frag} {mg : Str → Option Value} {h : Heap}
structure HeadOk (D : LD) (w : World) (K : PySem.W.Frag) (mg : Str → Option Value) (h : Heap) : Prop where
  KX : K.In h
  G : h.Ns mainGlobals mg
  c : SaysY (faOf D) (defsOf D) (kdsOf D) (exB D) w K
  hd : D.fns.all (defOk D) = true
  ht : tabOk D = true
theorem HeadOk.fa (H : HeadOk D w K mg h) {f : He.Fa} (q : f ∈ faOf D) : f.ok K = true := He.SaysD.facts H.c.d q
theorem HeadOk.glo (H : HeadOk D w K mg h) {x : Str} (q : He.Fa.glo x ∈ faOf D) : mg x = some (.ref (He.ga K x)) := He.glo_ok H.KX H.G (H.fa q)
theorem HeadOk.fund (H : HeadOk D w K mg h) {f : Nat} {q : He.DefD × List Str × List Str} (e : D.def? f = some q) : (f, q) ∈ D.fns ∧ defOk D (f, q) = true ∧ ∃ fd, FunD K q.1.name q.1.qual q.1.params q.1.body q.1.scope [] [] (He.fAd K q.1.at_) fd := by
  have m : (f, q) ∈ D.fns := look_mem e
  have ok := List.all_eq_true.mp H.hd _ m
  refine ⟨m, ok, ?_⟩
  obtain ⟨fd, F⟩ := He.SaysD.defs H.c.d (d := q.1) (List.mem_map.mpr ⟨(f, q), m, rfl⟩)
  have z : q.1.dfl = [] ∧ q.1.kwd = [] := by
    unfold defOk at ok
    split at ok
    · obtain ⟨_, ok⟩ := and_of ok
      obtain ⟨_, ok⟩ := and_of ok
      obtain ⟨_, ok⟩ := and_of ok
      obtain ⟨_, ok⟩ := and_of ok
      obtain ⟨_, ok⟩ := and_of ok
      obtain ⟨k1, ok⟩ := and_of ok
      obtain ⟨k2, ok⟩ := and_of ok
      exact ⟨by simpa using k1, by simpa using k2⟩
    · cases ok
  have e1 : q.1.dvs K = [] := by unfold He.DefD.dvs; rw [z.1]; rfl
  have e2 : q.1.kws K = [] := by unfold He.DefD.kws; rw [z.2]; rfl
  rw [e1, e2] at F
  exact ⟨fd, F⟩
theorem args_of {p : Arguments} (hp : argsPlain p = true) : ∃ as, p = ⟨[], as, none, [], [], none, []⟩ :=
  match p, hp with
  | ⟨[], as, none, [], [], none, []⟩, _ => ⟨as, rfl⟩
section
open List in
theorem fa1 {p : Str × (Nat × Nat)} (h : p ∈ D.T.fns) : He.Fa.glo p.1 ∈ faOf D := mem_append_left _ (mem_map.mpr ⟨p, h, rfl⟩)
open List in
theorem fa2 {p : Str × (Nat × Nat)} (h : p ∈ D.T.cls) : He.Fa.glo p.1 ∈ faOf D := mem_append_right _ (mem_append_left _ (mem_map.mpr ⟨p, h, rfl⟩))
open List in
theorem fa3 {p : Str × (Nat × Nat)} (h : p ∈ D.T.cls) : He.Fa.mkr p.1 ∈ faOf D := mem_append_right _ (mem_append_right _ (mem_append_left _ (mem_map.mpr ⟨p, h, rfl⟩)))
open List in
theorem fa4 {p : Str × Nat} (h : p ∈ D.T.tys) : He.Fa.glo p.1 ∈ faOf D := mem_append_right _ (mem_append_right _ (mem_append_right _ (mem_append_left _ (mem_map.mpr ⟨p, h, rfl⟩))))
open List in
theorem fa5 {p : Str} (h : p ∈ D.T.fre) : He.Fa.free p ∈ faOf D := mem_append_right _ (mem_append_right _ (mem_append_right _ (mem_append_right _ (mem_append_left _ (mem_map.mpr ⟨p, h, rfl⟩)))))
open List in
theorem fa6 {p : Nat × Nat} (h : p ∈ D.fk) : He.Fa.cls (D.cn p.1) ∈ faOf D := mem_append_right _ (mem_append_right _ (mem_append_right _ (mem_append_right _ (mem_append_right _ (mem_append_left _ (mem_map.mpr ⟨p, h, rfl⟩))))))
open List in
theorem fa7 {p : Nat × Nat} (h : p ∈ D.fk) : He.Fa.noat (D.cn p.1) (fmOf D.T.fld p.2) ∈ faOf D := mem_append_right _ (mem_append_right _ (mem_append_right _ (mem_append_right _ (mem_append_right _ (mem_append_right _ (mem_append_left _ (mem_map.mpr ⟨p, h, rfl⟩)))))))
open List in
theorem fa8 {p : Nat × Nat × Nat} (h : p ∈ D.ms) : He.Fa.cls (D.cn p.1) ∈ faOf D := mem_append_right _ (mem_append_right _ (mem_append_right _ (mem_append_right _ (mem_append_right _ (mem_append_right _ (mem_append_right _ (mem_append_left _ (mem_map.mpr ⟨p, h, rfl⟩))))))))
open List in
theorem fa9 {p : Nat × Nat × Nat} (h : p ∈ D.ms) : He.Fa.meth (D.cn p.1) (((D.T.mth[p.2.1]?).map (·.1)).getD "") ∈ faOf D := mem_append_right _ (mem_append_right _ (mem_append_right _ (mem_append_right _ (mem_append_right _ (mem_append_right _ (mem_append_right _ (mem_append_right _ (mem_map.mpr ⟨p, h, rfl⟩))))))))
end
/-- what is known in a def's body -/
theorem env_of {base : Heap} (H : HeadOk D w K mg h) {n : Nat} (ih : ∀ f q, D.def? f = some q → ∃ fd, PySem.W.keepIn K (.ref (He.fAd K q.1.at_)) = true ∧ L2.Binds K fd q.2.2 [] ∧ FnOk P w K mg base NoX (2 * n) (He.fAd K q.1.at_) fd q.2.2 (spOf (D.gb K) (Mini.callF D.pr n f) q.2.2.length))
    {N : List Str} (nd : N.Nodup) {qual : Str} {scope : Scope} {f : Addr} {cd : Value} {A : Around} {outer : List Env} {s : Shared} {H0 : Hp} {E : XK} (hr : Room (2 * n + 1) (A.deeper (envOfC qual scope s.heap.objs.size f cd))) :
    EnvOk (D.gb K) (cxOf NoX P w K mg base N qual scope f cd A outer s H0 E) D.T (ctxOf D.pr n) := by
  obtain ⟨t1, ht⟩ := and_of H.ht
  obtain ⟨t2, ht⟩ := and_of ht
  obtain ⟨t3, ht⟩ := and_of ht
  obtain ⟨t4, ht⟩ := and_of ht
  obtain ⟨t5, t6⟩ := and_of ht
  obtain ⟨x1, x2⟩ := and_of H.c.more
  obtain ⟨x2, x3⟩ := and_of x2
  obtain ⟨x3, x4⟩ := and_of x3
  refine ⟨⟨rfl, rfl, ?_, fun a ha => ?_⟩, nd, ⟨fm_inj t6⟩, fun c f hf => ?_, kok_of x3, fun f x e => fm_in e, fun g f m e => ?_, fun g c m e => ?_, fun x c e => ?_, fun x g e => ?_, fun m nm k e => ⟨?_, fun cl i hi => ?_⟩, fun x hx => ?_, fun v z e => nomatch e⟩
  · have := hr.un
    show (A.deeper (envOfC qual scope s.heap.objs.size f cd)).units + 64 < cLine
    omega
  · obtain ⟨t, ht, rfl⟩ := List.mem_map.mp (show a ∈ (kdsOf D).map fun t => t.1 K from ha)
    obtain ⟨i, hi⟩ := List.getElem?_of_mem ht
    exact He.SaysT.tab H.c.t i hi
  · have m : (c, f) ∈ D.fk := List.contains_iff_mem.mp hf
    exact ⟨He.cls_ok (H.fa (fa6 m)), He.noat_ok (H.fa (fa7 m))⟩
  · have m1 : (g, (f, m)) ∈ D.T.fns := look_mem e
    have q := List.all_eq_true.mp t1 _ m1
    dsimp only at q
    split at q
    · rename_i qd hq
      obtain ⟨q1, q2⟩ := and_of q
      have q1 := of_decide_eq_true q1
      have q2 := of_decide_eq_true q2
      obtain ⟨fd, i1, i2, i3⟩ := ih f qd hq
      have ea : He.fAd K qd.1.at_ = He.ga K g := by rw [q1]; rfl
      rw [ea] at i1 i3
      rw [q2] at i3
      exact ⟨_, fd, _, _, H.glo (fa1 m1), i1, i2, hr.mono (by omega), i3⟩
    · cases q
  · have m1 : (g, (c, m)) ∈ D.T.cls := look_mem e
    have q := List.all_eq_true.mp t2 _ m1
    dsimp only at q
    obtain ⟨q0, q⟩ := and_of q
    have q0 : D.cn c = g := of_decide_eq_true q0
    split at q
    · rename_i i hi
      split at q
      · rename_i qd hq
        obtain ⟨q1, q2⟩ := and_of q
        have q1 := of_decide_eq_true q1
        have q2 := of_decide_eq_true q2
        obtain ⟨fd, i1, i2, i3⟩ := ih i qd hq
        have ea : He.fAd K qd.1.at_ = He.ma K (He.ga K g) "__init__" := by rw [q1]; rfl
        rw [ea] at i3
        rw [q2] at i3
        have mk := He.mkr_ok (H.fa (fa3 m1))
        have gl := H.glo (fa2 m1)
        have cd : (D.gb K).cad c = He.ga K g := by show He.ga K (D.cn c) = _; rw [q0]
        refine ⟨i, _, fd, _, _, hi, ?_, ?_, i2, hr, i3⟩
        · rw [cd]; exact gl
        · rw [cd]; exact mk
      · cases q
    · cases q
  · have m1 : (x, c) ∈ D.T.tys := look_mem e
    obtain ⟨q0, q1⟩ := and_of (List.all_eq_true.mp t3 _ m1)
    have q0 : D.cn c = x := of_decide_eq_true q0
    have gl := H.glo (fa4 m1)
    refine ⟨?_, q1⟩
    show mg x = some (.ref (He.ga K (D.cn c)))
    rw [q0]; exact gl
  · have m1 : (x, g) ∈ D.T.glb := look_mem e
    have q := List.all_eq_true.mp x2 _ m1
    dsimp only at q
    split at q
    · rename_i v u hv hu
      obtain ⟨z, r, hz⟩ := kpv_ok (G := D.gb K) (kd := kdA D K) (fun _ h => h) 9 q
      exact ⟨u, z, v, PySem.W.mg_of H.KX H.G hu, r, hv, hz⟩
    · cases q
  · have m1 : (nm, k) ∈ D.T.mth := List.mem_of_getElem? e
    obtain ⟨q1, q2⟩ := and_of (List.all_eq_true.mp t4 _ m1)
    exact fun f => fm_not t6 (fun hm => by rw [List.contains_iff_mem.mpr hm] at q1; cases q1) q2 f
  · have hi : (D.ms.find? fun q => q.1 == cl && q.2.1 == m).map (·.2.2) = some i := hi
    obtain ⟨q, hq, e1⟩ := Option.map_eq_some_iff.mp hi
    have mq := List.mem_of_find?_eq_some hq
    have hp := List.find?_some (p := fun q : Nat × Nat × Nat => q.1 == cl && q.2.1 == m) hq
    obtain ⟨p1, p2⟩ := and_of hp
    have p1 : q.1 = cl := eq_of_beq p1
    have p2 : q.2.1 = m := eq_of_beq p2
    have z := List.all_eq_true.mp t5 _ mq
    rw [p2, e] at z
    dsimp only at z
    split at z
    · rename_i qd hqd
      obtain ⟨z1, z2⟩ := and_of z
      have z1 := of_decide_eq_true z1
      have z2 := of_decide_eq_true z2
      rw [e1] at hqd
      obtain ⟨fd, i1, i2, i3⟩ := ih i qd hqd
      have ea : He.fAd K qd.1.at_ = He.ma K (He.ga K (D.cn cl)) nm := by rw [z1, p1]; rfl
      rw [ea, z2] at i3
      refine ⟨_, fd, _, _, ?_, ?_, i3, hr.mono (by omega), i2⟩
      · have := He.cls_ok (H.fa (fa8 mq))
        rw [p1] at this
        exact this
      · have := He.meth_ok (H.fa (fa9 mq))
        rw [p1, p2, e] at this
        exact this
    · cases z
  · exact He.free_ok H.KX H.G (H.fa (fa5 hx))
theorem fnok_all {base : Heap} (H : HeadOk D w K mg h) : ∀ (n f : Nat) (q : He.DefD × List Str × List Str), D.def? f = some q →
    ∃ fd, PySem.W.keepIn K (.ref (He.fAd K q.1.at_)) = true ∧ L2.Binds K fd q.2.2 [] ∧ FnOk P w K mg base NoX (2 * n) (He.fAd K q.1.at_) fd q.2.2 (spOf (D.gb K) (Mini.callF D.pr n f) q.2.2.length) := by
  intro n
  induction n with
  | zero =>
    intro f q e
    obtain ⟨m, ok, fd, F⟩ := H.fund e
    have hb : L2.Binds K fd q.2.2 [] := by
      unfold defOk at ok
      split at ok
      · obtain ⟨_, ok⟩ := and_of ok
        obtain ⟨_, ok⟩ := and_of ok
        obtain ⟨a1, ok⟩ := and_of ok
        obtain ⟨a2, ok⟩ := and_of ok
        obtain ⟨a3, ok⟩ := and_of ok
        obtain ⟨as, ea⟩ := args_of a1
        have a2 := of_decide_eq_true a2
        have ff : FunD K q.1.name q.1.qual ⟨[], as, none, [], [], none, []⟩ q.1.body q.1.scope [] [] (He.fAd K q.1.at_) fd := ea ▸ F
        have a2 : as.map (·.arg) = q.2.2 := by rw [← a2, ea]
        have nd : (as.map (·.arg)).Nodup := by
          rw [a2]
          have S := sc_of a3
          rw [← S.pre]
          exact S.nd.sublist (List.take_sublist _ _)
        rw [← a2]
        exact ff.bindsN fun kV doc pm an cdv ct us hl => bind_plain nd hl
      · cases ok
    refine ⟨fd, F.kp, hb, ⟨fun vs H' Q E h => h.1, fun A outer s H' args us vs Q E _ _ _ _ h => ?_⟩⟩
    obtain ⟨_, Z, R, ws, w', outs, hc, _⟩ := h
    cases hc
  | succ n ih =>
    intro f q e
    obtain ⟨fd0, _, hb, _⟩ := ih f q e
    obtain ⟨m, ok, fd, F⟩ := H.fund e
    unfold defOk at ok
    split at ok
    · rename_i mf hmf
      obtain ⟨b1, ok⟩ := and_of ok
      obtain ⟨b2, ok⟩ := and_of ok
      obtain ⟨a1, ok⟩ := and_of ok
      obtain ⟨a2, ok⟩ := and_of ok
      obtain ⟨a3, ok⟩ := and_of ok
      obtain ⟨_, ok⟩ := and_of ok
      obtain ⟨_, ck⟩ := and_of ok
      obtain ⟨as, ea⟩ := args_of a1
      have a2 := of_decide_eq_true a2
      have S := sc_of a3
      have ff : FunD K q.1.name q.1.qual ⟨[], as, none, [], [], none, []⟩ q.1.body q.1.scope [] [] (He.fAd K q.1.at_) fd := ea ▸ F
      have a2 : as.map (·.arg) = q.2.2 := by rw [← a2, ea]
      have nd : (as.map (·.arg)).Nodup := by
        rw [a2, ← S.pre]
        exact S.nd.sublist (List.take_sublist _ _)
      have hb : L2.Binds K fd q.2.2 [] := by
        rw [← a2]
        exact ff.bindsN fun kV doc pm an cdv ct us hl => bind_plain nd hl
      have hmf : D.pr.fn f = some mf := hmf
      obtain ⟨oc, od, dV, kV, doc, pm, an, cdv, ct, osl, hfd, lk, hcd, _, _⟩ := F.ex
      refine ⟨fd, F.kp, hb, ?_⟩
      rw [callF_succ hmf]
      subst hfd
      refine fn_ok (k := 2 * n + 1) lk hcd S (of_decide_eq_true b1) (of_decide_eq_true b2) fun A outer s H0 E Z hr => ?_
      have en := (env_of (P := P) (base := base) H ih S.nd (scope := q.1.scope) (qual := q.1.qual) (f := He.fAd K q.1.at_) (cd := cdv) (outer := outer) (H0 := H0) (E := E) hr).z (Z := Z)
      refine sl_ok (fun s x hx => ckS_ok en rfl S.kind PassesOwn.leaving (fun x _ => .inl rfl) 60 hx) ck
    · cases ok
end
/-- the script, as the law meets it -/
theorem good_script {G : Gb} {H : Hp} {a : Addr} {ns : List Int} (hZ : ∀ a, G.Z a = none) (hO : Only H) (hS : Rd H a (.lst (ns.map V.int))) : Good G H [(.sh (.lst (ns.map .int)), .ref a)] := by
  refine ⟨fun b => H b ≠ none, fun p hp => ?_, by simp [oL, oA], fun b hb => absurd hb (by simp [oL, oA]), fun b hb => hb, fun b o u e => ?_, fun b o u hb e lu => ?_⟩
  · have : p = (.sh (.lst (ns.map .int)), .ref a) := by simpa using hp
    subst this
    refine ⟨a, ns.map V.int, rfl, ⟨fun z => ?_, hS⟩, Rps.intsOf⟩
    rcases hS with q | ⟨o, q⟩ <;> · rw [z] at q; cases q
  · rw [hZ] at e; cases e
  · rcases hO b with q | ⟨o', xs, q⟩
    · rw [q] at e; cases e
    · rw [q] at e; cases e; exact lu.elim
theorem no_lst {K : PySem.W.Frag} (h : noLst K = true) {H : Hp} {a : Addr} {xs : List V} (hS : SqL K H a xs) : Rd H a (.lst xs) := by
  rcases hS with q | ⟨o, its, n, hk, hc, _⟩
  · exact q
  · have := List.all_eq_true.mp h _ (He.lookup_mem hk)
    obtain ⟨oc, od, dt, osl⟩ := o
    have hc : oc = .type "list" := hc
    subst hc
    have : (!decide ("list" = "list")) = true := this
    simp at this
end Snd
end

section
set_option Elab.async false
set_option linter.all false
set_option maxRecDepth 100000
/-! S37: the law itself, called as a law is called. -/
namespace Snd
open PySem PySem.Spec L2
open PyProof.Rows hiding St
open Mini (PV W Sl M E Ty Fl S CR)

theorem EnvOk.withRp {G : Gb} {X : Cx} {T : Ck.Tabs} {C : Mini.Ctx} (h : EnvOk G X T C) (g : X.A.guards = some []) (u : X.A.units + 200 < cLine) (k : ∃ o, X.K.lookup sysModules = some o) : EnvOk G X T { C with rp := rpStd } :=
  ⟨h.b, h.nd, h.n, h.fo, h.ko, h.nm, h.fn, h.cl, h.ty, h.gb, h.mt, h.fr, fun _ _ e => ⟨e, g, u, k⟩⟩
def lawCtx (D : LD) (n : Nat) : Mini.Ctx := { ctxOf D.pr n with rp := rpStd }
section
variable {D : LD} {P : Program} {w : World} {K : PySem.W.Frag} {mg mb : Str → Option Value} {h : Heap} {s : Shared} {a : Addr} {vs : List Value} {ns : List Int}
/-- the script alone is tracked -/
def scrH (a : Addr) (vs : List Value) (ns : List Int) : Hp := fun b => if b = a then some (.frz { cls := .type "list", data := .seq vs.toArray } (.lst (ns.map V.int))) else none
theorem scr_at : scrH a vs ns a = some (.frz { cls := .type "list", data := .seq vs.toArray } (.lst (ns.map V.int))) := if_pos rfl
theorem scr_ne {b : Addr} (e : b ≠ a) : scrH a vs ns b = none := if_neg e
theorem scr_is {b : Addr} {o : HO} (e : scrH a vs ns b = some o) : b = a ∧ o = .frz { cls := .type "list", data := .seq vs.toArray } (.lst (ns.map V.int)) := by
  by_cases q : b = a
  · subst q
    rw [scr_at] at e
    exact ⟨rfl, (Option.some.inj e).symm⟩
  · rw [scr_ne q] at e
    cases e
theorem scr_ok (ha : s.heap.get? a = some { cls := .type "list", data := .seq vs.toArray }) (hi : IntsAre vs ns) (hl : ns.length ≤ sizeLine) : HOk P w (scrH a vs ns) s.heap := fun b o e => by
  obtain ⟨rfl, rfl⟩ := scr_is e
  refine ⟨ha, ?_, vs, _, vals_ints hi, ha⟩
  rw [List.length_map]
  exact hl
theorem scr_only : Only (scrH a vs ns) := fun b => by
  by_cases q : b = a
  · exact .inr ⟨_, _, by rw [q]; exact scr_at⟩
  · exact .inl (scr_ne q)
theorem law_code {b0 : Heap} {n lid : Nat} {q : He.DefD × List Str × List Str} {mf : Mini.Fn} {outs : List (Option W)} (H : HeadOk D w K mg b0) (KX : K.In s.heap) (hns : s.heap.Ns mainGlobals mg) (hb : s.heap.Ns builtinsNs mb) (hbb : ∀ x : Str, x ≠ "__name__" → mb x = bootBuiltins x)
    (lim : s.heap.NoLimit) (hg : s.gens = #[]) (ha : s.heap.get? a = some { cls := .type "list", data := .seq vs.toArray }) (hi : IntsAre vs ns) (hl : ns.length ≤ sizeLine) (hq : D.def? lid = some q) (hmf : D.fn lid = some mf)
    (hat : q.1.at_ = (("law" : Str), none)) (hp1 : q.2.2.length = 1) (hn : n ≤ 100) (hrun : Mini.runFn (lawCtx D n) mf [.sh (.lst (ns.map .int))] = .ok (.sh (.bl true)) outs) :
    codeAny (model P w) callerA (.call (.ref (He.ga K "law")) ⟨[.ref a], []⟩) (fun r s' => r = .ok (.ret (.bool true)) ∧ OldK s.heap s'.heap ∧ s'.os = s.os ∧ AllBare s'.gens) s := by
  have more := H.c.more
  obtain ⟨x1, x2⟩ := and_of more
  obtain ⟨_, x2⟩ := and_of x2
  obtain ⟨_, x4⟩ := and_of x2
  have nk : K.lookup a = none := by
    cases e : K.lookup a with
    | none => rfl
    | some o =>
      have z := KX a o e
      rw [ha] at z
      cases z
      have := List.all_eq_true.mp x1 _ (He.lookup_mem e)
      simp at this
  -- the heap without the script
  let base := hidT s.heap (scrH a vs ns)
  have up : ∀ {b : Addr} {o : Obj}, s.heap.get? b = some o → b ≠ a → base.get? b = some o := fun e q => hidT_get e (scr_ne q)
  have dictNe : ∀ {b : Addr} {o : Obj} {es : Array DictEntry} {ep : Nat}, s.heap.get? b = some o → o.data = .dict es ep → b ≠ a := fun e d z => by
    rw [z, ha] at e
    cases e
    cases d
  have nsUp : ∀ {b : Addr} {m : Str → Option Value}, s.heap.Ns b m → base.Ns b m := fun ⟨o, es, ep, e, d, r⟩ => ⟨o, es, ep, up e (dictNe e d), d, r⟩
  have KB : K.In base := fun b o e => up (KX b o e) fun z => by rw [z, nk] at e; cases e
  have M0 : Mod K mg base := by
    refine ⟨KB, nsUp hns, ⟨mb, nsUp hb, hbb⟩, ?_⟩
    obtain ⟨mc, c1, c2⟩ := lim
    exact ⟨mc, nsUp c1, c2⟩
  have hok : HOk P w (scrH a vs ns) s.heap := scr_ok ha hi hl
  have E0 : Env0 P w K mg base callerA [] s (scrH a vs ns) :=
    { frames := rfl, mod := M0, bs := fun b o e => of_hidT e, bsz := Nat.le_of_eq (hidT_size _ _), funs := trivial, frf := fun b hb => (List.not_mem_nil hb).elim, hok := hok, bare := .of_eq hg }
  -- the def
  obtain ⟨_, ok, fd, F⟩ := H.fund hq
  unfold defOk at ok
  rw [hmf] at ok
  dsimp only at ok
  obtain ⟨b1, ok⟩ := and_of ok
  obtain ⟨b2, ok⟩ := and_of ok
  obtain ⟨a1, ok⟩ := and_of ok
  obtain ⟨a2, ok⟩ := and_of ok
  obtain ⟨a3, ok⟩ := and_of ok
  obtain ⟨_, ok⟩ := and_of ok
  obtain ⟨_, ck⟩ := and_of ok
  have Sc := sc_of a3
  obtain ⟨as, ea⟩ := args_of a1
  have pe : as.map (·.arg) = q.2.2 := by rw [← of_decide_eq_true a2, ea]
  have nd : (as.map (·.arg)).Nodup := by
    rw [pe, ← Sc.pre]
    exact Sc.nd.sublist (List.take_sublist _ _)
  have ea2 : He.fAd K q.1.at_ = He.ga K "law" := by rw [hat]; rfl
  rw [ea2] at F
  have ff : FunD K q.1.name q.1.qual ⟨[], as, none, [], [], none, []⟩ q.1.body q.1.scope [] [] (He.ga K "law") fd := ea ▸ F
  have bd : BindsTo s fd ⟨[.ref a], []⟩ (q.2.2.zip [.ref a]) := by
    rw [← pe]
    exact ff.bindsA (fun kV doc pm an cdv ct us e => bind_plain nd e) s [.ref a] (by rw [pe, hp1]; rfl)
  obtain ⟨oc, od, dV, kV, doc, pm, an, cdv, ct, osl, hfd, lk, hcd, _, _⟩ := F.ex
  subst hfd
  have room : Room (2 * n + 2) callerA := ⟨rfl, by show 1 + claimMargin + 3 * (2 * n + 2) + 5 < recursionLimit; unfold claimMargin recursionLimit; omega, by show 4 + 16 * (2 * n + 2) + 200 < cLine; unfold cLine; omega⟩
  have kinds : ∀ y ∈ q.2.2.zip [Value.ref a], q.1.scope.names.lookup y.1 = some .local ∨ (q.1.scope.names.lookup y.1 = some .cell ∧ ((cellsFrom (s.heap.objs.size + 1) q.1.scope.names []).lookup y.1).isSome = true) := by
    rintro ⟨nm, v⟩ hy
    refine (Sc.par nm (List.of_mem_zip hy).1).imp_right fun z => ⟨z, ?_⟩
    exact PySem.W.cellsFrom_some _ _ _ (.inl z)
  refine codeAny_call_function (Room.depth room) (KX _ _ lk) rfl Sc.co Sc.gen rfl (PySem.W.codeRec_of KX hcd) (bd _ _ _ _ (wpAny_newFunctionEnv_cells Sc.kind kinds ?_))
  rintro env rfl s1 entry
  refine ⟨lim.keeps entry.toInCall.keep, codeAny_func ?_⟩
  have len1 : ([V.ref a] : List V).length = q.2.2.length := by rw [hp1]; rfl
  have I0 := inv_start (CX := NoX) (E := fun _ _ _ => False) (qual := q.1.qual) (f := He.ga K "law") (cd := cdv) Sc rfl E0 len1 (.cons rfl .nil : Vals [V.ref a] [Value.ref a]) entry
  -- the body
  have hr : Room (2 * n + 1) (callerA.deeper (envOfC q.1.qual q.1.scope s.heap.objs.size (He.ga K "law") cdv)) := room.deeper _
  have en := env_of (P := P) (w := w) (base := base) H (fnok_all H n) Sc.nd (outer := []) (H0 := scrH a vs ns) (E := fun _ _ _ => False) hr
  have un := hr.un
  have en2 := en.withRp rfl (by show (callerA.deeper (envOfC q.1.qual q.1.scope s.heap.objs.size (He.ga K "law") cdv)).units + 200 < cLine; omega) (Option.isSome_iff_exists.mp x4)
  have body := sl_ok (P := lendP mf.np mf.lend) (fun st x hx => ckS_ok en2 rfl Sc.kind PassesOwn.leaving (fun x _ => .inl rfl) 60 hx) ck
  have gs : Good (D.gb K) (scrH a vs ns) ([W.sh (.lst (ns.map .int))].zip [V.ref a] ++ []) := good_script (fun _ => rfl) scr_only (.inr ⟨_, scr_at⟩)
  have np1 : mf.np = 1 := by rw [of_decide_eq_true b1, hp1]
  have ns1 : mf.ns = q.2.1.length := of_decide_eq_true b2
  obtain ⟨f0, g0⟩ := start_ok (ls := mf.lend) (k := 0) (m := mf.ns - mf.np) (H := scrH a vs ns) (ws := [W.sh (.lst (ns.map .int))]) (xs := [V.ref a]) rfl gs
  have st0 : L2.start q.2.1 [V.ref a] = [V.ref a].map some ++ List.replicate (mf.ns - mf.np) none := by
    unfold L2.start
    rw [ns1, np1]
    rfl
  rw [st0] at I0
  unfold Mini.runFn at hrun
  have c1 : ([W.sh (.lst (ns.map .int))] : List W).length = mf.np := np1.symm
  rw [if_pos c1] at hrun
  have old : ∀ {H' : Hp} {s' : Shared} {σ' : St}, Inv (cxOf NoX P w K mg base q.2.1 q.1.qual q.1.scope (He.ga K "law") cdv callerA [] s (scrH a vs ns) fun _ _ _ => False) [] σ' H' s' → OldK s.heap s'.heap ∧ s'.os = s.os ∧ AllBare s'.gens := fun {H' s' σ'} J => by
    refine ⟨OldK.of_keep fun b o e => ?_, J.os, J.bare⟩
    by_cases z : b = a
    · subst z
      have t1 := (J.hok b _ (J.base.frzs b _ _ scr_at)).1
      rw [ha] at e
      cases e
      exact t1
    · exact J.base.keep b o e (scr_ne z) (fun m => (List.not_mem_nil m).elim) fun m => (List.not_mem_nil m).elim
  have tail : ∀ {D' : Ends} {fl : Fl} {sl' : Sl}, Mini.exSs (lawCtx D n) mf.body (Mini.inits 0 mf.lend [W.sh (.lst (ns.map .int))] ++ List.replicate (mf.ns - mf.np) none) = .ok fl sl' → Endg (D.gb K) (lendP mf.np mf.lend) ([V.ref a].map some ++ List.replicate (mf.ns - mf.np) none) (nlE 0 mf.lend [W.sh (.lst (ns.map .int))] [V.ref a] ++ []) fl sl' D' →
      wSs (cxOf NoX P w K mg base q.2.1 q.1.qual q.1.scope (He.ga K "law") cdv callerA [] s (scrH a vs ns) fun _ _ _ => False) q.1.body D' ([V.ref a].map some ++ List.replicate (mf.ns - mf.np) none) (scrH a vs ns) := fun e en => body _ _ _ _ _ _ _ f0 g0 e en
  cases hx : Mini.exSs (lawCtx D n) mf.body (Mini.inits 0 mf.lend [W.sh (.lst (ns.map .int))] ++ List.replicate (mf.ns - mf.np) none) with
  | no => rw [hx] at hrun; cases hrun
  | ex e sl => rw [hx] at hrun; cases hrun
  | ok fl sl =>
    rw [hx] at hrun
    cases fl with
    | nx => cases hrun
    | bk => cases hrun
    | ct => cases hrun
    | rt w' =>
      have ew : w' = .sh (.bl true) := by cases hrun; rfl
      subst ew
      have run := tail (D' := { nx := fun _ _ => False, rt := fun v _ => v = .bl true }) hx (fun x σ' H' _ _ g' => g'.lk.flatB)
      refine wpAny_mono (run [] s1 I0) (fun fl s' hs => ?_) fun e s' hs => wpAny_mono hs (fun _ _ z => z.elim) fun _ _ z => z.elim
      cases fl with
      | ret u =>
        obtain ⟨v, σ', H', J, rv, rfl⟩ := hs
        obtain rfl : u = Value.bool true := rv
        exact ⟨rfl, old J⟩
      | next =>
        obtain ⟨_, _, _, z⟩ := hs
        exact z.elim
      | brk =>
        obtain ⟨_, _, _, z⟩ := hs
        exact z.elim
      | cont =>
        obtain ⟨_, _, _, z⟩ := hs
        exact z.elim
/-- the law's walk, from the interpreter's word on the law -/
theorem law_walk {l : PySem.W.OpenLaw} {m n lid : Nat} {qp : Program} {loose : List Str} {XP : (Str → Option Value) → Heap → Prop} {d : DefRec} {q : He.DefD × List Str × List Str} {mf : Mini.Fn} (hm : l.most = some m) (hm2 : m ≤ sizeLine) (hdf : d.params.defaults = []) (hname : d.name = "law")
    (hd : D.fns.all (defOk D) = true) (ht : tabOk D = true) (hq : D.def? lid = some q) (hmf : D.fn lid = some mf) (hat : q.1.at_ = (("law" : Str), none)) (hp1 : q.2.2.length = 1) (hlaw : (("law" : Str), (lid, 1)) ∈ D.T.fns) (hn : n ≤ 100)
    (hrun : ∀ ns : List Int, ns.length ≤ m → ∃ outs, Mini.runFn (lawCtx D n) mf [.sh (.lst (ns.map .int))] = .ok (.sh (.bl true)) outs) :
    PySem.W.WalkO qp loose XP (fun w h => ∃ K : PySem.W.Frag, K.In h ∧ SaysY (faOf D) (defsOf D) (kdsOf D) (exB D) w K) l.row.toRowW d [] (fun f vs => PySem.call f vs) := by
  refine Att.attach_call hm hdf fun w s0 s1 mg mb fa o pm cd doc a vs ns Gr Y ho hdd hcd hmg hobj hints hlen hg => ?_
  obtain ⟨K, KX, c⟩ := Y
  have H : HeadOk D w K mg s1.heap := ⟨KX, Gr.T.g, c, hd, ht⟩
  have e := H.glo (fa1 hlaw)
  rw [hname, e] at hmg
  cases hmg
  obtain ⟨outs, hr⟩ := hrun ns hlen
  exact law_code H KX Gr.T.g Gr.T.b Gr.T.builtins Gr.T.nolimit hg hobj hints (Nat.le_trans hlen hm2) hq hmf hat hp1 hn hr
end
end Snd
end

section
set_option linter.all false
set_option maxRecDepth 100000
/-! Wp: what the interpreter does, by what is wanted behind. -/
namespace Mini
def Wp {α : Type} (m : M α) (s : Sl) (Q : α → Sl → Prop) : Prop := ∃ a s', m s = .ok a s' ∧ Q a s'
def Ok (r : CR) (Q : W → List (Option W) → Prop) : Prop := ∃ w outs, r = .ok w outs ∧ Q w outs
section
variable {α β : Type} {s s' : Sl} {Q Q' : α → Sl → Prop}
theorem Wp.mono {m : M α} (h : Wp m s Q) (f : ∀ a s', Q a s' → Q' a s') : Wp m s Q' := let ⟨a, s', e, q⟩ := h; ⟨a, s', e, f a s' q⟩
theorem Ok.mono {r : CR} {Q Q' : W → List (Option W) → Prop} (h : Ok r Q) (f : ∀ a s', Q a s' → Q' a s') : Ok r Q' := let ⟨a, s', e, q⟩ := h; ⟨a, s', e, f a s' q⟩
@[simp ↓] theorem ok_m {r : CR} {Q : W → List (Option W) → Prop} : Ok r Q = (match r with
    | .ok w o => Q w o
    | _ => False) := by
  apply propext
  cases r with
  | ok w o => exact ⟨fun ⟨_, _, e, q⟩ => by cases e; exact q, fun q => ⟨_, _, rfl, q⟩⟩
  | ex x o => exact ⟨fun ⟨_, _, e, _⟩ => (nomatch e), False.elim⟩
  | no => exact ⟨fun ⟨_, _, e, _⟩ => (nomatch e), False.elim⟩
theorem ok_ok {w : W} {o : List (Option W)} {Q : W → List (Option W) → Prop} : Ok (.ok w o) Q ↔ Q w o := by
  constructor
  · rintro ⟨_, _, e, q⟩; cases e; exact q
  · exact fun q => ⟨_, _, rfl, q⟩
theorem wp_pure {a : α} : Wp (pure a : M α) s Q ↔ Q a s := by
  constructor
  · rintro ⟨_, _, e, q⟩; cases e; exact q
  · exact fun q => ⟨_, _, rfl, q⟩
theorem wp_bind {m : M β} {f : β → M α} : Wp (m >>= f) s Q ↔ Wp m s fun b s' => Wp (f b) s' Q := by
  constructor
  · rintro ⟨a, s2, e, q⟩
    have e : (m s).bind f = .ok a s2 := e
    cases h : m s with
    | ok b s1 =>
      rw [h] at e
      exact ⟨b, s1, h, a, s2, e, q⟩
    | ex x s1 => rw [h] at e; cases e
    | no => rw [h] at e; cases e
  · rintro ⟨b, s1, h, a, s2, e, q⟩
    refine ⟨a, s2, ?_, q⟩
    show (m s).bind f = _
    rw [h]
    exact e
/-- there is a thing, and of it .. -/
def Got {γ : Type} (o : Option γ) (R : γ → Prop) : Prop := ∃ a, o = some a ∧ R a
@[simp ↓] theorem got_m {γ : Type} {o : Option γ} {R : γ → Prop} : Got o R = (match o with
    | some a => R a
    | none => False) := by
  cases o with
  | none => exact propext ⟨fun ⟨_, e, _⟩ => (nomatch e), False.elim⟩
  | some a => exact propext ⟨fun ⟨_, e, h⟩ => by cases e; exact h, fun h => ⟨_, rfl, h⟩⟩
theorem got_i {γ : Type} {o : Option γ} {R : γ → Prop} {a : γ} (e : o = some a) (h : R a) : Got o R := ⟨a, e, h⟩
theorem wp_fail : Wp (fail : M α) s Q ↔ False := ⟨fun ⟨_, _, e, _⟩ => (nomatch e), False.elim⟩
theorem wp_ofO {o : Option α} : Wp (ofO o) s Q ↔ Got o fun a => Q a s := by
  cases o with
  | none => exact ⟨fun ⟨_, _, e, _⟩ => (nomatch e), fun ⟨_, e, _⟩ => (nomatch e)⟩
  | some a => exact ⟨fun ⟨_, _, e, q⟩ => by cases e; exact ⟨_, rfl, q⟩, fun ⟨_, e, q⟩ => by cases e; exact ⟨_, _, rfl, q⟩⟩
theorem wp_some {a : α} : Wp (ofO (some a)) s Q ↔ Q a s := by rw [wp_ofO, got_m]
theorem wp_ite {c : Prop} [Decidable c] {a b : M α} : Wp (if c then a else b) s Q ↔ if c then Wp a s Q else Wp b s Q := by split <;> rfl
/-! slots -/
/-- slot i holds w -/
def At (s : Sl) (i : Nat) (w : W) : Prop := s[i]? = some (some w)
@[simp] theorem at0 {o : Option W} {r : Sl} {w : W} : At (o :: r) 0 w ↔ o = some w := by simp [At]
@[simp] theorem atS {o : Option W} {r : Sl} {i : Nat} {w : W} : At (o :: r) (i + 1) w ↔ At r i w := by simp [At]
theorem ex_ok {γ : Type} {x : γ} {y : Sl} {Q : γ → Sl → Prop} : (∃ a s', (x = a ∧ y = s') ∧ Q a s') ↔ Q x y := ⟨by rintro ⟨_, _, ⟨rfl, rfl⟩, q⟩; exact q, fun q => ⟨_, _, ⟨rfl, rfl⟩, q⟩⟩
def Look (s : Sl) (i : Nat) (R : W → Prop) : Prop := ∃ w, At s i w ∧ R w
@[simp ↓] theorem look_m {i : Nat} {R : W → Prop} : Look s i R = (match s[i]? with
    | some (some w) => R w
    | _ => False) := by
  apply propext
  unfold Look At
  cases h : s[i]? with
  | none => exact ⟨fun ⟨_, e, _⟩ => (nomatch e), False.elim⟩
  | some o => cases o with
    | none => exact ⟨fun ⟨_, e, _⟩ => (nomatch e), False.elim⟩
    | some w => exact ⟨fun ⟨_, e, q⟩ => by cases e; exact q, fun q => ⟨_, rfl, q⟩⟩
def LookO (s : Sl) (i : Nat) (R : PV → Prop) : Prop := ∃ v, At s i (.own v) ∧ R v
@[simp ↓] theorem lookO_m {i : Nat} {R : PV → Prop} : LookO s i R = (match s[i]? with
    | some (some (.own v)) => R v
    | _ => False) := by
  apply propext
  unfold LookO At
  cases h : s[i]? with
  | none => exact ⟨fun ⟨_, e, _⟩ => (nomatch e), False.elim⟩
  | some o => cases o with
    | none => exact ⟨fun ⟨_, e, _⟩ => (nomatch e), False.elim⟩
    | some w => cases w with
      | own v => exact ⟨fun ⟨_, e, q⟩ => by cases e; exact q, fun q => ⟨_, rfl, q⟩⟩
      | sh v => exact ⟨fun ⟨_, e, _⟩ => (nomatch e), False.elim⟩
      | obj c fs => exact ⟨fun ⟨_, e, _⟩ => (nomatch e), False.elim⟩
/-- a slot is written -/
def setS : Sl → Nat → Option W → Option Sl
  | [], _, _ => none
  | _ :: r, 0, w => some (w :: r)
  | a :: r, i + 1, w => (setS r i w).map (a :: ·)
@[simp] theorem setS_0 {a w : Option W} {r : Sl} : setS (a :: r) 0 w = some (w :: r) := rfl
@[simp] theorem setS_s {a w : Option W} {r : Sl} {i : Nat} : setS (a :: r) (i + 1) w = (setS r i w).map (a :: ·) := rfl
theorem setS_eq : ∀ (s : Sl) (i : Nat) (w : Option W), setS s i w = if i < s.length then some (s.set i w) else none
  | [], i, w => by simp [setS]
  | a :: r, 0, w => by simp
  | a :: r, i + 1, w => by
    rw [setS_s, setS_eq r i w]
    by_cases h : i < r.length
    · rw [if_pos h, if_pos (by simpa using h)]; rfl
    · rw [if_neg h, if_neg (by simpa using h)]; rfl
def Put (s : Sl) (i : Nat) (w : Option W) (R : Sl → Prop) : Prop := i < s.length ∧ R (s.set i w)
@[simp ↓] theorem put_m {i : Nat} {w : Option W} {R : Sl → Prop} : Put s i w R = (match setS s i w with
    | some s' => R s'
    | none => False) := by
  apply propext
  unfold Put
  rw [setS_eq]
  by_cases h : i < s.length
  · rw [if_pos h]; exact ⟨fun q => q.2, fun q => ⟨h, q⟩⟩
  · rw [if_neg h]; exact ⟨fun q => absurd q.1 h, False.elim⟩
theorem at_lt {i : Nat} {w : W} (h : At s i w) : i < s.length := by
  unfold At at h
  rcases Nat.lt_or_ge i s.length with g | g
  · exact g
  · rw [List.getElem?_eq_none g] at h; cases h
theorem put_at {i : Nat} {w : W} {o : Option W} {R : Sl → Prop} (h : At s i w) : Put s i o R ↔ R (s.set i o) := ⟨fun q => q.2, fun q => ⟨at_lt h, q⟩⟩
theorem wp_view {i : Nat} {Q : PV → Sl → Prop} : Wp (viewVar i) s Q ↔ Look s i fun w => Q w.frz s := by
  unfold Wp viewVar Look At
  cases h : s[i]? with
  | none => simp
  | some o => cases o with
    | none => simp
    | some w => simp [ex_ok]
theorem wp_rd {i : Nat} {Q : W → Sl → Prop} : Wp (rdVar i) s Q ↔ Look s i fun w => Put s i (some (.sh w.frz)) fun s' => Q (.sh w.frz) s' := by
  unfold Wp rdVar Look
  constructor
  · rintro ⟨a, s1, e, q⟩
    cases h : s[i]? with
    | none => rw [h] at e; cases e
    | some o => cases o with
      | none => rw [h] at e; cases e
      | some w =>
        rw [h] at e
        cases e
        exact ⟨_, h, (put_at (show At s i _ from h)).mpr q⟩
  · rintro ⟨w, h, q⟩
    refine ⟨.sh w.frz, _, ?_, (put_at h).mp q⟩
    rw [show s[i]? = _ from h]
theorem wp_mov {i : Nat} {Q : W → Sl → Prop} : Wp (movVar i) s Q ↔ Look s i fun w => Put s i none fun s' => Q w s' := by
  unfold Wp movVar Look
  constructor
  · rintro ⟨a, s1, e, q⟩
    cases h : s[i]? with
    | none => rw [h] at e; cases e
    | some o => cases o with
      | none => rw [h] at e; cases e
      | some w =>
        rw [h] at e
        cases e
        exact ⟨_, h, (put_at (show At s i _ from h)).mpr q⟩
  · rintro ⟨w, h, q⟩
    refine ⟨w, _, ?_, (put_at h).mp q⟩
    rw [show s[i]? = _ from h]
theorem wp_st {i : Nat} {k : Bool} {w : W} {Q : Unit → Sl → Prop} : Wp (stVar i k w) s Q ↔ Put s i (some (if k then w else .sh w.frz)) fun s' => Q () s' := by
  unfold Wp stVar Put
  split
  · rename_i h
    constructor
    · rintro ⟨_, _, e, q⟩; cases e; exact ⟨h, q⟩
    · rintro ⟨_, q⟩; exact ⟨_, _, rfl, q⟩
  · rename_i h; simp [h]
theorem wp_mod {γ : Type} {i : Nat} {g : PV → Option (γ × PV)} {Q : γ → Sl → Prop} : Wp (modPlace i none g) s Q ↔ LookO s i fun v => Got (g v) fun p => Put s i (some (.own p.2)) fun s' => Q p.1 s' := by
  unfold Wp modPlace LookO
  constructor
  · rintro ⟨a, s1, e, q⟩
    cases h : s[i]? with
    | none => rw [h] at e; cases e
    | some o => cases o with
      | none => rw [h] at e; cases e
      | some w => cases w with
        | sh v => rw [h] at e; cases e
        | obj c fs => rw [h] at e; cases e
        | own v =>
          rw [h] at e
          cases hg : g v with
          | none => simp only [hg] at e; cases e
          | some p =>
            simp only [hg] at e
            cases e
            exact ⟨v, h, p, hg, (put_at (w := .own v) h).mpr q⟩
  · rintro ⟨v, h, p, hg, q⟩
    refine ⟨p.1, _, ?_, (put_at h).mp q⟩
    rw [show s[i]? = _ from h]
    simp only [hg]
theorem wp_fld {fok : Nat → Nat → Bool} {i f c : Nat} {fs : List (Nat × PV)} {v : PV} {Q : W → Sl → Prop} (h : At s i (.sh (.ins c fs))) (hf : fok c f = true) (hv : lookF f fs = some v) (q : Q (.sh v) s) : Wp (rdFld fok i f) s Q := by
  refine ⟨.sh v, s, ?_, q⟩
  unfold rdFld
  rw [show s[i]? = some (some (.sh (.ins c fs))) from h]
  simp [fieldV, hf, hv]
theorem wp_fldO {fok : Nat → Nat → Bool} {i f c : Nat} {fs : List (Nat × W)} {v : PV} {Q : W → Sl → Prop} (h : At s i (.obj c fs)) (hf : fok c f = true) (hv : lookF f fs = some (.sh v)) (q : Q (.sh v) s) : Wp (rdFld fok i f) s Q := by
  refine ⟨.sh v, s, ?_, q⟩
  unfold rdFld
  rw [show s[i]? = some (some (.obj c fs)) from h]
  simp [hf, hv]
theorem wp_wipe {own : List Nat} {Q : Unit → Sl → Prop} : Wp (wipeM own) s Q ↔ Q () (wipe own s) := ⟨fun ⟨_, _, e, q⟩ => by cases e; exact q, fun q => ⟨_, _, rfl, q⟩⟩
theorem wp_block {own : List Nat} {m : M α} : Wp (inBlock own m) s Q ↔ Wp m (wipe own s) fun a s' => Q a (wipe own s') := by
  constructor
  · rintro ⟨a, s2, e, q⟩
    unfold inBlock at e
    split at e
    · rename_i a' s3 h
      cases e
      exact ⟨_, _, h, q⟩
    · cases e
    · cases e
  · rintro ⟨a, s2, e, q⟩
    refine ⟨a, wipe own s2, ?_, q⟩
    unfold inBlock
    rw [e]
/-- the arguments handed over -/
def Called (o : Option (List W × Sl)) (R : List W → Sl → Prop) : Prop := ∃ p, o = some p ∧ R p.1 p.2
@[simp ↓] theorem called_m {o : Option (List W × Sl)} {R : List W → Sl → Prop} : Called o R = (match o with
    | some p => R p.1 p.2
    | none => False) := by
  cases o with
  | none => exact propext ⟨fun ⟨_, e, _⟩ => (nomatch e), False.elim⟩
  | some a => exact propext ⟨fun ⟨_, e, h⟩ => by cases e; exact h, fun h => ⟨_, rfl, h⟩⟩
theorem wp_call {c : List W → CR} {as : List Arg} {Q : W → Sl → Prop} : Wp (callM c as) s Q ↔ Called (lendA as s) fun ws s1 => Ok (c ws) fun w outs => Q w (backA as outs s1) := by
  unfold Wp Ok Called callM
  cases h : lendA as s with
  | none => simp
  | some p =>
    obtain ⟨ws, s1⟩ := p
    simp only
    cases hc : c ws with
    | ok w outs =>
      constructor
      · rintro ⟨a, s2, e, q⟩; cases e; exact ⟨_, rfl, _, _, hc, q⟩
      · rintro ⟨p, e, w', o', e2, q⟩; cases e; rw [hc] at e2; cases e2; exact ⟨_, _, rfl, q⟩
    | ex x outs =>
      constructor
      · rintro ⟨a, s2, e, q⟩; cases e
      · rintro ⟨p, e, w', o', e2, q⟩; cases e; rw [hc] at e2; cases e2
    | no =>
      constructor
      · rintro ⟨a, s2, e, q⟩; cases e
      · rintro ⟨p, e, w', o', e2, q⟩; cases e; rw [hc] at e2; cases e2
end
/-! loops -/
section
variable {s : Sl}
theorem wp_for {tg : Tg} {body : M Fl} {Q : Fl → Sl → Prop} (I : List PV → Sl → Prop) : ∀ (xs : List PV) (s : Sl), I xs s →
    (∀ x r s, I (x :: r) s → Wp (stTg tg (.sh x)) s fun _ s1 => Wp body s1 fun fl s2 => match fl with
      | .nx => I r s2
      | .ct => I r s2
      | .bk => Q .nx s2
      | .rt w => Q (.rt w) s2) → (∀ s, I [] s → Q .nx s) → Wp (forLoop tg body xs) s Q
  | [], s, h, _, hd => wp_pure.mpr (hd s h)
  | x :: xs, s, h, ht, hd => by
    show Wp (do stTg tg (.sh x); let f ← body; (match f with
      | .nx => forLoop tg body xs
      | .ct => forLoop tg body xs
      | .bk => pure .nx
      | .rt w => pure (.rt w) : M Fl)) s Q
    rw [wp_bind]
    refine (ht x xs s h).mono fun _ s1 h1 => ?_
    rw [wp_bind]
    refine h1.mono fun fl s2 h2 => ?_
    cases fl with
    | nx => exact wp_for I xs s2 h2 ht hd
    | ct => exact wp_for I xs s2 h2 ht hd
    | bk => exact wp_pure.mpr h2
    | rt w => exact wp_pure.mpr h2
/-- each thing of a list, all behind alike -/
theorem wp_forM {tg : Tg} {body : M Fl} {Q : Fl → Sl → Prop} (I : Sl → Prop) {xs : List PV} {s : Sl} (h : I s)
    (ht : ∀ x ∈ xs, ∀ s, I s → Wp (stTg tg (.sh x)) s fun _ s1 => Wp body s1 fun fl s2 => match fl with
      | .nx => I s2
      | .ct => I s2
      | .bk => Q .nx s2
      | .rt w => Q (.rt w) s2) (hd : ∀ s, I s → Q .nx s) : Wp (forLoop tg body xs) s Q := by
  refine wp_for (fun r s => I s ∧ ∀ x ∈ r, x ∈ xs) xs s ⟨h, fun _ m => m⟩ ?_ fun s h => hd s h.1
  rintro x r s ⟨h, m⟩
  refine (ht x (m x List.mem_cons_self) s h).mono fun _ s1 q => Wp.mono q fun fl s2 q => ?_
  cases fl with
  | nx => exact ⟨q, fun y hy => m y (List.mem_cons_of_mem _ hy)⟩
  | ct => exact ⟨q, fun y hy => m y (List.mem_cons_of_mem _ hy)⟩
  | bk => exact q
  | rt w => exact q
theorem wp_comp {own : List Nat} {tg : Tg} {test : M Bool} {elt : M PV} {Q : List PV → Sl → Prop} (I : List PV → List PV → Sl → Prop) : ∀ (xs acc : List PV) (s : Sl), I xs acc s → acc.length + xs.length ≤ SZ →
    (∀ x r acc s, I (x :: r) acc s → Wp (stTg tg (.sh x)) (wipe own s) fun _ s1 => Wp test s1 fun b s2 => match b with
      | true => Wp elt s2 fun u s3 => I r (acc ++ [u]) s3
      | false => I r acc s2) → (∀ acc s, I [] acc s → Q acc s) → Wp (compLoop own tg test elt xs acc) s Q
  | [], acc, s, h, _, _, hd => wp_pure.mpr (hd acc s h)
  | x :: xs, acc, s, h, hz, ht, hd => by
    show Wp (do wipeM own; stTg tg (.sh x); let b ← test; (if b then do
      let v ← elt
      if acc.length < SZ then compLoop own tg test elt xs (acc ++ [v]) else fail
      else compLoop own tg test elt xs acc : M (List PV))) s Q
    rw [wp_bind, wp_wipe, wp_bind]
    refine (ht x xs acc s h).mono fun _ s1 h1 => ?_
    rw [wp_bind]
    refine h1.mono fun b s2 h2 => ?_
    have hz : acc.length + (xs.length + 1) ≤ SZ := hz
    cases b with
    | true =>
      rw [if_pos rfl, wp_bind]
      refine Wp.mono h2 fun u s3 h3 => ?_
      rw [if_pos (by omega)]
      exact wp_comp I xs _ s3 h3 (by rw [List.length_append]; simp only [List.length_cons, List.length_nil]; omega) ht hd
    | false =>
      rw [if_neg Bool.false_ne_true]
      exact wp_comp I xs acc s2 h2 (by omega) ht hd
/-- a comprehension that changes nothing else: by a function -/
theorem wp_compF {own : List Nat} {tg : Tg} {test : M Bool} {elt : M PV} {Q : List PV → Sl → Prop} (f : PV → Option PV) (s0 : Sl) {xs : List PV} {s : Sl} (h0 : wipe own s = s0) (hz : xs.length ≤ SZ)
    (ht : ∀ x ∈ xs, Wp (stTg tg (.sh x)) s0 fun _ s1 => Wp test s1 fun b s2 => match b with
      | true => Wp elt s2 fun u s3 => f x = some u ∧ wipe own s3 = s0
      | false => f x = none ∧ wipe own s2 = s0) (hd : ∀ s', wipe own s' = s0 → Q (xs.filterMap f) s') : Wp (compLoop own tg test elt xs []) s Q := by
  refine wp_comp (fun r acc s' => wipe own s' = s0 ∧ (∀ x ∈ r, x ∈ xs) ∧ acc ++ r.filterMap f = xs.filterMap f) xs [] s ⟨h0, fun x h => h, rfl⟩ (by simpa using hz) ?_ ?_
  · rintro x r acc s1 ⟨h1, h2, h3⟩
    rw [h1]
    refine (ht x (h2 x List.mem_cons_self)).mono fun _ s2 q => q.mono fun b s3 q => ?_
    cases b with
    | true =>
      refine Wp.mono q fun u s4 ⟨q1, q2⟩ => ⟨q2, fun y hy => h2 y (List.mem_cons_of_mem _ hy), ?_⟩
      rw [List.filterMap_cons, q1] at h3
      rw [← h3]; simp
    | false =>
      obtain ⟨q1, q2⟩ := q
      refine ⟨q2, fun y hy => h2 y (List.mem_cons_of_mem _ hy), ?_⟩
      rw [List.filterMap_cons, q1] at h3
      exact h3
  · rintro acc s1 ⟨h1, _, h3⟩
    have : acc = xs.filterMap f := by simpa using h3
    rw [this]
    exact hd s1 h1
theorem wp_while {test : M Bool} {body : M Fl} {Q : Fl → Sl → Prop} (I : Nat → Sl → Prop) : ∀ (n m : Nat) (s : Sl), I m s → m < n →
    (∀ m s, I m s → Wp test s fun b s1 => match b with
      | true => Wp body s1 fun fl s2 => match fl with
        | .nx => ∃ m', m' < m ∧ I m' s2
        | .ct => ∃ m', m' < m ∧ I m' s2
        | .bk => Q .nx s2
        | .rt w => Q (.rt w) s2
      | false => Q .nx s1) → Wp (whileLoop test body n) s Q
  | 0, m, s, _, hn, _ => absurd hn (Nat.not_lt_zero m)
  | n + 1, m, s, h, hn, ht => by
    show Wp (do let b ← test; (if b then do
      let f ← body
      (match f with
      | .nx => whileLoop test body n
      | .ct => whileLoop test body n
      | .bk => pure .nx
      | .rt w => pure (.rt w) : M Fl) else pure .nx)) s Q
    rw [wp_bind]
    refine (ht m s h).mono fun b s1 h1 => ?_
    cases b with
    | false => rw [if_neg Bool.false_ne_true]; exact wp_pure.mpr h1
    | true =>
      rw [if_pos rfl, wp_bind]
      refine Wp.mono h1 fun fl s2 h2 => ?_
      cases fl with
      | nx => obtain ⟨m', l, h2⟩ := h2; exact wp_while I n m' s2 h2 (by omega) ht
      | ct => obtain ⟨m', l, h2⟩ := h2; exact wp_while I n m' s2 h2 (by omega) ht
      | bk => exact wp_pure.mpr h2
      | rt w => exact wp_pure.mpr h2
theorem wp_dc {own : List Nat} {tg : Tg} {test : M Bool} {kv : M (PV × PV)} {Q : PV → Sl → Prop} (I : List PV → PV → Sl → Prop) : ∀ (xs : List PV) (acc : PV) (s : Sl), I xs acc s →
    (∀ x r acc s, I (x :: r) acc s → Wp (stTg tg (.sh x)) (wipe own s) fun _ s1 => Wp test s1 fun b s2 => match b with
      | true => Wp kv s2 fun p s3 => Got (setItem acc p.1 p.2) fun acc' => I r acc' s3
      | false => I r acc s2) → (∀ acc s, I [] acc s → Q acc s) → Wp (dcLoop own tg test kv xs acc) s Q
  | [], acc, s, h, _, hd => wp_pure.mpr (hd acc s h)
  | x :: xs, acc, s, h, ht, hd => by
    show Wp (do wipeM own; stTg tg (.sh x); let b ← test; (if b then do
      let p ← kv
      let acc' ← ofO (setItem acc p.1 p.2)
      dcLoop own tg test kv xs acc'
      else dcLoop own tg test kv xs acc : M PV)) s Q
    rw [wp_bind, wp_wipe, wp_bind]
    refine (ht x xs acc s h).mono fun _ s1 h1 => ?_
    rw [wp_bind]
    refine h1.mono fun b s2 h2 => ?_
    cases b with
    | true =>
      rw [if_pos rfl, wp_bind]
      refine Wp.mono h2 fun u s3 h3 => ?_
      obtain ⟨acc', e, h3⟩ := h3
      rw [wp_bind, e, wp_some]
      exact wp_dc I xs acc' s3 h3 ht hd
    | false =>
      rw [if_neg Bool.false_ne_true]
      exact wp_dc I xs acc s2 h2 ht hd
end
/-! a def -/
def pctx (P : Prog) (n : Nat) : Ctx := { call := callF P n, glb := P.glb, fuel := P.fuel, meth := P.meth, init := P.init, fok := P.fok, cok := P.cok, rp := P.rp, spl := P.spl }
theorem callF_at {P : Prog} {n f : Nat} {m : Fn} (h : P.fn f = some m) (args : List W) : callF P (n + 1) f args = runFn (pctx P n) m args := by
  show (match P.fn f with
    | some d => runFn (pctx P n) d args
    | none => .no) = _
  rw [h]
theorem ok_run {C : Ctx} {m : Fn} {args : List W} {Q : W → List (Option W) → Prop} (hl : args.length = m.np)
    (h : Wp (exSs C m.body) (inits 0 m.lend args ++ List.replicate (m.ns - m.np) none) fun fl s => match fl with
      | .rt w => Q w (outsOf 0 m.lend args s)
      | .nx => Q (.sh .non) (outsOf 0 m.lend args s)
      | _ => False) : Ok (runFn C m args) Q := by
  obtain ⟨fl, s, e, q⟩ := h
  unfold runFn
  rw [if_pos hl, e]
  cases fl with
  | rt w => exact ⟨_, _, rfl, q⟩
  | nx => exact ⟨_, _, rfl, q⟩
  | bk => exact q.elim
  | ct => exact q.elim
end Mini
end

section
set_option linter.all false
set_option maxRecDepth 100000
/-! WpE: each form of the text. -/
namespace Mini
section
variable {C : Ctx} {s : Sl}
def intOf : PV → Option Int
  | .int i => some i
  | _ => none
@[simp] theorem intOf_int {i : Int} : intOf (.int i) = some i := rfl
theorem wp_int {α : Type} {v : PV} {k : Int → M α} {Q : α → Sl → Prop} : Wp (match v with
    | .int i => k i
    | _ => fail) s Q ↔ Got (intOf v) fun i => Wp (k i) s Q := by
  cases v with
  | int i => exact ⟨fun h => ⟨i, rfl, h⟩, fun ⟨_, e, h⟩ => by cases e; exact h⟩
  | _ => exact ⟨fun h => (wp_fail.mp h).elim, fun ⟨_, e, _⟩ => (nomatch e)⟩
def LookB (s : Sl) (i : Nat) (R : Nat → List (Nat × W) → Prop) : Prop := ∃ c fs, At s i (.obj c fs) ∧ R c fs
@[simp ↓] theorem lookB_m {i : Nat} {R : Nat → List (Nat × W) → Prop} : LookB s i R = (match s[i]? with
    | some (some (.obj c fs)) => R c fs
    | _ => False) := by
  apply propext
  unfold LookB At
  cases h : s[i]? with
  | none => exact ⟨fun ⟨_, _, e, _⟩ => (nomatch e), False.elim⟩
  | some o => cases o with
    | none => exact ⟨fun ⟨_, _, e, _⟩ => (nomatch e), False.elim⟩
    | some w => cases w with
      | obj c fs => exact ⟨fun ⟨_, _, e, q⟩ => by cases e; exact q, fun q => ⟨_, _, rfl, q⟩⟩
      | sh v => exact ⟨fun ⟨_, _, e, _⟩ => (nomatch e), False.elim⟩
      | own v => exact ⟨fun ⟨_, _, e, _⟩ => (nomatch e), False.elim⟩
@[simp ↓] theorem wp_frz {m : M W} {Q : PV → Sl → Prop} : Wp (frzR m) s Q ↔ Wp m s fun w s' => Q w.frz s' := by unfold frzR; rw [wp_bind]; simp only [wp_pure]
@[simp ↓] theorem wp_kv {m m' : M W} {Q : PV × PV → Sl → Prop} : Wp (do let a ← m; let b ← m'; pure (a.frz, b.frz)) s Q ↔ Wp m s fun a s1 => Wp m' s1 fun b s2 => Q (a.frz, b.frz) s2 := by
  simp only [wp_bind, wp_pure]
theorem wp_tru {v : PV} {Q : Bool → Sl → Prop} : Wp (truthM v) s Q ↔ Got (truth v) fun b => Q b s := wp_ofO
@[simp ↓] theorem v_mk {m : M W} {Q : W → Sl → Prop} : Wp (mk m).v s Q ↔ Wp m s Q := Iff.rfl
@[simp ↓] theorem b_mk {m : M W} {Q : PV → Sl → Prop} : Wp (mk m).b s Q ↔ Wp m s fun w s' => Q w.frz s' := wp_frz
@[simp ↓] theorem t_mk {m : M W} {Q : Bool → Sl → Prop} : Wp (mk m).t s Q ↔ Wp m s fun w s' => Got (truth w.frz) fun b => Q b s' := by
  show Wp (do let v ← frzR m; truthM v) s Q ↔ _
  rw [wp_bind, wp_frz]; simp only [wp_tru]
@[simp ↓] theorem it_mk {m : M W} {Q : List PV → Sl → Prop} : Wp (mk m).it s Q ↔ Wp m s fun w s' => Got (itemsS w.frz) fun xs => Q xs s' := by
  show Wp (do let v ← frzR m; ofO (itemsS v)) s Q ↔ _
  rw [wp_bind, wp_frz]; simp only [wp_ofO]
@[simp ↓] theorem a_mk {m : M W} {Q : Arg → Sl → Prop} : Wp (mk m).arg s Q ↔ Wp m s fun w s' => Q (.vl w) s' := by
  show Wp (do let w ← m; pure (.vl w)) s Q ↔ _
  rw [wp_bind]; simp only [wp_pure]
/-! variables -/
@[simp ↓] theorem v_var {i : Nat} {Q : W → Sl → Prop} : Wp (sem C (.var i)).v s Q ↔ Look s i fun w => Put s i (some (.sh w.frz)) fun s' => Q (.sh w.frz) s' := wp_rd
@[simp ↓] theorem b_var {i : Nat} {Q : PV → Sl → Prop} : Wp (sem C (.var i)).b s Q ↔ Look s i fun w => Q w.frz s := wp_view
@[simp ↓] theorem t_var {i : Nat} {Q : Bool → Sl → Prop} : Wp (sem C (.var i)).t s Q ↔ Look s i fun w => Got (truth w.frz) fun b => Q b s := by
  show Wp (do { let v ← viewVar i; truthM v }) s Q ↔ _
  rw [wp_bind, wp_view]; simp only [wp_tru]
@[simp ↓] theorem it_var {i : Nat} {Q : List PV → Sl → Prop} : Wp (sem C (.var i)).it s Q ↔ Look s i fun w => Put s i (some (.sh w.frz)) fun s' => Got (itemsS w.frz) fun xs => Q xs s' := by
  show Wp (mk (rdVar i)).it s Q ↔ _
  rw [it_mk, wp_rd]; rfl
@[simp ↓] theorem a_var {i : Nat} {Q : Arg → Sl → Prop} : Wp (sem C (.var i)).arg s Q ↔ Look s i fun w => Q (.rf i) s := by
  show Wp (do { let _ ← viewVar i; pure (Arg.rf i) }) s Q ↔ _
  rw [wp_bind, wp_view]; simp only [wp_pure]
@[simp ↓] theorem v_mov {i : Nat} {Q : W → Sl → Prop} : Wp (sem C (.mov i)).v s Q ↔ Look s i fun w => Put s i none fun s' => Q w s' := wp_mov
/-! literals -/
@[simp ↓] theorem v_lit {v : PV} {Q : W → Sl → Prop} : Wp (sem C (.lit v)).v s Q ↔ Q (.sh v) s := wp_pure
@[simp ↓] theorem b_lit {v : PV} {Q : PV → Sl → Prop} : Wp (sem C (.lit v)).b s Q ↔ Q v s := by show Wp (mk _).b s Q ↔ _; rw [b_mk, wp_pure]; rfl
@[simp ↓] theorem t_lit {v : PV} {Q : Bool → Sl → Prop} : Wp (sem C (.lit v)).t s Q ↔ Got (truth v) fun b => Q b s := by show Wp (mk _).t s Q ↔ _; rw [t_mk, wp_pure]; rfl
@[simp ↓] theorem a_lit {v : PV} {Q : Arg → Sl → Prop} : Wp (sem C (.lit v)).arg s Q ↔ Q (.vl (.sh v)) s := by show Wp (mk _).arg s Q ↔ _; rw [a_mk, wp_pure]
@[simp ↓] theorem it_lit {v : PV} {Q : List PV → Sl → Prop} : Wp (sem C (.lit v)).it s Q ↔ Got (itemsS v) fun xs => Q xs s := by show Wp (mk _).it s Q ↔ _; rw [it_mk, wp_pure]; rfl
theorem wp_glb {g : Nat} {Q : W → Sl → Prop} : Wp (ofO ((C.glb g).map .sh)) s Q ↔ Got (C.glb g) fun v => Q (.sh v) s := by
  rw [wp_ofO]
  constructor
  · rintro ⟨w, e, q⟩
    obtain ⟨v, e1, rfl⟩ := Option.map_eq_some_iff.mp e
    exact ⟨v, e1, q⟩
  · rintro ⟨v, e, q⟩
    exact ⟨_, by rw [e]; rfl, q⟩
/-! the plain forms: the value, then the rest by mk -/
theorem m_glb {g : Nat} : sem C (.glb g) = mk (ofO ((C.glb g).map .sh)) := rfl
theorem m_tup {es : List E} : sem C (.tup es) = mk (do let vs ← evs C es; if vs.length ≤ SZ then pure (.sh (.tup vs)) else fail) := rfl
theorem m_lst {es : List E} : sem C (.lst es) = mk (do let vs ← evs C es; if vs.length ≤ SZ then pure (.own (.lst vs)) else fail) := rfl
theorem m_bin {o : BOp} {a b : E} : sem C (.bin o a b) = mk (do let x ← (sem C a).v; let y ← (sem C b).v; let v ← ofO (binop o x.frz y.frz); pure (ownIf v)) := rfl
theorem m_neg {a : E} : sem C (.neg a) = mk (do let x ← (sem C a).v; match x.frz with
    | .int i => pure (.sh (.int (-i)))
    | _ => fail) := rfl
theorem m_cmp {o : COp} {a b : E} : sem C (.cmp o a b) = mk (do let x ← (sem C a).v; let y ← (sem C b).b; let r ← ofO (cmpop o x.frz y); pure (.sh (.bl r))) := rfl
theorem m_chn {o p : COp} {a b c : E} : sem C (.chn o p a b c) = mk (do
    let x ← (sem C a).v
    let y ← (sem C b).v
    let r ← ofO (cmpop o x.frz y.frz)
    if r then
      let z ← (sem C c).v
      let r ← ofO (cmpop p y.frz z.frz)
      pure (.sh (.bl r))
    else pure (.sh (.bl false))) := rfl
theorem m_isi {a : E} {ts : List Ty} : sem C (.isi a ts) = mk (do let x ← (sem C a).b; if typeOk C.cok x then pure (.sh (.bl (ts.any fun t => typeIs x t))) else fail) := rfl
theorem m_call {f : Nat} {es : List E} : sem C (.call f es) = mk (do let as ← evArgs C es; callM (C.call f) as) := rfl
theorem m_rev {a : E} : sem C (.rev a) = mk (do let x ← (sem C a).b; let r ← ofO (revs x); pure (ownIf r)) := rfl
theorem m_new {c : Nat} {es : List E} : sem C (.new c es) = mk (do let as ← evArgs C es; newM C c as) := rfl
theorem m_comp {elt : E} {own : List Nat} {tg : Tg} {it : E} {is : List E} : sem C (.comp elt own tg it is) = mk (do
    let xs ← (sem C it).it
    let r ← inBlock own (compLoop own tg (evTs C is) (frzR (sem C elt).v) xs [])
    pure (.own (.lst r))) := rfl
theorem m_dcomp {t : Bool} {k v : E} {own : List Nat} {tg : Tg} {it : E} {is : List E} : sem C (.dcomp t k v own tg it is) = mk (do
    let xs ← (sem C it).it
    let r ← inBlock own (dcLoop own tg (evTs C is) (do let a ← (sem C k).v; let b ← (sem C v).v; pure (a.frz, b.frz)) xs (if t then .dt [] else .dk []))
    pure (.own r)) := rfl
@[simp ↓] theorem v_glb {g : Nat} {Q : W → Sl → Prop} : Wp (sem C (.glb g)).v s Q ↔ Got (C.glb g) fun v => Q (.sh v) s := by rw [m_glb, v_mk, wp_glb]
@[simp ↓] theorem v_tup {es : List E} {Q : W → Sl → Prop} : Wp (sem C (.tup es)).v s Q ↔ Wp (evs C es) s fun vs s1 => vs.length ≤ SZ ∧ Q (.sh (.tup vs)) s1 := by
  rw [m_tup, v_mk, wp_bind]
  constructor
  · exact fun h => h.mono fun vs s1 q => by
      split at q
      · exact ⟨by assumption, wp_pure.mp q⟩
      · exact (wp_fail.mp q).elim
  · exact fun h => h.mono fun vs s1 q => by rw [if_pos q.1]; exact wp_pure.mpr q.2
@[simp ↓] theorem v_lst {es : List E} {Q : W → Sl → Prop} : Wp (sem C (.lst es)).v s Q ↔ Wp (evs C es) s fun vs s1 => vs.length ≤ SZ ∧ Q (.own (.lst vs)) s1 := by
  rw [m_lst, v_mk, wp_bind]
  constructor
  · exact fun h => h.mono fun vs s1 q => by
      split at q
      · exact ⟨by assumption, wp_pure.mp q⟩
      · exact (wp_fail.mp q).elim
  · exact fun h => h.mono fun vs s1 q => by rw [if_pos q.1]; exact wp_pure.mpr q.2
@[simp ↓] theorem v_bin {o : BOp} {a b : E} {Q : W → Sl → Prop} : Wp (sem C (.bin o a b)).v s Q ↔ Wp (sem C a).v s fun x s1 => Wp (sem C b).v s1 fun y s2 => Got (binop o x.frz y.frz) fun v => Q (ownIf v) s2 := by
  rw [m_bin, v_mk]; simp only [wp_bind, wp_ofO, wp_pure]
@[simp ↓] theorem v_cmp {o : COp} {a b : E} {Q : W → Sl → Prop} : Wp (sem C (.cmp o a b)).v s Q ↔ Wp (sem C a).v s fun x s1 => Wp (sem C b).b s1 fun y s2 => Got (cmpop o x.frz y) fun r => Q (.sh (.bl r)) s2 := by
  rw [m_cmp, v_mk]; simp only [wp_bind, wp_ofO, wp_pure]
@[simp ↓] theorem v_chn {o p : COp} {a b c : E} {Q : W → Sl → Prop} : Wp (sem C (.chn o p a b c)).v s Q ↔ Wp (sem C a).v s fun x s1 => Wp (sem C b).v s1 fun y s2 => Got (cmpop o x.frz y.frz) fun r => if r then Wp (sem C c).v s2 fun z s3 => Got (cmpop p y.frz z.frz) fun r' => Q (.sh (.bl r')) s3 else Q (.sh (.bl false)) s2 := by
  rw [m_chn, v_mk]; simp only [wp_bind, wp_ofO, wp_pure, wp_ite]
@[simp ↓] theorem v_isi {a : E} {ts : List Ty} {Q : W → Sl → Prop} : Wp (sem C (.isi a ts)).v s Q ↔ Wp (sem C a).b s fun x s1 => typeOk C.cok x = true ∧ Q (.sh (.bl (ts.any fun t => typeIs x t))) s1 := by
  rw [m_isi, v_mk, wp_bind]
  constructor
  · exact fun h => h.mono fun vs s1 q => by
      split at q
      · exact ⟨by assumption, wp_pure.mp q⟩
      · exact (wp_fail.mp q).elim
  · exact fun h => h.mono fun vs s1 q => by rw [if_pos q.1]; exact wp_pure.mpr q.2
@[simp ↓] theorem v_call {f : Nat} {es : List E} {Q : W → Sl → Prop} : Wp (sem C (.call f es)).v s Q ↔ Wp (evArgs C es) s fun as s1 => Called (lendA as s1) fun ws s2 => Ok (C.call f ws) fun w outs => Q w (backA as outs s2) := by
  rw [m_call, v_mk]; simp only [wp_bind, wp_call]
@[simp ↓] theorem v_rev {a : E} {Q : W → Sl → Prop} : Wp (sem C (.rev a)).v s Q ↔ Wp (sem C a).b s fun x s1 => Got (revs x) fun r => Q (ownIf r) s1 := by
  rw [m_rev, v_mk]; simp only [wp_bind, wp_ofO, wp_pure]
@[simp ↓] theorem v_comp {elt : E} {own : List Nat} {tg : Tg} {it : E} {is : List E} {Q : W → Sl → Prop} : Wp (sem C (.comp elt own tg it is)).v s Q ↔ Wp (sem C it).it s fun xs s1 => Wp (compLoop own tg (evTs C is) (frzR (sem C elt).v) xs []) (wipe own s1) fun r s2 => Q (.own (.lst r)) (wipe own s2) := by
  rw [m_comp, v_mk]; simp only [wp_bind, wp_block, wp_pure]
@[simp ↓] theorem v_dcomp {t : Bool} {k v : E} {own : List Nat} {tg : Tg} {it : E} {is : List E} {Q : W → Sl → Prop} : Wp (sem C (.dcomp t k v own tg it is)).v s Q ↔ Wp (sem C it).it s fun xs s1 => Wp (dcLoop own tg (evTs C is) (do let a ← (sem C k).v; let b ← (sem C v).v; pure (a.frz, b.frz)) xs (if t then .dt [] else .dk [])) (wipe own s1) fun r s2 => Q (.own r) (wipe own s2) := by
  rw [m_dcomp, v_mk]; simp only [wp_bind, wp_block, wp_pure]
@[simp ↓] theorem v_neg {a : E} {Q : W → Sl → Prop} : Wp (sem C (.neg a)).v s Q ↔ Wp (sem C a).v s fun x s1 => Got (intOf x.frz) fun i => Q (.sh (.int (-i))) s1 := by
  rw [m_neg, v_mk, wp_bind]
  simp only [wp_int, wp_pure]
/-! not, and, or, if -/
@[simp ↓] theorem v_not {a : E} {Q : W → Sl → Prop} : Wp (sem C (.not_ a)).v s Q ↔ Wp (sem C a).v s fun x s1 => Got (truth x.frz) fun b => Q (.sh (.bl !b)) s1 := by
  show Wp (do let x ← (sem C a).v; let b ← truthM x.frz; pure (.sh (.bl !b))) s Q ↔ _
  simp only [wp_bind, wp_tru, wp_pure]
@[simp ↓] theorem t_not {a : E} {Q : Bool → Sl → Prop} : Wp (sem C (.not_ a)).t s Q ↔ Wp (sem C a).t s fun b s1 => Q (!b) s1 := by
  show Wp (do let b ← (sem C a).t; pure !b) s Q ↔ _
  simp only [wp_bind, wp_pure]
@[simp ↓] theorem v_and {a b : E} {Q : W → Sl → Prop} : Wp (sem C (.and_ a b)).v s Q ↔ Wp (sem C a).v s fun x s1 => Got (truth x.frz) fun t => if t then Wp (sem C b).v s1 Q else Q (.sh x.frz) s1 := by
  show Wp (do let x ← (sem C a).v; let t ← truthM x.frz; if t then (sem C b).v else pure (.sh x.frz)) s Q ↔ _
  simp only [wp_bind, wp_tru, wp_pure, wp_ite]
@[simp ↓] theorem t_and {a b : E} {Q : Bool → Sl → Prop} : Wp (sem C (.and_ a b)).t s Q ↔ Wp (sem C a).t s fun t s1 => if t then Wp (sem C b).t s1 Q else Q false s1 := by
  show Wp (do let t ← (sem C a).t; if t then (sem C b).t else pure false) s Q ↔ _
  simp only [wp_bind, wp_pure, wp_ite]
@[simp ↓] theorem v_or {a b : E} {Q : W → Sl → Prop} : Wp (sem C (.or_ a b)).v s Q ↔ Wp (sem C a).v s fun x s1 => Got (truth x.frz) fun t => if t then Q (.sh x.frz) s1 else Wp (sem C b).v s1 Q := by
  show Wp (do let x ← (sem C a).v; let t ← truthM x.frz; if t then pure (.sh x.frz) else (sem C b).v) s Q ↔ _
  simp only [wp_bind, wp_tru, wp_pure, wp_ite]
@[simp ↓] theorem t_or {a b : E} {Q : Bool → Sl → Prop} : Wp (sem C (.or_ a b)).t s Q ↔ Wp (sem C a).t s fun t s1 => if t then Q true s1 else Wp (sem C b).t s1 Q := by
  show Wp (do let t ← (sem C a).t; if t then pure true else (sem C b).t) s Q ↔ _
  simp only [wp_bind, wp_pure, wp_ite]
@[simp ↓] theorem v_ife {c a b : E} {Q : W → Sl → Prop} : Wp (sem C (.ite c a b)).v s Q ↔ Wp (sem C c).t s fun t s1 => if t then Wp (sem C a).v s1 Q else Wp (sem C b).v s1 Q := by
  show Wp (do let t ← (sem C c).t; if t then (sem C a).v else (sem C b).v) s Q ↔ _
  simp only [wp_bind, wp_ite]
@[simp ↓] theorem t_ife {c a b : E} {Q : Bool → Sl → Prop} : Wp (sem C (.ite c a b)).t s Q ↔ Wp (sem C c).t s fun t s1 => if t then Wp (sem C a).t s1 Q else Wp (sem C b).t s1 Q := by
  show Wp (do let t ← (sem C c).t; if t then (sem C a).t else (sem C b).t) s Q ↔ _
  simp only [wp_bind, wp_ite]
/-! how a form is asked otherwise -/
/-- not a variable, nothing that is walked alone -/
def plainE : E → Bool
  | .var _ => false
  | .enm _ => false
  | .zp2 _ _ => false
  | .zp3 _ _ _ => false
  | .prs _ => false
  | .blt .rng _ => false
  | _ => true
theorem p_b {e : E} (h : plainE e = true) {Q : PV → Sl → Prop} : Wp (sem C e).b s Q ↔ Wp (sem C e).v s fun w s' => Q w.frz s' := by
  have : (sem C e).b = frzR (sem C e).v := by
    cases e with
    | blt b es =>
      cases es with
      | nil => cases b <;> first | rfl | (cases h; done)
      | cons a r => cases r <;> cases b <;> first | rfl | (cases h; done)
    | fld a f => cases a <;> first | rfl | (cases h; done)
    | _ => first | rfl | (cases h; done)
  rw [this, wp_frz]
theorem p_a {e : E} (h : plainE e = true) {Q : Arg → Sl → Prop} : Wp (sem C e).arg s Q ↔ Wp (sem C e).v s fun w s' => Q (.vl w) s' := by
  have : (sem C e).arg = (do let w ← (sem C e).v; pure (.vl w)) := by
    cases e with
    | blt b es =>
      cases es with
      | nil => cases b <;> first | rfl | (cases h; done)
      | cons a r => cases r <;> cases b <;> first | rfl | (cases h; done)
    | fld a f => cases a <;> first | rfl | (cases h; done)
    | _ => first | rfl | (cases h; done)
  rw [this, wp_bind]; simp only [wp_pure]
theorem p_i {e : E} (h : plainE e = true) {Q : List PV → Sl → Prop} : Wp (sem C e).it s Q ↔ Wp (sem C e).v s fun w s' => Got (itemsS w.frz) fun xs => Q xs s' := by
  have : (sem C e).it = (do let v ← frzR (sem C e).v; ofO (itemsS v)) := by
    cases e with
    | blt b es =>
      cases es with
      | nil => cases b <;> first | rfl | (cases h; done)
      | cons a r => cases r <;> cases b <;> first | rfl | (cases h; done)
    | fld a f => cases a <;> first | rfl | (cases h; done)
    | _ => first | rfl | (cases h; done)
  rw [this, wp_bind, wp_frz]; simp only [wp_ofO]
/-- a plain test -/
def plainT : E → Bool
  | .not_ _ => false
  | .and_ _ _ => false
  | .or_ _ _ => false
  | .ite _ _ _ => false
  | e => plainE e
theorem p_t {e : E} (h : plainT e = true) {Q : Bool → Sl → Prop} : Wp (sem C e).t s Q ↔ Wp (sem C e).v s fun w s' => Got (truth w.frz) fun b => Q b s' := by
  have : (sem C e).t = (do let v ← frzR (sem C e).v; truthM v) := by
    cases e with
    | blt b es =>
      cases es with
      | nil => cases b <;> first | rfl | (cases h; done)
      | cons a r => cases r <;> cases b <;> first | rfl | (cases h; done)
    | fld a f => cases a <;> first | rfl | (cases h; done)
    | _ => first | rfl | (cases h; done)
  rw [this, wp_bind, wp_frz]; simp only [wp_tru]
/-- a field -/
def fldW (ok : Nat → Nat → Bool) (f : Nat) : W → Option PV
  | .obj c fs => if ok c f then (match lookF f fs with
    | some (.sh u) => some u
    | _ => none) else none
  | .sh v => fieldV ok f v
  | .own _ => none
@[simp ↓] theorem wp_rdFld {fok : Nat → Nat → Bool} {i f : Nat} {Q : W → Sl → Prop} : Wp (rdFld fok i f) s Q ↔ Look s i fun w => Got (fldW fok f w) fun v => Q (.sh v) s := by
  unfold Wp rdFld Look At Got
  constructor
  · rintro ⟨a, s1, e, q⟩
    split at e
    · rename_i c fs h
      split at e
      · rename_i h1
        split at e
        · rename_i u h2
          cases e
          exact ⟨_, h, u, by show (if _ then _ else _) = _; rw [if_pos h1, h2], q⟩
        · cases e
      · cases e
    · rename_i v h
      split at e
      · rename_i u h2
        cases e
        exact ⟨_, h, u, h2, q⟩
      · cases e
    · cases e
  · rintro ⟨w, h, u, e, q⟩
    refine ⟨.sh u, s, ?_, q⟩
    rw [h]
    cases w with
    | sh v => dsimp only; rw [show fieldV fok f v = some u from e]
    | own v => cases e
    | obj c fs =>
      dsimp only
      have e : (if fok c f then (match lookF f fs with
        | some (.sh u) => some u
        | _ => none) else none) = some u := e
      split at e
      · rename_i h1
        rw [if_pos h1]
        split at e
        · rename_i u' h2
          cases e
          first | rfl | rw [h2]
        · cases e
      · cases e
/-! objects, dict displays -/
/-- a new object, after its __init__ -/
def Newd (r : CR) (R : W → List (Option W) → Prop) : Prop := ∃ w outs, r = .ok (.sh .non) (some w :: outs) ∧ R w outs
@[simp ↓] theorem newd_m {r : CR} {R : W → List (Option W) → Prop} : Newd r R = (match r with
    | .ok (.sh .non) (some w :: outs) => R w outs
    | _ => False) := by
  apply propext
  unfold Newd
  constructor
  · rintro ⟨w, outs, rfl, h⟩; exact h
  · intro h
    split at h
    · exact ⟨_, _, rfl, h⟩
    · exact h.elim
theorem wp_new {c : Nat} {as : List Arg} {Q : W → Sl → Prop} : Wp (newM C c as) s Q ↔ Got (C.init c) fun f => Called (lendA as s) fun ws s1 => Newd (C.call f (.obj c [] :: ws)) fun w outs => Q w (backA as outs s1) := by
  unfold newM
  cases hi : C.init c with
  | none => exact ⟨fun h => (wp_fail.mp h).elim, fun ⟨_, e, _⟩ => (nomatch e)⟩
  | some f =>
    constructor
    · rintro ⟨w, s2, e, q⟩
      refine ⟨f, rfl, ?_⟩
      dsimp only at e
      split at e
      · rename_i ws s1 hl
        refine ⟨(ws, s1), hl, ?_⟩
        split at e
        · rename_i w' outs hc
          cases e
          exact ⟨_, _, hc, q⟩
        · cases e
        · cases e
      · cases e
    · rintro ⟨f', e, p, hl, w, outs, hc, q⟩
      cases e
      refine ⟨w, _, ?_, q⟩
      dsimp only
      rw [hl]
      dsimp only
      rw [hc]
@[simp ↓] theorem v_new {c : Nat} {es : List E} {Q : W → Sl → Prop} : Wp (sem C (.new c es)).v s Q ↔ Wp (evArgs C es) s fun as s1 => Got (C.init c) fun f => Called (lendA as s1) fun ws s2 => Newd (C.call f (.obj c [] :: ws)) fun w outs => Q w (backA as outs s2) := by
  rw [m_new, v_mk]; simp only [wp_bind, wp_new]
def clsOf : W → Option Nat
  | .obj c _ => some c
  | .sh (.ins c _) => some c
  | _ => none
@[simp] theorem clsOf_obj {c : Nat} {fs : List (Nat × W)} : clsOf (.obj c fs) = some c := rfl
@[simp] theorem clsOf_ins {c : Nat} {fs : List (Nat × PV)} : clsOf (.sh (.ins c fs)) = some c := rfl
theorem wp_cls {j : Nat} {Q : Nat → Sl → Prop} : Wp (clsVar j) s Q ↔ Look s j fun w => Got (clsOf w) fun c => Q c s := by
  unfold Wp clsVar Look At
  constructor
  · rintro ⟨c, s1, e, q⟩
    split at e
    · rename_i c' fs h; cases e; exact ⟨_, h, _, rfl, q⟩
    · rename_i c' fs h; cases e; exact ⟨_, h, _, rfl, q⟩
    · cases e
  · rintro ⟨w, h, c, e, q⟩
    refine ⟨c, s, ?_, q⟩
    rw [h]
    cases w with
    | obj c' fs => cases e; rfl
    | own v => cases e
    | sh v => cases v <;> first | (cases e; rfl) | cases e
@[simp ↓] theorem v_omth {m j : Nat} {es : List E} {Q : W → Sl → Prop} : Wp (sem C (.omth m (.var j) es)).v s Q ↔ Look s j fun w => Got (clsOf w) fun c => Got (C.meth c m) fun f => Wp (evArgs C es) s fun as s1 => Called (lendA (.rf j :: as) s1) fun ws s2 => Ok (C.call f ws) fun w outs => Q w (backA (.rf j :: as) outs s2) := by
  show Wp (do
      let c ← clsVar j
      match C.meth c m with
      | some f => do let as ← evArgs C es; callM (C.call f) (.rf j :: as)
      | none => fail) s Q ↔ _
  have key : ∀ (c : Nat) (s : Sl), Wp (match C.meth c m with
      | some f => do let as ← evArgs C es; callM (C.call f) (.rf j :: as)
      | none => fail) s Q ↔ Got (C.meth c m) fun f => Wp (evArgs C es) s fun as s1 => Called (lendA (.rf j :: as) s1) fun ws s2 => Ok (C.call f ws) fun w outs => Q w (backA (.rf j :: as) outs s2) := by
    intro c s
    cases C.meth c m with
    | none => exact ⟨fun h => (wp_fail.mp h).elim, fun ⟨_, e, _⟩ => (nomatch e)⟩
    | some f =>
      show Wp (do let as ← evArgs C es; callM (C.call f) (.rf j :: as)) s Q ↔ _
      simp only [wp_bind, wp_call]
      exact ⟨fun h => ⟨_, rfl, h⟩, fun ⟨_, e, h⟩ => by cases e; exact h⟩
  rw [wp_bind, wp_cls]
  constructor
  · rintro ⟨w, h, c, e, q⟩; exact ⟨w, h, c, e, (key c s).mp q⟩
  · rintro ⟨w, h, c, e, q⟩; exact ⟨w, h, c, e, (key c s).mpr q⟩
@[simp ↓] theorem v_dctT {Q : W → Sl → Prop} : Wp (sem C (.dct true [] [])).v s Q ↔ Q (.own (.dt [])) s := wp_pure
@[simp ↓] theorem v_dct0 {Q : W → Sl → Prop} : Wp (sem C (.dct false [] [])).v s Q ↔ Q (.own (.dk [])) s := by
  show Wp (do let ps ← (pure [] : M (List PV)); ofO ((mkDK ps []).map fun l => W.own (.dk l))) s Q ↔ _
  rw [wp_bind, wp_pure]
  exact wp_some
@[simp ↓] theorem v_dct1 {a b : E} {Q : W → Sl → Prop} : Wp (sem C (.dct false [a] [b])).v s Q ↔ Wp (sem C a).v s fun x s1 => Wp (sem C b).v s1 fun y s2 => Got (keyOf x.frz) fun k => Q (.own (.dk [(k, y.frz)])) s2 := by
  show Wp (do let ps ← (do let a ← (sem C a).v; let b ← (sem C b).v; let r ← (pure [] : M (List PV)); pure (.tup [a.frz, b.frz] :: r)); ofO ((mkDK ps []).map fun l => W.own (.dk l))) s Q ↔ _
  simp only [wp_bind, wp_pure]
  have key : ∀ (x y : PV) (s : Sl), Wp (ofO ((mkDK [.tup [x, y]] []).map fun l => W.own (.dk l))) s Q ↔ Got (keyOf x) fun k => Q (.own (.dk [(k, y)])) s := by
    intro x y s
    rw [wp_ofO]
    unfold mkDK
    cases keyOf x with
    | none => exact ⟨fun ⟨_, e, _⟩ => (nomatch e), fun ⟨_, e, _⟩ => (nomatch e)⟩
    | some k => exact ⟨fun ⟨_, e, q⟩ => by cases e; exact ⟨_, rfl, q⟩, fun ⟨_, e, q⟩ => by cases e; exact ⟨_, rfl, q⟩⟩
  exact ⟨fun h => h.mono fun x s1 h => h.mono fun y s2 h => (key _ _ _).mp h, fun h => h.mono fun x s1 h => h.mono fun y s2 h => (key _ _ _).mpr h⟩
@[simp ↓] theorem v_ofIt {b : Bi} {a : E} {Q : W → Sl → Prop} : Wp (sem C (.ofIt b a)).v s Q ↔ Wp (sem C a).it s fun xs s1 => Got (builtin C.rp b [.lst xs]) fun w => Q w s1 := by
  show Wp (do let xs ← (sem C a).it; ofO (builtin C.rp b [.lst xs])) s Q ↔ _
  simp only [wp_bind, wp_ofO]
/-! index, slice, field -/
@[simp ↓] theorem v_idxV {j : Nat} {i : E} {Q : W → Sl → Prop} : Wp (sem C (.idx (.var j) i)).v s Q ↔ Look s j fun w0 => Wp (sem C i).v s fun k s1 => Look s1 j fun w => Got (index w.frz k.frz) fun r => Q (.sh r) s1 := by
  show Wp (do let _ ← viewVar j; let k ← (sem C i).v; let v ← viewVar j; let r ← ofO (index v k.frz); pure (.sh r)) s Q ↔ _
  simp only [wp_bind, wp_view, wp_ofO, wp_pure]
theorem v_idx {a i : E} (h : isPlace a = none) {Q : W → Sl → Prop} : Wp (sem C (.idx a i)).v s Q ↔ Wp (sem C a).v s fun x s1 => Wp (sem C i).v s1 fun k s2 => Got (index x.frz k.frz) fun r => Q (.sh r) s2 := by
  have : (sem C (.idx a i)).v = (do let x ← (sem C a).v; let k ← (sem C i).v; let r ← ofO (index x.frz k.frz); pure (.sh r) : M W) := by
    show (match isPlace a with
      | some j => (do let _ ← viewVar j; let k ← (sem C i).v; let v ← viewVar j; let r ← ofO (index v k.frz); pure (.sh r) : M W)
      | none => (do let x ← (sem C a).v; let k ← (sem C i).v; let r ← ofO (index x.frz k.frz); pure (.sh r) : M W)) = _
    rw [h]
  rw [this]
  simp only [wp_bind, wp_ofO, wp_pure]
@[simp ↓] theorem wp_part {e : E} {m : M W} {Q : PV → Sl → Prop} : Wp (partM e m) s Q ↔ if isNoPart e then Q .non s else Wp m s fun w s' => Got (intOf w.frz) fun i => Q (.int i) s' := by
  unfold partM
  rw [wp_ite, wp_bind]
  have key : ∀ (w : W) (s' : Sl), Wp (match w.frz with
    | .int i => pure (.int i)
    | _ => fail) s' Q ↔ Got (intOf w.frz) fun i => Q (.int i) s' := by
    intro w s'
    cases w.frz with
    | int i => exact wp_pure.trans ⟨fun h => ⟨i, rfl, h⟩, fun ⟨_, e, h⟩ => by cases e; exact h⟩
    | _ => exact ⟨fun h => (wp_fail.mp h).elim, fun ⟨_, e, _⟩ => (nomatch e)⟩
  split
  · exact wp_pure
  · exact ⟨fun h => h.mono fun w s' q => (key w s').mp q, fun h => h.mono fun w s' q => (key w s').mpr q⟩
@[simp ↓] theorem v_slcV {j : Nat} {lo hi : E} {Q : W → Sl → Prop} : Wp (sem C (.slc (.var j) lo hi)).v s Q ↔ Look s j fun w0 => Wp (partM lo (sem C lo).v) s fun l s1 => Wp (partM hi (sem C hi).v) s1 fun h s2 => Look s2 j fun w => Got (slice w.frz l h) fun r => Q (ownIf r) s2 := by
  show Wp (do let _ ← viewVar j; let l ← partM lo (sem C lo).v; let h ← partM hi (sem C hi).v; let x ← viewVar j; let r ← ofO (slice x l h); pure (ownIf r)) s Q ↔ _
  simp only [wp_bind, wp_view, wp_ofO, wp_pure]
theorem v_slc {a lo hi : E} (h : isPlace a = none) {Q : W → Sl → Prop} : Wp (sem C (.slc a lo hi)).v s Q ↔ Wp (sem C a).v s fun x s0 => Wp (partM lo (sem C lo).v) s0 fun l s1 => Wp (partM hi (sem C hi).v) s1 fun h s2 => Got (slice x.frz l h) fun r => Q (ownIf r) s2 := by
  have : (sem C (.slc a lo hi)).v = (do let x ← (sem C a).v; let l ← partM lo (sem C lo).v; let h ← partM hi (sem C hi).v; let r ← ofO (slice x.frz l h); pure (ownIf r)) := by
    show (match isPlace a with
      | some j => do let _ ← viewVar j; let l ← partM lo (sem C lo).v; let h ← partM hi (sem C hi).v; let x ← viewVar j; let r ← ofO (slice x l h); pure (ownIf r)
      | none => do let x ← (sem C a).v; let l ← partM lo (sem C lo).v; let h ← partM hi (sem C hi).v; let r ← ofO (slice x.frz l h); pure (ownIf r)) = _
    rw [h]
  rw [this]
  simp only [wp_bind, wp_ofO, wp_pure]
@[simp ↓] theorem v_fldV {j f : Nat} {Q : W → Sl → Prop} : Wp (sem C (.fld (.var j) f)).v s Q ↔ Wp (rdFld C.fok j f) s Q := Iff.rfl
theorem v_fld {a : E} {f : Nat} (h : isPlace a = none) {Q : W → Sl → Prop} : Wp (sem C (.fld a f)).v s Q ↔ Wp (sem C a).v s fun x s1 => Got (fieldV C.fok f x.frz) fun r => Q (.sh r) s1 := by
  have : (sem C (.fld a f)).v = (do let x ← frzR (sem C a).v; let r ← ofO (fieldV C.fok f x); pure (.sh r)) := by
    cases a <;> first | rfl | cases h
  rw [this]
  simp only [wp_bind, wp_frz, wp_ofO, wp_pure]
/-! built-ins, methods -/
theorem v_blt1 {b : Bi} {e : E} (h : b ≠ .rng) {Q : W → Sl → Prop} : Wp (sem C (.blt b [e])).v s Q ↔ Wp (sem C e).b s fun v s1 => Got (builtin C.rp b [v]) fun w => Q w s1 := by
  have : (sem C (.blt b [e])).v = (do let v ← (sem C e).b; ofO (builtin C.rp b [v])) := by cases b <;> first | rfl | exact absurd rfl h
  rw [this]
  simp only [wp_bind, wp_ofO]
theorem v_blt2 {b : Bi} {e d : E} (h : b ≠ .rng) {Q : W → Sl → Prop} : Wp (sem C (.blt b [e, d])).v s Q ↔ Wp (sem C e).v s fun x s1 => Wp (sem C d).v s1 fun y s2 => Got (builtin C.rp b [x.frz, y.frz]) fun w => Q w s2 := by
  have : (sem C (.blt b [e, d])).v = (do let vs ← evs C [e, d]; ofO (builtin C.rp b vs)) := by cases b <;> first | rfl | exact absurd rfl h
  rw [this]
  show Wp (do let vs ← (do let w ← (sem C e).v; let vs ← (do let w ← (sem C d).v; let vs ← (pure [] : M (List PV)); pure (w.frz :: vs)); pure (w.frz :: vs)); ofO (builtin C.rp b vs)) s Q ↔ _
  simp only [wp_bind, wp_ofO, wp_pure]
@[simp ↓] theorem it_rng1 {e : E} {Q : List PV → Sl → Prop} : Wp (sem C (.blt .rng [e])).it s Q ↔ Wp (sem C e).b s fun v s1 => Got (builtin C.rp .rng [v]) fun w => Got (items w.frz) fun xs => Q xs s1 := by
  show Wp (do let v ← frzR (do let v ← (sem C e).b; ofO (builtin C.rp .rng [v])); ofO (items v)) s Q ↔ _
  simp only [wp_bind, wp_frz, wp_ofO]
@[simp ↓] theorem it_rng2 {e d : E} {Q : List PV → Sl → Prop} : Wp (sem C (.blt .rng [e, d])).it s Q ↔ Wp (sem C e).v s fun x s1 => Wp (sem C d).v s1 fun y s2 => Got (builtin C.rp .rng [x.frz, y.frz]) fun w => Got (items w.frz) fun xs => Q xs s2 := by
  show Wp (do let v ← frzR (do let vs ← (do let w ← (sem C e).v; let vs ← (do let w ← (sem C d).v; let vs ← (pure [] : M (List PV)); pure (w.frz :: vs)); pure (w.frz :: vs)); ofO (builtin C.rp .rng vs)); ofO (items v)) s Q ↔ _
  simp only [wp_bind, wp_frz, wp_ofO, wp_pure]
@[simp ↓] theorem it_enm {a : E} {Q : List PV → Sl → Prop} : Wp (sem C (.enm a)).it s Q ↔ Wp (sem C a).v s fun x s1 => Got (itemsS x.frz) fun xs => Q (enumFrom 0 xs) s1 := by
  show Wp (do let x ← (sem C a).v; let xs ← ofO (itemsS x.frz); pure (enumFrom 0 xs)) s Q ↔ _
  simp only [wp_bind, wp_ofO, wp_pure]
@[simp ↓] theorem it_zp2 {a b : E} {Q : List PV → Sl → Prop} : Wp (sem C (.zp2 a b)).it s Q ↔ Wp (sem C a).v s fun x s1 => Wp (sem C b).v s1 fun y s2 => Got (itemsQ x.frz) fun xs => Got (itemsQ y.frz) fun ys => Q (zip2 xs ys) s2 := by
  show Wp (do let x ← (sem C a).v; let y ← (sem C b).v; let xs ← ofO (itemsQ x.frz); let ys ← ofO (itemsQ y.frz); pure (zip2 xs ys)) s Q ↔ _
  simp only [wp_bind, wp_ofO, wp_pure]
@[simp ↓] theorem it_zp3 {a b c : E} {Q : List PV → Sl → Prop} : Wp (sem C (.zp3 a b c)).it s Q ↔ Wp (sem C a).v s fun x s1 => Wp (sem C b).v s1 fun y s2 => Wp (sem C c).v s2 fun z s3 => Got (itemsQ x.frz) fun xs => Got (itemsQ y.frz) fun ys => Got (itemsQ z.frz) fun zs => Q (zip3 xs ys zs) s3 := by
  show Wp (do let x ← (sem C a).v; let y ← (sem C b).v; let z ← (sem C c).v; let xs ← ofO (itemsQ x.frz); let ys ← ofO (itemsQ y.frz); let zs ← ofO (itemsQ z.frz); pure (zip3 xs ys zs)) s Q ↔ _
  simp only [wp_bind, wp_ofO, wp_pure]
@[simp ↓] theorem it_prs {a : E} {Q : List PV → Sl → Prop} : Wp (sem C (.prs a)).it s Q ↔ Wp (sem C a).v s fun x s1 => Got (pairs x.frz) fun xs => Q xs s1 := by
  show Wp (do let x ← frzR (sem C a).v; ofO (pairs x)) s Q ↔ _
  simp only [wp_bind, wp_frz, wp_ofO]
theorem v_meth {m : Me} {a : E} {es : List E} (h : isPlace a = none) {Q : W → Sl → Prop} : Wp (sem C (.meth m a es)).v s Q ↔ Wp (sem C a).v s fun x s1 => Wp (evs C es) s1 fun vs s2 => Got (method C.spl m x.frz vs) fun w => Q w s2 := by
  have : (sem C (.meth m a es)).v = (do let x ← (sem C a).v; let vs ← evs C es; ofO (method C.spl m x.frz vs)) := by cases a <;> first | rfl | cases h
  rw [this]
  simp only [wp_bind, wp_ofO]
@[simp ↓] theorem v_methV {m : Me} {j : Nat} {es : List E} {Q : W → Sl → Prop} : Wp (sem C (.meth m (.var j) es)).v s Q ↔ Look s j fun w0 => Wp (evs C es) s fun vs s1 => Look s1 j fun w => if (kd w0.frz == kd w.frz) = true then Got (method C.spl m w.frz vs) fun r => Q r s1 else False := by
  show Wp (do let x0 ← viewVar j; let vs ← evs C es; let x ← viewVar j; if kd x0 == kd x then ofO (method C.spl m x vs) else fail) s Q ↔ _
  simp only [wp_bind, wp_view, wp_ite, wp_ofO, wp_fail]
@[simp ↓] theorem v_mut {m : Mu} {i : Nat} {es : List E} {Q : W → Sl → Prop} : Wp (sem C (.mut m i none es)).v s Q ↔ Look s i fun w0 => if isLst w0.frz = true then Wp (evs C es) s fun vs s1 => LookO s1 i fun v => Got (if isLst v = true then mutate m v vs else none) fun p => Put s1 i (some (.own p.2)) fun s2 => Q (.sh p.1) s2 else False := by
  show Wp (do let v0 ← viewVar i; if isLst v0 then (do let vs ← evs C es; let v ← modPlace i none fun c => if isLst c then mutate m c vs else none; pure (.sh v)) else fail) s Q ↔ _
  simp only [wp_bind, wp_view, wp_ite, wp_mod, wp_fail, wp_pure]
/-! lists of them -/
@[simp ↓] theorem vs_nil {Q : List PV → Sl → Prop} : Wp (evs C []) s Q ↔ Q [] s := wp_pure
@[simp ↓] theorem vs_cons {e : E} {es : List E} {Q : List PV → Sl → Prop} : Wp (evs C (e :: es)) s Q ↔ Wp (sem C e).v s fun w s1 => Wp (evs C es) s1 fun vs s2 => Q (w.frz :: vs) s2 := by
  show Wp (do let w ← (sem C e).v; let vs ← evs C es; pure (w.frz :: vs)) s Q ↔ _
  simp only [wp_bind, wp_pure]
@[simp ↓] theorem as_nil {Q : List Arg → Sl → Prop} : Wp (evArgs C []) s Q ↔ Q [] s := wp_pure
@[simp ↓] theorem as_cons {e : E} {es : List E} {Q : List Arg → Sl → Prop} : Wp (evArgs C (e :: es)) s Q ↔ Wp (sem C e).arg s fun a s1 => Wp (evArgs C es) s1 fun as s2 => Q (a :: as) s2 := by
  show Wp (do let a ← (sem C e).arg; let as ← evArgs C es; pure (a :: as)) s Q ↔ _
  simp only [wp_bind, wp_pure]
@[simp ↓] theorem ws_nil {Q : List W → Sl → Prop} : Wp (evWs C []) s Q ↔ Q [] s := wp_pure
@[simp ↓] theorem ws_cons {e : E} {es : List E} {Q : List W → Sl → Prop} : Wp (evWs C (e :: es)) s Q ↔ Wp (sem C e).v s fun w s1 => Wp (evWs C es) s1 fun ws s2 => Q (w :: ws) s2 := by
  show Wp (do let w ← ev C e; let ws ← evWs C es; pure (w :: ws)) s Q ↔ _
  simp only [wp_bind, wp_pure]
@[simp ↓] theorem ts_nil {Q : Bool → Sl → Prop} : Wp (evTs C []) s Q ↔ Q true s := wp_pure
@[simp ↓] theorem ts_cons {e : E} {es : List E} {Q : Bool → Sl → Prop} : Wp (evTs C (e :: es)) s Q ↔ Wp (sem C e).t s fun b s1 => if b then Wp (evTs C es) s1 Q else Q false s1 := by
  show Wp (do let b ← (sem C e).t; if b then evTs C es else pure false) s Q ↔ _
  simp only [wp_bind, wp_ite, wp_pure]
/-! targets -/
@[simp ↓] theorem g_nm {i : Nat} {k : Bool} {w : W} {Q : Unit → Sl → Prop} : Wp (stTg (.nm i k) w) s Q ↔ Put s i (some (if k then w else .sh w.frz)) fun s' => Q () s' := wp_st
theorem g_tp {ts : List Tg} {w : W} {xs : List PV} (h : w.frz = .tup xs) {Q : Unit → Sl → Prop} : Wp (stTg (.tp ts) w) s Q ↔ Wp (stTgs ts xs) s Q := by
  show Wp (match w.frz with
    | .tup xs => stTgs ts xs
    | .ktup xs => stTgs ts xs
    | _ => fail) s Q ↔ _
  rw [h]
@[simp ↓] theorem g_tpS {ts : List Tg} {xs : List PV} {Q : Unit → Sl → Prop} : Wp (stTg (.tp ts) (.sh (.tup xs))) s Q ↔ Wp (stTgs ts xs) s Q := Iff.rfl
@[simp ↓] theorem gs_nil {Q : Unit → Sl → Prop} : Wp (stTgs [] []) s Q ↔ Q () s := wp_pure
@[simp ↓] theorem gs_cons {t : Tg} {ts : List Tg} {x : PV} {xs : List PV} {Q : Unit → Sl → Prop} : Wp (stTgs (t :: ts) (x :: xs)) s Q ↔ Wp (stTg t (.sh x)) s fun _ s1 => Wp (stTgs ts xs) s1 Q := by
  show Wp (do stTg t (.sh x); stTgs ts xs) s Q ↔ _
  rw [wp_bind]
@[simp ↓] theorem par_nil {Q : Unit → Sl → Prop} : Wp (stPar [] []) s Q ↔ Q () s := wp_pure
@[simp ↓] theorem par_cons {i : Nat} {k : Bool} {r : List (Nat × Bool)} {w : W} {ws : List W} {Q : Unit → Sl → Prop} : Wp (stPar ((i, k) :: r) (w :: ws)) s Q ↔ Put s i (some (if k then w else .sh w.frz)) fun s' => Wp (stPar r ws) s' Q := by
  show Wp (do stVar i k w; stPar r ws) s Q ↔ _
  rw [wp_bind, wp_st]
/-! statements -/
/-- what follows a statement -/
def Then (C : Ctx) (r : List S) (Q : Fl → Sl → Prop) (fl : Fl) (s : Sl) : Prop := match fl with
  | .nx => Wp (exSs C r) s Q
  | f => Q f s
@[simp ↓] theorem then_nx {r : List S} {Q : Fl → Sl → Prop} : Then C r Q .nx s ↔ Wp (exSs C r) s Q := Iff.rfl
@[simp] theorem then_rt {r : List S} {w : W} {Q : Fl → Sl → Prop} : Then C r Q (.rt w) s ↔ Q (.rt w) s := Iff.rfl
@[simp] theorem then_bk {r : List S} {Q : Fl → Sl → Prop} : Then C r Q .bk s ↔ Q .bk s := Iff.rfl
@[simp] theorem then_ct {r : List S} {Q : Fl → Sl → Prop} : Then C r Q .ct s ↔ Q .ct s := Iff.rfl
@[simp ↓] theorem ss_nil {Q : Fl → Sl → Prop} : Wp (exSs C []) s Q ↔ Q .nx s := wp_pure
@[simp ↓] theorem ss_cons {st : S} {r : List S} {Q : Fl → Sl → Prop} : Wp (exSs C (st :: r)) s Q ↔ Wp (exS C st) s (Then C r Q) := by
  show Wp (do let f ← exS C st; (match f with | .nx => exSs C r | f => pure f : M Fl)) s Q ↔ _
  rw [wp_bind]
  constructor
  · exact fun h => h.mono fun fl s1 q => by
      cases fl with
      | nx => exact q
      | bk => exact (wp_pure (a := Fl.bk) (Q := Q)).mp q
      | ct => exact (wp_pure (a := Fl.ct) (Q := Q)).mp q
      | rt w => exact (wp_pure (a := Fl.rt w) (Q := Q)).mp q
  · exact fun h => h.mono fun fl s1 q => by cases fl <;> first | exact q | (show Wp (pure _ : M Fl) s1 Q; exact wp_pure.mpr q)
@[simp ↓] theorem s_asg {t : Tg} {e : E} {Q : Fl → Sl → Prop} : Wp (exS C (.asg t e)) s Q ↔ Wp (sem C e).v s fun w s1 => Wp (stTg t w) s1 fun _ s2 => Q .nx s2 := by
  show Wp (do let w ← ev C e; stTg t w; pure .nx) s Q ↔ _
  simp only [wp_bind, wp_pure]
@[simp ↓] theorem s_par {is : List (Nat × Bool)} {es : List E} {Q : Fl → Sl → Prop} : Wp (exS C (.par is es)) s Q ↔ Wp (evWs C es) s fun ws s1 => Wp (stPar is ws) s1 fun _ s2 => Q .nx s2 := by
  show Wp (do let ws ← evWs C es; stPar is ws; pure .nx) s Q ↔ _
  simp only [wp_bind, wp_pure]
@[simp ↓] theorem s_seti {i : Nat} {k v : E} {Q : Fl → Sl → Prop} : Wp (exS C (.seti i none k v)) s Q ↔ Wp (sem C v).v s fun x s1 => Look s1 i fun w0 => Wp (sem C k).v s1 fun y s2 => LookO s2 i fun c => Got ((setItem c y.frz x.frz).map fun c' => ((), c')) fun p => Put s2 i (some (.own p.2)) fun s3 => Q .nx s3 := by
  show Wp (do let v ← ev C v; let _ ← viewVar i; let k ← ev C k; modPlace i none fun c => (setItem c k.frz v.frz).map fun c' => ((), c'); pure .nx) s Q ↔ _
  simp only [wp_bind, wp_view, wp_mod, wp_pure]
@[simp ↓] theorem s_exp {e : E} {Q : Fl → Sl → Prop} : Wp (exS C (.exp e)) s Q ↔ Wp (sem C e).v s fun _ s1 => Q .nx s1 := by
  show Wp (do let _ ← ev C e; pure .nx) s Q ↔ _
  simp only [wp_bind, wp_pure]
@[simp ↓] theorem s_ret {e : E} {Q : Fl → Sl → Prop} : Wp (exS C (.ret e)) s Q ↔ Wp (sem C e).v s fun w s1 => Q (.rt w) s1 := by
  show Wp (do let w ← ev C e; pure (.rt w)) s Q ↔ _
  simp only [wp_bind, wp_pure]
@[simp ↓] theorem s_retN {Q : Fl → Sl → Prop} : Wp (exS C .retN) s Q ↔ Q (.rt (.sh .non)) s := wp_pure
@[simp ↓] theorem s_ifs {c : E} {t e : List S} {Q : Fl → Sl → Prop} : Wp (exS C (.ifs c t e)) s Q ↔ Wp (sem C c).t s fun b s1 => if b then Wp (exSs C t) s1 Q else Wp (exSs C e) s1 Q := by
  show Wp (do let b ← (sem C c).t; if b then exSs C t else exSs C e) s Q ↔ _
  simp only [wp_bind, wp_ite]
@[simp ↓] theorem s_fors {t : Tg} {it : E} {b : List S} {Q : Fl → Sl → Prop} : Wp (exS C (.fors t it b)) s Q ↔ Wp (sem C it).it s fun xs s1 => Wp (forLoop t (exSs C b) xs) s1 Q := by
  show Wp (do let xs ← (sem C it).it; forLoop t (exSs C b) xs) s Q ↔ _
  rw [wp_bind]
@[simp ↓] theorem s_whl {c : E} {b : List S} {Q : Fl → Sl → Prop} : Wp (exS C (.whl c b)) s Q ↔ Wp (whileLoop (sem C c).t (exSs C b) C.fuel) s Q := Iff.rfl
@[simp ↓] theorem s_pass {Q : Fl → Sl → Prop} : Wp (exS C .pass) s Q ↔ Q .nx s := wp_pure
@[simp ↓] theorem s_brk {Q : Fl → Sl → Prop} : Wp (exS C .brk) s Q ↔ Q .bk s := wp_pure
@[simp ↓] theorem s_cnt {Q : Fl → Sl → Prop} : Wp (exS C .cnt) s Q ↔ Q .ct s := wp_pure
@[simp ↓] theorem s_aug {i : Nat} {o : BOp} {e : E} {Q : Fl → Sl → Prop} : Wp (exS C (.aug i o e)) s Q ↔ Look s i fun w => Put s i (some (.sh w.frz)) fun s0 => Wp (sem C e).v s0 fun y s1 => Got (intOf w.frz) fun a => Got (intOf y.frz) fun b => Got (augI o a b) fun v => Put s1 i (some (.sh (.int v))) fun s2 => Q .nx s2 := by
  show Wp (do
    let x ← rdVar i
    let y ← ev C e
    match x.frz, y.frz with
    | .int a, .int b => (do let v ← ofO (augI o a b); stVar i false (.sh (.int v)); pure .nx)
    | _, _ => fail) s Q ↔ _
  rw [wp_bind, wp_rd]
  have key : ∀ (v w : PV) (s1 : Sl), Wp (match v, w with
    | .int a, .int b => (do let v ← ofO (augI o a b); stVar i false (.sh (.int v)); pure .nx)
    | _, _ => fail) s1 Q ↔ Got (intOf v) fun a => Got (intOf w) fun b => Got (augI o a b) fun v => Put s1 i (some (.sh (.int v))) fun s2 => Q .nx s2 := by
    intro v w s1
    cases v with
    | int a => cases w with
      | int b =>
        show Wp (do let v ← ofO (augI o a b); stVar i false (.sh (.int v)); pure .nx) s1 Q ↔ _
        simp only [wp_bind, wp_ofO, wp_st, wp_pure]
        exact ⟨fun h => ⟨a, rfl, b, rfl, h⟩, fun ⟨_, e1, _, e2, h⟩ => by cases e1; cases e2; exact h⟩
      | _ => exact ⟨fun h => (wp_fail.mp h).elim, fun ⟨_, _, _, e, _⟩ => (nomatch e)⟩
    | _ => exact ⟨fun h => (wp_fail.mp h).elim, fun ⟨_, e, _⟩ => (nomatch e)⟩
  simp only [wp_bind, key]
  rfl
@[simp ↓] theorem s_setf {i f : Nat} {v : E} {Q : Fl → Sl → Prop} : Wp (exS C (.setf i f v)) s Q ↔ Wp (sem C v).v s fun x s1 => LookB s1 i fun c fs => if (C.fok c f && fs.length < 1000) = true then Put s1 i (some (.obj c (putF f (.sh x.frz) fs))) fun s2 => Q .nx s2 else False := by
  show Wp (do
    let v ← ev C v
    fun s => match s[i]? with
      | some (some (.obj c fs)) => if C.fok c f && fs.length < 1000 then .ok .nx (s.set i (some (.obj c (putF f (.sh v.frz) fs)))) else .no
      | _ => .no) s Q ↔ _
  rw [wp_bind]
  constructor
  · intro h
    refine h.mono ?_
    rintro x s1 ⟨fl, s2, e, q⟩
    dsimp only at e
    split at e
    · rename_i c fs e1
      split at e
      · rename_i e2
        cases e
        refine ⟨c, fs, e1, ?_⟩
        show (if _ then _ else _)
        rw [if_pos e2]
        exact (put_at (show At s1 i _ from e1)).mpr q
      · cases e
    · cases e
  · intro h
    refine h.mono ?_
    rintro x s1 ⟨c, fs, e1, q⟩
    split at q
    · rename_i e2
      refine ⟨_, _, ?_, (put_at e1).mp q⟩
      dsimp only
      rw [show s1[i]? = some (some (.obj c fs)) from e1]
      dsimp only
      rw [if_pos e2]
    · exact q.elim
end
/-! the plain forms, each -/
section
variable {C : Ctx} {s : Sl} {i g f : Nat} {es ks vs fs : List E} {t : Bool} {a b c : E} {o : BOp} {q : COp} {ts : List Ty} {d : Bi} {m : Me} {mm : Mu} {ff : Option Nat} {own : List Nat} {tg tg2 : Tg}
@[simp ↓] theorem pb_mov {Q : PV → Sl → Prop} : Wp (sem C (.mov i)).b s Q ↔ Wp (sem C (.mov i)).v s fun w s' => Q w.frz s' := p_b rfl
@[simp ↓] theorem pa_mov {Q : Arg → Sl → Prop} : Wp (sem C (.mov i)).arg s Q ↔ Wp (sem C (.mov i)).v s fun w s' => Q (.vl w) s' := p_a rfl
@[simp ↓] theorem pi_mov {Q : List PV → Sl → Prop} : Wp (sem C (.mov i)).it s Q ↔ Wp (sem C (.mov i)).v s fun w s' => Got (itemsS w.frz) fun xs => Q xs s' := p_i rfl
@[simp ↓] theorem pt_mov {Q : Bool → Sl → Prop} : Wp (sem C (.mov i)).t s Q ↔ Wp (sem C (.mov i)).v s fun w s' => Got (truth w.frz) fun b => Q b s' := p_t rfl
@[simp ↓] theorem pb_glb {Q : PV → Sl → Prop} : Wp (sem C (.glb g)).b s Q ↔ Wp (sem C (.glb g)).v s fun w s' => Q w.frz s' := p_b rfl
@[simp ↓] theorem pa_glb {Q : Arg → Sl → Prop} : Wp (sem C (.glb g)).arg s Q ↔ Wp (sem C (.glb g)).v s fun w s' => Q (.vl w) s' := p_a rfl
@[simp ↓] theorem pi_glb {Q : List PV → Sl → Prop} : Wp (sem C (.glb g)).it s Q ↔ Wp (sem C (.glb g)).v s fun w s' => Got (itemsS w.frz) fun xs => Q xs s' := p_i rfl
@[simp ↓] theorem pt_glb {Q : Bool → Sl → Prop} : Wp (sem C (.glb g)).t s Q ↔ Wp (sem C (.glb g)).v s fun w s' => Got (truth w.frz) fun b => Q b s' := p_t rfl
@[simp ↓] theorem pb_tup {Q : PV → Sl → Prop} : Wp (sem C (.tup es)).b s Q ↔ Wp (sem C (.tup es)).v s fun w s' => Q w.frz s' := p_b rfl
@[simp ↓] theorem pa_tup {Q : Arg → Sl → Prop} : Wp (sem C (.tup es)).arg s Q ↔ Wp (sem C (.tup es)).v s fun w s' => Q (.vl w) s' := p_a rfl
@[simp ↓] theorem pi_tup {Q : List PV → Sl → Prop} : Wp (sem C (.tup es)).it s Q ↔ Wp (sem C (.tup es)).v s fun w s' => Got (itemsS w.frz) fun xs => Q xs s' := p_i rfl
@[simp ↓] theorem pt_tup {Q : Bool → Sl → Prop} : Wp (sem C (.tup es)).t s Q ↔ Wp (sem C (.tup es)).v s fun w s' => Got (truth w.frz) fun b => Q b s' := p_t rfl
@[simp ↓] theorem pb_lst {Q : PV → Sl → Prop} : Wp (sem C (.lst es)).b s Q ↔ Wp (sem C (.lst es)).v s fun w s' => Q w.frz s' := p_b rfl
@[simp ↓] theorem pa_lst {Q : Arg → Sl → Prop} : Wp (sem C (.lst es)).arg s Q ↔ Wp (sem C (.lst es)).v s fun w s' => Q (.vl w) s' := p_a rfl
@[simp ↓] theorem pi_lst {Q : List PV → Sl → Prop} : Wp (sem C (.lst es)).it s Q ↔ Wp (sem C (.lst es)).v s fun w s' => Got (itemsS w.frz) fun xs => Q xs s' := p_i rfl
@[simp ↓] theorem pt_lst {Q : Bool → Sl → Prop} : Wp (sem C (.lst es)).t s Q ↔ Wp (sem C (.lst es)).v s fun w s' => Got (truth w.frz) fun b => Q b s' := p_t rfl
@[simp ↓] theorem pb_dct {Q : PV → Sl → Prop} : Wp (sem C (.dct t ks vs)).b s Q ↔ Wp (sem C (.dct t ks vs)).v s fun w s' => Q w.frz s' := p_b rfl
@[simp ↓] theorem pa_dct {Q : Arg → Sl → Prop} : Wp (sem C (.dct t ks vs)).arg s Q ↔ Wp (sem C (.dct t ks vs)).v s fun w s' => Q (.vl w) s' := p_a rfl
@[simp ↓] theorem pi_dct {Q : List PV → Sl → Prop} : Wp (sem C (.dct t ks vs)).it s Q ↔ Wp (sem C (.dct t ks vs)).v s fun w s' => Got (itemsS w.frz) fun xs => Q xs s' := p_i rfl
@[simp ↓] theorem pt_dct {Q : Bool → Sl → Prop} : Wp (sem C (.dct t ks vs)).t s Q ↔ Wp (sem C (.dct t ks vs)).v s fun w s' => Got (truth w.frz) fun b => Q b s' := p_t rfl
@[simp ↓] theorem pb_bin {Q : PV → Sl → Prop} : Wp (sem C (.bin o a b)).b s Q ↔ Wp (sem C (.bin o a b)).v s fun w s' => Q w.frz s' := p_b rfl
@[simp ↓] theorem pa_bin {Q : Arg → Sl → Prop} : Wp (sem C (.bin o a b)).arg s Q ↔ Wp (sem C (.bin o a b)).v s fun w s' => Q (.vl w) s' := p_a rfl
@[simp ↓] theorem pi_bin {Q : List PV → Sl → Prop} : Wp (sem C (.bin o a b)).it s Q ↔ Wp (sem C (.bin o a b)).v s fun w s' => Got (itemsS w.frz) fun xs => Q xs s' := p_i rfl
@[simp ↓] theorem pt_bin {Q : Bool → Sl → Prop} : Wp (sem C (.bin o a b)).t s Q ↔ Wp (sem C (.bin o a b)).v s fun w s' => Got (truth w.frz) fun b => Q b s' := p_t rfl
@[simp ↓] theorem pb_neg {Q : PV → Sl → Prop} : Wp (sem C (.neg a)).b s Q ↔ Wp (sem C (.neg a)).v s fun w s' => Q w.frz s' := p_b rfl
@[simp ↓] theorem pa_neg {Q : Arg → Sl → Prop} : Wp (sem C (.neg a)).arg s Q ↔ Wp (sem C (.neg a)).v s fun w s' => Q (.vl w) s' := p_a rfl
@[simp ↓] theorem pi_neg {Q : List PV → Sl → Prop} : Wp (sem C (.neg a)).it s Q ↔ Wp (sem C (.neg a)).v s fun w s' => Got (itemsS w.frz) fun xs => Q xs s' := p_i rfl
@[simp ↓] theorem pt_neg {Q : Bool → Sl → Prop} : Wp (sem C (.neg a)).t s Q ↔ Wp (sem C (.neg a)).v s fun w s' => Got (truth w.frz) fun b => Q b s' := p_t rfl
@[simp ↓] theorem pb_not_ {Q : PV → Sl → Prop} : Wp (sem C (.not_ a)).b s Q ↔ Wp (sem C (.not_ a)).v s fun w s' => Q w.frz s' := p_b rfl
@[simp ↓] theorem pa_not_ {Q : Arg → Sl → Prop} : Wp (sem C (.not_ a)).arg s Q ↔ Wp (sem C (.not_ a)).v s fun w s' => Q (.vl w) s' := p_a rfl
@[simp ↓] theorem pi_not_ {Q : List PV → Sl → Prop} : Wp (sem C (.not_ a)).it s Q ↔ Wp (sem C (.not_ a)).v s fun w s' => Got (itemsS w.frz) fun xs => Q xs s' := p_i rfl
@[simp ↓] theorem pb_and_ {Q : PV → Sl → Prop} : Wp (sem C (.and_ a b)).b s Q ↔ Wp (sem C (.and_ a b)).v s fun w s' => Q w.frz s' := p_b rfl
@[simp ↓] theorem pa_and_ {Q : Arg → Sl → Prop} : Wp (sem C (.and_ a b)).arg s Q ↔ Wp (sem C (.and_ a b)).v s fun w s' => Q (.vl w) s' := p_a rfl
@[simp ↓] theorem pi_and_ {Q : List PV → Sl → Prop} : Wp (sem C (.and_ a b)).it s Q ↔ Wp (sem C (.and_ a b)).v s fun w s' => Got (itemsS w.frz) fun xs => Q xs s' := p_i rfl
@[simp ↓] theorem pb_or_ {Q : PV → Sl → Prop} : Wp (sem C (.or_ a b)).b s Q ↔ Wp (sem C (.or_ a b)).v s fun w s' => Q w.frz s' := p_b rfl
@[simp ↓] theorem pa_or_ {Q : Arg → Sl → Prop} : Wp (sem C (.or_ a b)).arg s Q ↔ Wp (sem C (.or_ a b)).v s fun w s' => Q (.vl w) s' := p_a rfl
@[simp ↓] theorem pi_or_ {Q : List PV → Sl → Prop} : Wp (sem C (.or_ a b)).it s Q ↔ Wp (sem C (.or_ a b)).v s fun w s' => Got (itemsS w.frz) fun xs => Q xs s' := p_i rfl
@[simp ↓] theorem pb_cmp {Q : PV → Sl → Prop} : Wp (sem C (.cmp q a b)).b s Q ↔ Wp (sem C (.cmp q a b)).v s fun w s' => Q w.frz s' := p_b rfl
@[simp ↓] theorem pa_cmp {Q : Arg → Sl → Prop} : Wp (sem C (.cmp q a b)).arg s Q ↔ Wp (sem C (.cmp q a b)).v s fun w s' => Q (.vl w) s' := p_a rfl
@[simp ↓] theorem pi_cmp {Q : List PV → Sl → Prop} : Wp (sem C (.cmp q a b)).it s Q ↔ Wp (sem C (.cmp q a b)).v s fun w s' => Got (itemsS w.frz) fun xs => Q xs s' := p_i rfl
@[simp ↓] theorem pt_cmp {Q : Bool → Sl → Prop} : Wp (sem C (.cmp q a b)).t s Q ↔ Wp (sem C (.cmp q a b)).v s fun w s' => Got (truth w.frz) fun b => Q b s' := p_t rfl
section
variable {q2 : COp}
@[simp ↓] theorem pb_chn {Q : PV → Sl → Prop} : Wp (sem C (.chn q q2 a b c)).b s Q ↔ Wp (sem C (.chn q q2 a b c)).v s fun w s' => Q w.frz s' := p_b rfl
@[simp ↓] theorem pa_chn {Q : Arg → Sl → Prop} : Wp (sem C (.chn q q2 a b c)).arg s Q ↔ Wp (sem C (.chn q q2 a b c)).v s fun w s' => Q (.vl w) s' := p_a rfl
@[simp ↓] theorem pi_chn {Q : List PV → Sl → Prop} : Wp (sem C (.chn q q2 a b c)).it s Q ↔ Wp (sem C (.chn q q2 a b c)).v s fun w s' => Got (itemsS w.frz) fun xs => Q xs s' := p_i rfl
@[simp ↓] theorem pt_chn {Q : Bool → Sl → Prop} : Wp (sem C (.chn q q2 a b c)).t s Q ↔ Wp (sem C (.chn q q2 a b c)).v s fun w s' => Got (truth w.frz) fun b => Q b s' := p_t rfl
end
@[simp ↓] theorem pb_ite {Q : PV → Sl → Prop} : Wp (sem C (.ite a b c)).b s Q ↔ Wp (sem C (.ite a b c)).v s fun w s' => Q w.frz s' := p_b rfl
@[simp ↓] theorem pa_ite {Q : Arg → Sl → Prop} : Wp (sem C (.ite a b c)).arg s Q ↔ Wp (sem C (.ite a b c)).v s fun w s' => Q (.vl w) s' := p_a rfl
@[simp ↓] theorem pi_ite {Q : List PV → Sl → Prop} : Wp (sem C (.ite a b c)).it s Q ↔ Wp (sem C (.ite a b c)).v s fun w s' => Got (itemsS w.frz) fun xs => Q xs s' := p_i rfl
@[simp ↓] theorem pb_idx {Q : PV → Sl → Prop} : Wp (sem C (.idx a b)).b s Q ↔ Wp (sem C (.idx a b)).v s fun w s' => Q w.frz s' := p_b rfl
@[simp ↓] theorem pa_idx {Q : Arg → Sl → Prop} : Wp (sem C (.idx a b)).arg s Q ↔ Wp (sem C (.idx a b)).v s fun w s' => Q (.vl w) s' := p_a rfl
@[simp ↓] theorem pi_idx {Q : List PV → Sl → Prop} : Wp (sem C (.idx a b)).it s Q ↔ Wp (sem C (.idx a b)).v s fun w s' => Got (itemsS w.frz) fun xs => Q xs s' := p_i rfl
@[simp ↓] theorem pt_idx {Q : Bool → Sl → Prop} : Wp (sem C (.idx a b)).t s Q ↔ Wp (sem C (.idx a b)).v s fun w s' => Got (truth w.frz) fun b => Q b s' := p_t rfl
@[simp ↓] theorem pb_slc {Q : PV → Sl → Prop} : Wp (sem C (.slc a b c)).b s Q ↔ Wp (sem C (.slc a b c)).v s fun w s' => Q w.frz s' := p_b rfl
@[simp ↓] theorem pa_slc {Q : Arg → Sl → Prop} : Wp (sem C (.slc a b c)).arg s Q ↔ Wp (sem C (.slc a b c)).v s fun w s' => Q (.vl w) s' := p_a rfl
@[simp ↓] theorem pi_slc {Q : List PV → Sl → Prop} : Wp (sem C (.slc a b c)).it s Q ↔ Wp (sem C (.slc a b c)).v s fun w s' => Got (itemsS w.frz) fun xs => Q xs s' := p_i rfl
@[simp ↓] theorem pt_slc {Q : Bool → Sl → Prop} : Wp (sem C (.slc a b c)).t s Q ↔ Wp (sem C (.slc a b c)).v s fun w s' => Got (truth w.frz) fun b => Q b s' := p_t rfl
@[simp ↓] theorem pb_rev {Q : PV → Sl → Prop} : Wp (sem C (.rev a)).b s Q ↔ Wp (sem C (.rev a)).v s fun w s' => Q w.frz s' := p_b rfl
@[simp ↓] theorem pa_rev {Q : Arg → Sl → Prop} : Wp (sem C (.rev a)).arg s Q ↔ Wp (sem C (.rev a)).v s fun w s' => Q (.vl w) s' := p_a rfl
@[simp ↓] theorem pi_rev {Q : List PV → Sl → Prop} : Wp (sem C (.rev a)).it s Q ↔ Wp (sem C (.rev a)).v s fun w s' => Got (itemsS w.frz) fun xs => Q xs s' := p_i rfl
@[simp ↓] theorem pt_rev {Q : Bool → Sl → Prop} : Wp (sem C (.rev a)).t s Q ↔ Wp (sem C (.rev a)).v s fun w s' => Got (truth w.frz) fun b => Q b s' := p_t rfl
@[simp ↓] theorem pb_fld {Q : PV → Sl → Prop} : Wp (sem C (.fld a f)).b s Q ↔ Wp (sem C (.fld a f)).v s fun w s' => Q w.frz s' := p_b rfl
@[simp ↓] theorem pa_fld {Q : Arg → Sl → Prop} : Wp (sem C (.fld a f)).arg s Q ↔ Wp (sem C (.fld a f)).v s fun w s' => Q (.vl w) s' := p_a rfl
@[simp ↓] theorem pi_fld {Q : List PV → Sl → Prop} : Wp (sem C (.fld a f)).it s Q ↔ Wp (sem C (.fld a f)).v s fun w s' => Got (itemsS w.frz) fun xs => Q xs s' := p_i rfl
@[simp ↓] theorem pt_fld {Q : Bool → Sl → Prop} : Wp (sem C (.fld a f)).t s Q ↔ Wp (sem C (.fld a f)).v s fun w s' => Got (truth w.frz) fun b => Q b s' := p_t rfl
@[simp ↓] theorem pb_isi {Q : PV → Sl → Prop} : Wp (sem C (.isi a ts)).b s Q ↔ Wp (sem C (.isi a ts)).v s fun w s' => Q w.frz s' := p_b rfl
@[simp ↓] theorem pa_isi {Q : Arg → Sl → Prop} : Wp (sem C (.isi a ts)).arg s Q ↔ Wp (sem C (.isi a ts)).v s fun w s' => Q (.vl w) s' := p_a rfl
@[simp ↓] theorem pi_isi {Q : List PV → Sl → Prop} : Wp (sem C (.isi a ts)).it s Q ↔ Wp (sem C (.isi a ts)).v s fun w s' => Got (itemsS w.frz) fun xs => Q xs s' := p_i rfl
@[simp ↓] theorem pt_isi {Q : Bool → Sl → Prop} : Wp (sem C (.isi a ts)).t s Q ↔ Wp (sem C (.isi a ts)).v s fun w s' => Got (truth w.frz) fun b => Q b s' := p_t rfl
@[simp ↓] theorem pb_call {Q : PV → Sl → Prop} : Wp (sem C (.call f es)).b s Q ↔ Wp (sem C (.call f es)).v s fun w s' => Q w.frz s' := p_b rfl
@[simp ↓] theorem pa_call {Q : Arg → Sl → Prop} : Wp (sem C (.call f es)).arg s Q ↔ Wp (sem C (.call f es)).v s fun w s' => Q (.vl w) s' := p_a rfl
@[simp ↓] theorem pi_call {Q : List PV → Sl → Prop} : Wp (sem C (.call f es)).it s Q ↔ Wp (sem C (.call f es)).v s fun w s' => Got (itemsS w.frz) fun xs => Q xs s' := p_i rfl
@[simp ↓] theorem pt_call {Q : Bool → Sl → Prop} : Wp (sem C (.call f es)).t s Q ↔ Wp (sem C (.call f es)).v s fun w s' => Got (truth w.frz) fun b => Q b s' := p_t rfl
@[simp ↓] theorem pb_ofIt {Q : PV → Sl → Prop} : Wp (sem C (.ofIt d a)).b s Q ↔ Wp (sem C (.ofIt d a)).v s fun w s' => Q w.frz s' := p_b rfl
@[simp ↓] theorem pa_ofIt {Q : Arg → Sl → Prop} : Wp (sem C (.ofIt d a)).arg s Q ↔ Wp (sem C (.ofIt d a)).v s fun w s' => Q (.vl w) s' := p_a rfl
@[simp ↓] theorem pi_ofIt {Q : List PV → Sl → Prop} : Wp (sem C (.ofIt d a)).it s Q ↔ Wp (sem C (.ofIt d a)).v s fun w s' => Got (itemsS w.frz) fun xs => Q xs s' := p_i rfl
@[simp ↓] theorem pt_ofIt {Q : Bool → Sl → Prop} : Wp (sem C (.ofIt d a)).t s Q ↔ Wp (sem C (.ofIt d a)).v s fun w s' => Got (truth w.frz) fun b => Q b s' := p_t rfl
@[simp ↓] theorem pb_new {Q : PV → Sl → Prop} : Wp (sem C (.new f es)).b s Q ↔ Wp (sem C (.new f es)).v s fun w s' => Q w.frz s' := p_b rfl
@[simp ↓] theorem pa_new {Q : Arg → Sl → Prop} : Wp (sem C (.new f es)).arg s Q ↔ Wp (sem C (.new f es)).v s fun w s' => Q (.vl w) s' := p_a rfl
@[simp ↓] theorem pi_new {Q : List PV → Sl → Prop} : Wp (sem C (.new f es)).it s Q ↔ Wp (sem C (.new f es)).v s fun w s' => Got (itemsS w.frz) fun xs => Q xs s' := p_i rfl
@[simp ↓] theorem pt_new {Q : Bool → Sl → Prop} : Wp (sem C (.new f es)).t s Q ↔ Wp (sem C (.new f es)).v s fun w s' => Got (truth w.frz) fun b => Q b s' := p_t rfl
@[simp ↓] theorem pb_meth {Q : PV → Sl → Prop} : Wp (sem C (.meth m a es)).b s Q ↔ Wp (sem C (.meth m a es)).v s fun w s' => Q w.frz s' := p_b rfl
@[simp ↓] theorem pa_meth {Q : Arg → Sl → Prop} : Wp (sem C (.meth m a es)).arg s Q ↔ Wp (sem C (.meth m a es)).v s fun w s' => Q (.vl w) s' := p_a rfl
@[simp ↓] theorem pi_meth {Q : List PV → Sl → Prop} : Wp (sem C (.meth m a es)).it s Q ↔ Wp (sem C (.meth m a es)).v s fun w s' => Got (itemsS w.frz) fun xs => Q xs s' := p_i rfl
@[simp ↓] theorem pt_meth {Q : Bool → Sl → Prop} : Wp (sem C (.meth m a es)).t s Q ↔ Wp (sem C (.meth m a es)).v s fun w s' => Got (truth w.frz) fun b => Q b s' := p_t rfl
@[simp ↓] theorem pb_mut {Q : PV → Sl → Prop} : Wp (sem C (.mut mm i ff es)).b s Q ↔ Wp (sem C (.mut mm i ff es)).v s fun w s' => Q w.frz s' := p_b rfl
@[simp ↓] theorem pa_mut {Q : Arg → Sl → Prop} : Wp (sem C (.mut mm i ff es)).arg s Q ↔ Wp (sem C (.mut mm i ff es)).v s fun w s' => Q (.vl w) s' := p_a rfl
@[simp ↓] theorem pi_mut {Q : List PV → Sl → Prop} : Wp (sem C (.mut mm i ff es)).it s Q ↔ Wp (sem C (.mut mm i ff es)).v s fun w s' => Got (itemsS w.frz) fun xs => Q xs s' := p_i rfl
@[simp ↓] theorem pt_mut {Q : Bool → Sl → Prop} : Wp (sem C (.mut mm i ff es)).t s Q ↔ Wp (sem C (.mut mm i ff es)).v s fun w s' => Got (truth w.frz) fun b => Q b s' := p_t rfl
@[simp ↓] theorem pb_omth {Q : PV → Sl → Prop} : Wp (sem C (.omth f a es)).b s Q ↔ Wp (sem C (.omth f a es)).v s fun w s' => Q w.frz s' := p_b rfl
@[simp ↓] theorem pa_omth {Q : Arg → Sl → Prop} : Wp (sem C (.omth f a es)).arg s Q ↔ Wp (sem C (.omth f a es)).v s fun w s' => Q (.vl w) s' := p_a rfl
@[simp ↓] theorem pi_omth {Q : List PV → Sl → Prop} : Wp (sem C (.omth f a es)).it s Q ↔ Wp (sem C (.omth f a es)).v s fun w s' => Got (itemsS w.frz) fun xs => Q xs s' := p_i rfl
@[simp ↓] theorem pt_omth {Q : Bool → Sl → Prop} : Wp (sem C (.omth f a es)).t s Q ↔ Wp (sem C (.omth f a es)).v s fun w s' => Got (truth w.frz) fun b => Q b s' := p_t rfl
@[simp ↓] theorem pb_comp {Q : PV → Sl → Prop} : Wp (sem C (.comp a own tg b es)).b s Q ↔ Wp (sem C (.comp a own tg b es)).v s fun w s' => Q w.frz s' := p_b rfl
@[simp ↓] theorem pa_comp {Q : Arg → Sl → Prop} : Wp (sem C (.comp a own tg b es)).arg s Q ↔ Wp (sem C (.comp a own tg b es)).v s fun w s' => Q (.vl w) s' := p_a rfl
@[simp ↓] theorem pi_comp {Q : List PV → Sl → Prop} : Wp (sem C (.comp a own tg b es)).it s Q ↔ Wp (sem C (.comp a own tg b es)).v s fun w s' => Got (itemsS w.frz) fun xs => Q xs s' := p_i rfl
@[simp ↓] theorem pt_comp {Q : Bool → Sl → Prop} : Wp (sem C (.comp a own tg b es)).t s Q ↔ Wp (sem C (.comp a own tg b es)).v s fun w s' => Got (truth w.frz) fun b => Q b s' := p_t rfl
@[simp ↓] theorem pb_comp2 {Q : PV → Sl → Prop} : Wp (sem C (.comp2 a own tg b es tg2 c fs)).b s Q ↔ Wp (sem C (.comp2 a own tg b es tg2 c fs)).v s fun w s' => Q w.frz s' := p_b rfl
@[simp ↓] theorem pa_comp2 {Q : Arg → Sl → Prop} : Wp (sem C (.comp2 a own tg b es tg2 c fs)).arg s Q ↔ Wp (sem C (.comp2 a own tg b es tg2 c fs)).v s fun w s' => Q (.vl w) s' := p_a rfl
@[simp ↓] theorem pi_comp2 {Q : List PV → Sl → Prop} : Wp (sem C (.comp2 a own tg b es tg2 c fs)).it s Q ↔ Wp (sem C (.comp2 a own tg b es tg2 c fs)).v s fun w s' => Got (itemsS w.frz) fun xs => Q xs s' := p_i rfl
@[simp ↓] theorem pt_comp2 {Q : Bool → Sl → Prop} : Wp (sem C (.comp2 a own tg b es tg2 c fs)).t s Q ↔ Wp (sem C (.comp2 a own tg b es tg2 c fs)).v s fun w s' => Got (truth w.frz) fun b => Q b s' := p_t rfl
@[simp ↓] theorem pb_dcomp {Q : PV → Sl → Prop} : Wp (sem C (.dcomp t a b own tg c es)).b s Q ↔ Wp (sem C (.dcomp t a b own tg c es)).v s fun w s' => Q w.frz s' := p_b rfl
@[simp ↓] theorem pa_dcomp {Q : Arg → Sl → Prop} : Wp (sem C (.dcomp t a b own tg c es)).arg s Q ↔ Wp (sem C (.dcomp t a b own tg c es)).v s fun w s' => Q (.vl w) s' := p_a rfl
@[simp ↓] theorem pi_dcomp {Q : List PV → Sl → Prop} : Wp (sem C (.dcomp t a b own tg c es)).it s Q ↔ Wp (sem C (.dcomp t a b own tg c es)).v s fun w s' => Got (itemsS w.frz) fun xs => Q xs s' := p_i rfl
@[simp ↓] theorem pt_dcomp {Q : Bool → Sl → Prop} : Wp (sem C (.dcomp t a b own tg c es)).t s Q ↔ Wp (sem C (.dcomp t a b own tg c es)).v s fun w s' => Got (truth w.frz) fun b => Q b s' := p_t rfl
@[simp ↓] theorem pb_lam {Q : PV → Sl → Prop} : Wp (sem C (.lam f own)).b s Q ↔ Wp (sem C (.lam f own)).v s fun w s' => Q w.frz s' := p_b rfl
@[simp ↓] theorem pa_lam {Q : Arg → Sl → Prop} : Wp (sem C (.lam f own)).arg s Q ↔ Wp (sem C (.lam f own)).v s fun w s' => Q (.vl w) s' := p_a rfl
@[simp ↓] theorem pi_lam {Q : List PV → Sl → Prop} : Wp (sem C (.lam f own)).it s Q ↔ Wp (sem C (.lam f own)).v s fun w s' => Got (itemsS w.frz) fun xs => Q xs s' := p_i rfl
@[simp ↓] theorem pt_lam {Q : Bool → Sl → Prop} : Wp (sem C (.lam f own)).t s Q ↔ Wp (sem C (.lam f own)).v s fun w s' => Got (truth w.frz) fun b => Q b s' := p_t rfl
@[simp ↓] theorem pb_cloc {Q : PV → Sl → Prop} : Wp (sem C (.cloc f es)).b s Q ↔ Wp (sem C (.cloc f es)).v s fun w s' => Q w.frz s' := p_b rfl
@[simp ↓] theorem pa_cloc {Q : Arg → Sl → Prop} : Wp (sem C (.cloc f es)).arg s Q ↔ Wp (sem C (.cloc f es)).v s fun w s' => Q (.vl w) s' := p_a rfl
@[simp ↓] theorem pi_cloc {Q : List PV → Sl → Prop} : Wp (sem C (.cloc f es)).it s Q ↔ Wp (sem C (.cloc f es)).v s fun w s' => Got (itemsS w.frz) fun xs => Q xs s' := p_i rfl
@[simp ↓] theorem pt_cloc {Q : Bool → Sl → Prop} : Wp (sem C (.cloc f es)).t s Q ↔ Wp (sem C (.cloc f es)).v s fun w s' => Got (truth w.frz) fun b => Q b s' := p_t rfl
@[simp ↓] theorem pb_len {Q : PV → Sl → Prop} : Wp (sem C (.blt .len es)).b s Q ↔ Wp (sem C (.blt .len es)).v s fun w s' => Q w.frz s' := p_b rfl
@[simp ↓] theorem pa_len {Q : Arg → Sl → Prop} : Wp (sem C (.blt .len es)).arg s Q ↔ Wp (sem C (.blt .len es)).v s fun w s' => Q (.vl w) s' := p_a rfl
@[simp ↓] theorem pi_len {Q : List PV → Sl → Prop} : Wp (sem C (.blt .len es)).it s Q ↔ Wp (sem C (.blt .len es)).v s fun w s' => Got (itemsS w.frz) fun xs => Q xs s' := p_i rfl
@[simp ↓] theorem pt_len {Q : Bool → Sl → Prop} : Wp (sem C (.blt .len es)).t s Q ↔ Wp (sem C (.blt .len es)).v s fun w s' => Got (truth w.frz) fun b => Q b s' := p_t rfl
@[simp ↓] theorem vb_len {Q : W → Sl → Prop} : Wp (sem C (.blt .len [a])).v s Q ↔ Wp (sem C a).b s fun v s1 => Got (builtin C.rp .len [v]) fun w => Q w s1 := v_blt1 (by decide)
@[simp ↓] theorem pb_int {Q : PV → Sl → Prop} : Wp (sem C (.blt .int es)).b s Q ↔ Wp (sem C (.blt .int es)).v s fun w s' => Q w.frz s' := p_b rfl
@[simp ↓] theorem pa_int {Q : Arg → Sl → Prop} : Wp (sem C (.blt .int es)).arg s Q ↔ Wp (sem C (.blt .int es)).v s fun w s' => Q (.vl w) s' := p_a rfl
@[simp ↓] theorem pi_int {Q : List PV → Sl → Prop} : Wp (sem C (.blt .int es)).it s Q ↔ Wp (sem C (.blt .int es)).v s fun w s' => Got (itemsS w.frz) fun xs => Q xs s' := p_i rfl
@[simp ↓] theorem pt_int {Q : Bool → Sl → Prop} : Wp (sem C (.blt .int es)).t s Q ↔ Wp (sem C (.blt .int es)).v s fun w s' => Got (truth w.frz) fun b => Q b s' := p_t rfl
@[simp ↓] theorem vb_int {Q : W → Sl → Prop} : Wp (sem C (.blt .int [a])).v s Q ↔ Wp (sem C a).b s fun v s1 => Got (builtin C.rp .int [v]) fun w => Q w s1 := v_blt1 (by decide)
@[simp ↓] theorem pb_abs {Q : PV → Sl → Prop} : Wp (sem C (.blt .abs es)).b s Q ↔ Wp (sem C (.blt .abs es)).v s fun w s' => Q w.frz s' := p_b rfl
@[simp ↓] theorem pa_abs {Q : Arg → Sl → Prop} : Wp (sem C (.blt .abs es)).arg s Q ↔ Wp (sem C (.blt .abs es)).v s fun w s' => Q (.vl w) s' := p_a rfl
@[simp ↓] theorem pi_abs {Q : List PV → Sl → Prop} : Wp (sem C (.blt .abs es)).it s Q ↔ Wp (sem C (.blt .abs es)).v s fun w s' => Got (itemsS w.frz) fun xs => Q xs s' := p_i rfl
@[simp ↓] theorem pt_abs {Q : Bool → Sl → Prop} : Wp (sem C (.blt .abs es)).t s Q ↔ Wp (sem C (.blt .abs es)).v s fun w s' => Got (truth w.frz) fun b => Q b s' := p_t rfl
@[simp ↓] theorem vb_abs {Q : W → Sl → Prop} : Wp (sem C (.blt .abs [a])).v s Q ↔ Wp (sem C a).b s fun v s1 => Got (builtin C.rp .abs [v]) fun w => Q w s1 := v_blt1 (by decide)
@[simp ↓] theorem pb_str {Q : PV → Sl → Prop} : Wp (sem C (.blt .str es)).b s Q ↔ Wp (sem C (.blt .str es)).v s fun w s' => Q w.frz s' := p_b rfl
@[simp ↓] theorem pa_str {Q : Arg → Sl → Prop} : Wp (sem C (.blt .str es)).arg s Q ↔ Wp (sem C (.blt .str es)).v s fun w s' => Q (.vl w) s' := p_a rfl
@[simp ↓] theorem pi_str {Q : List PV → Sl → Prop} : Wp (sem C (.blt .str es)).it s Q ↔ Wp (sem C (.blt .str es)).v s fun w s' => Got (itemsS w.frz) fun xs => Q xs s' := p_i rfl
@[simp ↓] theorem pt_str {Q : Bool → Sl → Prop} : Wp (sem C (.blt .str es)).t s Q ↔ Wp (sem C (.blt .str es)).v s fun w s' => Got (truth w.frz) fun b => Q b s' := p_t rfl
@[simp ↓] theorem vb_str {Q : W → Sl → Prop} : Wp (sem C (.blt .str [a])).v s Q ↔ Wp (sem C a).b s fun v s1 => Got (builtin C.rp .str [v]) fun w => Q w s1 := v_blt1 (by decide)
@[simp ↓] theorem pb_repr {Q : PV → Sl → Prop} : Wp (sem C (.blt .repr es)).b s Q ↔ Wp (sem C (.blt .repr es)).v s fun w s' => Q w.frz s' := p_b rfl
@[simp ↓] theorem pa_repr {Q : Arg → Sl → Prop} : Wp (sem C (.blt .repr es)).arg s Q ↔ Wp (sem C (.blt .repr es)).v s fun w s' => Q (.vl w) s' := p_a rfl
@[simp ↓] theorem pi_repr {Q : List PV → Sl → Prop} : Wp (sem C (.blt .repr es)).it s Q ↔ Wp (sem C (.blt .repr es)).v s fun w s' => Got (itemsS w.frz) fun xs => Q xs s' := p_i rfl
@[simp ↓] theorem pt_repr {Q : Bool → Sl → Prop} : Wp (sem C (.blt .repr es)).t s Q ↔ Wp (sem C (.blt .repr es)).v s fun w s' => Got (truth w.frz) fun b => Q b s' := p_t rfl
@[simp ↓] theorem vb_repr {Q : W → Sl → Prop} : Wp (sem C (.blt .repr [a])).v s Q ↔ Wp (sem C a).b s fun v s1 => Got (builtin C.rp .repr [v]) fun w => Q w s1 := v_blt1 (by decide)
@[simp ↓] theorem pb_bool {Q : PV → Sl → Prop} : Wp (sem C (.blt .bool es)).b s Q ↔ Wp (sem C (.blt .bool es)).v s fun w s' => Q w.frz s' := p_b rfl
@[simp ↓] theorem pa_bool {Q : Arg → Sl → Prop} : Wp (sem C (.blt .bool es)).arg s Q ↔ Wp (sem C (.blt .bool es)).v s fun w s' => Q (.vl w) s' := p_a rfl
@[simp ↓] theorem pi_bool {Q : List PV → Sl → Prop} : Wp (sem C (.blt .bool es)).it s Q ↔ Wp (sem C (.blt .bool es)).v s fun w s' => Got (itemsS w.frz) fun xs => Q xs s' := p_i rfl
@[simp ↓] theorem pt_bool {Q : Bool → Sl → Prop} : Wp (sem C (.blt .bool es)).t s Q ↔ Wp (sem C (.blt .bool es)).v s fun w s' => Got (truth w.frz) fun b => Q b s' := p_t rfl
@[simp ↓] theorem vb_bool {Q : W → Sl → Prop} : Wp (sem C (.blt .bool [a])).v s Q ↔ Wp (sem C a).b s fun v s1 => Got (builtin C.rp .bool [v]) fun w => Q w s1 := v_blt1 (by decide)
@[simp ↓] theorem pb_min {Q : PV → Sl → Prop} : Wp (sem C (.blt .min es)).b s Q ↔ Wp (sem C (.blt .min es)).v s fun w s' => Q w.frz s' := p_b rfl
@[simp ↓] theorem pa_min {Q : Arg → Sl → Prop} : Wp (sem C (.blt .min es)).arg s Q ↔ Wp (sem C (.blt .min es)).v s fun w s' => Q (.vl w) s' := p_a rfl
@[simp ↓] theorem pi_min {Q : List PV → Sl → Prop} : Wp (sem C (.blt .min es)).it s Q ↔ Wp (sem C (.blt .min es)).v s fun w s' => Got (itemsS w.frz) fun xs => Q xs s' := p_i rfl
@[simp ↓] theorem pt_min {Q : Bool → Sl → Prop} : Wp (sem C (.blt .min es)).t s Q ↔ Wp (sem C (.blt .min es)).v s fun w s' => Got (truth w.frz) fun b => Q b s' := p_t rfl
@[simp ↓] theorem vb_min {Q : W → Sl → Prop} : Wp (sem C (.blt .min [a, c])).v s Q ↔ Wp (sem C a).v s fun x s1 => Wp (sem C c).v s1 fun y s2 => Got (builtin C.rp .min [x.frz, y.frz]) fun w => Q w s2 := v_blt2 (by decide)
@[simp ↓] theorem pb_max {Q : PV → Sl → Prop} : Wp (sem C (.blt .max es)).b s Q ↔ Wp (sem C (.blt .max es)).v s fun w s' => Q w.frz s' := p_b rfl
@[simp ↓] theorem pa_max {Q : Arg → Sl → Prop} : Wp (sem C (.blt .max es)).arg s Q ↔ Wp (sem C (.blt .max es)).v s fun w s' => Q (.vl w) s' := p_a rfl
@[simp ↓] theorem pi_max {Q : List PV → Sl → Prop} : Wp (sem C (.blt .max es)).it s Q ↔ Wp (sem C (.blt .max es)).v s fun w s' => Got (itemsS w.frz) fun xs => Q xs s' := p_i rfl
@[simp ↓] theorem pt_max {Q : Bool → Sl → Prop} : Wp (sem C (.blt .max es)).t s Q ↔ Wp (sem C (.blt .max es)).v s fun w s' => Got (truth w.frz) fun b => Q b s' := p_t rfl
@[simp ↓] theorem vb_max {Q : W → Sl → Prop} : Wp (sem C (.blt .max [a, c])).v s Q ↔ Wp (sem C a).v s fun x s1 => Wp (sem C c).v s1 fun y s2 => Got (builtin C.rp .max [x.frz, y.frz]) fun w => Q w s2 := v_blt2 (by decide)
@[simp ↓] theorem pb_sum {Q : PV → Sl → Prop} : Wp (sem C (.blt .sum es)).b s Q ↔ Wp (sem C (.blt .sum es)).v s fun w s' => Q w.frz s' := p_b rfl
@[simp ↓] theorem pa_sum {Q : Arg → Sl → Prop} : Wp (sem C (.blt .sum es)).arg s Q ↔ Wp (sem C (.blt .sum es)).v s fun w s' => Q (.vl w) s' := p_a rfl
@[simp ↓] theorem pi_sum {Q : List PV → Sl → Prop} : Wp (sem C (.blt .sum es)).it s Q ↔ Wp (sem C (.blt .sum es)).v s fun w s' => Got (itemsS w.frz) fun xs => Q xs s' := p_i rfl
@[simp ↓] theorem pt_sum {Q : Bool → Sl → Prop} : Wp (sem C (.blt .sum es)).t s Q ↔ Wp (sem C (.blt .sum es)).v s fun w s' => Got (truth w.frz) fun b => Q b s' := p_t rfl
@[simp ↓] theorem vb_sum {Q : W → Sl → Prop} : Wp (sem C (.blt .sum [a])).v s Q ↔ Wp (sem C a).b s fun v s1 => Got (builtin C.rp .sum [v]) fun w => Q w s1 := v_blt1 (by decide)
@[simp ↓] theorem pb_sorted {Q : PV → Sl → Prop} : Wp (sem C (.blt .sorted es)).b s Q ↔ Wp (sem C (.blt .sorted es)).v s fun w s' => Q w.frz s' := p_b rfl
@[simp ↓] theorem pa_sorted {Q : Arg → Sl → Prop} : Wp (sem C (.blt .sorted es)).arg s Q ↔ Wp (sem C (.blt .sorted es)).v s fun w s' => Q (.vl w) s' := p_a rfl
@[simp ↓] theorem pi_sorted {Q : List PV → Sl → Prop} : Wp (sem C (.blt .sorted es)).it s Q ↔ Wp (sem C (.blt .sorted es)).v s fun w s' => Got (itemsS w.frz) fun xs => Q xs s' := p_i rfl
@[simp ↓] theorem pt_sorted {Q : Bool → Sl → Prop} : Wp (sem C (.blt .sorted es)).t s Q ↔ Wp (sem C (.blt .sorted es)).v s fun w s' => Got (truth w.frz) fun b => Q b s' := p_t rfl
@[simp ↓] theorem vb_sorted {Q : W → Sl → Prop} : Wp (sem C (.blt .sorted [a])).v s Q ↔ Wp (sem C a).b s fun v s1 => Got (builtin C.rp .sorted [v]) fun w => Q w s1 := v_blt1 (by decide)
@[simp ↓] theorem pb_tuple {Q : PV → Sl → Prop} : Wp (sem C (.blt .tuple es)).b s Q ↔ Wp (sem C (.blt .tuple es)).v s fun w s' => Q w.frz s' := p_b rfl
@[simp ↓] theorem pa_tuple {Q : Arg → Sl → Prop} : Wp (sem C (.blt .tuple es)).arg s Q ↔ Wp (sem C (.blt .tuple es)).v s fun w s' => Q (.vl w) s' := p_a rfl
@[simp ↓] theorem pi_tuple {Q : List PV → Sl → Prop} : Wp (sem C (.blt .tuple es)).it s Q ↔ Wp (sem C (.blt .tuple es)).v s fun w s' => Got (itemsS w.frz) fun xs => Q xs s' := p_i rfl
@[simp ↓] theorem pt_tuple {Q : Bool → Sl → Prop} : Wp (sem C (.blt .tuple es)).t s Q ↔ Wp (sem C (.blt .tuple es)).v s fun w s' => Got (truth w.frz) fun b => Q b s' := p_t rfl
@[simp ↓] theorem vb_tuple {Q : W → Sl → Prop} : Wp (sem C (.blt .tuple [a])).v s Q ↔ Wp (sem C a).b s fun v s1 => Got (builtin C.rp .tuple [v]) fun w => Q w s1 := v_blt1 (by decide)
@[simp ↓] theorem pb_list {Q : PV → Sl → Prop} : Wp (sem C (.blt .list es)).b s Q ↔ Wp (sem C (.blt .list es)).v s fun w s' => Q w.frz s' := p_b rfl
@[simp ↓] theorem pa_list {Q : Arg → Sl → Prop} : Wp (sem C (.blt .list es)).arg s Q ↔ Wp (sem C (.blt .list es)).v s fun w s' => Q (.vl w) s' := p_a rfl
@[simp ↓] theorem pi_list {Q : List PV → Sl → Prop} : Wp (sem C (.blt .list es)).it s Q ↔ Wp (sem C (.blt .list es)).v s fun w s' => Got (itemsS w.frz) fun xs => Q xs s' := p_i rfl
@[simp ↓] theorem pt_list {Q : Bool → Sl → Prop} : Wp (sem C (.blt .list es)).t s Q ↔ Wp (sem C (.blt .list es)).v s fun w s' => Got (truth w.frz) fun b => Q b s' := p_t rfl
@[simp ↓] theorem vb_list {Q : W → Sl → Prop} : Wp (sem C (.blt .list [a])).v s Q ↔ Wp (sem C a).b s fun v s1 => Got (builtin C.rp .list [v]) fun w => Q w s1 := v_blt1 (by decide)
@[simp ↓] theorem pb_dictK {Q : PV → Sl → Prop} : Wp (sem C (.blt .dictK es)).b s Q ↔ Wp (sem C (.blt .dictK es)).v s fun w s' => Q w.frz s' := p_b rfl
@[simp ↓] theorem pa_dictK {Q : Arg → Sl → Prop} : Wp (sem C (.blt .dictK es)).arg s Q ↔ Wp (sem C (.blt .dictK es)).v s fun w s' => Q (.vl w) s' := p_a rfl
@[simp ↓] theorem pi_dictK {Q : List PV → Sl → Prop} : Wp (sem C (.blt .dictK es)).it s Q ↔ Wp (sem C (.blt .dictK es)).v s fun w s' => Got (itemsS w.frz) fun xs => Q xs s' := p_i rfl
@[simp ↓] theorem pt_dictK {Q : Bool → Sl → Prop} : Wp (sem C (.blt .dictK es)).t s Q ↔ Wp (sem C (.blt .dictK es)).v s fun w s' => Got (truth w.frz) fun b => Q b s' := p_t rfl
@[simp ↓] theorem vb_dictK {Q : W → Sl → Prop} : Wp (sem C (.blt .dictK [a])).v s Q ↔ Wp (sem C a).b s fun v s1 => Got (builtin C.rp .dictK [v]) fun w => Q w s1 := v_blt1 (by decide)
@[simp ↓] theorem pb_dictT {Q : PV → Sl → Prop} : Wp (sem C (.blt .dictT es)).b s Q ↔ Wp (sem C (.blt .dictT es)).v s fun w s' => Q w.frz s' := p_b rfl
@[simp ↓] theorem pa_dictT {Q : Arg → Sl → Prop} : Wp (sem C (.blt .dictT es)).arg s Q ↔ Wp (sem C (.blt .dictT es)).v s fun w s' => Q (.vl w) s' := p_a rfl
@[simp ↓] theorem pi_dictT {Q : List PV → Sl → Prop} : Wp (sem C (.blt .dictT es)).it s Q ↔ Wp (sem C (.blt .dictT es)).v s fun w s' => Got (itemsS w.frz) fun xs => Q xs s' := p_i rfl
@[simp ↓] theorem pt_dictT {Q : Bool → Sl → Prop} : Wp (sem C (.blt .dictT es)).t s Q ↔ Wp (sem C (.blt .dictT es)).v s fun w s' => Got (truth w.frz) fun b => Q b s' := p_t rfl
@[simp ↓] theorem vb_dictT {Q : W → Sl → Prop} : Wp (sem C (.blt .dictT [a])).v s Q ↔ Wp (sem C a).b s fun v s1 => Got (builtin C.rp .dictT [v]) fun w => Q w s1 := v_blt1 (by decide)
@[simp ↓] theorem pb_lenSet {Q : PV → Sl → Prop} : Wp (sem C (.blt .lenSet es)).b s Q ↔ Wp (sem C (.blt .lenSet es)).v s fun w s' => Q w.frz s' := p_b rfl
@[simp ↓] theorem pa_lenSet {Q : Arg → Sl → Prop} : Wp (sem C (.blt .lenSet es)).arg s Q ↔ Wp (sem C (.blt .lenSet es)).v s fun w s' => Q (.vl w) s' := p_a rfl
@[simp ↓] theorem pi_lenSet {Q : List PV → Sl → Prop} : Wp (sem C (.blt .lenSet es)).it s Q ↔ Wp (sem C (.blt .lenSet es)).v s fun w s' => Got (itemsS w.frz) fun xs => Q xs s' := p_i rfl
@[simp ↓] theorem pt_lenSet {Q : Bool → Sl → Prop} : Wp (sem C (.blt .lenSet es)).t s Q ↔ Wp (sem C (.blt .lenSet es)).v s fun w s' => Got (truth w.frz) fun b => Q b s' := p_t rfl
@[simp ↓] theorem vb_lenSet {Q : W → Sl → Prop} : Wp (sem C (.blt .lenSet [a])).v s Q ↔ Wp (sem C a).b s fun v s1 => Got (builtin C.rp .lenSet [v]) fun w => Q w s1 := v_blt1 (by decide)
@[simp ↓] theorem pb_all {Q : PV → Sl → Prop} : Wp (sem C (.blt .all es)).b s Q ↔ Wp (sem C (.blt .all es)).v s fun w s' => Q w.frz s' := p_b rfl
@[simp ↓] theorem pa_all {Q : Arg → Sl → Prop} : Wp (sem C (.blt .all es)).arg s Q ↔ Wp (sem C (.blt .all es)).v s fun w s' => Q (.vl w) s' := p_a rfl
@[simp ↓] theorem pi_all {Q : List PV → Sl → Prop} : Wp (sem C (.blt .all es)).it s Q ↔ Wp (sem C (.blt .all es)).v s fun w s' => Got (itemsS w.frz) fun xs => Q xs s' := p_i rfl
@[simp ↓] theorem pt_all {Q : Bool → Sl → Prop} : Wp (sem C (.blt .all es)).t s Q ↔ Wp (sem C (.blt .all es)).v s fun w s' => Got (truth w.frz) fun b => Q b s' := p_t rfl
@[simp ↓] theorem vb_all {Q : W → Sl → Prop} : Wp (sem C (.blt .all [a])).v s Q ↔ Wp (sem C a).b s fun v s1 => Got (builtin C.rp .all [v]) fun w => Q w s1 := v_blt1 (by decide)
@[simp ↓] theorem pb_any {Q : PV → Sl → Prop} : Wp (sem C (.blt .any es)).b s Q ↔ Wp (sem C (.blt .any es)).v s fun w s' => Q w.frz s' := p_b rfl
@[simp ↓] theorem pa_any {Q : Arg → Sl → Prop} : Wp (sem C (.blt .any es)).arg s Q ↔ Wp (sem C (.blt .any es)).v s fun w s' => Q (.vl w) s' := p_a rfl
@[simp ↓] theorem pi_any {Q : List PV → Sl → Prop} : Wp (sem C (.blt .any es)).it s Q ↔ Wp (sem C (.blt .any es)).v s fun w s' => Got (itemsS w.frz) fun xs => Q xs s' := p_i rfl
@[simp ↓] theorem pt_any {Q : Bool → Sl → Prop} : Wp (sem C (.blt .any es)).t s Q ↔ Wp (sem C (.blt .any es)).v s fun w s' => Got (truth w.frz) fun b => Q b s' := p_t rfl
@[simp ↓] theorem vb_any {Q : W → Sl → Prop} : Wp (sem C (.blt .any [a])).v s Q ↔ Wp (sem C a).b s fun v s1 => Got (builtin C.rp .any [v]) fun w => Q w s1 := v_blt1 (by decide)
@[simp ↓] theorem vi_glb {x : E} {Q : W → Sl → Prop} : Wp (sem C (.idx (.glb g) x)).v s Q ↔ Wp (sem C (.glb g)).v s fun x' s1 => Wp (sem C x).v s1 fun k s2 => Got (index x'.frz k.frz) fun r => Q (.sh r) s2 := v_idx rfl
@[simp ↓] theorem vs_glb {x y : E} {Q : W → Sl → Prop} : Wp (sem C (.slc (.glb g) x y)).v s Q ↔ Wp (sem C (.glb g)).v s fun x' s0 => Wp (partM x (sem C x).v) s0 fun l s1 => Wp (partM y (sem C y).v) s1 fun h s2 => Got (slice x'.frz l h) fun r => Q (ownIf r) s2 := v_slc rfl
@[simp ↓] theorem vm_glb {m' : Me} {xs : List E} {Q : W → Sl → Prop} : Wp (sem C (.meth m' (.glb g) xs)).v s Q ↔ Wp (sem C (.glb g)).v s fun x s1 => Wp (evs C xs) s1 fun vs s2 => Got (method C.spl m' x.frz vs) fun w => Q w s2 := v_meth rfl
@[simp ↓] theorem vi_tup {x : E} {Q : W → Sl → Prop} : Wp (sem C (.idx (.tup es) x)).v s Q ↔ Wp (sem C (.tup es)).v s fun x' s1 => Wp (sem C x).v s1 fun k s2 => Got (index x'.frz k.frz) fun r => Q (.sh r) s2 := v_idx rfl
@[simp ↓] theorem vs_tup {x y : E} {Q : W → Sl → Prop} : Wp (sem C (.slc (.tup es) x y)).v s Q ↔ Wp (sem C (.tup es)).v s fun x' s0 => Wp (partM x (sem C x).v) s0 fun l s1 => Wp (partM y (sem C y).v) s1 fun h s2 => Got (slice x'.frz l h) fun r => Q (ownIf r) s2 := v_slc rfl
@[simp ↓] theorem vm_tup {m' : Me} {xs : List E} {Q : W → Sl → Prop} : Wp (sem C (.meth m' (.tup es) xs)).v s Q ↔ Wp (sem C (.tup es)).v s fun x s1 => Wp (evs C xs) s1 fun vs s2 => Got (method C.spl m' x.frz vs) fun w => Q w s2 := v_meth rfl
@[simp ↓] theorem vi_lst {x : E} {Q : W → Sl → Prop} : Wp (sem C (.idx (.lst es) x)).v s Q ↔ Wp (sem C (.lst es)).v s fun x' s1 => Wp (sem C x).v s1 fun k s2 => Got (index x'.frz k.frz) fun r => Q (.sh r) s2 := v_idx rfl
@[simp ↓] theorem vs_lst {x y : E} {Q : W → Sl → Prop} : Wp (sem C (.slc (.lst es) x y)).v s Q ↔ Wp (sem C (.lst es)).v s fun x' s0 => Wp (partM x (sem C x).v) s0 fun l s1 => Wp (partM y (sem C y).v) s1 fun h s2 => Got (slice x'.frz l h) fun r => Q (ownIf r) s2 := v_slc rfl
@[simp ↓] theorem vm_lst {m' : Me} {xs : List E} {Q : W → Sl → Prop} : Wp (sem C (.meth m' (.lst es) xs)).v s Q ↔ Wp (sem C (.lst es)).v s fun x s1 => Wp (evs C xs) s1 fun vs s2 => Got (method C.spl m' x.frz vs) fun w => Q w s2 := v_meth rfl
@[simp ↓] theorem vi_dct {x : E} {Q : W → Sl → Prop} : Wp (sem C (.idx (.dct t ks vs) x)).v s Q ↔ Wp (sem C (.dct t ks vs)).v s fun x' s1 => Wp (sem C x).v s1 fun k s2 => Got (index x'.frz k.frz) fun r => Q (.sh r) s2 := v_idx rfl
@[simp ↓] theorem vs_dct {x y : E} {Q : W → Sl → Prop} : Wp (sem C (.slc (.dct t ks vs) x y)).v s Q ↔ Wp (sem C (.dct t ks vs)).v s fun x' s0 => Wp (partM x (sem C x).v) s0 fun l s1 => Wp (partM y (sem C y).v) s1 fun h s2 => Got (slice x'.frz l h) fun r => Q (ownIf r) s2 := v_slc rfl
@[simp ↓] theorem vm_dct {m' : Me} {xs : List E} {Q : W → Sl → Prop} : Wp (sem C (.meth m' (.dct t ks vs) xs)).v s Q ↔ Wp (sem C (.dct t ks vs)).v s fun x s1 => Wp (evs C xs) s1 fun vs s2 => Got (method C.spl m' x.frz vs) fun w => Q w s2 := v_meth rfl
@[simp ↓] theorem vi_bin {x : E} {Q : W → Sl → Prop} : Wp (sem C (.idx (.bin o a b) x)).v s Q ↔ Wp (sem C (.bin o a b)).v s fun x' s1 => Wp (sem C x).v s1 fun k s2 => Got (index x'.frz k.frz) fun r => Q (.sh r) s2 := v_idx rfl
@[simp ↓] theorem vs_bin {x y : E} {Q : W → Sl → Prop} : Wp (sem C (.slc (.bin o a b) x y)).v s Q ↔ Wp (sem C (.bin o a b)).v s fun x' s0 => Wp (partM x (sem C x).v) s0 fun l s1 => Wp (partM y (sem C y).v) s1 fun h s2 => Got (slice x'.frz l h) fun r => Q (ownIf r) s2 := v_slc rfl
@[simp ↓] theorem vm_bin {m' : Me} {xs : List E} {Q : W → Sl → Prop} : Wp (sem C (.meth m' (.bin o a b) xs)).v s Q ↔ Wp (sem C (.bin o a b)).v s fun x s1 => Wp (evs C xs) s1 fun vs s2 => Got (method C.spl m' x.frz vs) fun w => Q w s2 := v_meth rfl
@[simp ↓] theorem vi_ite {x : E} {Q : W → Sl → Prop} : Wp (sem C (.idx (.ite a b c) x)).v s Q ↔ Wp (sem C (.ite a b c)).v s fun x' s1 => Wp (sem C x).v s1 fun k s2 => Got (index x'.frz k.frz) fun r => Q (.sh r) s2 := v_idx rfl
@[simp ↓] theorem vs_ite {x y : E} {Q : W → Sl → Prop} : Wp (sem C (.slc (.ite a b c) x y)).v s Q ↔ Wp (sem C (.ite a b c)).v s fun x' s0 => Wp (partM x (sem C x).v) s0 fun l s1 => Wp (partM y (sem C y).v) s1 fun h s2 => Got (slice x'.frz l h) fun r => Q (ownIf r) s2 := v_slc rfl
@[simp ↓] theorem vm_ite {m' : Me} {xs : List E} {Q : W → Sl → Prop} : Wp (sem C (.meth m' (.ite a b c) xs)).v s Q ↔ Wp (sem C (.ite a b c)).v s fun x s1 => Wp (evs C xs) s1 fun vs s2 => Got (method C.spl m' x.frz vs) fun w => Q w s2 := v_meth rfl
@[simp ↓] theorem vi_idx {x : E} {Q : W → Sl → Prop} : Wp (sem C (.idx (.idx a b) x)).v s Q ↔ Wp (sem C (.idx a b)).v s fun x' s1 => Wp (sem C x).v s1 fun k s2 => Got (index x'.frz k.frz) fun r => Q (.sh r) s2 := v_idx rfl
@[simp ↓] theorem vs_idx {x y : E} {Q : W → Sl → Prop} : Wp (sem C (.slc (.idx a b) x y)).v s Q ↔ Wp (sem C (.idx a b)).v s fun x' s0 => Wp (partM x (sem C x).v) s0 fun l s1 => Wp (partM y (sem C y).v) s1 fun h s2 => Got (slice x'.frz l h) fun r => Q (ownIf r) s2 := v_slc rfl
@[simp ↓] theorem vm_idx {m' : Me} {xs : List E} {Q : W → Sl → Prop} : Wp (sem C (.meth m' (.idx a b) xs)).v s Q ↔ Wp (sem C (.idx a b)).v s fun x s1 => Wp (evs C xs) s1 fun vs s2 => Got (method C.spl m' x.frz vs) fun w => Q w s2 := v_meth rfl
@[simp ↓] theorem vi_slc {x : E} {Q : W → Sl → Prop} : Wp (sem C (.idx (.slc a b c) x)).v s Q ↔ Wp (sem C (.slc a b c)).v s fun x' s1 => Wp (sem C x).v s1 fun k s2 => Got (index x'.frz k.frz) fun r => Q (.sh r) s2 := v_idx rfl
@[simp ↓] theorem vs_slc {x y : E} {Q : W → Sl → Prop} : Wp (sem C (.slc (.slc a b c) x y)).v s Q ↔ Wp (sem C (.slc a b c)).v s fun x' s0 => Wp (partM x (sem C x).v) s0 fun l s1 => Wp (partM y (sem C y).v) s1 fun h s2 => Got (slice x'.frz l h) fun r => Q (ownIf r) s2 := v_slc rfl
@[simp ↓] theorem vm_slc {m' : Me} {xs : List E} {Q : W → Sl → Prop} : Wp (sem C (.meth m' (.slc a b c) xs)).v s Q ↔ Wp (sem C (.slc a b c)).v s fun x s1 => Wp (evs C xs) s1 fun vs s2 => Got (method C.spl m' x.frz vs) fun w => Q w s2 := v_meth rfl
@[simp ↓] theorem vi_rev {x : E} {Q : W → Sl → Prop} : Wp (sem C (.idx (.rev a) x)).v s Q ↔ Wp (sem C (.rev a)).v s fun x' s1 => Wp (sem C x).v s1 fun k s2 => Got (index x'.frz k.frz) fun r => Q (.sh r) s2 := v_idx rfl
@[simp ↓] theorem vs_rev {x y : E} {Q : W → Sl → Prop} : Wp (sem C (.slc (.rev a) x y)).v s Q ↔ Wp (sem C (.rev a)).v s fun x' s0 => Wp (partM x (sem C x).v) s0 fun l s1 => Wp (partM y (sem C y).v) s1 fun h s2 => Got (slice x'.frz l h) fun r => Q (ownIf r) s2 := v_slc rfl
@[simp ↓] theorem vm_rev {m' : Me} {xs : List E} {Q : W → Sl → Prop} : Wp (sem C (.meth m' (.rev a) xs)).v s Q ↔ Wp (sem C (.rev a)).v s fun x s1 => Wp (evs C xs) s1 fun vs s2 => Got (method C.spl m' x.frz vs) fun w => Q w s2 := v_meth rfl
@[simp ↓] theorem vi_fld {x : E} {Q : W → Sl → Prop} : Wp (sem C (.idx (.fld a f) x)).v s Q ↔ Wp (sem C (.fld a f)).v s fun x' s1 => Wp (sem C x).v s1 fun k s2 => Got (index x'.frz k.frz) fun r => Q (.sh r) s2 := v_idx rfl
@[simp ↓] theorem vs_fld {x y : E} {Q : W → Sl → Prop} : Wp (sem C (.slc (.fld a f) x y)).v s Q ↔ Wp (sem C (.fld a f)).v s fun x' s0 => Wp (partM x (sem C x).v) s0 fun l s1 => Wp (partM y (sem C y).v) s1 fun h s2 => Got (slice x'.frz l h) fun r => Q (ownIf r) s2 := v_slc rfl
@[simp ↓] theorem vm_fld {m' : Me} {xs : List E} {Q : W → Sl → Prop} : Wp (sem C (.meth m' (.fld a f) xs)).v s Q ↔ Wp (sem C (.fld a f)).v s fun x s1 => Wp (evs C xs) s1 fun vs s2 => Got (method C.spl m' x.frz vs) fun w => Q w s2 := v_meth rfl
@[simp ↓] theorem vi_call {x : E} {Q : W → Sl → Prop} : Wp (sem C (.idx (.call f es) x)).v s Q ↔ Wp (sem C (.call f es)).v s fun x' s1 => Wp (sem C x).v s1 fun k s2 => Got (index x'.frz k.frz) fun r => Q (.sh r) s2 := v_idx rfl
@[simp ↓] theorem vs_call {x y : E} {Q : W → Sl → Prop} : Wp (sem C (.slc (.call f es) x y)).v s Q ↔ Wp (sem C (.call f es)).v s fun x' s0 => Wp (partM x (sem C x).v) s0 fun l s1 => Wp (partM y (sem C y).v) s1 fun h s2 => Got (slice x'.frz l h) fun r => Q (ownIf r) s2 := v_slc rfl
@[simp ↓] theorem vm_call {m' : Me} {xs : List E} {Q : W → Sl → Prop} : Wp (sem C (.meth m' (.call f es) xs)).v s Q ↔ Wp (sem C (.call f es)).v s fun x s1 => Wp (evs C xs) s1 fun vs s2 => Got (method C.spl m' x.frz vs) fun w => Q w s2 := v_meth rfl
@[simp ↓] theorem vi_ofIt {x : E} {Q : W → Sl → Prop} : Wp (sem C (.idx (.ofIt d a) x)).v s Q ↔ Wp (sem C (.ofIt d a)).v s fun x' s1 => Wp (sem C x).v s1 fun k s2 => Got (index x'.frz k.frz) fun r => Q (.sh r) s2 := v_idx rfl
@[simp ↓] theorem vs_ofIt {x y : E} {Q : W → Sl → Prop} : Wp (sem C (.slc (.ofIt d a) x y)).v s Q ↔ Wp (sem C (.ofIt d a)).v s fun x' s0 => Wp (partM x (sem C x).v) s0 fun l s1 => Wp (partM y (sem C y).v) s1 fun h s2 => Got (slice x'.frz l h) fun r => Q (ownIf r) s2 := v_slc rfl
@[simp ↓] theorem vm_ofIt {m' : Me} {xs : List E} {Q : W → Sl → Prop} : Wp (sem C (.meth m' (.ofIt d a) xs)).v s Q ↔ Wp (sem C (.ofIt d a)).v s fun x s1 => Wp (evs C xs) s1 fun vs s2 => Got (method C.spl m' x.frz vs) fun w => Q w s2 := v_meth rfl
@[simp ↓] theorem vi_new {x : E} {Q : W → Sl → Prop} : Wp (sem C (.idx (.new f es) x)).v s Q ↔ Wp (sem C (.new f es)).v s fun x' s1 => Wp (sem C x).v s1 fun k s2 => Got (index x'.frz k.frz) fun r => Q (.sh r) s2 := v_idx rfl
@[simp ↓] theorem vs_new {x y : E} {Q : W → Sl → Prop} : Wp (sem C (.slc (.new f es) x y)).v s Q ↔ Wp (sem C (.new f es)).v s fun x' s0 => Wp (partM x (sem C x).v) s0 fun l s1 => Wp (partM y (sem C y).v) s1 fun h s2 => Got (slice x'.frz l h) fun r => Q (ownIf r) s2 := v_slc rfl
@[simp ↓] theorem vm_new {m' : Me} {xs : List E} {Q : W → Sl → Prop} : Wp (sem C (.meth m' (.new f es) xs)).v s Q ↔ Wp (sem C (.new f es)).v s fun x s1 => Wp (evs C xs) s1 fun vs s2 => Got (method C.spl m' x.frz vs) fun w => Q w s2 := v_meth rfl
@[simp ↓] theorem vi_meth {x : E} {Q : W → Sl → Prop} : Wp (sem C (.idx (.meth m a es) x)).v s Q ↔ Wp (sem C (.meth m a es)).v s fun x' s1 => Wp (sem C x).v s1 fun k s2 => Got (index x'.frz k.frz) fun r => Q (.sh r) s2 := v_idx rfl
@[simp ↓] theorem vs_meth {x y : E} {Q : W → Sl → Prop} : Wp (sem C (.slc (.meth m a es) x y)).v s Q ↔ Wp (sem C (.meth m a es)).v s fun x' s0 => Wp (partM x (sem C x).v) s0 fun l s1 => Wp (partM y (sem C y).v) s1 fun h s2 => Got (slice x'.frz l h) fun r => Q (ownIf r) s2 := v_slc rfl
@[simp ↓] theorem vm_meth {m' : Me} {xs : List E} {Q : W → Sl → Prop} : Wp (sem C (.meth m' (.meth m a es) xs)).v s Q ↔ Wp (sem C (.meth m a es)).v s fun x s1 => Wp (evs C xs) s1 fun vs s2 => Got (method C.spl m' x.frz vs) fun w => Q w s2 := v_meth rfl
@[simp ↓] theorem vi_mut {x : E} {Q : W → Sl → Prop} : Wp (sem C (.idx (.mut mm i ff es) x)).v s Q ↔ Wp (sem C (.mut mm i ff es)).v s fun x' s1 => Wp (sem C x).v s1 fun k s2 => Got (index x'.frz k.frz) fun r => Q (.sh r) s2 := v_idx rfl
@[simp ↓] theorem vs_mut {x y : E} {Q : W → Sl → Prop} : Wp (sem C (.slc (.mut mm i ff es) x y)).v s Q ↔ Wp (sem C (.mut mm i ff es)).v s fun x' s0 => Wp (partM x (sem C x).v) s0 fun l s1 => Wp (partM y (sem C y).v) s1 fun h s2 => Got (slice x'.frz l h) fun r => Q (ownIf r) s2 := v_slc rfl
@[simp ↓] theorem vm_mut {m' : Me} {xs : List E} {Q : W → Sl → Prop} : Wp (sem C (.meth m' (.mut mm i ff es) xs)).v s Q ↔ Wp (sem C (.mut mm i ff es)).v s fun x s1 => Wp (evs C xs) s1 fun vs s2 => Got (method C.spl m' x.frz vs) fun w => Q w s2 := v_meth rfl
@[simp ↓] theorem vi_omth {x : E} {Q : W → Sl → Prop} : Wp (sem C (.idx (.omth f a es) x)).v s Q ↔ Wp (sem C (.omth f a es)).v s fun x' s1 => Wp (sem C x).v s1 fun k s2 => Got (index x'.frz k.frz) fun r => Q (.sh r) s2 := v_idx rfl
@[simp ↓] theorem vs_omth {x y : E} {Q : W → Sl → Prop} : Wp (sem C (.slc (.omth f a es) x y)).v s Q ↔ Wp (sem C (.omth f a es)).v s fun x' s0 => Wp (partM x (sem C x).v) s0 fun l s1 => Wp (partM y (sem C y).v) s1 fun h s2 => Got (slice x'.frz l h) fun r => Q (ownIf r) s2 := v_slc rfl
@[simp ↓] theorem vm_omth {m' : Me} {xs : List E} {Q : W → Sl → Prop} : Wp (sem C (.meth m' (.omth f a es) xs)).v s Q ↔ Wp (sem C (.omth f a es)).v s fun x s1 => Wp (evs C xs) s1 fun vs s2 => Got (method C.spl m' x.frz vs) fun w => Q w s2 := v_meth rfl
@[simp ↓] theorem vi_comp {x : E} {Q : W → Sl → Prop} : Wp (sem C (.idx (.comp a own tg b es) x)).v s Q ↔ Wp (sem C (.comp a own tg b es)).v s fun x' s1 => Wp (sem C x).v s1 fun k s2 => Got (index x'.frz k.frz) fun r => Q (.sh r) s2 := v_idx rfl
@[simp ↓] theorem vs_comp {x y : E} {Q : W → Sl → Prop} : Wp (sem C (.slc (.comp a own tg b es) x y)).v s Q ↔ Wp (sem C (.comp a own tg b es)).v s fun x' s0 => Wp (partM x (sem C x).v) s0 fun l s1 => Wp (partM y (sem C y).v) s1 fun h s2 => Got (slice x'.frz l h) fun r => Q (ownIf r) s2 := v_slc rfl
@[simp ↓] theorem vm_comp {m' : Me} {xs : List E} {Q : W → Sl → Prop} : Wp (sem C (.meth m' (.comp a own tg b es) xs)).v s Q ↔ Wp (sem C (.comp a own tg b es)).v s fun x s1 => Wp (evs C xs) s1 fun vs s2 => Got (method C.spl m' x.frz vs) fun w => Q w s2 := v_meth rfl
@[simp ↓] theorem vi_dcomp {x : E} {Q : W → Sl → Prop} : Wp (sem C (.idx (.dcomp t a b own tg c es) x)).v s Q ↔ Wp (sem C (.dcomp t a b own tg c es)).v s fun x' s1 => Wp (sem C x).v s1 fun k s2 => Got (index x'.frz k.frz) fun r => Q (.sh r) s2 := v_idx rfl
@[simp ↓] theorem vs_dcomp {x y : E} {Q : W → Sl → Prop} : Wp (sem C (.slc (.dcomp t a b own tg c es) x y)).v s Q ↔ Wp (sem C (.dcomp t a b own tg c es)).v s fun x' s0 => Wp (partM x (sem C x).v) s0 fun l s1 => Wp (partM y (sem C y).v) s1 fun h s2 => Got (slice x'.frz l h) fun r => Q (ownIf r) s2 := v_slc rfl
@[simp ↓] theorem vm_dcomp {m' : Me} {xs : List E} {Q : W → Sl → Prop} : Wp (sem C (.meth m' (.dcomp t a b own tg c es) xs)).v s Q ↔ Wp (sem C (.dcomp t a b own tg c es)).v s fun x s1 => Wp (evs C xs) s1 fun vs s2 => Got (method C.spl m' x.frz vs) fun w => Q w s2 := v_meth rfl
@[simp ↓] theorem vm_lit {v : PV} {m' : Me} {xs : List E} {Q : W → Sl → Prop} : Wp (sem C (.meth m' (.lit v) xs)).v s Q ↔ Wp (sem C (.lit v)).v s fun x s1 => Wp (evs C xs) s1 fun vs s2 => Got (method C.spl m' x.frz vs) fun w => Q w s2 := v_meth rfl
end
/-! values -/
section
open PySem (Str)
variable {i j : Int} {x y : Str} {a b : Bool} {xs ys : List PV} {rp : PV → Option Str} {v : PV}
@[simp] theorem frz_sh : (W.sh v).frz = v := rfl
@[simp] theorem frz_own : (W.own v).frz = v := rfl
@[simp] theorem isData_int : isData (.int i) = true := rfl
@[simp] theorem isData_str : isData (.str x) = true := rfl
@[simp] theorem isData_bl : isData (.bl b) = true := rfl
@[simp] theorem isData_non : isData .non = true := rfl
@[simp] theorem deq_int : deq (.int i) (.int j) = (i == j) := by unfold deq; rfl
@[simp] theorem deq_str : deq (.str x) (.str y) = (x == y) := by unfold deq; rfl
@[simp] theorem deq_bl : deq (.bl a) (.bl b) = (a == b) := by unfold deq; rfl
@[simp] theorem truth_bl : truth (.bl b) = some b := rfl
@[simp] theorem truth_int : truth (.int i) = some (i != 0) := rfl
@[simp] theorem cmp_lt : cmpop .lt (.int i) (.int j) = some (decide (i < j)) := rfl
@[simp] theorem cmp_le : cmpop .le (.int i) (.int j) = some (decide (i ≤ j)) := rfl
@[simp] theorem cmp_gt : cmpop .gt (.int i) (.int j) = some (decide (j < i)) := rfl
@[simp] theorem cmp_ge : cmpop .ge (.int i) (.int j) = some (decide (j ≤ i)) := rfl
@[simp] theorem cmp_eqI : cmpop .eq (.int i) (.int j) = some (i == j) := by simp [cmpop]
@[simp] theorem cmp_neI : cmpop .ne (.int i) (.int j) = some (!(i == j)) := by simp [cmpop]
@[simp] theorem cmp_eqS : cmpop .eq (.str x) (.str y) = some (x == y) := by simp [cmpop]
@[simp] theorem cmp_neS : cmpop .ne (.str x) (.str y) = some (!(x == y)) := by simp [cmpop]
@[simp] theorem cmp_eqB : cmpop .eq (.bl a) (.bl b) = some (a == b) := by simp [cmpop]
@[simp] theorem cmp_neB : cmpop .ne (.bl a) (.bl b) = some (!(a == b)) := by simp [cmpop]
@[simp] theorem cmp_isN : cmpop .is_ v .non = some (isNon v) := by cases v <;> rfl
@[simp] theorem cmp_isntN : cmpop .isnt v .non = some !(isNon v) := by cases v <;> rfl
@[simp] theorem isNon_bl : isNon (.bl b) = false := rfl
@[simp] theorem isNon_int : isNon (.int i) = false := rfl
@[simp] theorem isNon_str : isNon (.str x) = false := rfl
@[simp] theorem bin_add : binop .add (.int i) (.int j) = some (.int (i + j)) := rfl
@[simp] theorem bin_sub : binop .sub (.int i) (.int j) = some (.int (i - j)) := rfl
@[simp] theorem bin_mod (h : j ≠ 0) : binop .mod (.int i) (.int j) = some (.int (i.fmod j)) := by simp [binop, h]
@[simp] theorem bin_fdiv (h : j ≠ 0) (h2 : j.natAbs < 1073741824) : binop .fdiv (.int i) (.int j) = some (.int (i.fdiv j)) := by simp [binop, h, h2]
@[simp] theorem bin_addL (h : xs.length + ys.length ≤ SZ) : binop .add (.lst xs) (.lst ys) = some (.lst (xs ++ ys)) := by simp [binop, h]
@[simp] theorem bin_addT (h : xs.length + ys.length ≤ SZ) : binop .add (.tup xs) (.tup ys) = some (.tup (xs ++ ys)) := by simp [binop, h]
@[simp] theorem ownIf_int : ownIf (.int i) = .sh (.int i) := rfl
@[simp] theorem ownIf_str : ownIf (.str x) = .sh (.str x) := rfl
@[simp] theorem ownIf_tup : ownIf (.tup xs) = .sh (.tup xs) := rfl
@[simp] theorem ownIf_lst : ownIf (.lst xs) = .own (.lst xs) := rfl
@[simp] theorem len_lst : builtin rp .len [.lst xs] = some (.sh (.int xs.length)) := rfl
@[simp] theorem len_tup : builtin rp .len [.tup xs] = some (.sh (.int xs.length)) := rfl
@[simp] theorem len_str (h : x.length ≤ SZ) : builtin rp .len [.str x] = some (.sh (.int x.length)) := by simp [builtin, h]
@[simp] theorem bi_int : builtin rp .int [.int i] = some (.sh (.int i)) := rfl
@[simp] theorem bi_abs : builtin rp .abs [.int i] = some (.sh (.int (if i < 0 then -i else i))) := rfl
@[simp] theorem bi_tupL : builtin rp .tuple [.lst xs] = some (.sh (.tup xs)) := rfl
@[simp] theorem bi_lstT : builtin rp .list [.tup xs] = some (.own (.lst xs)) := rfl
@[simp] theorem bi_lstL : builtin rp .list [.lst xs] = some (.own (.lst xs)) := rfl
@[simp] theorem bi_all : builtin rp .all [.lst xs] = (bools xs).map fun bs => .sh (.bl (bs.all id)) := rfl
@[simp] theorem bi_any : builtin rp .any [.lst xs] = (bools xs).map fun bs => .sh (.bl (bs.any id)) := rfl
theorem bi_rng1 (h : (-(2 ^ 62) ≤ i && decide (i < 2 ^ 62)) = true) : builtin rp .rng [.int i] = some (.sh (.rng 0 i)) := by
  show (if _ then _ else _) = _
  rw [if_pos h]
@[simp] theorem items_lst : itemsS (.lst xs) = some xs := rfl
@[simp] theorem items_tup : itemsS (.tup xs) = some xs := rfl
@[simp] theorem itemsQ_lst : itemsQ (.lst xs) = some xs := rfl
@[simp] theorem itemsQ_tup : itemsQ (.tup xs) = some xs := rfl
@[simp] theorem lend_nil {s : Sl} : lendA [] s = some ([], s) := rfl
@[simp] theorem lend_vl {w : W} {r : List Arg} {s : Sl} : lendA (.vl w :: r) s = (lendA r s).map fun p => (w :: p.1, p.2) := rfl
theorem lend_sh {i : Nat} {v : PV} {r : List Arg} {s : Sl} (h : At s i (.sh v)) : lendA (.rf i :: r) s = (lendA r s).map fun p => (.sh v :: p.1, p.2) := by
  unfold At at h
  rw [lendA, h]
theorem lend_own {i : Nat} {v : PV} {r : List Arg} {s : Sl} (h : At s i (.own v)) : lendA (.rf i :: r) s = (lendA r (s.set i none)).map fun p => (.own v :: p.1, p.2) := by
  unfold At at h
  rw [lendA, h]
theorem lend_obj {i c : Nat} {fs : List (Nat × W)} {r : List Arg} {s : Sl} (h : At s i (.obj c fs)) : lendA (.rf i :: r) s = (lendA r (s.set i none)).map fun p => (.obj c fs :: p.1, p.2) := by
  unfold At at h
  rw [lendA, h]
@[simp] theorem lend_o0 {c : Nat} {fs : List (Nat × W)} {r : List Arg} {s : Sl} : lendA (.rf 0 :: r) (some (.obj c fs) :: s) = (lendA r (none :: s)).map fun p => (.obj c fs :: p.1, p.2) := rfl
theorem back_sh {i : Nat} {w : W} {r : List Arg} {s : Sl} {o : Option W} {os : List (Option W)} (h : At s i w) : backA (.rf i :: r) (o :: os) s = backA r os s := by
  show (match s[i]? with
    | some none => backA r os (s.set i o)
    | _ => backA r os s) = _
  rw [show s[i]? = _ from h]
theorem back_none {i : Nat} {r : List Arg} {s : Sl} {o : Option W} {os : List (Option W)} (h : s[i]? = some none) : backA (.rf i :: r) (o :: os) s = backA r os (s.set i o) := by
  show (match s[i]? with
    | some none => backA r os (s.set i o)
    | _ => backA r os s) = _
  rw [h]
@[simp] theorem back_vl {w : W} {r : List Arg} {s : Sl} {o : Option W} {os : List (Option W)} : backA (.vl w :: r) (o :: os) s = backA r os s := rfl
@[simp] theorem back_nil {s : Sl} {os : List (Option W)} : backA [] os s = s := by cases os <;> rfl
theorem ok_eq {r : CR} {w : W} {o : List (Option W)} (h : Ok r fun w' o' => w' = w ∧ o' = o) : r = .ok w o := by
  obtain ⟨_, _, e, rfl, rfl⟩ := h; exact e
@[simp] theorem noPart_non : isNoPart (.lit .non) = true := rfl
@[simp] theorem noPart_int : isNoPart (.lit (.int i)) = false := rfl
@[simp] theorem noPart_var {i : Nat} : isNoPart (.var i) = false := rfl
@[simp] theorem noPart_bin {o : BOp} {a b : E} : isNoPart (.bin o a b) = false := rfl
@[simp] theorem noPart_neg {a : E} : isNoPart (.neg a) = false := rfl
theorem zip3_mem {x : PV} : ∀ {xs ys zs : List PV}, x ∈ zip3 xs ys zs → ∃ a b c, x = .tup [a, b, c] ∧ a ∈ xs ∧ b ∈ ys ∧ c ∈ zs
  | [], _, _, h => by simp [zip3] at h
  | _ :: _, [], _, h => by simp [zip3] at h
  | _ :: _, _ :: _, [], h => by simp [zip3] at h
  | x1 :: xs, y1 :: ys, z1 :: zs, h => by
    rw [zip3, List.mem_cons] at h
    rcases h with rfl | h
    · exact ⟨_, _, _, rfl, List.mem_cons_self, List.mem_cons_self, List.mem_cons_self⟩
    · obtain ⟨a, b, c, e, h1, h2, h3⟩ := zip3_mem h
      exact ⟨a, b, c, e, List.mem_cons_of_mem _ h1, List.mem_cons_of_mem _ h2, List.mem_cons_of_mem _ h3⟩
theorem zip2_mem {x : PV} : ∀ {xs ys : List PV}, x ∈ zip2 xs ys → ∃ a b, x = .tup [a, b] ∧ a ∈ xs ∧ b ∈ ys
  | [], _, h => by simp [zip2] at h
  | _ :: _, [], h => by simp [zip2] at h
  | x1 :: xs, y1 :: ys, h => by
    rw [zip2, List.mem_cons] at h
    rcases h with rfl | h
    · exact ⟨_, _, rfl, List.mem_cons_self, List.mem_cons_self⟩
    · obtain ⟨a, b, e, h1, h2⟩ := zip2_mem h
      exact ⟨a, b, e, List.mem_cons_of_mem _ h1, List.mem_cons_of_mem _ h2⟩
theorem zip3_len : ∀ {xs ys zs : List PV}, (zip3 xs ys zs).length ≤ xs.length
  | [], _, _ => by simp [zip3]
  | _ :: _, [], _ => by simp [zip3]
  | _ :: _, _ :: _, [] => by simp [zip3]
  | x1 :: xs, y1 :: ys, z1 :: zs => by
    have := @zip3_len xs ys zs
    simp only [zip3, List.length_cons]; omega
@[simp] theorem wipe_n {s : Sl} : wipe [] s = s := rfl
@[simp] theorem wipe_c {v : Nat} {vs : List Nat} {a : Option W} {s : Sl} : wipe (v :: vs) (a :: s) = (wipe vs (a :: s)).set v none := rfl
@[simp] theorem bools_nil : bools [] = some [] := rfl
@[simp] theorem bools_cons {b : Bool} {r : List PV} : bools (.bl b :: r) = (bools r).map (b :: ·) := rfl
end
end Mini
end

section
set_option linter.all false
set_option maxRecDepth 100000
/-! WpX: further rules: displays of dicts, dicts made of pairs. -/
namespace Mini
open PySem (Str)
section
variable {C : Ctx} {s : Sl}
theorem Wp.to {α : Type} {m : M α} {Q : α → Sl → Prop} {v : α} {s1 : Sl} (h : Wp m s fun a s' => a = v ∧ s' = s1) (q : Q v s1) : Wp m s Q := h.mono fun _ _ ⟨e1, e2⟩ => by rw [e1, e2]; exact q
/-- a statement, then the rest -/
theorem Wp.stm {C : Ctx} {st : S} {r : List S} {Q : Fl → Sl → Prop} {s1 : Sl} (h : Wp (exS C st) s fun a s' => a = .nx ∧ s' = s1) (q : Wp (exSs C r) s1 Q) : Wp (exSs C (st :: r)) s Q := by
  rw [ss_cons]
  refine h.to ?_
  rw [then_nx]
  exact q
@[simp ↓] theorem eps_nil {Q : List PV → Sl → Prop} : Wp (evPs [] []) s Q ↔ Q [] s := wp_pure
@[simp ↓] theorem eps_cons {k v : M W} {ks vs : List (M W)} {Q : List PV → Sl → Prop} : Wp (evPs (k :: ks) (v :: vs)) s Q ↔ Wp k s fun a s1 => Wp v s1 fun b s2 => Wp (evPs ks vs) s2 fun r s3 => Q (.tup [a.frz, b.frz] :: r) s3 := by
  show Wp (do let a ← k; let b ← v; let r ← evPs ks vs; pure (.tup [a.frz, b.frz] :: r)) s Q ↔ _
  simp only [wp_bind, wp_pure]
@[simp ↓] theorem evL_cons {e : E} {es : List E} : evL C (e :: es) = (sem C e).v :: evL C es := rfl
@[simp ↓] theorem evL_nil : evL C [] = [] := rfl
@[simp ↓] theorem v_dctN {a b c d : E} {ks vs : List E} {Q : W → Sl → Prop} : Wp (sem C (.dct false (a :: b :: ks) (c :: d :: vs))).v s Q ↔ Wp (evPs (evL C (a :: b :: ks)) (evL C (c :: d :: vs))) s fun ps s1 => Got (mkDK ps []) fun l => Q (.own (.dk l)) s1 := by
  show Wp (do let ps ← evPs (evL C (a :: b :: ks)) (evL C (c :: d :: vs)); ofO ((mkDK ps []).map fun l => W.own (.dk l))) s Q ↔ _
  rw [wp_bind]
  have key : ∀ (ps : List PV) (s : Sl), Wp (ofO ((mkDK ps []).map fun l => W.own (.dk l))) s Q ↔ Got (mkDK ps []) fun l => Q (.own (.dk l)) s := by
    intro ps s
    rw [wp_ofO]
    cases mkDK ps [] with
    | none => exact ⟨fun ⟨_, e, _⟩ => (nomatch e), fun ⟨_, e, _⟩ => (nomatch e)⟩
    | some k => exact ⟨fun ⟨_, e, q⟩ => by cases e; exact ⟨_, rfl, q⟩, fun ⟨_, e, q⟩ => by cases e; exact ⟨_, rfl, q⟩⟩
  exact ⟨fun h => h.mono fun x s1 h => (key _ _).mp h, fun h => h.mono fun x s1 h => (key _ _).mpr h⟩
@[simp ↓] theorem v_dctTN {a c : E} {ks vs : List E} {Q : W → Sl → Prop} : Wp (sem C (.dct true (a :: ks) (c :: vs))).v s Q ↔ Wp (evPs (evL C (a :: ks)) (evL C (c :: vs))) s fun ps s1 => Got (mkDT ps []) fun l => Q (.own (.dt l)) s1 := by
  show Wp (do let ps ← evPs (evL C (a :: ks)) (evL C (c :: vs)); ofO ((mkDT ps []).map fun l => W.own (.dt l))) s Q ↔ _
  rw [wp_bind]
  have key : ∀ (ps : List PV) (s : Sl), Wp (ofO ((mkDT ps []).map fun l => W.own (.dt l))) s Q ↔ Got (mkDT ps []) fun l => Q (.own (.dt l)) s := by
    intro ps s
    rw [wp_ofO]
    cases mkDT ps [] with
    | none => exact ⟨fun ⟨_, e, _⟩ => (nomatch e), fun ⟨_, e, _⟩ => (nomatch e)⟩
    | some k => exact ⟨fun ⟨_, e, q⟩ => by cases e; exact ⟨_, rfl, q⟩, fun ⟨_, e, q⟩ => by cases e; exact ⟨_, rfl, q⟩⟩
  exact ⟨fun h => h.mono fun x s1 h => (key _ _).mp h, fun h => h.mono fun x s1 h => (key _ _).mpr h⟩
@[simp ↓] theorem g_ktp {ts : List Tg} {xs : List PV} {Q : Unit → Sl → Prop} : Wp (stTg (.tp ts) (.sh (.ktup xs))) s Q ↔ Wp (stTgs ts xs) s Q := Iff.rfl
end
end Mini
end

section
set_option maxRecDepth 100000
set_option linter.all false
namespace Mini

/-- is_integer: 0=thing -/
def f22 : Fn := { np := 1, ns := 1, lend := [true], body := [.ret (.and_ (.isi (.var 0) [.int]) (.not_ (.isi (.var 0) [.bool])))] }

/-- is_within: 0=thing 1=least 2=most -/
def f23 : Fn := { np := 3, ns := 3, lend := [true, true, true], body := [.ret (.and_ (.call 22 [(.var 0)]) (.chn .le .le (.var 1) (.var 0) (.var 2)))] }

/-- is_pair: 0=thing -/
def f24 : Fn := { np := 1, ns := 1, lend := [true], body := [.ret (.and_ (.isi (.var 0) [.tuple]) (.cmp .eq (.blt .len [(.var 0)]) (.lit (.int 2))))] }

/-- is_triple: 0=thing -/
def f25 : Fn := { np := 1, ns := 1, lend := [true], body := [.ret (.and_ (.isi (.var 0) [.tuple]) (.cmp .eq (.blt .len [(.var 0)]) (.lit (.int 3))))] }

/-- are_rights: 0=thing 1=right -/
def f29 : Fn := { np := 1, ns := 2, lend := [true], body := [.ret (.and_ (.isi (.var 0) [.str]) (.cmp .eq (.var 0) (.meth .join (.lit (.str "")) [(.comp (.var 1) [1] (.nm 1 false) (.glb 1) [(.cmp .in_ (.var 1) (.var 0))])])))] }

/-- is_member: 0=store 1=thing -/
def f30 : Fn := { np := 2, ns := 2, lend := [true, true], body := [.ret (.call 23 [(.var 1), (.lit (.int 0)), (.bin .sub (.blt .len [(.fld (.var 0) 0)]) (.lit (.int 1)))])] }

/-- is_doer: 0=store 1=thing -/
def f31 : Fn := { np := 2, ns := 2, lend := [true, true], body := [.ret (.and_ (.call 30 [(.var 0), (.var 1)]) (.cmp .eq (.idx (.fld (.var 0) 0) (.var 1)) (.glb 2)))] }

/-- check_member: 0=store 1=thing -/
def f34 : Fn := { np := 2, ns := 2, lend := [true, true], body := [.ifs (.not_ (.call 30 [(.var 0), (.var 1)])) [.stop] []] }

/-- check_doer: 0=store 1=thing -/
def f36 : Fn := { np := 2, ns := 2, lend := [true, true], body := [.ifs (.not_ (.call 31 [(.var 0), (.var 1)])) [.stop] []] }

/-- are_kinds: 0=thing 1=most 2=sign -/
def f45 : Fn := { np := 2, ns := 3, lend := [true, true], body := [.ret (.and_ (.isi (.var 0) [.str]) (.and_ (.chn .le .le (.lit (.int 1)) (.blt .len [(.var 0)]) (.var 1)) (.blt .all [(.comp (.cmp .in_ (.var 2) (.glb 3)) [2] (.nm 2 false) (.var 0) [])])))] }

/-- is_handle: 0=many 1=thing -/
def f46 : Fn := { np := 2, ns := 2, lend := [true, true], body := [.ifs (.or_ (.not_ (.call 25 [(.var 1)])) (.or_ (.not_ (.call 23 [(.idx (.var 1) (.lit (.int 0))), (.lit (.int 0)), (.bin .sub (.var 0) (.lit (.int 1)))])) (.not_ (.call 23 [(.idx (.var 1) (.lit (.int 1))), (.lit (.int 0)), (.bin .sub (.var 0) (.lit (.int 1)))])))) [.ret (.lit (.bl false))] [],
    .ret (.and_ (.cmp .ne (.idx (.var 1) (.lit (.int 0))) (.idx (.var 1) (.lit (.int 1)))) (.and_ (.call 29 [(.idx (.var 1) (.lit (.int 2)))]) (.cmp .ne (.idx (.var 1) (.lit (.int 2))) (.lit (.str "")))))] }

/-- Store.__init__: 0=self 1=kinds 2=handles 3=number 4=item 5=a 6=b 7=rights -/
def f47 : Fn := { np := 3, ns := 8, lend := [true, true, true], body := [.ifs (.not_ (.call 45 [(.var 1), (.glb 4)])) [.stop] [],
    .ifs (.or_ (.not_ (.isi (.var 2) [.tuple])) (.cmp .gt (.blt .len [(.var 2)]) (.glb 5))) [.stop] [],
    .fors (.tp [(.nm 3 false), (.nm 4 false)]) (.enm (.var 2)) [.ifs (.or_ (.not_ (.call 46 [(.blt .len [(.var 1)]), (.var 4)])) (.and_ (.cmp .gt (.var 3) (.lit (.int 0))) (.cmp .le (.slc (.var 4) (.lit .non) (.lit (.int 2))) (.slc (.idx (.var 2) (.bin .sub (.var 3) (.lit (.int 1)))) (.lit .non) (.lit (.int 2)))))) [.stop] []],
    .exp (.omth 1 (.var 0) [(.var 1), (.dcomp true (.tup [(.var 5), (.var 6)]) (.var 7) [5, 6, 7] (.tp [(.nm 5 false), (.nm 6 false), (.nm 7 false)]) (.var 2) [])])] }

/-- Store.fill: 0=self 1=kinds 2=held 3=pair 4=rights -/
def f48 : Fn := { np := 3, ns := 5, lend := [true, true, true], body := [.setf 0 0 (.var 1),
    .setf 0 1 (.dcomp true (.var 3) (.idx (.var 2) (.var 3)) [3] (.nm 3 false) (.blt .sorted [(.var 2)]) [(.cmp .ne (.idx (.var 2) (.var 3)) (.lit (.str "")))]),
    .setf 0 2 (.blt .tuple [(.comp (.bin .add (.var 3) (.tup [(.var 4)])) [3, 4] (.tp [(.nm 3 false), (.nm 4 false)]) (.prs (.fld (.var 0) 1)) [])])] }

/-- Store.__eq__: 0=self 1=other -/
def f49 : Fn := { np := 2, ns := 2, lend := [true, true], body := [.ret (.and_ (.isi (.var 1) [.cls 23]) (.and_ (.cmp .eq (.fld (.var 0) 0) (.fld (.var 1) 0)) (.cmp .eq (.fld (.var 0) 2) (.fld (.var 1) 2))))] }

/-- rights_in: 0=store 1=a 2=b -/
def f51 : Fn := { np := 3, ns := 3, lend := [true, true, true], body := [.ret (.meth .getD (.fld (.var 0) 1) [(.tup [(.var 1), (.var 2)]), (.lit (.str ""))])] }

/-- has_link: 0=store 1=a 2=b 3=word -/
def f86 : Fn := { np := 4, ns := 4, lend := [true, true, true, true], body := [.ifs (.cmp .eq (.idx (.var 3) (.lit (.int 1))) (.lit (.str ">"))) [.ret (.cmp .in_ (.idx (.var 3) (.lit (.int 0))) (.call 51 [(.var 0), (.var 1), (.var 2)]))] [],
    .ret (.cmp .in_ (.idx (.var 3) (.lit (.int 0))) (.call 51 [(.var 0), (.var 2), (.var 1)]))] }

/-- is_word: 0=thing -/
def f87 : Fn := { np := 1, ns := 1, lend := [true], body := [.ret (.and_ (.isi (.var 0) [.str]) (.and_ (.cmp .eq (.blt .len [(.var 0)]) (.lit (.int 2))) (.and_ (.cmp .in_ (.idx (.var 0) (.lit (.int 0))) (.lit (.str "gtrw"))) (.cmp .in_ (.idx (.var 0) (.lit (.int 1))) (.lit (.str "<>"))))))] }

/-- is_path: 0=store 1=thing 2=members 3=words 4=member 5=word 6=a 7=b -/
def f88 : Fn := { np := 2, ns := 8, lend := [true, true], body := [.ifs (.or_ (.not_ (.call 24 [(.var 1)])) (.or_ (.not_ (.isi (.idx (.var 1) (.lit (.int 0))) [.tuple])) (.not_ (.isi (.idx (.var 1) (.lit (.int 1))) [.tuple])))) [.ret (.lit (.bl false))] [],
    .asg (.tp [(.nm 2 false), (.nm 3 false)]) (.var 1),
    .ifs (.or_ (.cmp .ne (.blt .len [(.var 2)]) (.bin .add (.blt .len [(.var 3)]) (.lit (.int 1)))) (.not_ (.blt .all [(.comp (.call 30 [(.var 0), (.var 4)]) [4] (.nm 4 false) (.var 2) [])]))) [.ret (.lit (.bl false))] [],
    .ifs (.not_ (.blt .all [(.comp (.call 87 [(.var 5)]) [5] (.nm 5 false) (.var 3) [])])) [.ret (.lit (.bl false))] [],
    .ret (.blt .all [(.comp (.call 86 [(.var 0), (.var 6), (.var 7), (.var 5)]) [6, 7, 5] (.tp [(.nm 6 false), (.nm 7 false), (.nm 5 false)]) (.zp3 (.var 2) (.slc (.var 2) (.lit (.int 1)) (.lit .non)) (.var 3)) [])])] }

/-- state_behind: 0=moves 1=words 2=state 3=word 4=later 5=told 6=goal -/
def f89 : Fn := { np := 2, ns := 7, lend := [true, true], body := [.asg (.nm 2 false) (.lit (.int 0)),
    .fors (.nm 3 false) (.var 1) [.asg (.nm 4 false) (.comp (.var 6) [5, 6] (.tp [(.nm 5 false), (.nm 6 false)]) (.idx (.var 0) (.var 2)) [(.cmp .eq (.var 5) (.var 3))]),
    .ifs (.cmp .eq (.blt .len [(.var 4)]) (.lit (.int 0))) [.ret (.lit .non)] [],
    .asg (.nm 2 false) (.idx (.var 4) (.lit (.int 0)))],
    .ret (.var 2)] }

/-- check_way: 0=thing -/
def f93 : Fn := { np := 1, ns := 1, lend := [true], body := [.ifs (.or_ (.not_ (.isi (.var 0) [.str])) (.cmp .notin (.var 0) (.glb 12))) [.stop] []] }

/-- check_span: 0=store 1=way 2=doer 3=member -/
def f97 : Fn := { np := 4, ns := 4, lend := [true, true, true, true], body := [.exp (.call 93 [(.var 1)]),
    .exp (.call 36 [(.var 0), (.var 2)]),
    .exp (.call 34 [(.var 0), (.var 3)])] }

/-- leads: 0=store 1=thing 2=one 3=other -/
def f99 : Fn := { np := 4, ns := 4, lend := [true, true, true, true], body := [.ret (.and_ (.call 88 [(.var 0), (.var 1)]) (.and_ (.cmp .eq (.idx (.idx (.var 1) (.lit (.int 0))) (.lit (.int 0))) (.var 2)) (.cmp .eq (.idx (.idx (.var 1) (.lit (.int 0))) (.neg (.lit (.int 1)))) (.var 3))))] }

/-- is_span: 0=store 1=way 2=doer 3=member 4=thing 5=moves 6=ends -/
def f100 : Fn := { np := 5, ns := 7, lend := [true, true, true, true, true], body := [.exp (.call 97 [(.var 0), (.var 1), (.var 2), (.var 3)]),
    .ifs (.not_ (.call 99 [(.var 0), (.var 4), (.var 2), (.var 3)])) [.ret (.lit (.bl false))] [],
    .asg (.tp [(.nm 5 false), (.nm 6 false)]) (.idx (.glb 12) (.var 1)),
    .ret (.or_ (.cmp .eq (.blt .len [(.idx (.var 4) (.lit (.int 1)))]) (.lit (.int 0))) (.cmp .in_ (.call 89 [(.var 5), (.idx (.var 4) (.lit (.int 1)))]) (.var 6)))] }

/-- _law_hand: 0=script 1=cells 2=cell -/
def f1000 : Fn := { np := 1, ns := 3, lend := [true], body := [.asg (.nm 1 false) (.comp (.blt .abs [(.blt .int [(.var 2)])]) [2] (.nm 2 false) (.slc (.var 0) (.lit .non) (.lit (.int 63))) []),
    .ret (.lst [(.var 1), (.lit (.int 0)), (.lit (.int 0)), (.bin .add (.lit (.int 71)) (.bin .mul (.lit (.int 5)) (.blt .len [(.var 1)]))), (.lit (.int 0))])] }

/-- _law_draw: 0=hand 1=many 2=cell 3=digit 4=number -/
def f1001 : Fn := { np := 2, ns := 5, lend := [true, true], body := [.ifs (.and_ (.cmp .eq (.idx (.var 0) (.lit (.int 2))) (.lit (.int 0))) (.cmp .lt (.idx (.var 0) (.lit (.int 1))) (.blt .len [(.idx (.var 0) (.lit (.int 0)))]))) [.asg (.nm 2 false) (.idx (.idx (.var 0) (.lit (.int 0))) (.idx (.var 0) (.lit (.int 1)))),
    .seti 0 none (.lit (.int 1)) (.bin .add (.idx (.var 0) (.lit (.int 1))) (.lit (.int 1))),
    .seti 0 none (.lit (.int 3)) (.bin .mod (.blt .int [(.bin .add (.bin .add (.bin .mul (.idx (.var 0) (.lit (.int 3))) (.lit (.int 69621))) (.bin .mul (.var 2) (.lit (.int 40692)))) (.lit (.int 41)))]) (.lit (.int 2147483629))),
    .ifs (.cmp .ge (.var 2) (.bin .pow (.lit (.int 10)) (.lit (.int 18)))) [.seti 0 none (.lit (.int 2)) (.var 2)] []] [],
    .ifs (.cmp .gt (.idx (.var 0) (.lit (.int 2))) (.lit (.int 0))) [.asg (.nm 3 false) (.bin .mod (.blt .int [(.idx (.var 0) (.lit (.int 2)))]) (.var 1)),
    .seti 0 none (.lit (.int 2)) (.bin .fdiv (.idx (.var 0) (.lit (.int 2))) (.var 1)),
    .ret (.var 3)] [],
    .seti 0 none (.lit (.int 4)) (.bin .add (.idx (.var 0) (.lit (.int 4))) (.lit (.int 1))),
    .asg (.nm 4 false) (.bin .mod (.blt .int [(.bin .mul (.blt .int [(.bin .add (.idx (.var 0) (.lit (.int 3))) (.bin .mul (.lit (.int 7919)) (.idx (.var 0) (.lit (.int 4)))))]) (.lit (.int 48271)))]) (.lit (.int 2147483647))),
    .asg (.nm 4 false) (.bin .mod (.blt .int [(.bin .mul (.var 4) (.bin .add (.bin .fdiv (.var 4) (.lit (.int 1009))) (.lit (.int 69621))))]) (.lit (.int 2147483647))),
    .asg (.nm 4 false) (.bin .mod (.blt .int [(.bin .mul (.var 4) (.bin .add (.bin .fdiv (.var 4) (.lit (.int 2003))) (.lit (.int 40014))))]) (.lit (.int 2147483563))),
    .ret (.bin .mod (.blt .int [(.bin .fdiv (.var 4) (.lit (.int 16)))]) (.var 1))] }

/-- _law_any: 0=hand 1=some -/
def f1002 : Fn := { np := 2, ns := 2, lend := [true, true], body := [.ret (.idx (.var 1) (.call 1001 [(.var 0), (.blt .len [(.var 1)])]))] }

/-- _law_same: 0=one 1=due 2=two 3=other -/
def f1003 : Fn := { np := 2, ns := 4, lend := [true, true], body := [.ifs (.isi (.var 1) [.tuple, .list]) [.ifs (.or_ (.cmp .ne (.isi (.var 0) [.tuple]) (.isi (.var 1) [.tuple])) (.not_ (.isi (.var 0) [.tuple, .list]))) [.ret (.lit (.bl false))] [],
    .ret (.and_ (.cmp .eq (.blt .len [(.var 0)]) (.blt .len [(.var 1)])) (.blt .all [(.comp (.call 1003 [(.var 2), (.var 3)]) [2, 3] (.tp [(.nm 2 false), (.nm 3 false)]) (.zp2 (.var 0) (.var 1)) [])]))] [],
    .ifs (.or_ (.isi (.var 1) [.bool]) (.or_ (.isi (.var 0) [.bool]) (.or_ (.cmp .is_ (.var 1) (.lit .non)) (.cmp .is_ (.var 0) (.lit .non))))) [.ret (.and_ (.cmp .eq (.isi (.var 0) [.bool]) (.isi (.var 1) [.bool])) (.and_ (.cmp .eq (.cmp .is_ (.var 0) (.lit .non)) (.cmp .is_ (.var 1) (.lit .non))) (.cmp .eq (.var 0) (.var 1))))] [],
    .ret (.and_ (.cmp .eq (.isi (.var 0) [.str]) (.isi (.var 1) [.str])) (.and_ (.isi (.var 0) [.int, .str]) (.cmp .eq (.var 0) (.var 1))))] }

/-- _law_odd: 0=hand 1=deep 2=turn 3=some -/
def f1004 : Fn := { np := 1, ns := 4, lend := [true], body := [.asg (.nm 1 false) (.lit .non),
    .fors (.nm 2 false) (.blt .rng [(.bin .add (.lit (.int 1)) (.call 1001 [(.var 0), (.lit (.int 30))]))]) [.asg (.nm 1 false) (.idx (.lst [(.tup [(.var 1)]), (.lst [(.var 1)]), (.dct false [(.lit (.int 0))] [(.var 1)])]) (.call 1001 [(.var 0), (.lit (.int 3))]))],
    .asg (.nm 3 false) (.lst [(.lit .non), (.lit (.int 0)), (.neg (.lit (.int 1))), (.lit (.bl true)), (.lit (.bl false)), (.lit (.str "")), (.lit (.str "t>")), (.lst []), (.tup []), (.dct false [] []), (.tup [(.tup [])]), (.tup [(.tup []), (.tup [])]), (.tup [(.lit (.str "t>"))]), (.bin .pow (.lit (.int 10)) (.lit (.int 11)))]),
    .ret (.call 1002 [(.var 0), (.bin .add (.var 3) (.lst [(.var 1)]))])] }

/-- _law_drawn: 0=hand 1=most 2=many 3=kinds 4=member 5=table 6=turn 7=a 8=b -/
def f1005 : Fn := { np := 2, ns := 9, lend := [true, true], body := [.asg (.nm 2 false) (.bin .add (.lit (.int 1)) (.call 1001 [(.var 0), (.var 1)])),
    .asg (.nm 3 false) (.meth .join (.lit (.str "")) [(.comp (.call 1002 [(.var 0), (.lst [(.lit (.str "D")), (.lit (.str "D")), (.lit (.str "T"))])]) [4] (.nm 4 false) (.blt .rng [(.var 2)]) [])]),
    .asg (.nm 5 true) (.dct true [] []),
    .fors (.nm 6 false) (.blt .rng [(.ite (.cmp .gt (.var 2) (.lit (.int 1))) (.call 1001 [(.var 0), (.bin .add (.bin .mul (.lit (.int 2)) (.var 2)) (.lit (.int 1)))]) (.lit (.int 0)))]) [.asg (.nm 7 false) (.ite (.and_ (.cmp .lt (.var 6) (.var 2)) (.cmp .eq (.call 1001 [(.var 0), (.lit (.int 2))]) (.lit (.int 0)))) (.var 6) (.call 1001 [(.var 0), (.var 2)])),
    .asg (.nm 8 false) (.bin .mod (.blt .int [(.bin .add (.bin .add (.var 7) (.lit (.int 1))) (.ite (.cmp .eq (.call 1001 [(.var 0), (.lit (.int 2))]) (.lit (.int 0))) (.lit (.int 0)) (.call 1001 [(.var 0), (.bin .sub (.var 2) (.lit (.int 1)))])))]) (.var 2)),
    .ifs (.cmp .eq (.call 1001 [(.var 0), (.lit (.int 3))]) (.lit (.int 0))) [.par [(7, false), (8, false)] [(.var 8), (.var 7)]] [],
    .seti 5 none (.tup [(.var 7), (.var 8)]) (.call 1002 [(.var 0), (.lst [(.lit (.str "t")), (.lit (.str "t")), (.lit (.str "t")), (.lit (.str "g")), (.lit (.str "g")), (.lit (.str "r")), (.lit (.str "w")), (.lit (.str "gt")), (.lit (.str "gt")), (.lit (.str "rw")), (.lit (.str "x")), (.lit (.str "tx")), (.lit (.str "grtwx"))])])],
    .ret (.tup [(.var 3), (.var 5)])] }

/-- _law_store: 0=parts 1=kinds 2=table 3=a 4=b -/
def f1006 : Fn := { np := 1, ns := 5, lend := [true], body := [.asg (.tp [(.nm 1 false), (.nm 2 false)]) (.var 0),
    .ret (.new 23 [(.var 1), (.blt .tuple [(.comp (.tup [(.var 3), (.var 4), (.idx (.var 2) (.tup [(.var 3), (.var 4)]))]) [3, 4] (.tp [(.nm 3 false), (.nm 4 false)]) (.blt .sorted [(.blt .list [(.var 2)])]) [])])])] }

/-- _law_doers: 0=parts 1=member 2=kind -/
def f1013 : Fn := { np := 1, ns := 3, lend := [true], body := [.ret (.comp (.var 1) [1, 2] (.tp [(.nm 1 false), (.nm 2 false)]) (.enm (.idx (.var 0) (.lit (.int 0)))) [(.cmp .eq (.var 2) (.lit (.str "D")))])] }

/-- _law_with_ring: 0=hand 1=parts 2=table 3=many 4=start 5=size 6=k 7=a 8=b -/
def f1014 : Fn := { np := 2, ns := 9, lend := [true, true], body := [.par [(2, true), (3, false)] [(.blt .dictT [(.idx (.var 1) (.lit (.int 1)))]), (.blt .len [(.idx (.var 1) (.lit (.int 0)))])],
    .par [(4, false), (5, false)] [(.call 1001 [(.var 0), (.var 3)]), (.bin .add (.lit (.int 2)) (.call 1001 [(.var 0), (.lit (.int 3))]))],
    .fors (.nm 6 false) (.blt .rng [(.ite (.cmp .gt (.var 3) (.var 5)) (.var 5) (.lit (.int 0)))]) [.par [(7, false), (8, false)] [(.bin .mod (.blt .int [(.bin .add (.var 4) (.var 6))]) (.var 3)), (.bin .mod (.blt .int [(.bin .add (.var 4) (.bin .mod (.blt .int [(.bin .add (.var 6) (.lit (.int 1)))]) (.var 5)))]) (.var 3))],
    .seti 2 none (.tup [(.var 7), (.var 8)]) (.call 1002 [(.var 0), (.lst [(.lit (.str "t")), (.lit (.str "gt")), (.lit (.str "rt")), (.lit (.str "tw")), (.lit (.str "grtw"))])])],
    .ret (.tup [(.idx (.var 1) (.lit (.int 0))), (.var 2)])] }

/-- _law_is_link: 0=parts 1=a 2=b 3=word -/
def f1007 : Fn := { np := 4, ns := 4, lend := [true, false, false, true], body := [.ifs (.cmp .eq (.idx (.var 3) (.lit (.int 1))) (.lit (.str "<"))) [.par [(1, false), (2, false)] [(.var 2), (.var 1)]] [],
    .ret (.cmp .in_ (.idx (.var 3) (.lit (.int 0))) (.meth .getD (.idx (.var 0) (.lit (.int 1))) [(.tup [(.var 1), (.var 2)]), (.lit (.str ""))]))] }

/-- _law_is_member: 0=parts 1=thing -/
def f1008 : Fn := { np := 2, ns := 2, lend := [true, true], body := [.ret (.and_ (.isi (.var 1) [.int]) (.and_ (.not_ (.isi (.var 1) [.bool])) (.chn .le .lt (.lit (.int 0)) (.var 1) (.blt .len [(.idx (.var 0) (.lit (.int 0)))]))))] }

/-- _law_is_path: 0=parts 1=thing 2=words 3=one 4=word 5=at -/
def f1009 : Fn := { np := 2, ns := 6, lend := [true, true], body := [.asg (.nm 2 false) (.lst [(.lit (.str "g>")), (.lit (.str "g<")), (.lit (.str "r>")), (.lit (.str "r<")), (.lit (.str "t>")), (.lit (.str "t<")), (.lit (.str "w>")), (.lit (.str "w<"))]),
    .ifs (.or_ (.not_ (.isi (.var 1) [.tuple])) (.or_ (.cmp .ne (.blt .len [(.var 1)]) (.lit (.int 2))) (.not_ (.blt .all [(.comp (.isi (.var 3) [.tuple]) [3] (.nm 3 false) (.var 1) [])])))) [.ret (.lit (.bl false))] [],
    .ifs (.or_ (.cmp .eq (.blt .len [(.idx (.var 1) (.lit (.int 0)))]) (.lit (.int 0))) (.cmp .ne (.blt .len [(.idx (.var 1) (.lit (.int 1)))]) (.bin .sub (.blt .len [(.idx (.var 1) (.lit (.int 0)))]) (.lit (.int 1))))) [.ret (.lit (.bl false))] [],
    .ifs (.not_ (.blt .all [(.comp (.call 1008 [(.var 0), (.var 3)]) [3] (.nm 3 false) (.idx (.var 1) (.lit (.int 0))) [])])) [.ret (.lit (.bl false))] [],
    .ifs (.not_ (.blt .all [(.comp (.and_ (.isi (.var 4) [.str]) (.cmp .in_ (.var 4) (.var 2))) [4] (.nm 4 false) (.idx (.var 1) (.lit (.int 1))) [])])) [.ret (.lit (.bl false))] [],
    .ret (.blt .all [(.comp (.call 1007 [(.var 0), (.idx (.idx (.var 1) (.lit (.int 0))) (.var 5)), (.idx (.idx (.var 1) (.lit (.int 0))) (.bin .add (.var 5) (.lit (.int 1)))), (.var 4)]) [5, 4] (.tp [(.nm 5 false), (.nm 4 false)]) (.enm (.idx (.var 1) (.lit (.int 1)))) [])])] }

/-- _law_is_span: 0=parts 1=way 2=doer 3=member 4=thing 5=words 6=word -/
def f1015 : Fn := { np := 5, ns := 7, lend := [true, true, true, true, true], body := [.ifs (.or_ (.not_ (.call 1009 [(.var 0), (.var 4)])) (.or_ (.cmp .ne (.idx (.idx (.var 4) (.lit (.int 0))) (.lit (.int 0))) (.var 2)) (.cmp .ne (.idx (.idx (.var 4) (.lit (.int 0))) (.neg (.lit (.int 1)))) (.var 3)))) [.ret (.lit (.bl false))] [],
    .asg (.nm 5 false) (.ite (.cmp .eq (.var 1) (.lit (.str "fetch"))) (.idx (.var 4) (.lit (.int 1))) (.slc (.idx (.var 4) (.lit (.int 1))) (.lit .non) (.neg (.lit (.int 1))))),
    .ifs (.blt .any [(.comp (.cmp .ne (.var 6) (.lit (.str "t>"))) [6] (.nm 6 false) (.var 5) [])]) [.ret (.lit (.bl false))] [],
    .ret (.or_ (.cmp .eq (.var 1) (.lit (.str "fetch"))) (.or_ (.cmp .eq (.blt .len [(.idx (.var 4) (.lit (.int 1)))]) (.lit (.int 0))) (.cmp .eq (.idx (.idx (.var 4) (.lit (.int 1))) (.neg (.lit (.int 1)))) (.idx (.dct false [(.lit (.str "bring")), (.lit (.str "write")), (.lit (.str "read"))] [(.lit (.str "g>")), (.lit (.str "w>")), (.lit (.str "r>"))]) (.var 1)))))] }

/-- _law_walk: 0=hand 1=parts 2=start 3=words 4=most 5=members 6=said 7=turn 8=some 9=word 10=to -/
def f1010 : Fn := { np := 5, ns := 11, lend := [true, true, true, true, true], body := [.par [(5, true), (6, true)] [(.lst [(.var 2)]), (.lst [])],
    .fors (.nm 7 false) (.blt .rng [(.var 4)]) [.asg (.nm 8 true) (.lst []),
    .fors (.nm 9 false) (.var 3) [.exp (.mut .extend 8 none [(.comp (.tup [(.var 10), (.var 9)]) [10] (.nm 10 false) (.blt .rng [(.blt .len [(.idx (.var 1) (.lit (.int 0)))])]) [(.call 1007 [(.var 1), (.idx (.var 5) (.neg (.lit (.int 1)))), (.var 10), (.var 9)])])])],
    .ifs (.cmp .eq (.blt .len [(.var 8)]) (.lit (.int 0))) [.brk] [],
    .asg (.tp [(.nm 10 false), (.nm 9 false)]) (.call 1002 [(.var 0), (.var 8)]),
    .exp (.mut .append 5 none [(.var 10)]),
    .exp (.mut .append 6 none [(.var 9)])],
    .ret (.tup [(.blt .tuple [(.var 5)]), (.blt .tuple [(.var 6)])])] }

/-- _law_bent: 0=hand 1=thing 2=many 3=members 4=said 5=at 6=kind 7=odd 8=to 9=some -/
def f1011 : Fn := { np := 3, ns := 10, lend := [true, true, true], body := [.asg (.tp [(.nm 3 false), (.nm 4 false)]) (.var 1),
    .asg (.nm 5 false) (.call 1001 [(.var 0), (.blt .len [(.var 3)])]),
    .asg (.nm 6 false) (.call 1001 [(.var 0), (.lit (.int 8))]),
    .ifs (.cmp .lt (.var 6) (.lit (.int 3))) [.asg (.nm 7 false) (.bin .add (.lst [(.var 2), (.neg (.lit (.int 1))), (.lit .non), (.blt .str [(.idx (.var 3) (.var 5))]), (.tup [(.idx (.var 3) (.var 5))]), (.bin .add (.var 2) (.lit (.int 5)))]) (.bin .mul (.lst [(.call 1001 [(.var 0), (.var 2)])]) (.lit (.int 5)))),
    .ifs (.cmp .in_ (.idx (.var 3) (.var 5)) (.tup [(.lit (.int 0)), (.lit (.int 1))])) [.asg (.nm 7 false) (.bin .add (.var 7) (.bin .mul (.lst [(.cmp .eq (.idx (.var 3) (.var 5)) (.lit (.int 1)))]) (.lit (.int 3))))] [],
    .ret (.tup [(.bin .add (.bin .add (.slc (.var 3) (.lit .non) (.var 5)) (.tup [(.call 1002 [(.var 0), (.var 7)])])) (.slc (.var 3) (.bin .add (.var 5) (.lit (.int 1))) (.lit .non))), (.var 4)])] [],
    .ifs (.and_ (.cmp .lt (.var 6) (.lit (.int 5))) (.cmp .gt (.blt .len [(.var 4)]) (.lit (.int 0)))) [.asg (.nm 8 false) (.call 1001 [(.var 0), (.blt .len [(.var 4)])]),
    .asg (.nm 7 false) (.lst [(.lit (.str "t>")), (.lit (.str "t<")), (.lit (.str "g>")), (.lit (.str "g<")), (.lit (.str "r>")), (.lit (.str "w<")), (.lit (.str "x>")), (.lit (.str "t")), (.lit (.str ">t")), (.lit (.str "")), (.lit .non), (.tup [(.lit (.str "t")), (.lit (.str ">"))]), (.lit (.int 5)), (.lit (.str "T>"))]),
    .ret (.tup [(.var 3), (.bin .add (.bin .add (.slc (.var 4) (.lit .non) (.var 8)) (.tup [(.call 1002 [(.var 0), (.var 7)])])) (.slc (.var 4) (.bin .add (.var 8) (.lit (.int 1))) (.lit .non)))])] [],
    .asg (.nm 9 false) (.lst [(.tup [(.blt .list [(.var 3)]), (.var 4)]), (.tup [(.var 3), (.blt .list [(.var 4)])]), (.lst [(.var 3), (.var 4)]), (.tup [(.var 4), (.var 3)]), (.tup [(.var 3)]), (.var 3)]),
    .asg (.nm 9 false) (.bin .add (.var 9) (.lst [(.tup [(.slc (.var 3) (.lit .non) (.neg (.lit (.int 1)))), (.var 4)]), (.tup [(.var 3), (.slc (.var 4) (.lit .non) (.neg (.lit (.int 1))))]), (.tup [(.rev (.var 3)), (.rev (.var 4))])])),
    .asg (.nm 9 false) (.bin .add (.var 9) (.lst [(.tup [(.bin .add (.var 3) (.slc (.var 3) (.lit .non) (.lit (.int 1)))), (.var 4)]), (.tup [(.var 3), (.var 4), (.tup [])]), (.tup [(.bin .add (.slc (.var 3) (.lit .non) (.lit (.int 1))) (.var 3)), (.bin .add (.tup [(.lit (.str "t>"))]) (.var 4))])])),
    .ret (.call 1002 [(.var 0), (.bin .add (.var 9) (.lst [(.tup [(.tup []), (.tup [])]), (.call 1004 [(.var 0)])]))])] }

/-- _law_led_on: 0=hand 1=parts 2=path 3=more -/
def f1016 : Fn := { np := 3, ns := 4, lend := [true, true, true], body := [.asg (.nm 3 false) (.call 1010 [(.var 0), (.var 1), (.idx (.idx (.var 2) (.lit (.int 0))) (.neg (.lit (.int 1)))), (.tup [(.lit (.str "g>")), (.lit (.str "r>")), (.lit (.str "w>")), (.lit (.str "t>")), (.lit (.str "g<")), (.lit (.str "t<"))]), (.lit (.int 1))]),
    .ret (.tup [(.bin .add (.idx (.var 2) (.lit (.int 0))) (.slc (.idx (.var 3) (.lit (.int 0))) (.lit (.int 1)) (.lit .non))), (.bin .add (.idx (.var 2) (.lit (.int 1))) (.idx (.var 3) (.lit (.int 1))))])] }

/-- law: 0=script 1=hand 2=ring 3=there 4=turn 5=parts 6=store 7=folk 8=many 9=again 10=doer 11=path 12=thing 13=once 14=way 15=member 16=asker 17=before 18=due -/
def f1017 : Fn := { np := 1, ns := 19, lend := [true], body := [.asg (.nm 1 true) (.call 1000 [(.var 0)]),
    .asg (.nm 2 false) (.new 23 [(.lit (.str "DT")), (.tup [(.tup [(.lit (.int 0)), (.lit (.int 1)), (.lit (.str "tw"))]), (.tup [(.lit (.int 1)), (.lit (.int 0)), (.lit (.str "gt"))])])]),
    .asg (.nm 3 false) (.bin .mul (.tup [(.lit (.int 0)), (.lit (.int 1))]) (.lit (.int 30))),
    .ifs (.cmp .isnt (.call 100 [(.var 2), (.lit (.str "bring")), (.lit (.int 0)), (.lit (.int 0)), (.tup [(.bin .add (.var 3) (.tup [(.lit (.int 0))])), (.bin .add (.bin .mul (.tup [(.lit (.str "t>"))]) (.lit (.int 59))) (.tup [(.lit (.str "g>"))]))])]) (.lit (.bl true))) [.ret (.lit (.bl false))] [],
    .ifs (.cmp .isnt (.call 100 [(.var 2), (.lit (.str "write")), (.lit (.int 0)), (.lit (.int 1)), (.tup [(.var 3), (.bin .mul (.tup [(.lit (.str "t>"))]) (.lit (.int 59)))])]) (.lit (.bl false))) [.ret (.lit (.bl false))] [],
    .fors (.nm 4 false) (.blt .rng [(.lit (.int 5))]) [.asg (.nm 5 false) (.call 1005 [(.var 1), (.lit (.int 8))]),
    .ifs (.cmp .eq (.call 1001 [(.var 1), (.lit (.int 2))]) (.lit (.int 0))) [.asg (.nm 5 false) (.call 1014 [(.var 1), (.var 5)])] [],
    .par [(6, false), (7, false), (8, false)] [(.call 1006 [(.var 5)]), (.call 1013 [(.var 5)]), (.blt .len [(.idx (.var 5) (.lit (.int 0)))])],
    .fors (.nm 9 false) (.blt .rng [(.ite (.cmp .gt (.blt .len [(.var 7)]) (.lit (.int 0))) (.lit (.int 4)) (.lit (.int 0)))]) [.asg (.nm 10 false) (.call 1002 [(.var 1), (.var 7)]),
    .asg (.nm 11 false) (.call 1010 [(.var 1), (.var 5), (.var 10), (.tup [(.lit (.str "t>"))]), (.call 1002 [(.var 1), (.lst [(.lit (.int 0)), (.lit (.int 1)), (.lit (.int 2)), (.lit (.int 4)), (.lit (.int 80))])])]),
    .ifs (.cmp .gt (.call 1001 [(.var 1), (.lit (.int 3))]) (.lit (.int 0))) [.asg (.nm 11 false) (.call 1016 [(.var 1), (.var 5), (.var 11)])] [],
    .fors (.nm 12 false) (.bin .add (.lst [(.var 11)]) (.comp (.call 1011 [(.var 1), (.var 11), (.var 8)]) [13] (.nm 13 false) (.blt .rng [(.lit (.int 4))]) [])) [.asg (.nm 14 false) (.call 1002 [(.var 1), (.lst [(.lit (.str "fetch")), (.lit (.str "bring")), (.lit (.str "write")), (.lit (.str "read"))])]),
    .asg (.nm 15 false) (.ite (.cmp .gt (.call 1001 [(.var 1), (.lit (.int 4))]) (.lit (.int 0))) (.idx (.idx (.var 11) (.lit (.int 0))) (.neg (.lit (.int 1)))) (.call 1001 [(.var 1), (.var 8)])),
    .asg (.nm 16 false) (.ite (.cmp .gt (.call 1001 [(.var 1), (.lit (.int 5))]) (.lit (.int 0))) (.var 10) (.call 1002 [(.var 1), (.var 7)])),
    .par [(17, false), (18, false)] [(.blt .repr [(.var 12)]), (.call 1015 [(.var 5), (.var 14), (.var 16), (.var 15), (.var 12)])],
    .ifs (.or_ (.not_ (.call 1003 [(.call 100 [(.var 6), (.var 14), (.var 16), (.var 15), (.var 12)]), (.var 18)])) (.cmp .ne (.blt .repr [(.var 12)]) (.var 17))) [.ret (.lit (.bl false))] []]]],
    .ret (.lit (.bl true))] }

/-- RIGHTS -/
def g1 : PV := (.str "grtwx")

/-- DOER -/
def g2 : PV := (.str "D")

/-- KINDS -/
def g3 : PV := (.str "DT")

/-- MOST_MEMBERS -/
def g4 : PV := (.int 16)

/-- MOST_HANDLES -/
def g5 : PV := (.int 60)

/-- FETCH -/
def g6 : PV := (.ktup [(.ktup [(.ktup [(.str "t>"), (.int 0)])])])

/-- BRING -/
def g7 : PV := (.ktup [(.ktup [(.ktup [(.str "t>"), (.int 0)]), (.ktup [(.str "g>"), (.int 1)])]), (.ktup [])])

/-- WRITE -/
def g8 : PV := (.ktup [(.ktup [(.ktup [(.str "t>"), (.int 0)]), (.ktup [(.str "w>"), (.int 1)])]), (.ktup [])])

/-- READ -/
def g9 : PV := (.ktup [(.ktup [(.ktup [(.str "t>"), (.int 0)]), (.ktup [(.str "r>"), (.int 1)])]), (.ktup [])])

/-- WAYS -/
def g12 : PV := (.kdk [((Sum.inr "fetch"), (.ktup [(.ktup [(.ktup [(.ktup [(.str "t>"), (.int 0)])])]), (.ktup [(.int 0)])])), ((Sum.inr "bring"), (.ktup [(.ktup [(.ktup [(.ktup [(.str "t>"), (.int 0)]), (.ktup [(.str "g>"), (.int 1)])]), (.ktup [])]), (.ktup [(.int 1)])])), ((Sum.inr "write"), (.ktup [(.ktup [(.ktup [(.ktup [(.str "t>"), (.int 0)]), (.ktup [(.str "w>"), (.int 1)])]), (.ktup [])]), (.ktup [(.int 1)])])), ((Sum.inr "read"), (.ktup [(.ktup [(.ktup [(.ktup [(.str "t>"), (.int 0)]), (.ktup [(.str "r>"), (.int 1)])]), (.ktup [])]), (.ktup [(.int 1)])]))])

def fnT : Nat → Option Fn
  | 22 => some f22
  | 23 => some f23
  | 24 => some f24
  | 25 => some f25
  | 29 => some f29
  | 30 => some f30
  | 31 => some f31
  | 34 => some f34
  | 36 => some f36
  | 45 => some f45
  | 46 => some f46
  | 47 => some f47
  | 48 => some f48
  | 49 => some f49
  | 51 => some f51
  | 86 => some f86
  | 87 => some f87
  | 88 => some f88
  | 89 => some f89
  | 93 => some f93
  | 97 => some f97
  | 99 => some f99
  | 100 => some f100
  | 1000 => some f1000
  | 1001 => some f1001
  | 1002 => some f1002
  | 1003 => some f1003
  | 1004 => some f1004
  | 1005 => some f1005
  | 1006 => some f1006
  | 1013 => some f1013
  | 1014 => some f1014
  | 1007 => some f1007
  | 1008 => some f1008
  | 1009 => some f1009
  | 1015 => some f1015
  | 1010 => some f1010
  | 1011 => some f1011
  | 1016 => some f1016
  | 1017 => some f1017
  | _ => none

def glbT : Nat → Option PV
  | 1 => some g1
  | 2 => some g2
  | 3 => some g3
  | 4 => some g4
  | 5 => some g5
  | 6 => some g6
  | 7 => some g7
  | 8 => some g8
  | 9 => some g9
  | 12 => some g12
  | _ => none

def methT : Nat → Nat → Option Nat
  | 23, 1 => some 48
  | 23, 2 => some 49
  | _, _ => none

def initT : Nat → Option Nat
  | 23 => some 47
  | _ => none

def lawId : Nat := 1017

end Mini
end

section
set_option linter.all false
set_option maxRecDepth 100000
set_option maxHeartbeats 0
namespace Mini
open PySem (Str)
class PK (P : Prog) : Prop where
  fn : P.fn = fnT
  glb : P.glb = glbT
  meth : P.meth 23 1 = some 48
  init : P.init 23 = some 47
  fok0 : P.fok 23 0 = true
  fok1 : P.fok 23 1 = true
  fok2 : P.fok 23 2 = true
  cok : P.cok 23 = true
variable {P : Prog} [PK P] {n : Nat}
theorem call_at {f : Nat} {m : Fn} (h : fnT f = some m) (args : List W) : callF P (n + 1) f args = runFn (pctx P n) m args := callF_at (by rw [PK.fn]; exact h) args
@[simp] theorem pctx_call : (pctx P n).call = callF P n := rfl
@[simp] theorem pctx_cok : (pctx P n).cok = P.cok := rfl
@[simp] theorem pctx_fok : (pctx P n).fok = P.fok := rfl
@[simp] theorem pctx_glb : (pctx P n).glb = glbT := PK.glb
/-- data that may be asked for its type -/
def tyq (v : PV) : Prop := ∀ ok, typeOk ok v = true
def isI : PV → Bool
  | .int _ => true
  | _ => false
@[simp] theorem c22 {v : PV} (h : tyq v) : callF P (n + 1) 22 [.sh v] = .ok (.sh (.bl (isI v))) [some (.sh v)] := by
  rw [call_at (m := f22) rfl]
  refine ok_eq (ok_run rfl ?_)
  simp [f22, inits, outsOf, h _,  truth]
  cases v <;> simp [typeIs, isI]
/-- in a range -/
def inR (v : PV) (a b : Int) : Bool := match v with
  | .int i => decide (a ≤ i) && decide (i ≤ b)
  | _ => false
theorem c23 {v : PV} {a b : Int} (h : tyq v) : callF P (n + 2) 23 [.sh v, .sh (.int a), .sh (.int b)] = .ok (.sh (.bl (inR v a b))) [some (.sh v), some (.sh (.int a)), some (.sh (.int b))] := by
  rw [call_at (m := f23) rfl]
  refine ok_eq (ok_run rfl ?_)
  simp [f23, inits, outsOf, h _,  lend_sh, lend_own, back_sh, back_none, c22 h]
  cases v with
  | int i =>
    simp [isI, inR]
    split <;> omega
  | _ => simp [isI, inR]
def lenT : PV → Option Nat
  | .tup xs => some xs.length
  | _ => none
def noK : PV → Bool
  | .ktup _ => false
  | _ => true
theorem c24 {v : PV} (h : tyq v) (hk : noK v = true) : callF P (n + 1) 24 [.sh v] = .ok (.sh (.bl (lenT v == some 2))) [some (.sh v)] := by
  rw [call_at (m := f24) rfl]
  refine ok_eq (ok_run rfl ?_)
  simp [f24, inits, outsOf, h _,  lend_sh, lend_own, back_sh, back_none]
  cases v <;> simp [typeIs, lenT, noK] at hk ⊢
  rw [Bool.eq_iff_iff]; simp; omega
theorem c25 {v : PV} (h : tyq v) (hk : noK v = true) : callF P (n + 1) 25 [.sh v] = .ok (.sh (.bl (lenT v == some 3))) [some (.sh v)] := by
  rw [call_at (m := f25) rfl]
  refine ok_eq (ok_run rfl ?_)
  simp [f25, inits, outsOf, h _,  lend_sh, lend_own, back_sh, back_none]
  cases v <;> simp [typeIs, lenT, noK] at hk ⊢
  rw [Bool.eq_iff_iff]; simp; omega
/-- a store, as it is handed about -/
def stV (kinds : Str) (held : List (List Key × PV)) (rows : PV) : PV := .ins 23 [(0, .str kinds), (1, .dt held), (2, rows)]
section
variable {ks : Str} {hd : List (List Key × PV)} {rw' : PV}
@[simp] theorem fld0 : fldW P.fok 0 (.sh (stV ks hd rw')) = some (.str ks) := by simp [fldW, stV, fieldV, PK.fok0, lookF]
@[simp] theorem fld1 : fldW P.fok 1 (.sh (stV ks hd rw')) = some (.dt hd) := by simp [fldW, stV, fieldV, PK.fok1, lookF]
theorem c30 {v : PV} (h : tyq v) (hz : ks.length ≤ SZ) : callF P (n + 3) 30 [.sh (stV ks hd rw'), .sh v] = .ok (.sh (.bl (inR v 0 (ks.length - 1)))) [some (.sh (stV ks hd rw')), some (.sh v)] := by
  rw [call_at (m := f30) rfl]
  refine ok_eq (ok_run rfl ?_)
  simp [f30, inits, outsOf, h _,  lend_sh, lend_own, back_sh, back_none, fld0, hz, c23 h]
end
theorem wp_compM {C : Ctx} {own : List Nat} {tg : Tg} {elt : M PV} {Q : List PV → Sl → Prop} (g : PV → PV) (s0 : Sl) {xs : List PV} {s : Sl} (h0 : wipe own s = s0) (hz : xs.length ≤ SZ)
    (ht : ∀ x ∈ xs, Wp (stTg tg (.sh x)) s0 fun _ s1 => Wp elt s1 fun u s3 => u = g x ∧ wipe own s3 = s0) (hd : ∀ s', wipe own s' = s0 → Q (xs.map g) s') : Wp (compLoop own tg (evTs C []) elt xs []) s Q := by
  refine wp_compF (fun x => some (g x)) s0 h0 hz ?_ ?_
  · intro x hx
    refine (ht x hx).mono fun _ s1 q => ?_
    rw [ts_nil]
    exact Wp.mono q fun u s3 q => ⟨by rw [q.1], q.2⟩
  · intro s' h
    have e : List.filterMap (fun x => some (g x)) xs = xs.map g := by rw [← List.filterMap_eq_map]; rfl
    rw [e]
    exact hd s' h
theorem bools_map (p : PV → Bool) : ∀ xs : List PV, bools (xs.map fun x => .bl (p x)) = some (xs.map p)
  | [] => rfl
  | x :: xs => by rw [List.map_cons, bools, bools_map p xs]; rfl
@[simp] theorem getD_dt {spl : Str → Str → Option (List Str)} {kvs : List (List Key × PV)} {a b : Int} {d : PV} : method spl .getD (.dt kvs) [.tup [.int a, .int b], d] = some (.sh ((look [.inl a, .inl b] kvs).getD d)) := rfl
@[simp] theorem ix2_0 {c0 c1 : Nat} : index (.str ⟨#[c0, c1]⟩) (.int 0) = some (.str ⟨#[c0]⟩) := rfl
@[simp] theorem ix2_1 {c0 c1 : Nat} : index (.str ⟨#[c0, c1]⟩) (.int 1) = some (.str ⟨#[c1]⟩) := rfl
@[simp] theorem in_1 {c : Nat} {r : Str} : cmpop .in_ (.str ⟨#[c]⟩) (.str r) = some (r.cps.toList.contains c) := rfl
theorem str1 {c d : Nat} : ((⟨#[c]⟩ : Str) == ⟨#[d]⟩) = (c == d) := by
  rw [Bool.eq_iff_iff]; simp
@[simp] theorem str_gt {c : Nat} : ((⟨#[c]⟩ : Str) == ">") = (c == 62) := str1
@[simp] theorem str_lt {c : Nat} : ((⟨#[c]⟩ : Str) == "<") = (c == 60) := str1
/-- who holds what, by a look -/
def Tb (hd : List (List Key × PV)) (rt : Int → Int → Str) : Prop := ∀ a b, (look [.inl a, .inl b] hd).getD (.str "") = .str (rt a b)
def lnk (rt : Int → Int → Str) (a b : Int) (c0 c1 : Nat) : Bool := if c1 = 62 then (rt a b).cps.toList.contains c0 else (rt b a).cps.toList.contains c0
section
variable {ks : Str} {hd : List (List Key × PV)} {rw' : PV} {rt : Int → Int → Str}
theorem c51 (ht : Tb hd rt) {a b : Int} : callF P (n + 1) 51 [.sh (stV ks hd rw'), .sh (.int a), .sh (.int b)] = .ok (.sh (.str (rt a b))) [some (.sh (stV ks hd rw')), some (.sh (.int a)), some (.sh (.int b))] := by
  rw [call_at (m := f51) rfl]
  refine ok_eq (ok_run rfl ?_)
  simp [f51, inits, outsOf, ht a b, SZ]
theorem c86 (ht : Tb hd rt) {a b : Int} {c0 c1 : Nat} : callF P (n + 2) 86 [.sh (stV ks hd rw'), .sh (.int a), .sh (.int b), .sh (.str ⟨#[c0, c1]⟩)] = .ok (.sh (.bl (lnk rt a b c0 c1))) [some (.sh (stV ks hd rw')), some (.sh (.int a)), some (.sh (.int b)), some (.sh (.str ⟨#[c0, c1]⟩))] := by
  rw [call_at (m := f86) rfl]
  refine ok_eq (ok_run rfl ?_)
  by_cases e : c1 = 62 <;> simp [f86, inits, outsOf, lend_sh, back_sh, c51 ht, e, lnk] <;> exact (Decidable.em _).symm
end
def isW : PV → Bool
  | .str ⟨⟨[c0, c1]⟩⟩ => "gtrw".toList.any (fun c => c.toNat == c0) && (c1 == 60 || c1 == 62)
  | _ => false
/-- texts are short -/
def shortS : PV → Bool
  | .str x => decide (x.length ≤ SZ)
  | _ => true
theorem c87 {v : PV} (h : tyq v) (hs : shortS v = true) : callF P (n + 1) 87 [.sh v] = .ok (.sh (.bl (isW v))) [some (.sh v)] := by
  rw [call_at (m := f87) rfl]
  refine ok_eq (ok_run rfl ?_)
  simp [f87, inits, outsOf, h _]
  cases v with
  | str x =>
    have hz : x.length ≤ SZ := by simpa [shortS] using hs
    obtain ⟨⟨l⟩⟩ := x
    simp [typeIs, hz]
    match l with
    | [] => simp [isW, PySem.Str.length]
    | [_] => simp [isW, PySem.Str.length]
    | [c0, c1] => 
      simp [isW, PySem.Str.length]
      have e1 : (Str.ofString "gtrw").cps = #[103, 116, 114, 119] := rfl
      have e2 : (Str.ofString "<>").cps = #[60, 62] := rfl
      rw [e1, e2]
      grind
    | a :: b :: c :: r => simp [isW, PySem.Str.length]; omega
  | _ => simp [typeIs, isW]

def lnkV (rt : Int → Int → Str) : PV → PV → PV → Bool
  | .int a, .int b, .str ⟨⟨[c0, c1]⟩⟩ => lnk rt a b c0 c1
  | _, _, _ => false
def links (rt : Int → Int → Str) : List PV → List PV → Bool
  | a :: b :: r, w :: ws => lnkV rt a b w && links rt (b :: r) ws
  | _, _ => true
/-- a path -/
def pathB (n : Nat) (rt : Int → Int → Str) : PV → Bool
  | .tup [.tup ms, .tup ws] => ms.length == ws.length + 1 && (ms.all (fun m => inR m 0 (n - 1)) && (ws.all isW && links rt ms ws))
  | _ => false
theorem links_zip (rt : Int → Int → Str) : ∀ (ms ws : List PV), (zip3 ms ms.tail ws).all (fun t => match t with | .tup [a, b, w] => lnkV rt a b w | _ => false) = links rt ms ws
  | [], ws => by simp [zip3, links]
  | [a], ws => by simp [zip3, links]
  | a :: b :: r, [] => by simp [zip3, links]
  | a :: b :: r, w :: ws => by
    have := links_zip rt (b :: r) ws
    simp only [List.tail_cons] at this ⊢
    rw [zip3, List.all_cons, this, links]

theorem inR_int {v : PV} {a b : Int} (h : inR v a b = true) : ∃ i, v = .int i := by
  cases v <;> simp [inR] at h ⊢
theorem isW_str {v : PV} (h : isW v = true) : ∃ c0 c1, v = .str ⟨⟨[c0, c1]⟩⟩ := by
  unfold isW at h
  split at h
  · exact ⟨_, _, rfl⟩
  · exact absurd h (by simp)
@[simp] theorem slc_tail {xs : List PV} : slice (.tup xs) (.int 1) .non = some (.tup xs.tail) := by
  cases xs with
  | nil => rfl
  | cons a r => simp [slice, cut, cutAt]
def isT : PV → Bool
  | .tup _ => true
  | _ => false
theorem isT_is {v : PV} (h : noK v = true) : typeIs v .tuple = isT v := by
  cases v <;> first | rfl | cases h
theorem isT_ex {v : PV} (h : isT v = true) : ∃ xs, v = .tup xs := by
  cases v <;> first | exact ⟨_, rfl⟩ | cases h
@[simp] theorem isT_tup {xs : List PV} : isT (.tup xs) = true := rfl
@[simp] theorem ix_l0 {a : PV} {r : List PV} : index (.tup (a :: r)) (.int 0) = some a := by simp [index, ixN]
@[simp] theorem ix_l1 {a b : PV} {r : List PV} : index (.tup (a :: b :: r)) (.int 1) = some b := by
  show (ixN (r.length + 1 + 1) 1).bind _ = _
  unfold ixN
  rw [if_pos (by decide), if_pos (by omega)]
  rfl
theorem all_bl {p : PV → Bool} {xs : List PV} : (xs.map p).all id = xs.all p := by rw [List.all_map]; rfl
theorem pathB_a {a b : PV} {n : Nat} {rt : Int → Int → Str} (h : ¬isT a = true) : pathB n rt (.tup [a, b]) = false := by
  cases a <;> first | rfl | exact absurd rfl h
theorem pathB_b {a b : PV} {n : Nat} {rt : Int → Int → Str} (h : ¬isT b = true) : pathB n rt (.tup [a, b]) = false := by
  cases a <;> first | rfl | (cases b <;> first | rfl | exact absurd rfl h)
section
variable {ks : Str} {hd : List (List Key × PV)} {rw' : PV} {rt : Int → Int → Str}
/-- what is asked of a thing -/
structure Askd (v : PV) : Prop where
  ty : tyq v
  nk : noK v = true
  el : ∀ xs, v = .tup xs → ∀ x ∈ xs, tyq x ∧ noK x = true ∧ ∀ ys, x = .tup ys → ys.length ≤ SZ ∧ ∀ y ∈ ys, tyq y ∧ shortS y = true
theorem c88 (ht : Tb hd rt) (hz : ks.length ≤ SZ) {v : PV} (hv : Askd v) :
    callF P (n + 4) 88 [.sh (stV ks hd rw'), .sh v] = .ok (.sh (.bl (pathB ks.length rt v))) [some (.sh (stV ks hd rw')), some (.sh v)] := by
  rw [call_at (m := f88) rfl]
  refine ok_eq (ok_run rfl ?_)
  by_cases e : lenT v = some 2
  · cases v with
    | tup xs =>
      match xs, e with
      | [a, b], _ =>
        obtain ⟨ha1, ha2, ha3⟩ := hv.el _ rfl a (by simp)
        obtain ⟨hb1, hb2, hb3⟩ := hv.el _ rfl b (by simp)
        have c24' := @c24 P _ (n + 2) _ hv.ty hv.nk
        have e3 : lenT (.tup [a, b]) = some 2 := rfl
        by_cases ea : isT a = true
        · by_cases eb : isT b = true
          · obtain ⟨ms, rfl⟩ := isT_ex ea
            obtain ⟨ws, rfl⟩ := isT_ex eb
            have hm := ha3 _ rfl
            have hw := hb3 _ rfl
            by_cases el : ms.length = ws.length + 1
            · simp [f88, inits, outsOf, lend_sh, back_sh, c24', e3, isT_is, hv.nk, ha2, hb2, ha1 _, hb1 _, el]
              refine wp_compM (fun m => .bl (inR m 0 (ks.length - 1))) [some (W.sh (stV ks hd rw')), some (W.sh (.tup [.tup ms, .tup ws])), some (W.sh (.tup ms)), some (W.sh (.tup ws)), none, none, none, none] rfl hm.1 ?_ ?_
              · intro x hx
                simp [wp_frz, lend_sh, back_sh, c30 (hm.2 x hx).1 hz]
              · intro s' hs
                by_cases eA : ms.all (fun m => inR m 0 (ks.length - 1)) = true
                · simp [hs, bools_map, all_bl, eA]
                  refine wp_compM (fun m => .bl (isW m)) [some (W.sh (stV ks hd rw')), some (W.sh (.tup [.tup ms, .tup ws])), some (W.sh (.tup ms)), some (W.sh (.tup ws)), none, none, none, none] rfl hw.1 ?_ ?_
                  · intro x hx
                    simp [wp_frz, lend_sh, back_sh, c87 (hw.2 x hx).1 (hw.2 x hx).2]
                  · intro s' hs
                    by_cases eB : ws.all isW = true
                    · simp [hs, bools_map, all_bl, eB]
                      refine wp_compM (fun t => .bl (match t with | .tup [a, b, w] => lnkV rt a b w | _ => false)) [some (W.sh (stV ks hd rw')), some (W.sh (.tup [.tup ms, .tup ws])), some (W.sh (.tup ms)), some (W.sh (.tup ws)), none, none, none, none] rfl (Nat.le_trans zip3_len hm.1) ?_ ?_
                      · intro x hx
                        obtain ⟨a, b, c, rfl, m1, m2, m3⟩ := zip3_mem hx
                        rw [List.all_eq_true] at eA eB
                        obtain ⟨i, rfl⟩ := inR_int (eA a m1)
                        obtain ⟨j, rfl⟩ := inR_int (eA b (List.mem_of_mem_tail m2))
                        obtain ⟨c0, c1, rfl⟩ := isW_str (eB c m3)
                        simp [wp_frz, lend_sh, back_sh, c86 ht]
                        rfl
                      · intro s' hs
                        rw [bools_map]
                        have := links_zip rt ms ws
                        simp [hs, all_bl, this, pathB, el, eA, eB]
                    · simp [hs, bools_map, all_bl, eB, pathB]
                · simp [hs, bools_map, all_bl, eA, pathB]
            · have el' : ¬ (ms.length : Int) = ws.length + 1 := by omega
              simp [f88, inits, outsOf, lend_sh, back_sh, c24', e3, isT_is, hv.nk, ha2, hb2, ha1 _, hb1 _, pathB, el, el']
          · simp [f88, inits, outsOf, lend_sh, back_sh, c24', e3, isT_is, hv.nk, ha2, hb2, ha1 _, hb1 _, ea, eb, pathB_b (a := a) (n := ks.length) (rt := rt) eb]
        · simp [f88, inits, outsOf, lend_sh, back_sh, c24', e3, isT_is, hv.nk, ha2, hb2, ha1 _, hb1 _, ea, pathB_a (b := b) (n := ks.length) (rt := rt) ea]
    | _ => cases e
  · have e2 : pathB ks.length rt v = false := by
      unfold pathB
      split
      · exact absurd rfl e
      · rfl
    rw [e2]
    simp [f88, inits, outsOf, lend_sh, back_sh, c24 hv.ty hv.nk, e]
end
end Mini
end

section
set_option linter.all false
set_option maxRecDepth 100000
set_option maxHeartbeats 0
namespace Mini
open PySem (Str)
variable {P : Prog} [PK P] {n : Nat}
section
variable {ks : Str} {tb : List (List Key × PV)} {rt : Int → Int → Str}
/-- what was drawn -/
def paV (ks : Str) (tb : List (List Key × PV)) : PV := .tup [.str ks, .dt tb]
theorem paV_0 : index (paV ks tb) (.int 0) = some (.str ks) := rfl
theorem paV_1 : index (paV ks tb) (.int 1) = some (.dt tb) := rfl
theorem c1007 (ht : Tb tb rt) {a b : Int} {c0 c1 : Nat} (h : c1 = 60 ∨ c1 = 62) : callF P (n + 1) 1007 [.sh (paV ks tb), .sh (.int a), .sh (.int b), .sh (.str ⟨#[c0, c1]⟩)] = .ok (.sh (.bl (lnk rt a b c0 c1))) [some (.sh (paV ks tb)), some (.sh (.int a)), some (.sh (.int b)), some (.sh (.str ⟨#[c0, c1]⟩))] := by
  rw [call_at (m := f1007) rfl]
  refine ok_eq (ok_run rfl ?_)
  rcases h with rfl | rfl
  · simp [f1007, inits, outsOf, paV_1, lnk, SZ, ht b a] 
  · simp [f1007, inits, outsOf, paV_1, lnk, SZ, ht a b]
theorem c1008 (hz : ks.length ≤ SZ) {v : PV} (h : tyq v) : callF P (n + 1) 1008 [.sh (paV ks tb), .sh v] = .ok (.sh (.bl (inR v 0 (ks.length - 1)))) [some (.sh (paV ks tb)), some (.sh v)] := by
  rw [call_at (m := f1008) rfl]
  refine ok_eq (ok_run rfl ?_)
  simp [f1008, inits, outsOf, paV_0, h _]
  cases v with
  | int i =>
    simp [typeIs, inR, hz]
    by_cases e : 0 ≤ i <;> simp [e] <;> (try (rw [Bool.eq_iff_iff]; simp)) <;> omega
  | _ => simp [typeIs, inR]
@[simp] theorem in_sl {x : Str} {ys : List PV} : cmpop .in_ (.str x) (.lst ys) = if ys.all isData then some (ys.any fun y => deq y (.str x)) else none := by simp [cmpop]
@[simp] theorem paV_ix {k : Nat} {xs : List PV} (h : k < xs.length) : index (.tup xs) (.int k) = some (xs.getD k .non) := by
  show (ixN xs.length k).bind _ = _
  unfold ixN
  rw [if_pos (by omega), if_pos (by omega)]
  simp [h]
@[simp] theorem paV_ix1 {k : Nat} {xs : List PV} (h : k + 1 < xs.length) : index (.tup xs) (.int (k + 1)) = some (xs.getD (k + 1) .non) := paV_ix (k := k + 1) h
def lnkE (rt : Int → Int → Str) (ms : List PV) : PV → Bool
  | .tup [.int k, w] => lnkV rt (ms.getD k.toNat .non) (ms.getD (k.toNat + 1) .non) w
  | _ => false
theorem links_enum (ms : List PV) : ∀ (ws : List PV) (k : Nat), ms.length = k + ws.length + 1 → (enumFrom k ws).all (lnkE rt ms) = links rt (ms.drop k) ws
  | [], k, h => by
    have : (ms.drop k).length = 1 := by rw [List.length_drop, h]; simp only [List.length_nil]; omega
    match ms.drop k, this with
    | [a], _ => rfl
  | w :: ws, k, h => by
    rw [List.length_cons] at h
    have ih := links_enum ms ws (k + 1) (by omega)
    have e1 : ms.drop k = ms.getD k .non :: ms.drop (k + 1) := by
      rw [List.drop_eq_getElem_cons (by omega)]
      simp [show k < ms.length by omega]
    have e2 : ms.drop (k + 1) = ms.getD (k + 1) .non :: ms.drop (k + 1 + 1) := by
      rw [List.drop_eq_getElem_cons (i := k + 1) (by omega)]
      simp [show k + 1 < ms.length by omega]
    rw [enumFrom, List.all_cons, ih, e1, e2, links]
    rfl
theorem enum_mem {x : PV} : ∀ {xs : List PV} {k : Nat}, x ∈ enumFrom k xs → ∃ (j : Nat) (w : PV), x = .tup [.int j, w] ∧ w ∈ xs ∧ k ≤ j ∧ j < k + xs.length
  | [], _, h => by simp [enumFrom] at h
  | y :: ys, k, h => by
    rw [enumFrom, List.mem_cons] at h
    rcases h with rfl | h
    · exact ⟨k, y, rfl, List.mem_cons_self, Nat.le_refl _, by rw [List.length_cons]; omega⟩
    · obtain ⟨j, w, e, m, l1, l2⟩ := enum_mem h
      exact ⟨j, w, e, List.mem_cons_of_mem _ m, by omega, by rw [List.length_cons]; omega⟩
theorem enum_len : ∀ {xs : List PV} {k : Nat}, (enumFrom k xs).length = xs.length
  | [], _ => rfl
  | y :: ys, k => by rw [enumFrom, List.length_cons, enum_len, List.length_cons]
def words8 : List PV := [.str "g>", .str "g<", .str "r>", .str "r<", .str "t>", .str "t<", .str "w>", .str "w<"]
theorem words8_in (x : Str) : (words8.any fun y => deq y (.str x)) = isW (.str x) := by
  obtain ⟨⟨l⟩⟩ := x
  have e : ∀ a b : Nat, ((⟨#[a, b]⟩ : Str) == ⟨⟨l⟩⟩) = decide (l = [a, b]) := by
    intro a b
    rw [Bool.eq_iff_iff]; simp; exact eq_comm
  have w1 : ("g>" : Str) = ⟨#[103, 62]⟩ := rfl
  have w2 : ("g<" : Str) = ⟨#[103, 60]⟩ := rfl
  have w3 : ("r>" : Str) = ⟨#[114, 62]⟩ := rfl
  have w4 : ("r<" : Str) = ⟨#[114, 60]⟩ := rfl
  have w5 : ("t>" : Str) = ⟨#[116, 62]⟩ := rfl
  have w6 : ("t<" : Str) = ⟨#[116, 60]⟩ := rfl
  have w7 : ("w>" : Str) = ⟨#[119, 62]⟩ := rfl
  have w8 : ("w<" : Str) = ⟨#[119, 60]⟩ := rfl
  simp only [words8, List.any_cons, List.any_nil, deq_str, w1, w2, w3, w4, w5, w6, w7, w8, e]
  match l with
  | [] => simp [isW]
  | [_] => simp [isW]
  | [c0, c1] =>
    simp [isW]
    rw [Bool.eq_iff_iff]
    simp
    grind
  | a :: b :: c :: r => simp [isW]
theorem words8_data : words8.all isData = true := by decide
theorem c1009 (ht : Tb tb rt) (hz : ks.length ≤ SZ) {v : PV} (hv : Askd v) :
    callF P (n + 2) 1009 [.sh (paV ks tb), .sh v] = .ok (.sh (.bl (pathB ks.length rt v))) [some (.sh (paV ks tb)), some (.sh v)] := by
  rw [call_at (m := f1009) rfl]
  refine ok_eq (ok_run rfl ?_)
  have t3 := hv.ty
  by_cases e0 : isT v = true
  · obtain ⟨xs, rfl⟩ := isT_ex e0
    by_cases e1 : xs.length = 2
    · match xs, e1 with
      | [a, b], _ =>
        obtain ⟨ha1, ha2, ha3⟩ := hv.el _ rfl a (by simp)
        obtain ⟨hb1, hb2, hb3⟩ := hv.el _ rfl b (by simp)
        simp [f1009, inits, outsOf, lend_sh, back_sh, isT_is, hv.nk, t3 _, SZ]
        refine wp_compM (fun m => .bl (isT m)) [some (W.sh (paV ks tb)), some (W.sh (.tup [a, b])), some (W.sh (.lst words8)), none, none, none] rfl (by simp [SZ]) ?_ ?_
        · intro x hx
          simp at hx
          rcases hx with rfl | rfl
          · simp [wp_frz, ha1 _, isT_is, ha2]
          · simp [wp_frz, hb1 _, isT_is, hb2]
        · intro s' hs
          by_cases ea : isT a = true
          · by_cases eb : isT b = true
            · obtain ⟨ms, rfl⟩ := isT_ex ea
              obtain ⟨ws, rfl⟩ := isT_ex eb
              have hm := ha3 _ rfl
              have hw := hb3 _ rfl
              by_cases el : ms.length = ws.length + 1
              · have el' : ¬ (ms.length : Int) = 0 := by omega
                have el2 : (ws.length : Int) = ms.length - 1 := by omega
                have hne : ms ≠ [] := by rintro rfl; simp at el
                simp [hs, bools_map, all_bl, el', el2, hne]
                refine wp_compM (fun m => .bl (inR m 0 (ks.length - 1))) [some (W.sh (paV ks tb)), some (W.sh (.tup [.tup ms, .tup ws])), some (W.sh (.lst words8)), none, none, none] rfl hm.1 ?_ ?_
                · intro x hx
                  simp [wp_frz, lend_sh, back_sh, c1008 hz (hm.2 x hx).1]
                · intro s' hs
                  by_cases eA : ms.all (fun m => inR m 0 (ks.length - 1)) = true
                  · simp [hs, bools_map, all_bl, eA]
                    refine wp_compM (fun m => .bl (isW m)) [some (W.sh (paV ks tb)), some (W.sh (.tup [.tup ms, .tup ws])), some (W.sh (.lst words8)), none, none, none] rfl hw.1 ?_ ?_
                    · intro x hx
                      have := (hw.2 x hx).1
                      simp [wp_frz, this _]
                      cases x with
                      | str x => cases hc : isW (.str x) <;> simp [typeIs, words8_data, words8_in, hc]
                      | _ => simp [typeIs, isW]
                    · intro s' hs
                      by_cases eB : ws.all isW = true
                      · simp [hs, bools_map, all_bl, eB]
                        refine wp_compM (fun t => .bl (lnkE rt ms t)) [some (W.sh (paV ks tb)), some (W.sh (.tup [.tup ms, .tup ws])), some (W.sh (.lst words8)), none, none, none] rfl (by rw [enum_len]; exact hw.1) ?_ ?_
                        · intro x hx
                          obtain ⟨k, w, rfl, m3, l1, l2⟩ := enum_mem hx
                          rw [List.all_eq_true] at eA eB
                          have gk : k < ms.length := by omega
                          have gk1 : k + 1 < ms.length := by omega
                          obtain ⟨i, hi⟩ := inR_int (eA (ms.getD k .non) (by simp [gk]))
                          obtain ⟨j, hj⟩ := inR_int (eA (ms.getD (k + 1) .non) (by simp [gk1]))
                          obtain ⟨c0, c1, rfl⟩ := isW_str (eB w m3)
                          have hc : c1 = 60 ∨ c1 = 62 := by
                            have := eB _ m3
                            simp [isW] at this
                            exact this.2
                          have hi : ms[k] = .int i := by simpa [gk] using hi
                          have hj : ms[k + 1] = .int j := by simpa [gk1] using hj
                          simp [wp_frz, lend_sh, back_sh, gk, gk1, paV_ix1 gk1, hi, hj, c1007 ht hc, lnkE, lnkV]
                        · intro s' hs
                          rw [bools_map]
                          have := links_enum (rt := rt) ms ws 0 (by omega)
                          rw [List.drop_zero] at this
                          simp [hs, all_bl, this, pathB, el, eA, eB]
                      · simp [hs, bools_map, all_bl, eB, pathB]
                  · simp [hs, bools_map, all_bl, eA, pathB]
              · by_cases e0 : (ms.length : Int) = 0
                · simp [hs, bools_map, all_bl, e0, pathB, el]
                · have el2 : ¬ (ws.length : Int) = ms.length - 1 := by omega
                  have hne : ms ≠ [] := by rintro rfl; simp at e0
                  simp [hs, bools_map, all_bl, e0, el2, pathB, el, hne]
            · simp [hs, bools_map, all_bl, eb, pathB_b (a := a) (n := ks.length) (rt := rt) eb]
          · simp [hs, bools_map, all_bl, ea, pathB_a (b := b) (n := ks.length) (rt := rt) ea]
    · have e2 : pathB ks.length rt (.tup xs) = false := by
        unfold pathB
        split
        · rename_i h; cases h; exact absurd rfl e1
        · rfl
      have e1' : ¬ (xs.length : Int) = 2 := by omega
      simp [f1009, inits, outsOf, lend_sh, back_sh, isT_is, hv.nk, t3 _, SZ, e1', e2]
  · have e2 : pathB ks.length rt v = false := by
      unfold pathB
      split
      · exact absurd rfl e0
      · rfl
    simp [f1009, inits, outsOf, lend_sh, back_sh, isT_is, hv.nk, t3 _, SZ, e0, e2]
end
end Mini
end

section
set_option linter.all false
set_option maxRecDepth 100000
set_option maxHeartbeats 0
namespace Mini
open PySem (Str)
variable {P : Prog} [PK P] {n : Nat}
theorem c1003 {a b : Bool} : callF P (n + 1) 1003 [.sh (.bl a), .sh (.bl b)] = .ok (.sh (.bl (a == b))) [some (.sh (.bl a)), some (.sh (.bl b))] := by
  rw [call_at (m := f1003) rfl]
  refine ok_eq (ok_run rfl ?_)
  simp [f1003, inits, outsOf, typeOk, typeIs]
theorem zip2_self {x : PV} : ∀ {xs : List PV}, x ∈ zip2 xs xs → ∃ a, x = .tup [a, a] ∧ a ∈ xs
  | [], h => by simp [zip2] at h
  | y :: ys, h => by
    rw [zip2, List.mem_cons] at h
    rcases h with rfl | h
    · exact ⟨_, rfl, List.mem_cons_self⟩
    · obtain ⟨a, e, m⟩ := zip2_self h
      exact ⟨a, e, List.mem_cons_of_mem _ m⟩
theorem zip2_len : ∀ {xs ys : List PV}, (zip2 xs ys).length ≤ xs.length
  | [], _ => by simp [zip2]
  | _ :: _, [] => by simp [zip2]
  | x1 :: xs, y1 :: ys => by
    have := @zip2_len xs ys
    simp only [zip2, List.length_cons]; omega
theorem c1003L {bs : List Bool} (hz : bs.length ≤ SZ) : Ok (callF P (n + 2) 1003 [.own (.lst (bs.map .bl)), .own (.lst (bs.map .bl))]) fun w _ => w = .sh (.bl true) := by
  rw [call_at (m := f1003) rfl]
  refine (ok_run rfl ?_)
  simp [f1003, inits, outsOf, typeOk, typeIs]
  refine wp_compM (fun _ => .bl true) [some (W.sh (.lst (bs.map .bl))), some (W.sh (.lst (bs.map .bl))), none, none] rfl (Nat.le_trans zip2_len (by simpa using hz)) ?_ ?_
  · intro x hx
    obtain ⟨a, rfl, m⟩ := zip2_self hx
    obtain ⟨b, _, rfl⟩ := List.mem_map.mp m
    simp [wp_frz, lend_sh, back_sh, c1003]
  · intro s' hs
    have := bools_map (fun _ => true) (zip2 (List.map PV.bl bs) (List.map PV.bl bs))
    simp [hs, this]
/-! the hand -/
def hdV (cs : List Int) (i q m c : Int) : PV := .lst [.lst (cs.map .int), .int i, .int q, .int m, .int c]
section
variable {cs : List Int} {i q m c j : Int}
@[simp] theorem hd_0 : index (hdV cs i q m c) (.int 0) = some (.lst (cs.map .int)) := rfl
@[simp] theorem hd_1 : index (hdV cs i q m c) (.int 1) = some (.int i) := rfl
@[simp] theorem hd_2 : index (hdV cs i q m c) (.int 2) = some (.int q) := rfl
@[simp] theorem hd_3 : index (hdV cs i q m c) (.int 3) = some (.int m) := rfl
@[simp] theorem hd_4 : index (hdV cs i q m c) (.int 4) = some (.int c) := rfl
@[simp] theorem sd_1 : setItem (hdV cs i q m c) (.int 1) (.int j) = some (hdV cs j q m c) := rfl
@[simp] theorem sd_2 : setItem (hdV cs i q m c) (.int 2) (.int j) = some (hdV cs i j m c) := rfl
@[simp] theorem sd_3 : setItem (hdV cs i q m c) (.int 3) (.int j) = some (hdV cs i q j c) := rfl
@[simp] theorem sd_4 : setItem (hdV cs i q m c) (.int 4) (.int j) = some (hdV cs i q m j) := rfl
end
def HandV (h : PV) : Prop := ∃ cs i q m c, h = hdV cs i q m c ∧ 0 ≤ i
@[simp] theorem bin_mul {i j : Int} (h : (small i || small j) = true) : binop .mul (.int i) (.int j) = some (.int (i * j)) := by
  show (if _ then _ else _) = _
  rw [if_pos h]
theorem small_mod {x : Int} {k : Int} (h : 0 < k) (h2 : k < 2 ^ 64) : small (x.fmod k) = true := by
  have h3 := Int.fmod_nonneg_of_pos x h
  have h4 := Int.fmod_lt_of_pos x h
  simp [small]
  omega
@[simp] theorem small_69621 : small 69621 = true := rfl
@[simp] theorem small_40692 : small 40692 = true := rfl
@[simp] theorem small_7919 : small 7919 = true := rfl
@[simp] theorem small_48271 : small 48271 = true := rfl
@[simp] theorem small_5 : small 5 = true := rfl
@[simp] theorem small_1 {x : Int} : small (x.fmod 2147483647) = true := small_mod (by decide) (by decide)
@[simp] theorem small_2 {x : Int} : small (x.fmod 2147483563) = true := small_mod (by decide) (by decide)
theorem ix_int {cs : List Int} {i : Int} (h0 : 0 ≤ i) (h1 : i < cs.length) : ∃ x, index (.lst (cs.map .int)) (.int i) = some (.int x) := by
  refine ⟨cs.getD i.toNat 0, ?_⟩
  show (ixN (cs.map PV.int).length i).bind _ = _
  unfold ixN
  rw [if_pos h0, if_pos (by simpa using h1)]
  have : i.toNat < cs.length := by omega
  simp [this]
@[simp] theorem pow18 : binop .pow (.int 10) (.int 18) = some (.int 1000000000000000000) := rfl
theorem draw {h : PV} (hh : HandV h) {many : Int} (h0 : 0 < many) (h1 : many < 1073741824) :
    Ok (callF P (n + 1) 1001 [.own h, .sh (.int many)]) fun w o => ∃ r h', w = .sh (.int r) ∧ 0 ≤ r ∧ r < many ∧ HandV h' ∧ o = [some (.own h'), some (.sh (.int many))] := by
  obtain ⟨cs, i, q, m, c, rfl, hi⟩ := hh
  rw [call_at (m := f1001) rfl]
  refine ok_run rfl ?_
  have hn : many ≠ 0 := by omega
  have ha : many.natAbs < 1073741824 := by omega
  have hsm : ∀ x : Int, 0 ≤ x.fmod many ∧ x.fmod many < many := fun x => ⟨Int.fmod_nonneg_of_pos x h0, Int.fmod_lt_of_pos x h0⟩
  by_cases e1 : q = 0 ∧ i < cs.length
  · obtain ⟨x, hx⟩ := ix_int hi e1.2
    obtain ⟨rfl, e1⟩ := e1
    by_cases e2 : 1000000000000000000 ≤ x
    · have e3 : 0 < x := by omega
      simp [f1001, inits, outsOf, e1, hx, hn, ha, e2, e3, hsm]
      exact ⟨_, _, _, _, _, rfl, by omega⟩
    · simp [f1001, inits, outsOf, e1, hx, hn, ha, e2, hsm]
      exact ⟨_, _, _, _, _, rfl, by omega⟩
  · by_cases e3 : 0 < q
    · have e4 : ¬ q = 0 := by omega
      simp [f1001, inits, outsOf, hn, ha, e3, e4, hsm]
      exact ⟨_, _, _, _, _, rfl, hi⟩
    · by_cases e4 : q = 0
      · have e5 : ¬ i < cs.length := fun h => e1 ⟨e4, h⟩
        simp [f1001, inits, outsOf, hn, ha, e4, e5, hsm]
        exact ⟨_, _, _, _, _, rfl, hi⟩
      · simp [f1001, inits, outsOf, hn, ha, e3, e4, hsm]
        exact ⟨_, _, _, _, _, rfl, hi⟩
def rI : CR → Int
  | .ok (.sh (.int i)) _ => i
  | _ => 0
def rH : CR → PV
  | .ok _ (some (.own h) :: _) => h
  | _ => .non
def rV : CR → PV
  | .ok w _ => w.frz
  | _ => .non
/-- the next number, the hand behind -/
def dI (P : Prog) (n : Nat) (h : PV) (m : Int) : Int := rI (callF P (n + 1) 1001 [.own h, .sh (.int m)])
def dH (P : Prog) (n : Nat) (h : PV) (m : Int) : PV := rH (callF P (n + 1) 1001 [.own h, .sh (.int m)])
section
variable {h : PV} {m : Int}
theorem draw_all (hh : HandV h) (h0 : 0 < m) (h1 : m < 1073741824) : callF P (n + 1) 1001 [.own h, .sh (.int m)] = .ok (.sh (.int (dI P n h m))) [some (.own (dH P n h m)), some (.sh (.int m))] ∧ 0 ≤ dI P n h m ∧ dI P n h m < m ∧ HandV (dH P n h m) := by
  obtain ⟨w, o, e, r, h', rfl, e1, e2, e3, rfl⟩ := draw (n := n) (P := P) hh h0 h1
  have i1 : dI P n h m = r := by unfold dI; rw [e]; rfl
  have i2 : dH P n h m = h' := by unfold dH; rw [e]; rfl
  rw [i1, i2]
  exact ⟨e, e1, e2, e3⟩
theorem draw_eq (hh : HandV h) (h0 : 0 < m) (h1 : m < 1073741824) : callF P (n + 1) 1001 [.own h, .sh (.int m)] = .ok (.sh (.int (dI P n h m))) [some (.own (dH P n h m)), some (.sh (.int m))] := (draw_all hh h0 h1).1
theorem draw_0 (hh : HandV h) (h0 : 0 < m) (h1 : m < 1073741824) : 0 ≤ dI P n h m := (draw_all hh h0 h1).2.1
theorem draw_lt (hh : HandV h) (h0 : 0 < m) (h1 : m < 1073741824) : dI P n h m < m := (draw_all hh h0 h1).2.2.1
theorem draw_h (hh : HandV h) (h0 : 0 < m) (h1 : m < 1073741824) : HandV (dH P n h m) := (draw_all hh h0 h1).2.2.2
/-- one of some -/
def anyV (P : Prog) (n : Nat) (h : PV) (xs : List PV) : PV := xs.getD (dI P n h xs.length).toNat .non
theorem any_ix {xs : List PV} (hh : HandV h) (h0 : 0 < xs.length) (h1 : xs.length < 1073741824) : index (.lst xs) (.int (dI P n h xs.length)) = some (anyV P n h xs) := by
  have l0 := draw_0 (P := P) (n := n) hh (m := xs.length) (by omega) (by omega)
  have l1 := draw_lt (P := P) (n := n) hh (m := xs.length) (by omega) (by omega)
  show (ixN xs.length _).bind _ = _
  unfold ixN
  rw [if_pos l0, if_pos l1]
  have : (dI P n h xs.length).toNat < xs.length := by omega
  simp [this, anyV]
theorem any_mem {xs : List PV} (hh : HandV h) (h0 : 0 < xs.length) (h1 : xs.length < 1073741824) : anyV P n h xs ∈ xs := by
  have l0 := draw_0 (P := P) (n := n) hh (m := xs.length) (by omega) (by omega)
  have l1 := draw_lt (P := P) (n := n) hh (m := xs.length) (by omega) (by omega)
  have : (dI P n h xs.length).toNat < xs.length := by omega
  simp [this, anyV]
theorem any_eq {xs : List PV} (hh : HandV h) (h0 : 0 < xs.length) (h1 : xs.length < 1073741824) : callF P (n + 2) 1002 [.own h, .own (.lst xs)] = .ok (.sh (anyV P n h xs)) [some (.own (dH P n h xs.length)), some (.own (.lst xs))] := by
  rw [call_at (m := f1002) rfl]
  refine ok_eq (ok_run rfl ?_)
  have a1 : (0 : Int) < xs.length := by omega
  have a2 : (xs.length : Int) < 1073741824 := by omega
  simp [f1002, inits, outsOf, lend_own, back_none, draw_eq hh a1 a2, any_ix hh h0 h1]
theorem any_eqS {xs : List PV} (hh : HandV h) (h0 : 0 < xs.length) (h1 : xs.length < 1073741824) : callF P (n + 2) 1002 [.own h, .sh (.lst xs)] = .ok (.sh (anyV P n h xs)) [some (.own (dH P n h xs.length)), some (.sh (.lst xs))] := by
  rw [call_at (m := f1002) rfl]
  refine ok_eq (ok_run rfl ?_)
  have a1 : (0 : Int) < xs.length := by omega
  have a2 : (xs.length : Int) < 1073741824 := by omega
  simp [f1002, inits, outsOf, lend_own, back_none, draw_eq hh a1 a2, any_ix hh h0 h1]
theorem any_h {xs : List PV} (hh : HandV h) (h0 : 0 < xs.length) (h1 : xs.length < 1073741824) : HandV (dH P n h xs.length) := draw_h hh (by omega) (by omega)
end
theorem hand {ns : List Int} (hl : ns.length ≤ 63) : Ok (callF P (n + 1) 1000 [.sh (.lst (ns.map .int))]) fun w o => ∃ h, w = .own h ∧ HandV h ∧ o = [some (.sh (.lst (ns.map .int)))] := by
  rw [call_at (m := f1000) rfl]
  refine ok_run rfl ?_
  have e : slice (.lst (ns.map .int)) .non (.int 63) = some (.lst (ns.map .int)) := by
    simp only [slice, cut, cutAt, List.length_map]
    rw [if_neg (by decide), show Int.toNat 63 = 63 from rfl, Nat.min_eq_right hl]
    simp [List.take_of_length_le]
  simp [f1000, inits, outsOf, e]
  refine wp_compM (fun x => match x with | .int i => .int (if i < 0 then -i else i) | _ => .non) [some (.sh (.lst (ns.map .int))), none, none] rfl (by simp [SZ]; omega) ?_ ?_
  · intro x hx
    obtain ⟨i, _, rfl⟩ := List.mem_map.mp hx
    simp [wp_frz]
  · intro s' hs
    simp [hs, SZ]
    exact ⟨ns.map fun i => if i < 0 then -i else i, 0, 0, 71 + 5 * ns.length, 0, by simp [hdV, Function.comp_def], Int.le_refl 0⟩
end Mini
end

section
set_option linter.all false
set_option maxRecDepth 100000
set_option maxHeartbeats 0
namespace Mini
open PySem (Str)
variable {P : Prog} [PK P] {n : Nat}
/-! tables -/
def kp (p : Int × Int) : List Key := [.inl p.1, .inl p.2]
def tbl (S : List (Int × Int)) (f : Int → Int → Str) : List (List Key × PV) := S.map fun p => (kp p, .str (f p.1 p.2))
def rowV (f : Int → Int → Str) (p : Int × Int) : PV := .tup [.int p.1, .int p.2, .str (f p.1 p.2)]
section
variable {S : List (Int × Int)} {f : Int → Int → Str}
theorem kp_inj {p q : Int × Int} : kp p = kp q ↔ p = q := by
  obtain ⟨a, b⟩ := p
  obtain ⟨c, d⟩ := q
  simp [kp]
theorem look_tbl {q : Int × Int} : ∀ S : List (Int × Int), look (kp q) (tbl S f) = if q ∈ S then some (.str (f q.1 q.2)) else none
  | [] => by simp [tbl, look]
  | p :: S => by
    have ih := look_tbl (q := q) S
    simp only [tbl, List.map_cons, look] at ih ⊢
    by_cases e : p = q
    · subst e; simp
    · have e2 : ¬ q = p := fun h => e h.symm
      simp [kp_inj, e, e2, ih]
theorem tbl_len : (tbl S f).length = S.length := by simp [tbl]
theorem tbl_keys : (tbl S f).map (fun p => PV.tup (p.1.map pvKey)) = S.map prV := by
  simp [tbl, Function.comp_def, kp, pvKey, prV]
theorem pairsI_map : ∀ S : List (Int × Int), pairsI (S.map prV) = some S
  | [] => rfl
  | p :: S => by rw [List.map_cons, prV, pairsI, pairsI_map S]; rfl
theorem pairsK_tbl : ∀ S : List (Int × Int), pairsK ((tbl S f).map (·.1)) = some S
  | [] => rfl
  | p :: S => by
    have ih := pairsK_tbl S
    simp only [tbl, List.map_cons, kp] at ih ⊢
    rw [pairsK, ih]; rfl
@[simp] theorem list_tbl {rp : PV → Option Str} : builtin rp .list [.dt (tbl S f)] = some (.own (.lst (S.map prV))) := by
  show some (W.own (.lst ((tbl S f).map fun p => PV.tup (p.1.map pvKey)))) = _
  rw [tbl_keys]
@[simp] theorem sorted_prs {rp : PV → Option Str} : builtin rp .sorted [.lst (S.map prV)] = some (.own (.lst ((isort lexP S).map prV))) := by
  show (match pairsI (S.map prV) with
    | some ps => some (W.own (.lst ((isort lexP ps).map prV)))
    | none => _) = _
  rw [pairsI_map]
@[simp] theorem sorted_tbl {rp : PV → Option Str} : builtin rp .sorted [.dt (tbl S f)] = some (.own (.lst ((isort lexP S).map prV))) := by
  show (pairsK ((tbl S f).map (·.1))).map _ = _
  rw [pairsK_tbl]; rfl
theorem ix_tbl {a b : Int} (h : (a, b) ∈ S) : index (.dt (tbl S f)) (.tup [.int a, .int b]) = some (.str (f a b)) := by
  show look (kp (a, b)) (tbl S f) = _
  rw [look_tbl, if_pos h]
theorem put_new {a b : Int} {x : Str} (h : (a, b) ∉ S) (hx : x = f a b) : putK (kp (a, b)) (.str x) (tbl S f) = tbl (S ++ [(a, b)]) f := by
  unfold putK
  rw [if_neg]
  · simp [tbl, hx]
  · simp [tbl, kp_inj, h]
theorem set_new {a b : Int} {x : Str} (h : (a, b) ∉ S) (hx : x = f a b) (hl : S.length < SZ) : setItem (.dt (tbl S f)) (.tup [.int a, .int b]) (.str x) = some (.dt (tbl (S ++ [(a, b)]) f)) := by
  show (tkeyOf (.tup [.int a, .int b])).bind (fun k => if (tbl S f).length < SZ then some (PV.dt (putK k (.str x) (tbl S f))) else none) = _
  rw [show tkeyOf (.tup [.int a, .int b]) = some (kp (a, b)) from rfl, Option.bind_some, if_pos (by rw [tbl_len]; exact hl), put_new h hx]
/-- who holds what -/
def rtOf (S : List (Int × Int)) (f : Int → Int → Str) (a b : Int) : Str := if (a, b) ∈ S then f a b else ""
theorem tb_tbl : Tb (tbl S f) (rtOf S f) := by
  intro a b
  show (look (kp (a, b)) (tbl S f)).getD _ = _
  rw [look_tbl]
  unfold rtOf
  split <;> rfl
theorem tb_perm {T : List (Int × Int)} (p : T.Perm S) : Tb (tbl T f) (rtOf S f) := by
  have : rtOf S f = rtOf T f := by
    funext a b
    unfold rtOf
    simp [p.mem_iff]
  rw [this]; exact tb_tbl
end
/-! rights -/
def rl : List Str := ["g", "r", "t", "w", "x", "gr", "gt", "gw", "gx", "rt", "rw", "rx", "tw", "tx", "wx", "grt", "grw", "grx", "gtw", "gtx", "gwx", "rtw", "rtx", "rwx", "twx", "grtw", "grtx", "grwx", "gtwx", "rtwx", "grtwx"]
theorem glb1 : glbT 1 = some (.str "grtwx") := rfl
theorem glb3 : glbT 3 = some (.str "DT") := rfl
theorem glb4 : glbT 4 = some (.int 16) := rfl
theorem glb5 : glbT 5 = some (.int 60) := rfl
@[simp] theorem glb_at {g : Nat} : (pctx P n).glb g = glbT g := congrFun PK.glb g
theorem itemsS_str {x : Str} : itemsS (.str x) = some (x.cps.toList.map fun c => .str ⟨#[c]⟩) := rfl
theorem right5 : itemsS (.str "grtwx") = some [.str ⟨#[103]⟩, .str ⟨#[114]⟩, .str ⟨#[116]⟩, .str ⟨#[119]⟩, .str ⟨#[120]⟩] := rfl
def keepC (x : Str) : PV → Option PV
  | .str ⟨⟨[c]⟩⟩ => if x.cps.toList.contains c then some (.str ⟨#[c]⟩) else none
  | _ => none
def five : List PV := [.str ⟨#[103]⟩, .str ⟨#[114]⟩, .str ⟨#[116]⟩, .str ⟨#[119]⟩, .str ⟨#[120]⟩]
theorem join_str {spl : Str → Str → Option (List Str)} {s : Str} {xs : List PV} {l : List Str} (h : Mini.strsM xs = some l) (hl : (l.map (·.length)).sum + l.length * s.length ≤ SZ) : method spl .join (.str s) [.lst xs] = some (.sh (.str (PySem.Str.join s l))) := by
  show (Mini.strsM xs).bind _ = _
  rw [h, Option.bind_some, if_pos hl]
theorem join_rl {spl : Str → Str → Option (List Str)} {x : Str} (h : x ∈ rl) : method spl .join (.str "") [.lst (five.filterMap (keepC x))] = some (.sh (.str x)) := by
  have key : ∀ y : Str, (∃ l, Mini.strsM (five.filterMap (keepC y)) = some l ∧ (l.map (·.length)).sum + l.length * ("" : Str).length ≤ SZ ∧ PySem.Str.join "" l = y) → method spl .join (.str "") [.lst (five.filterMap (keepC y))] = some (.sh (.str y)) := by
    rintro y ⟨l, e1, e2, e3⟩
    rw [join_str e1 e2, e3]
  refine key x ?_
  simp only [rl, List.mem_cons, List.not_mem_nil, or_false] at h
  rcases h with rfl | rfl | rfl | rfl | rfl | rfl | rfl | rfl | rfl | rfl | rfl | rfl | rfl | rfl | rfl | rfl | rfl | rfl | rfl | rfl | rfl | rfl | rfl | rfl | rfl | rfl | rfl | rfl | rfl | rfl | rfl
  all_goals exact ⟨_, rfl, by simp [SZ, PySem.Str.length, show (Str.ofString "").cps.size = 0 from rfl], rfl⟩
theorem c29 {x : Str} (h : x ∈ rl) : callF P (n + 1) 29 [.sh (.str x)] = .ok (.sh (.bl true)) [some (.sh (.str x))] := by
  rw [call_at (m := f29) rfl]
  refine ok_eq (ok_run rfl ?_)
  simp [f29, inits, outsOf, typeOk, typeIs, glb1, right5]
  refine wp_compF (keepC x) [some (.sh (.str x)), none] rfl (by simp [SZ]) ?_ ?_
  · intro y hy
    have : ∃ c, y = .str ⟨#[c]⟩ := by
      simp at hy
      rcases hy with rfl | rfl | rfl | rfl | rfl <;> exact ⟨_, rfl⟩
    obtain ⟨c, rfl⟩ := this
    by_cases e : c ∈ x.cps <;> simp [keepC, e, wp_frz]
  · intro s' hs
    have := join_rl (spl := (pctx P n).spl) h
    unfold five at this
    simp only [this, hs]
    simp [hs]

/-! kinds, handles -/
def ksOk (ks : Str) : Prop := 1 ≤ ks.length ∧ ks.length ≤ 16 ∧ ∀ c ∈ ks.cps.toList, c = 68 ∨ c = 84
theorem ks_sz {ks : Str} (h : ksOk ks) : ks.length ≤ SZ := Nat.le_trans h.2.1 (by decide)
theorem c45 {ks : Str} (h : ksOk ks) : callF P (n + 1) 45 [.sh (.str ks), .sh (.int 16)] = .ok (.sh (.bl true)) [some (.sh (.str ks)), some (.sh (.int 16))] := by
  rw [call_at (m := f45) rfl]
  refine ok_eq (ok_run rfl ?_)
  have h1 : (1 : Int) ≤ ks.length := by have := h.1; omega
  have h2 : (ks.length : Int) ≤ 16 := by have := h.2.1; omega
  simp [f45, inits, outsOf, typeOk, typeIs, ks_sz h, h1, h2, itemsS_str, glb3]
  refine wp_compM (fun _ => .bl true) [some (.sh (.str ks)), some (.sh (.int 16)), none] rfl ?_ ?_ ?_
  · have : (ks.cps.toList.map fun c => PV.str ⟨#[c]⟩).length = ks.length := by rw [List.length_map]; rfl
    have e : (ks.cps.toList.map fun c => PV.str ⟨#[c]⟩).length ≤ SZ := by rw [this]; exact ks_sz h
    exact e
  · intro x hx
    obtain ⟨c, hc, rfl⟩ := List.mem_map.mp hx
    have e1 : (Str.ofString "DT").cps = #[68, 84] := rfl
    rcases h.2.2 c hc with rfl | rfl <;> simp [wp_frz, e1, glb3]
  · intro s' hs
    have := bools_map (fun _ => true) (ks.cps.toList.map fun c => PV.str ⟨#[c]⟩)
    simp at this
    simp [hs, this]
section
variable {many a b : Int} {x : Str}
theorem rl_ne (h : x ∈ rl) : (x == "") = false := by
  simp only [rl, List.mem_cons, List.not_mem_nil, or_false] at h
  rcases h with rfl | rfl | rfl | rfl | rfl | rfl | rfl | rfl | rfl | rfl | rfl | rfl | rfl | rfl | rfl | rfl | rfl | rfl | rfl | rfl | rfl | rfl | rfl | rfl | rfl | rfl | rfl | rfl | rfl | rfl | rfl <;> rfl
@[simp] theorem ix3_0 {a b c : PV} : index (.tup [a, b, c]) (.int 0) = some a := rfl
@[simp] theorem ix3_1 {a b c : PV} : index (.tup [a, b, c]) (.int 1) = some b := rfl
@[simp] theorem ix3_2 {a b c : PV} : index (.tup [a, b, c]) (.int 2) = some c := rfl
@[simp] theorem slc_2 {a b c : PV} : slice (.tup [a, b, c]) .non (.int 2) = some (.tup [a, b]) := rfl
theorem c46 (ha : 0 ≤ a) (ha' : a < many) (hb : 0 ≤ b) (hb' : b < many) (hab : a ≠ b) (h : x ∈ rl) : callF P (n + 3) 46 [.sh (.int many), .sh (.tup [.int a, .int b, .str x])] = .ok (.sh (.bl true)) [some (.sh (.int many)), some (.sh (.tup [.int a, .int b, .str x]))] := by
  rw [call_at (m := f46) rfl]
  refine ok_eq (ok_run rfl ?_)
  have t1 : tyq (.tup [.int a, .int b, .str x]) := fun _ => rfl
  have t2 : ∀ i : Int, tyq (.int i) := fun _ _ => rfl
  have r1 : inR (.int a) 0 (many - 1) = true := by simp [inR]; omega
  have r2 : inR (.int b) 0 (many - 1) = true := by simp [inR]; omega
  simp [f46, inits, outsOf, lend_sh, back_sh, c25 t1 rfl, lenT, c23 (t2 _), r1, r2, hab, c29 h, rl_ne h]
end

section
variable {S : List (Int × Int)} {f : Int → Int → Str} {ks : Str}
def objV (ks : Str) (T : List (Int × Int)) (f : Int → Int → Str) : W := .obj 23 [(0, .sh (.str ks)), (1, .sh (.dt (tbl T f))), (2, .sh (.tup (T.map (rowV f))))]
@[simp] theorem in_prV {x : PV} {T : List (Int × Int)} : x ∈ T.map prV ↔ ∃ p ∈ T, prV p = x := List.mem_map
theorem prs_tbl {T : List (Int × Int)} : pairs (.dt (tbl T f)) = some (T.map fun p => .tup [prV p, .str (f p.1 p.2)]) := by
  show some ((tbl T f).map fun p => PV.tup [.tup (p.1.map pvKey), p.2]) = _
  simp [tbl, Function.comp_def, kp, pvKey, prV]
theorem c48 (hS : S.Nodup) (hl : S.length ≤ 60) (hf : ∀ p ∈ S, f p.1 p.2 ∈ rl) : callF P (n + 1) 48 [.obj 23 [], .sh (.str ks), .own (.dt (tbl S f))] = .ok (.sh .non) [some (objV ks (isort lexP S) f), some (.sh (.str ks)), some (.own (.dt (tbl S f)))] := by
  rw [call_at (m := f48) rfl]
  refine ok_eq (ok_run rfl ?_)
  simp [f48, inits, outsOf, PK.fok0, PK.fok1, PK.fok2, putF]
  refine wp_dc (fun r acc s => ∃ T1 T2, isort lexP S = T1 ++ T2 ∧ r = T2.map prV ∧ acc = .dt (tbl T1 f) ∧ wipe [3] s = [some (.obj 23 [(0, .sh (.str ks))]), some (.sh (.str ks)), some (.own (.dt (tbl S f))), none, none]) _ _ _ ⟨[], isort lexP S, rfl, rfl, rfl, rfl⟩ ?_ ?_
  · rintro x r acc s ⟨T1, T2, e1, e2, rfl, e4⟩
    cases T2 with
    | nil => cases e2
    | cons p T2 =>
      obtain ⟨a, b⟩ := p
      rw [List.map_cons, List.cons.injEq] at e2
      obtain ⟨rfl, rfl⟩ := e2
      have hm : (a, b) ∈ S := (Snd.isort_perm S).mem_iff.mp (by rw [e1]; simp)
      have hnd : (T1 ++ (a, b) :: T2).Nodup := by rw [← e1]; exact (Snd.isort_perm S).nodup_iff.mpr hS
      have hn : (a, b) ∉ T1 := fun h => by
        rw [List.nodup_append] at hnd
        exact hnd.2.2 _ h _ List.mem_cons_self rfl
      have hlen : T1.length < SZ := by
        have := (Snd.isort_perm (lt := lexP) S).length_eq
        rw [e1, List.length_append, List.length_cons] at this
        simp only [SZ]; omega
      simp [e4, prV, ix_tbl hm, rl_ne (hf _ hm), set_new (f := f) hn rfl hlen]
      exact ⟨T1 ++ [(a, b)], T2, by rw [e1]; simp, rfl, rfl⟩
  · rintro acc s ⟨T1, T2, e1, e2, rfl, e4⟩
    have : T2 = [] := by cases T2 with
      | nil => rfl
      | cons p r => cases e2
    subst this
    rw [List.append_nil] at e1
    subst e1
    simp [e4, PK.fok1, PK.fok2, putF, fldW, lookF, prs_tbl]
    refine wp_compM (fun x => match x with | .tup [.tup [.int a, .int b], c] => .tup [.int a, .int b, c] | _ => .non) [some (.obj 23 [(0, .sh (.str ks)), (1, .sh (.dt (tbl (isort lexP S) f)))]), some (.sh (.str ks)), some (.own (.dt (tbl S f))), none, none] rfl ?_ ?_ ?_
    · rw [List.length_map, (Snd.isort_perm S).length_eq]; simp only [SZ]; omega
    · intro x hx
      obtain ⟨p, _, rfl⟩ := List.mem_map.mp hx
      simp [prV, SZ]
    · intro s' hs
      simp [hs, PK.fok2, putF, objV, Function.comp_def, prV]
      exact fun _ _ _ => rfl
theorem enum_get {x : PV} : ∀ {xs : List PV} {k : Nat}, x ∈ enumFrom k xs → ∃ j : Nat, x = .tup [.int (k + j : Nat), xs.getD j .non] ∧ j < xs.length
  | [], _, h => by simp [enumFrom] at h
  | y :: ys, k, h => by
    rw [enumFrom, List.mem_cons] at h
    rcases h with rfl | h
    · exact ⟨0, rfl, by simp⟩
    · obtain ⟨j, e, l⟩ := enum_get h
      exact ⟨j + 1, by rw [e]; simp [Nat.add_assoc, Nat.add_comm 1], by simpa using l⟩
@[simp] theorem pctx_meth : (pctx P n).meth 23 1 = some 48 := PK.meth
@[simp] theorem pctx_init : (pctx P n).init 23 = some 47 := PK.init
/-- what a sorted table is -/
structure Rows (many : Int) (T : List (Int × Int)) (f : Int → Int → Str) : Prop where
  nd : T.Nodup
  len : T.length ≤ 60
  ok : ∀ p ∈ T, 0 ≤ p.1 ∧ p.1 < many ∧ 0 ≤ p.2 ∧ p.2 < many ∧ p.1 ≠ p.2 ∧ f p.1 p.2 ∈ rl
theorem lex_step {T : List (Int × Int)} (hs : T.Pairwise (fun a b => lexP b a = false)) (hn : T.Nodup) {j : Nat} (h : j + 1 < T.length) : cmpop .le (.tup [.int T[j + 1].1, .int T[j + 1].2]) (.tup [.int T[j].1, .int T[j].2]) = some false := by
  have h1 := List.pairwise_iff_getElem.mp hs j (j + 1) (by omega) h (by omega)
  have h2 := List.pairwise_iff_getElem.mp hn j (j + 1) (by omega) h (by omega)
  generalize T[j] = p at h1 h2 ⊢
  generalize T[j + 1] = q at h1 h2 ⊢
  obtain ⟨a, b⟩ := p
  obtain ⟨c, d⟩ := q
  show some (lexLe [c, d] [a, b]) = _
  simp only [lexLe]
  simp only [lexP] at h1
  have h3 : ¬ (a = c ∧ b = d) := fun h => h2 (by rw [h.1, h.2])
  by_cases e : c = a
  · subst e
    simp at h1 h3 ⊢
    by_cases e2 : d = b
    · exact absurd e2.symm h3
    · simp [e2]; omega
  · simp [e] at h1 ⊢; omega
theorem c47 {T : List (Int × Int)} (hk : ksOk ks) (hR : Rows ks.length T f) (hs : T.Pairwise (fun a b => lexP b a = false)) :
    callF P (n + 4) 47 [.obj 23 [], .sh (.str ks), .sh (.tup (T.map (rowV f)))] = .ok (.sh .non) [some (objV ks (isort lexP T) f), some (.sh (.str ks)), some (.sh (.tup (T.map (rowV f))))] := by
  rw [call_at (m := f47) rfl]
  refine ok_eq (ok_run rfl ?_)
  have hl : ¬ (60 : Int) < T.length := by have := hR.len; omega
  simp [f47, inits, outsOf, lend_sh, lend_obj, back_sh, back_none, glb4, g4, glb5, g5, c45 hk, typeOk, typeIs, hl]
  refine wp_forM (fun s => ∃ o3 o4, s = [some (.obj 23 []), some (.sh (.str ks)), some (.sh (.tup (T.map (rowV f)))), o3, o4, none, none, none]) ⟨none, none, rfl⟩ ?_ ?_
  · rintro x hx s ⟨o3, o4, rfl⟩
    obtain ⟨j, rfl, hj⟩ := enum_get hx
    have hj' : j < T.length := by simpa using hj
    have hx : (T.map (rowV f)).getD j .non = .tup [.int T[j].1, .int T[j].2, .str (f T[j].1 T[j].2)] := by simp [hj', rowV]
    rw [hx]
    obtain ⟨g1, g2, g3, g4, g5, g6⟩ := hR.ok _ (List.getElem_mem hj')
    cases j with
    | zero =>
      simp [ks_sz hk, lend_sh, back_sh, c46 g1 g2 g3 g4 g5 g6]
    | succ j =>
      have e1 : index (.tup (T.map (rowV f))) (.int j) = some (.tup [.int T[j].1, .int T[j].2, .str (f T[j].1 T[j].2)]) := by
        rw [paV_ix (by simp; omega)]
        simp [show j < T.length by omega, rowV]
      have e2 : (0 : Int) < (j : Int) + 1 := by omega
      simp [ks_sz hk, lend_sh, back_sh, c46 g1 g2 g3 g4 g5 g6, e1, e2, lex_step hs hR.nd hj']
  · rintro s ⟨o3, o4, rfl⟩
    simp
    refine wp_dc (fun r acc s => ∃ T1 T2, T = T1 ++ T2 ∧ r = T2.map (rowV f) ∧ acc = .dt (tbl T1 f) ∧ wipe [5, 6, 7] s = [some (.obj 23 []), some (.sh (.str ks)), some (.sh (.tup (T.map (rowV f)))), o3, o4, none, none, none]) _ _ _ ⟨[], T, rfl, rfl, rfl, rfl⟩ ?_ ?_
    · rintro x r acc s ⟨T1, T2, e1, e2, rfl, e4⟩
      cases T2 with
      | nil => cases e2
      | cons p T2 =>
        obtain ⟨a, b⟩ := p
        rw [List.map_cons, List.cons.injEq] at e2
        obtain ⟨rfl, rfl⟩ := e2
        have hnd : (T1 ++ (a, b) :: T2).Nodup := by rw [← e1]; exact hR.nd
        have hn : (a, b) ∉ T1 := fun h => by
          rw [List.nodup_append] at hnd
          exact hnd.2.2 _ h _ List.mem_cons_self rfl
        have hlen : T1.length < SZ := by
          have := hR.len
          rw [e1, List.length_append, List.length_cons] at this
          simp only [SZ]; omega
        simp [e4, rowV, set_new (f := f) hn rfl hlen, SZ]
        exact ⟨T1 ++ [(a, b)], T2, by rw [e1]; simp, rfl, rfl⟩
    · rintro acc s ⟨T1, T2, e1, e2, rfl, e4⟩
      have : T2 = [] := by cases T2 with
        | nil => rfl
        | cons p r => cases e2
      subst this
      rw [List.append_nil] at e1
      subst e1
      simp [e4, lend_obj, lend_sh, back_none, back_sh, c48 hR.nd hR.len fun p hp => (hR.ok p hp).2.2.2.2.2]
theorem c1006 {S : List (Int × Int)} (hk : ksOk ks) (hR : Rows ks.length S f) :
    callF P (n + 5) 1006 [.sh (paV ks (tbl S f))] = .ok (objV ks (isort lexP (isort lexP S)) f) [some (.sh (paV ks (tbl S f)))] := by
  rw [call_at (m := f1006) rfl]
  refine ok_eq (ok_run rfl ?_)
  simp [f1006, inits, outsOf, paV]
  refine wp_compM (fun x => match x with | .tup [.int a, .int b] => .tup [.int a, .int b, .str (f a b)] | _ => .non) [some (W.sh (PV.tup [PV.str ks, PV.dt (tbl S f)])), some (W.sh (PV.str ks)), some (W.sh (PV.dt (tbl S f))), none, none] rfl ?_ ?_ ?_
  · rw [List.length_map, (Snd.isort_perm S).length_eq]; have := hR.len; simp only [SZ]; omega
  · intro x hx
    obtain ⟨p, hp, rfl⟩ := List.mem_map.mp hx
    have hp : (p.1, p.2) ∈ S := (Snd.isort_perm S).mem_iff.mp hp
    simp [prV, SZ, ix_tbl hp]
  · intro s' hs
    have e : ((isort lexP S).map prV).map (fun x => match x with | .tup [.int a, .int b] => PV.tup [.int a, .int b, .str (f a b)] | _ => .non) = (isort lexP S).map (rowV f) := by
      rw [List.map_map]; rfl
    rw [e]
    have hR' : Rows ks.length (isort lexP S) f := ⟨(Snd.isort_perm S).nodup_iff.mpr hR.nd, by rw [(Snd.isort_perm S).length_eq]; exact hR.len, fun p hp => hR.ok p ((Snd.isort_perm S).mem_iff.mp hp)⟩
    simp [hs, lend_sh, back_sh, c47 hk hR' (Snd.isort_srt Snd.lexB_swo S)]
end
end Mini
end

section
set_option linter.all false
set_option maxRecDepth 100000
set_option maxHeartbeats 0
namespace Mini
open PySem (Str)
variable {P : Prog} [PK P] {n : Nat}
/-- letters put together -/
theorem join1 : ∀ (cs : List Nat), 1 ≤ cs.length → (PySem.Str.join "" (cs.map fun c => (⟨#[c]⟩ : Str))).cps.toList = cs
  | [], h => absurd h (by simp)
  | c :: cs, _ => by
    have key : ∀ (r : List Nat) (x : Str), (PySem.Str.join "" (x :: r.map fun c => (⟨#[c]⟩ : Str))).cps.toList = x.cps.toList ++ r := by
      intro r
      induction r with
      | nil => intro x; simp [PySem.Str.join]
      | cons d r ih =>
        intro x
        have e : PySem.Str.join "" (x :: (⟨#[d]⟩ : Str) :: r.map fun c => (⟨#[c]⟩ : Str)) = x ++ "" ++ PySem.Str.join "" ((⟨#[d]⟩ : Str) :: r.map fun c => (⟨#[c]⟩ : Str)) := rfl
        rw [List.map_cons, e]
        show (x.cps ++ (Str.ofString "").cps ++ (PySem.Str.join "" _).cps).toList = _
        rw [Array.toList_append, Array.toList_append, ih]
        simp [show (Str.ofString "").cps = #[] from rfl]
    exact key cs ⟨#[c]⟩

theorem strs_map : ∀ cs : List Nat, Mini.strsM (cs.map fun c => PV.str ⟨#[c]⟩) = some (cs.map fun c => (⟨#[c]⟩ : Str))
  | [] => rfl
  | c :: cs => by rw [List.map_cons, Mini.strsM, strs_map cs]; rfl
/-- a text of letters -/
theorem join_cs {spl : Str → Str → Option (List Str)} {cs : List Nat} (h : cs.length ≤ 1000) : method spl .join (.str "") [.lst (cs.map fun c => .str ⟨#[c]⟩)] = some (.sh (.str (PySem.Str.join "" (cs.map fun c => (⟨#[c]⟩ : Str))))) := by
  refine join_str (strs_map cs) ?_
  have e : ((cs.map fun c => (⟨#[c]⟩ : Str)).map (·.length)).sum = cs.length := by
    induction cs with
    | nil => rfl
    | cons c cs ih =>
      rw [List.map_cons, List.map_cons, List.sum_cons, ih (by rw [List.length_cons] at h; omega), List.length_cons]
      show 1 + _ = _
      omega
  rw [e, List.length_map, show ("" : Str).length = 0 from rfl]
  simp only [SZ]; omega
theorem join_ok {cs : List Nat} (h1 : 1 ≤ cs.length) (h2 : cs.length ≤ 16) (h : ∀ c ∈ cs, c = 68 ∨ c = 84) : ksOk (PySem.Str.join "" (cs.map fun c => (⟨#[c]⟩ : Str))) ∧ (PySem.Str.join "" (cs.map fun c => (⟨#[c]⟩ : Str))).length = cs.length := by
  have e := join1 cs h1
  have l : (PySem.Str.join "" (cs.map fun c => (⟨#[c]⟩ : Str))).length = cs.length := by
    show (PySem.Str.join "" _).cps.size = _
    rw [← Array.length_toList, e]
  exact ⟨⟨by omega, by omega, by rw [e]; exact h⟩, l⟩
theorem rng_items {k : Int} : items (.rng 0 k) = some ((List.range k.toNat).map fun (j : Nat) => .int j) := by
  show some ((List.range (k - 0).toNat).map fun (j : Nat) => PV.int (0 + j)) = _
  simp
theorem rng_1 {rp : PV → Option Str} {k : Int} (h0 : 0 ≤ k) (h1 : k < 1073741824) : builtin rp .rng [.int k] = some (.sh (.rng 0 k)) := bi_rng1 (by simp; omega)
/-! the table, changed -/
def Tab (many : Int) (l : Nat) (t : PV) : Prop := ∃ S f, t = .dt (tbl S f) ∧ S.Nodup ∧ S.length ≤ l ∧ ∀ p ∈ S, 0 ≤ p.1 ∧ p.1 < many ∧ 0 ≤ p.2 ∧ p.2 < many ∧ p.1 ≠ p.2 ∧ f p.1 p.2 ∈ rl
def upd (f : Int → Int → Str) (a b : Int) (x : Str) (i j : Int) : Str := if (i, j) = (a, b) then x else f i j
theorem set_upd {S : List (Int × Int)} {f : Int → Int → Str} {a b : Int} {x : Str} (hl : S.length < SZ) : setItem (.dt (tbl S f)) (.tup [.int a, .int b]) (.str x) = some (.dt (tbl (if (a, b) ∈ S then S else S ++ [(a, b)]) (upd f a b x))) := by
  show (tkeyOf (.tup [.int a, .int b])).bind (fun k => if (tbl S f).length < SZ then some (PV.dt (putK k (.str x) (tbl S f))) else none) = _
  rw [show tkeyOf (.tup [.int a, .int b]) = some (kp (a, b)) from rfl, Option.bind_some, if_pos (by rw [tbl_len]; exact hl)]
  congr 2
  unfold putK
  by_cases h : (a, b) ∈ S
  · rw [if_pos (by simp [tbl, kp_inj]; exact h), if_pos h]
    simp only [tbl, List.map_map, Function.comp_def, kp_inj]
    apply List.map_congr_left
    intro p _
    by_cases e : p = (a, b)
    · subst e; simp [upd]
    · rw [if_neg e]
      have : upd f a b x p.1 p.2 = f p.1 p.2 := by
        unfold upd; rw [if_neg e]
      rw [this]
  · rw [if_neg (by simp [tbl, kp_inj, h]), if_neg h]
    simp only [tbl, List.map_append, List.map_cons, List.map_nil]
    congr 1
    · apply List.map_congr_left
      intro p hp
      have e : ¬ (p.1, p.2) = (a, b) := fun e => h (e ▸ hp)
      have : upd f a b x p.1 p.2 = f p.1 p.2 := by
        unfold upd; rw [if_neg e]
      rw [this]
    · simp [upd]
theorem tab_set {many : Int} {l : Nat} {t : PV} {a b : Int} {x : Str} (h : Tab many l t) (hl : l < 1000) (ha : 0 ≤ a ∧ a < many) (hb : 0 ≤ b ∧ b < many) (hab : a ≠ b) (hx : x ∈ rl) : ∃ t', setItem t (.tup [.int a, .int b]) (.str x) = some t' ∧ Tab many (l + 1) t' := by
  obtain ⟨S, f, rfl, h1, h2, h3⟩ := h
  refine ⟨_, set_upd (by simp only [SZ]; omega), _, _, rfl, ?_, ?_, ?_⟩
  · split
    · exact h1
    · rename_i hn
      rw [List.nodup_append]
      refine ⟨h1, by simp, ?_⟩
      intro p hp q hq e
      rw [List.mem_singleton] at hq
      subst hq; subst e
      exact hn hp
  · split
    · omega
    · simp; omega
  · intro p hp
    by_cases e : p = (a, b)
    · subst e
      exact ⟨ha.1, ha.2, hb.1, hb.2, hab, by simp [upd, hx]⟩
    · have hp : p ∈ S := by
        split at hp
        · exact hp
        · rw [List.mem_append, List.mem_singleton] at hp
          exact hp.resolve_right e
      have : upd f a b x p.1 p.2 = f p.1 p.2 := by
        unfold upd; rw [if_neg e]
      rw [this]
      exact h3 p hp

/-- parts drawn -/
def Drawn (M : Int) (pa : PV) : Prop := ∃ ks S f, pa = paV ks (tbl S f) ∧ ksOk ks ∧ (ks.length : Int) ≤ M ∧ Rows ks.length S f ∧ S.length ≤ 32
def vD : PV := .str "D"
def vT : PV := .str "T"
theorem mod_ne {a d m : Int} (ha : 0 ≤ a) (ha' : a < m) (hd : 0 ≤ d) (hd' : d < m - 1) : a ≠ (a + 1 + d).fmod m ∧ 0 ≤ (a + 1 + d).fmod m ∧ (a + 1 + d).fmod m < m := by
  have h0 : 0 < m := by omega
  refine ⟨?_, Int.fmod_nonneg_of_pos _ h0, Int.fmod_lt_of_pos _ h0⟩
  rw [Int.fmod_eq_emod_of_nonneg _ (by omega)]
  intro e
  have h := Int.emod_def (a + 1 + d) m
  rw [← e] at h
  have h2 : m * ((a + 1 + d) / m) = 1 + d := by omega
  rcases Int.lt_or_le 0 ((a + 1 + d) / m) with q | q
  · have := Int.mul_le_mul_of_nonneg_left (show (1 : Int) ≤ (a + 1 + d) / m by omega) (show 0 ≤ m by omega)
    omega
  · have := Int.mul_le_mul_of_nonneg_left q (show 0 ≤ m by omega)
    omega
theorem any_DT {h : PV} (hh : HandV h) : anyV P n h [vD, vD, vT] = vD ∨ anyV P n h [vD, vD, vT] = vT := by
  have := any_mem (P := P) (n := n) (xs := [vD, vD, vT]) hh (by simp) (by simp)
  simpa using this
def rights13 : List PV := [.str "t", .str "t", .str "t", .str "g", .str "g", .str "r", .str "w", .str "gt", .str "gt", .str "rw", .str "x", .str "tx", .str "grtwx"]
theorem any_13 {h : PV} (hh : HandV h) : ∃ x, anyV P n h rights13 = .str x ∧ x ∈ rl := by
  have := any_mem (P := P) (n := n) (xs := rights13) hh (by decide) (by decide)
  simp only [rights13, List.mem_cons, List.not_mem_nil, or_false] at this
  rcases this with e | e | e | e | e | e | e | e | e | e | e | e | e <;> exact ⟨_, e, by simp [rl]⟩
theorem drawn {M : Int} (M0 : 1 ≤ M) (M1 : M ≤ 16) {h : PV} (hh : HandV h) : Ok (callF P (n + 5) 1005 [.own h, .sh (.int M)]) fun w o => ∃ pa h', w = .sh pa ∧ Drawn M pa ∧ HandV h' ∧ o = [some (.own h'), some (.sh (.int M))] := by
  rw [call_at (m := f1005) rfl]
  refine ok_run rfl ?_
  simp only [f1005, inits, outsOf]
  rw [ss_cons]
  refine Wp.mono (Q := fun fl s => fl = .nx ∧ ∃ h' m, HandV h' ∧ 1 ≤ m ∧ m ≤ M ∧ s = [some (.own h'), some (.sh (.int M)), some (.sh (.int m)), none, none, none, none, none, none]) ?_ ?_
  · have d0 := draw_0 (P := P) (n := n + 3) hh (m := M) (by omega) (by omega)
    have d1 := draw_lt (P := P) (n := n + 3) hh (m := M) (by omega) (by omega)
    have d2 := draw_h (P := P) (n := n + 3) hh (m := M) (by omega) (by omega)
    have d3 := draw_eq (P := P) (n := n + 3) hh (m := M) (by omega) (by omega)
    simp [lend_own, lend_sh, back_none, back_sh, d3]
    exact ⟨_, d2, _, by omega, by omega, rfl, rfl⟩
  rintro _ _ ⟨rfl, h, m, hh, m1, m2, rfl⟩
  rw [then_nx, ss_cons]
  refine Wp.mono (Q := fun fl s => fl = .nx ∧ ∃ h' ks, HandV h' ∧ ksOk ks ∧ ks.length = m ∧ s = [some (.own h'), some (.sh (.int M)), some (.sh (.int m)), some (.sh (.str ks)), none, none, none, none, none]) ?_ ?_
  · simp [rng_1 (show (0 : Int) ≤ m by omega) (show m < 1073741824 by omega), rng_items]
    refine wp_comp (fun r acc s => ∃ h' cs, HandV h' ∧ wipe [4] s = [some (.own h'), some (.sh (.int M)), some (.sh (.int m)), none, none, none, none, none, none] ∧ acc = cs.map (fun c => .str ⟨#[c]⟩) ∧ (∀ c ∈ cs, c = 68 ∨ c = 84) ∧ cs.length + r.length = m) _ _ _ ⟨h, [], hh, rfl, rfl, by simp, by simp; omega⟩ (by simp [SZ]; omega) ?_ ?_
    · rintro x r acc s ⟨h', cs, hh', e1, rfl, e3, e4⟩
      have d2 := any_h (P := P) (n := n + 2) hh' (xs := [vD, vD, vT]) (by decide) (by decide)
      have e5 := any_eq (P := P) (n := n + 2) hh' (xs := [vD, vD, vT]) (by decide) (by decide)
      have e6 := any_DT (P := P) (n := n + 2) hh'
      simp only [vD, vT] at d2 e5 e6
      simp [e1, lend_own, back_none, e5, SZ]
      refine ⟨_, d2, rfl, ?_⟩
      rw [List.length_cons] at e4
      rcases e6 with e6 | e6
      · refine ⟨cs ++ [68], by rw [e6]; simp; rfl, ?_, by simp; omega⟩
        intro c hc
        rw [List.mem_append, List.mem_singleton] at hc
        rcases hc with hc | rfl
        · exact e3 c hc
        · exact .inl rfl
      · refine ⟨cs ++ [84], by rw [e6]; simp; rfl, ?_, by simp; omega⟩
        intro c hc
        rw [List.mem_append, List.mem_singleton] at hc
        rcases hc with hc | rfl
        · exact e3 c hc
        · exact .inr rfl
    · rintro acc s ⟨h', cs, hh', e1, rfl, e3, e4⟩
      have e4 : (cs.length : Int) = m := by simpa using e4
      have k := join_ok (cs := cs) (by omega) (by omega) e3
      simp [e1, join_cs (cs := cs) (by omega)]
      exact ⟨_, hh', _, k.1, by rw [k.2]; exact e4, rfl, rfl⟩
  rintro _ _ ⟨rfl, h, ks, hh, hk, hkm, rfl⟩
  rw [then_nx, ss_cons]
  refine Wp.mono (Q := fun fl s => fl = .nx ∧ s = [some (.own h), some (.sh (.int M)), some (.sh (.int m)), some (.sh (.str ks)), none, some (.own (.dt [])), none, none, none]) ?_ ?_
  · simp
  rintro _ _ ⟨rfl, rfl⟩
  rw [then_nx, ss_cons, s_fors]
  refine Wp.mono (Q := fun xs s => ∃ h' k, HandV h' ∧ k ≤ 32 ∧ (m = 1 → k = 0) ∧ xs = (List.range k).map (fun (j : Nat) => .int j) ∧ s = [some (.own h'), some (.sh (.int M)), some (.sh (.int m)), some (.sh (.str ks)), none, some (.own (.dt [])), none, none, none]) ?_ ?_
  · by_cases hm : 1 < m
    · have d0 := draw_0 (P := P) (n := n + 3) hh (m := 2 * m + 1) (by omega) (by omega)
      have d1 := draw_lt (P := P) (n := n + 3) hh (m := 2 * m + 1) (by omega) (by omega)
      have d2 := draw_h (P := P) (n := n + 3) hh (m := 2 * m + 1) (by omega) (by omega)
      have d3 := draw_eq (P := P) (n := n + 3) hh (m := 2 * m + 1) (by omega) (by omega)
      have s2 : small 2 = true := rfl
      simp [hm, lend_own, back_none, s2, d3, rng_1 d0 (show _ < 1073741824 by omega), rng_items]
      exact ⟨_, d2, (dI P (n + 3) h (2 * m + 1)).toNat, by omega, fun e => by omega, rfl, rfl⟩
    · have : m = 1 := by omega
      subst this
      simp [rng_1, rng_items]
      exact ⟨_, hh, 0, by omega, rfl, rfl⟩
  rintro _ _ ⟨h, k, hh, hk32, hk1, rfl, rfl⟩
  refine wp_for (fun r s => ∃ h' t o6 o7 o8 j, HandV h' ∧ Tab m j t ∧ j + r.length ≤ 32 ∧ (∀ x ∈ r, ∃ i : Int, x = .int i ∧ 0 ≤ i) ∧ (r ≠ [] → 1 < m) ∧ s = [some (.own h'), some (.sh (.int M)), some (.sh (.int m)), some (.sh (.str ks)), none, some (.own t), o6, o7, o8]) _ _ ⟨h, _, none, none, none, 0, hh, ⟨[], fun _ _ => "", rfl, by simp, by simp, by simp⟩, by simpa using hk32, ?_, ?_, rfl⟩ ?_ ?_
  · intro x hx
    obtain ⟨j, _, rfl⟩ := List.mem_map.mp hx
    exact ⟨j, rfl, by omega⟩
  · intro hne
    by_cases e : m = 1
    · rw [hk1 e] at hne; exact absurd rfl hne
    · omega
  · rintro x r s ⟨h, t, o6, o7, o8, j, hh, ht, hj, hx, hm, rfl⟩
    obtain ⟨i, rfl, hi⟩ := hx _ List.mem_cons_self
    have hm := hm (by simp)
    rw [List.length_cons] at hj
    simp only [g_nm, put_m, setS_0, setS_s, Option.map_some]
    rw [ss_cons]
    refine Wp.mono (Q := fun fl s => fl = .nx ∧ ∃ h' a, HandV h' ∧ 0 ≤ a ∧ a < m ∧ s = [some (.own h'), some (.sh (.int M)), some (.sh (.int m)), some (.sh (.str ks)), none, some (.own t), some (.sh (.int i)), some (.sh (.int a)), o8]) ?_ ?_
    · have d2 := draw_h (P := P) (n := n + 3) hh (m := 2) (by decide) (by decide)
      have d3 := draw_eq (P := P) (n := n + 3) hh (m := 2) (by decide) (by decide)
      by_cases c1 : i < m
      · by_cases c2 : dI P (n + 3) h 2 = 0
        · simp [lend_own, back_none, c1, d3, c2]
          exact ⟨_, d2, _, hi, c1, rfl, rfl⟩
        · have g0 := draw_0 (P := P) (n := n + 3) d2 (m := m) (by omega) (by omega)
          have g1 := draw_lt (P := P) (n := n + 3) d2 (m := m) (by omega) (by omega)
          have g2 := draw_h (P := P) (n := n + 3) d2 (m := m) (by omega) (by omega)
          have g3 := draw_eq (P := P) (n := n + 3) d2 (m := m) (by omega) (by omega)
          simp [lend_own, lend_sh, back_sh, back_none, c1, d3, c2, g3]
          exact ⟨_, g2, _, g0, g1, rfl, rfl⟩
      · have g0 := draw_0 (P := P) (n := n + 3) hh (m := m) (by omega) (by omega)
        have g1 := draw_lt (P := P) (n := n + 3) hh (m := m) (by omega) (by omega)
        have g2 := draw_h (P := P) (n := n + 3) hh (m := m) (by omega) (by omega)
        have g3 := draw_eq (P := P) (n := n + 3) hh (m := m) (by omega) (by omega)
        simp [lend_own, lend_sh, back_sh, back_none, c1, g3]
        exact ⟨_, g2, _, g0, g1, rfl, rfl⟩
    rintro _ _ ⟨rfl, h, a, hh, a0, a1, rfl⟩
    rw [then_nx, ss_cons]
    refine Wp.mono (Q := fun fl s => fl = .nx ∧ ∃ h' b, HandV h' ∧ 0 ≤ b ∧ b < m ∧ a ≠ b ∧ s = [some (.own h'), some (.sh (.int M)), some (.sh (.int m)), some (.sh (.str ks)), none, some (.own t), some (.sh (.int i)), some (.sh (.int a)), some (.sh (.int b))]) ?_ ?_
    · have d2 := draw_h (P := P) (n := n + 3) hh (m := 2) (by decide) (by decide)
      have d3 := draw_eq (P := P) (n := n + 3) hh (m := 2) (by decide) (by decide)
      have m0 : m ≠ 0 := by omega
      by_cases c2 : dI P (n + 3) h 2 = 0
      · have q := mod_ne a0 a1 (d := 0) (by omega) (by omega)
        rw [Int.add_zero] at q
        simp [lend_own, back_none, d3, c2, m0]
        exact ⟨_, d2, _, q.2.1, q.2.2, q.1, rfl, rfl⟩
      · have g0 := draw_0 (P := P) (n := n + 3) d2 (m := m - 1) (by omega) (by omega)
        have g1 := draw_lt (P := P) (n := n + 3) d2 (m := m - 1) (by omega) (by omega)
        have g2 := draw_h (P := P) (n := n + 3) d2 (m := m - 1) (by omega) (by omega)
        have g3 := draw_eq (P := P) (n := n + 3) d2 (m := m - 1) (by omega) (by omega)
        have q := mod_ne a0 a1 g0 (by omega)
        simp [lend_own, lend_sh, back_sh, back_none, d3, c2, g3, m0]
        exact ⟨_, g2, _, q.2.1, q.2.2, q.1, rfl, rfl⟩
    rintro _ _ ⟨rfl, h, b, hh, b0, b1, hab, rfl⟩
    rw [then_nx, ss_cons]
    refine Wp.mono (Q := fun fl s => fl = .nx ∧ ∃ h' a b, HandV h' ∧ 0 ≤ a ∧ a < m ∧ 0 ≤ b ∧ b < m ∧ a ≠ b ∧ s = [some (.own h'), some (.sh (.int M)), some (.sh (.int m)), some (.sh (.str ks)), none, some (.own t), some (.sh (.int i)), some (.sh (.int a)), some (.sh (.int b))]) ?_ ?_
    · have d2 := draw_h (P := P) (n := n + 3) hh (m := 3) (by decide) (by decide)
      have d3 := draw_eq (P := P) (n := n + 3) hh (m := 3) (by decide) (by decide)
      by_cases c2 : dI P (n + 3) h 3 = 0
      · simp [lend_own, back_none, d3, c2]
        exact ⟨_, d2, b, b0, b1, a, a0, a1, fun e => hab e.symm, rfl, rfl, rfl⟩
      · simp [lend_own, back_none, d3, c2]
        exact ⟨_, d2, a, a0, a1, b, b0, b1, hab, rfl, rfl, rfl⟩
    rintro _ _ ⟨rfl, h, a, b, hh, a0, a1, b0, b1, hab, rfl⟩
    have d2 := any_h (P := P) (n := n + 2) hh (xs := rights13) (by decide) (by decide)
    have e5 := any_eq (P := P) (n := n + 2) hh (xs := rights13) (by decide) (by decide)
    obtain ⟨x, e6, hx2⟩ := any_13 (P := P) (n := n + 2) hh
    obtain ⟨t', e7, ht'⟩ := tab_set (x := x) ht (by omega) ⟨a0, a1⟩ ⟨b0, b1⟩ hab hx2
    simp only [rights13] at d2 e5 e6
    simp [lend_own, back_none, e5, e6, SZ, e7]
    exact ⟨_, d2, _, _, _, _, j + 1, ht', by omega, fun x m => hx x (List.mem_cons_of_mem _ m), fun _ => hm, rfl, rfl, rfl, rfl, rfl⟩
  · rintro s ⟨h, t, o6, o7, o8, j, hh, ⟨S, f, rfl, t1, t2, t3⟩, hj, _, _, rfl⟩
    simp [SZ]
    exact ⟨⟨ks, S, f, rfl, hk, by omega, ⟨t1, by omega, fun p hp => by rw [hkm]; exact t3 p hp⟩, by omega⟩, hh⟩
end Mini
end

section
set_option linter.all false
set_option maxRecDepth 100000
set_option maxHeartbeats 0
namespace Mini
open PySem (Str)
variable {P : Prog} [PK P] {n : Nat}
/-- a path, as members and words -/
structure Pth (k : Nat) (rt : Int → Int → Str) (ms ws : List PV) : Prop where
  len : ms.length = ws.length + 1
  mem : ∀ m ∈ ms, inR m 0 (k - 1) = true
  wds : ∀ w ∈ ws, isW w = true
  lnk : links rt ms ws = true
theorem Pth.pathB {k : Nat} {rt : Int → Int → Str} {ms ws : List PV} (h : Pth k rt ms ws) : pathB k rt (.tup [.tup ms, .tup ws]) = true := by
  have h1 : ms.all (fun m => inR m 0 (k - 1)) = true := List.all_eq_true.mpr h.mem
  have h2 : ws.all isW = true := List.all_eq_true.mpr h.wds
  simp only [Mini.pathB, h1, h2, h.lnk, h.len, beq_self_eq_true, Bool.and_self]
theorem links_snoc {rt : Int → Int → Str} {b w : PV} : ∀ {ms ws : List PV} {a : PV}, ms.length = ws.length + 1 → ms.getLast? = some a → links rt (ms ++ [b]) (ws ++ [w]) = (links rt ms ws && lnkV rt a b w)
  | [], ws, a, h, _ => by simp at h
  | [x], [], a, _, e => by
    cases e
    simp [links]
  | [x], w1 :: ws, a, h, _ => by simp at h
  | x :: y :: r, [], a, h, _ => by simp at h
  | x :: y :: r, w1 :: ws, a, h, e => by
    have ih := links_snoc (rt := rt) (b := b) (w := w) (ms := y :: r) (ws := ws) (a := a) (by simpa using h) (by simpa using e)
    simp only [List.cons_append, links] at ih ⊢
    rw [ih, Bool.and_assoc]
theorem Pth.snoc {k : Nat} {rt : Int → Int → Str} {ms ws : List PV} {a b w : PV} (h : Pth k rt ms ws) (ha : ms.getLast? = some a) (hb : inR b 0 (k - 1) = true) (hw : isW w = true) (hl : lnkV rt a b w = true) : Pth k rt (ms ++ [b]) (ws ++ [w]) := by
  refine ⟨by simp [h.len], ?_, ?_, by rw [links_snoc h.len ha, h.lnk, hl]; rfl⟩
  · intro m hm
    rw [List.mem_append, List.mem_singleton] at hm
    rcases hm with hm | rfl
    · exact h.mem m hm
    · exact hb
  · intro m hm
    rw [List.mem_append, List.mem_singleton] at hm
    rcases hm with hm | rfl
    · exact h.wds m hm
    · exact hw
theorem ix_last {ms : List PV} {a : PV} (h : ms.getLast? = some a) : index (.lst ms) (.int (-1)) = some a := by
  have hl : 0 < ms.length := by
    cases ms with
    | nil => cases h
    | cons _ _ => simp
  show (ixN ms.length (-1)).bind _ = _
  unfold ixN
  rw [if_neg (by decide), if_pos (by omega)]
  rw [Option.bind_some]
  rw [List.getLast?_eq_getElem?] at h
  rw [← h]
  congr 1
  omega
theorem mut_app {xs : List PV} {v : PV} (h : xs.length < SZ) : mutate .append (.lst xs) [v] = some (.non, .lst (xs ++ [v])) := by
  show (if _ then _ else _) = _
  rw [if_pos h]
theorem mut_ext {xs ys : List PV} (h : xs.length + ys.length ≤ SZ) : mutate .extend (.lst xs) [.lst ys] = some (.non, .lst (xs ++ ys)) := by
  show (if _ then _ else _) = _
  rw [if_pos h]
@[simp] theorem isLst_lst {xs : List PV} : isLst (.lst xs) = true := rfl
theorem w8_str {w : PV} (h : w ∈ words8) : ∃ x, w = .str x := by
  simp only [words8, List.mem_cons, List.not_mem_nil, or_false] at h
  rcases h with rfl | rfl | rfl | rfl | rfl | rfl | rfl | rfl <;> exact ⟨_, rfl⟩
theorem w8_ex {w : PV} (h : w ∈ words8) : ∃ c0 c1, w = .str ⟨#[c0, c1]⟩ ∧ (c1 = 60 ∨ c1 = 62) ∧ isW w = true := by
  obtain ⟨x, rfl⟩ := w8_str h
  have e : isW (.str x) = true := by
    rw [← words8_in]
    exact List.any_eq_true.mpr ⟨_, h, by simp⟩
  obtain ⟨c0, c1, e2⟩ := isW_str e
  rw [e2] at e ⊢
  refine ⟨c0, c1, rfl, ?_, e⟩
  simp [isW] at e
  exact e.2
theorem rng_itemsN {k : Nat} : items (.rng 0 k) = some ((List.range k).map fun (j : Nat) => .int j) := by rw [rng_items, Int.toNat_natCast]
section
variable {ks : Str} {tb : List (List Key × PV)} {rt : Int → Int → Str}
/-- links on from a member -/
def Step (k : Nat) (rt : Int → Int → Str) (wl : List PV) (a : PV) (t : PV) : Prop := ∃ b w, t = .tup [b, w] ∧ inR b 0 (k - 1) = true ∧ isW w = true ∧ lnkV rt a b w = true ∧ w ∈ wl
def stepO (rt : Int → Int → Str) (a w : PV) (b : PV) : Option PV := if lnkV rt a b w = true then some (.tup [b, w]) else none
theorem walk (ht : Tb tb rt) (hk : ksOk ks) {h : PV} (hh : HandV h) {st most : Int} (h0 : 0 ≤ st) (h1 : st < ks.length) (m0 : 0 ≤ most) (m1 : most ≤ 80) {wl : List PV} (hW : ∀ w ∈ wl, w ∈ words8) (hWl : wl.length ≤ 8) :
    Ok (callF P (n + 5) 1010 [.own h, .sh (paV ks tb), .sh (.int st), .sh (.tup wl), .sh (.int most)]) fun w o => ∃ ms ws h', w = .sh (.tup [.tup ms, .tup ws]) ∧ Pth ks.length rt ms ws ∧ ms.length ≤ most.toNat + 1 ∧ (∀ w ∈ ws, w ∈ wl) ∧ ms.head? = some (.int st) ∧ HandV h' ∧ o = [some (.own h'), some (.sh (paV ks tb)), some (.sh (.int st)), some (.sh (.tup wl)), some (.sh (.int most))] := by
  rw [call_at (m := f1010) rfl]
  refine ok_run rfl ?_
  simp only [f1010, inits, outsOf]
  rw [ss_cons]
  refine Wp.mono (Q := fun fl s => fl = .nx ∧ s = [some (.own h), some (.sh (paV ks tb)), some (.sh (.int st)), some (.sh (.tup wl)), some (.sh (.int most)), some (.own (.lst [.int st])), some (.own (.lst [])), none, none, none, none]) ?_ ?_
  · simp [SZ]
  rintro _ _ ⟨rfl, rfl⟩
  rw [then_nx, ss_cons, s_fors]
  refine Wp.mono (Q := fun xs s => xs = (List.range most.toNat).map (fun (j : Nat) => .int j) ∧ s = [some (.own h), some (.sh (paV ks tb)), some (.sh (.int st)), some (.sh (.tup wl)), some (.sh (.int most)), some (.own (.lst [.int st])), some (.own (.lst [])), none, none, none, none]) ?_ ?_
  · simp [rng_1 m0 (show most < 1073741824 by omega), rng_items]
  rintro _ _ ⟨rfl, rfl⟩
  refine wp_for (fun r s => ∃ h' ms ws o7 o8 o9 o10, HandV h' ∧ Pth ks.length rt ms ws ∧ ms.length + r.length ≤ most.toNat + 1 ∧ (∀ w ∈ ws, w ∈ wl) ∧ ms.head? = some (.int st) ∧ s = [some (.own h'), some (.sh (paV ks tb)), some (.sh (.int st)), some (.sh (.tup wl)), some (.sh (.int most)), some (.own (.lst ms)), some (.own (.lst ws)), o7, o8, o9, o10]) _ _ ⟨h, [.int st], [], none, none, none, none, hh, ⟨rfl, ?_, by simp, rfl⟩, by simp; omega, by simp, rfl, rfl⟩ ?_ ?_
  · intro m hm
    rw [List.mem_singleton] at hm
    subst hm
    simp [inR]; omega
  · rintro x r s ⟨h, ms, ws, o7, o8, o9, o10, hh, hp, hl, hwm, hhd, rfl⟩
    rw [List.length_cons] at hl
    obtain ⟨a, ha⟩ : ∃ a, ms.getLast? = some a := by
      cases e : ms.getLast? with
      | some a => exact ⟨a, rfl⟩
      | none =>
        rw [List.getLast?_eq_none_iff] at e
        have := hp.len
        rw [e] at this; simp at this
    obtain ⟨ai, rfl⟩ := inR_int (hp.mem a (List.mem_of_getLast? ha))
    simp only [g_nm, put_m, setS_0, setS_s, Option.map_some]
    rw [ss_cons]
    refine Wp.mono (Q := fun fl s => fl = .nx ∧ s = [some (.own h), some (.sh (paV ks tb)), some (.sh (.int st)), some (.sh (.tup wl)), some (.sh (.int most)), some (.own (.lst ms)), some (.own (.lst ws)), some (.sh x), some (.own (.lst [])), o9, o10]) ?_ ?_
    · simp [SZ]
    rintro _ _ ⟨rfl, rfl⟩
    rw [then_nx, ss_cons, s_fors]
    refine Wp.mono (Q := fun xs s => xs = wl ∧ s = [some (.own h), some (.sh (paV ks tb)), some (.sh (.int st)), some (.sh (.tup wl)), some (.sh (.int most)), some (.own (.lst ms)), some (.own (.lst ws)), some (.sh x), some (.own (.lst [])), o9, o10]) ?_ ?_
    · simp
    rintro xs0 _ ⟨e1, rfl⟩
    rw [e1]
    refine wp_for (fun r' s => ∃ acc o9 o10, (∀ t ∈ acc, Step ks.length rt wl (.int ai) t) ∧ acc.length + 16 * r'.length ≤ 128 ∧ (∀ w ∈ r', w ∈ wl) ∧ s = [some (.own h), some (.sh (paV ks tb)), some (.sh (.int st)), some (.sh (.tup wl)), some (.sh (.int most)), some (.own (.lst ms)), some (.own (.lst ws)), some (.sh x), some (.own (.lst acc)), o9, o10]) _ _ ⟨[], o9, o10, by simp, by simp; omega, fun w h => h, rfl⟩ ?_ ?_
    · rintro w r' s ⟨acc, o9, o10, hacc, hal, hw, rfl⟩
      have hw0 := hw w List.mem_cons_self
      have hw1 := hW w hw0
      rw [List.length_cons] at hal
      obtain ⟨c0, c1, rfl, hc, hwW⟩ := w8_ex hw1
      have k0 : (0 : Int) ≤ ks.length := by omega
      have k1 : (ks.length : Int) < 1073741824 := by have := hk.2.1; omega
      have rg : builtin (pctx P (n + 4)).rp .rng [.int ks.length] = some (.sh (.rng 0 ks.length)) := rng_1 k0 k1
      have hlen : ((List.map (fun (j : Nat) => PV.int ↑j) (List.range ks.length)).filterMap (stepO rt (.int ai) (.str ⟨#[c0, c1]⟩))).length ≤ 16 := by
        refine Nat.le_trans (List.length_filterMap_le _ _) ?_
        have := hk.2.1
        simpa using this
      have hmem : ∀ t ∈ (List.map (fun (j : Nat) => PV.int ↑j) (List.range ks.length)).filterMap (stepO rt (.int ai) (.str ⟨#[c0, c1]⟩)), Step ks.length rt wl (.int ai) t := by
        intro t ht
        obtain ⟨y, hy, hs⟩ := List.mem_filterMap.mp ht
        obtain ⟨j, hj, rfl⟩ := List.mem_map.mp hy
        unfold stepO at hs
        split at hs
        · rename_i hl
          cases hs
          rw [List.mem_range] at hj
          exact ⟨_, _, rfl, by simp [inR]; omega, hwW, hl, hw0⟩
        · cases hs
      generalize hL : (List.map (fun (j : Nat) => PV.int ↑j) (List.range ks.length)).filterMap (stepO rt (.int ai) (.str ⟨#[c0, c1]⟩)) = L at hlen hmem
      simp only [g_nm, put_m, setS_0, setS_s, Option.map_some, frz_sh, if_false, Bool.false_eq_true]
      rw [ss_cons, s_exp, v_mut]
      refine ⟨.own (.lst acc), rfl, ?_⟩
      show (if isLst (W.own (.lst acc)).frz = true then _ else False)
      rw [if_pos (show isLst (W.own (.lst acc)).frz = true from rfl)]
      refine Wp.mono (Q := fun vs s => vs = [.lst L] ∧ s = [some (.own h), some (.sh (paV ks tb)), some (.sh (.int st)), some (.sh (.tup wl)), some (.sh (.int most)), some (.own (.lst ms)), some (.own (.lst ws)), some (.sh x), some (.own (.lst acc)), some (.sh (.str ⟨#[c0, c1]⟩)), none]) ?_ ?_
      · rw [vs_cons, v_comp]
        refine Wp.mono (Q := fun xs s => xs = List.map (fun (j : Nat) => PV.int ↑j) (List.range ks.length) ∧ s = [some (.own h), some (.sh (paV ks tb)), some (.sh (.int st)), some (.sh (.tup wl)), some (.sh (.int most)), some (.own (.lst ms)), some (.own (.lst ws)), some (.sh x), some (.own (.lst acc)), some (.sh (.str ⟨#[c0, c1]⟩)), o10]) ?_ ?_
        · rw [it_rng1]
          refine Wp.mono (Q := fun v s => v = .int ks.length ∧ s = [some (.own h), some (.sh (paV ks tb)), some (.sh (.int st)), some (.sh (.tup wl)), some (.sh (.int most)), some (.own (.lst ms)), some (.own (.lst ws)), some (.sh x), some (.own (.lst acc)), some (.sh (.str ⟨#[c0, c1]⟩)), o10]) (by simp [paV_0, ks_sz hk]) ?_
          rintro _ _ ⟨rfl, rfl⟩
          exact ⟨_, rg, _, rng_itemsN, rfl, rfl⟩
        rintro _ _ ⟨rfl, rfl⟩
        refine wp_compF (stepO rt (.int ai) (.str ⟨#[c0, c1]⟩)) [some (.own h), some (.sh (paV ks tb)), some (.sh (.int st)), some (.sh (.tup wl)), some (.sh (.int most)), some (.own (.lst ms)), some (.own (.lst ws)), some (.sh x), some (.own (.lst acc)), some (.sh (.str ⟨#[c0, c1]⟩)), none] rfl (by have := ks_sz hk; simpa using this) ?_ ?_
        · intro y hy
          obtain ⟨j, _, rfl⟩ := List.mem_map.mp hy
          cases hb : lnk rt ai j c0 c1 <;> simp [ix_last ha, lend_sh, back_sh, c1007 ht hc, hb, stepO, lnkV, SZ]
        · intro s' hs
          rw [hs, hL]
          simp
      rintro _ _ ⟨rfl, rfl⟩
      have hsz : acc.length + L.length ≤ SZ := by simp only [SZ]; omega
      simp [mut_ext hsz]
      exact ⟨_, fun t m => (List.mem_append.mp m).elim (hacc t) (hmem t), by rw [List.length_append]; omega, fun w m => hw w (List.mem_cons_of_mem _ m), rfl⟩
    · rintro s ⟨acc, o9, o10, hacc, hal, _, rfl⟩
      by_cases he : acc = []
      · subst he
        simp [SZ]
        exact ⟨_, _, ⟨rfl, rfl⟩, hp, by omega, hwm, hhd, hh⟩
      · have a0 : 0 < acc.length := List.length_pos_iff.mpr he
        have a1 : acc.length < 1073741824 := by simp only [List.length_nil] at hal; omega
        have d2 := any_h (P := P) (n := n + 2) hh a0 a1
        have e5 := any_eq (P := P) (n := n + 2) hh a0 a1
        obtain ⟨b, w, e6, hb, hw, hlk, hwi⟩ := hacc _ (any_mem (P := P) (n := n + 2) hh a0 a1)
        have s1 : ms.length < SZ := by simp only [SZ]; omega
        have s2 : ws.length < SZ := by have := hp.len; simp only [SZ]; omega
        have a2 : ¬ (acc.length : Int) = 0 := by omega
        simp [he, a2, lend_own, back_none, e5, e6, mut_app s1, mut_app s2]
        refine ⟨_, d2, _, _, hp.snoc ha hb hw hlk, by simp; omega, ?_, ?_, rfl, rfl, rfl⟩
        · intro x hx
          rcases List.mem_append.mp hx with m | m
          · exact hwm x m
          · rw [List.mem_singleton.mp m]; exact hwi
        · cases ms with
          | nil => simp at hhd
          | cons y ys => simpa using hhd
  · rintro s ⟨h, ms, ws, o7, o8, o9, o10, hh, hp, hl, hwm, hhd, rfl⟩
    simp [SZ]
    exact ⟨_, _, ⟨rfl, rfl⟩, hp, by simpa using hl, hwm, hhd, hh⟩
end
end Mini
end

section
set_option linter.all false
set_option maxRecDepth 100000
set_option maxHeartbeats 0
namespace Mini
open PySem (Str PyData)
open Snd (toT dtOk rpStd toTs dtOks toTK dtOkK toTP dtOkP keyT)
variable {P : Prog} [PK P] {n : Nat}
/-- a thing of so much text, so deep -/
inductive Th : Nat → Nat → PV → Prop
  | non {n d : Nat} : Th n d .non
  | bl {n d : Nat} (b : Bool) : Th n d (.bl b)
  | int {n d : Nat} (i : Int) : i.natAbs < 10 ^ 12 → Th n d (.int i)
  | str {n d : Nat} (x : Str) : x.cps.size ≤ n → (∀ c ∈ x.cps.toList, c < 16 ^ 8) → Th n d (.str x)
  | lst {n d m : Nat} (xs : List PV) : (∀ x ∈ xs, Th m d x) → xs.length * (m + 1) ≤ n → Th n (d + 1) (.lst xs)
  | tup {n d m : Nat} (xs : List PV) : (∀ x ∈ xs, Th m d x) → xs.length * (m + 1) ≤ n → Th n (d + 1) (.tup xs)
  | dk0 {n d : Nat} : Th n (d + 1) (.dk [])
  | dk1 {n d m : Nat} (k : Int) (v : PV) : k.natAbs < 10 ^ 12 → Th m d v → m + 2 ≤ n → Th n (d + 1) (.dk [(.inl k, v)])
theorem Th.mono {a b c d : Nat} {v : PV} (h : Th a b v) (h1 : a ≤ c) (h2 : b ≤ d) : Th c d v := by
  induction h generalizing c d with
  | non => exact .non
  | bl b => exact .bl b
  | int i hi => exact .int i hi
  | str x hx hc => exact .str x (Nat.le_trans hx h1) hc
  | lst xs _ hl ih =>
    obtain ⟨d, rfl⟩ : ∃ e, d = e + 1 := ⟨d - 1, by omega⟩
    exact .lst xs (fun x m => ih x m (Nat.le_refl _) (by omega)) (Nat.le_trans hl h1)
  | tup xs _ hl ih =>
    obtain ⟨d, rfl⟩ : ∃ e, d = e + 1 := ⟨d - 1, by omega⟩
    exact .tup xs (fun x m => ih x m (Nat.le_refl _) (by omega)) (Nat.le_trans hl h1)
  | dk0 =>
    obtain ⟨d, rfl⟩ : ∃ e, d = e + 1 := ⟨d - 1, by omega⟩
    exact .dk0
  | dk1 k v hk _ hl ih =>
    obtain ⟨d, rfl⟩ : ∃ e, d = e + 1 := ⟨d - 1, by omega⟩
    exact .dk1 k v hk (ih (Nat.le_refl _) (by omega)) (Nat.le_trans hl h1)
/-- what repr asks -/
structure Rq (n d : Nat) (v : PV) : Prop where
  dt : dtOk v = true
  sh : PyData.showable (toT v) = true
  lv : PyData.leavesShort 13 (toT v) = true
  bk : (toT v).bulk ≤ n
  dp : (toT v).depth ≤ d
theorem rqs {m d : Nat} : ∀ xs : List PV, (∀ x ∈ xs, Rq m d x) → dtOks xs = true ∧ PyData.showableAll (toTs xs) = true ∧ PyData.leavesShortAll 13 (toTs xs) = true ∧ PyData.bulkAll (toTs xs) ≤ xs.length * (m + 1) ∧ PyData.depthAll (toTs xs) ≤ d
  | [], _ => by simp [dtOks, toTs, PyData.showableAll, PyData.leavesShortAll, PyData.bulkAll, PyData.depthAll]
  | x :: xs, h => by
    obtain ⟨h1, h2, h3, h4, h5⟩ := rqs xs fun y m => h y (List.mem_cons_of_mem _ m)
    have q := h x List.mem_cons_self
    refine ⟨?_, ?_, ?_, ?_, ?_⟩
    · simp only [dtOks, q.dt, h1, Bool.and_self]
    · simp only [toTs, PyData.showableAll, q.sh, h2, Bool.and_self]
    · simp only [toTs, PyData.leavesShortAll, q.lv, h3, Bool.and_self]
    · have := q.bk
      simp only [toTs, PyData.bulkAll, List.length_cons, Nat.add_mul]
      omega
    · have := q.dp
      simp only [toTs, PyData.depthAll]
      omega
theorem int_log {i : Int} (h : i.natAbs < 10 ^ 12) : i.natAbs.log2 < 1920 := by
  by_cases h0 : i.natAbs = 0
  · rw [h0]; decide
  · exact (Nat.log2_lt h0).mpr (Nat.lt_of_lt_of_le h (Nat.le_trans (by decide : 10 ^ 12 ≤ 2 ^ 40) (Nat.pow_le_pow_right (by decide) (by decide))))
theorem Th.rq {a b : Nat} {v : PV} (h : Th a b v) : Rq a b v := by
  induction h with
  | non => exact ⟨rfl, rfl, rfl, Nat.zero_le _, Nat.zero_le _⟩
  | bl b => exact ⟨rfl, rfl, rfl, Nat.zero_le _, Nat.zero_le _⟩
  | int i hi =>
    refine ⟨rfl, ?_, ?_, Nat.zero_le _, Nat.zero_le _⟩
    · simp only [toT, PyData.showable, int_log hi, decide_true]
    · simp only [toT, PyData.leavesShort, PySem.PyData.shown_int_le hi, decide_true]
  | str x hx hc =>
    refine ⟨rfl, rfl, ?_, ?_, Nat.zero_le _⟩
    · simp only [toT, PyData.leavesShort, List.all_eq_true, decide_eq_true_eq]
      exact hc
    · simpa only [toT, PyData.bulk] using hx
  | lst xs _ hl ih =>
    obtain ⟨h1, h2, h3, h4, h5⟩ := rqs xs ih
    refine ⟨?_, ?_, ?_, ?_, ?_⟩
    · simpa only [dtOk] using h1
    · simpa only [toT, PyData.showable] using h2
    · simpa only [toT, PyData.leavesShort] using h3
    · simp only [toT, PyData.bulk]; omega
    · simp only [toT, PyData.depth]; omega
  | tup xs _ hl ih =>
    obtain ⟨h1, h2, h3, h4, h5⟩ := rqs xs ih
    refine ⟨?_, ?_, ?_, ?_, ?_⟩
    · simpa only [dtOk] using h1
    · simpa only [toT, PyData.showable] using h2
    · simpa only [toT, PyData.leavesShort] using h3
    · simp only [toT, PyData.bulk]; omega
    · simp only [toT, PyData.depth]; omega
  | dk0 => exact ⟨rfl, rfl, rfl, Nat.zero_le _, by simp [toT, toTK, PyData.depth, PyData.depthKv]⟩
  | dk1 k v hk _ hl ih =>
    refine ⟨?_, ?_, ?_, ?_, ?_⟩
    · simp only [dtOk, dtOkK, dtOkP, ih.dt, Bool.and_self]
    · simp only [toT, toTK, toTP, keyT, PyData.showable, PyData.showableKv, int_log hk, decide_true, ih.sh, Bool.and_self]
    · simp only [toT, toTK, toTP, keyT, PyData.leavesShort, PyData.leavesShortKv, PySem.PyData.shown_int_le hk, decide_true, ih.lv, Bool.and_self]
    · have := ih.bk
      simp only [toT, toTK, toTP, keyT, PyData.bulk, PyData.bulkKv]; omega
    · have := ih.dp
      simp only [toT, toTK, toTP, keyT, PyData.depth, PyData.depthKv]; omega
theorem Th.rp {a b : Nat} {v : PV} (h : Th a b v) (ha : a ≤ 2 ^ 20) (hb : b ≤ 100) : ∃ z, rpStd v = some z := by
  have q := h.rq
  have l := PySem.PyData.shown_fits_bulk (B := 13) (by decide) (by decide) q.lv (Nat.le_trans q.bk ha)
  rw [PySem.sizeLine_eq] at l
  refine ⟨(toT v).shown, ?_⟩
  unfold rpStd
  rw [if_pos]
  simp only [q.dt, q.sh, Bool.true_and, Bool.and_eq_true, decide_eq_true_eq]
  exact ⟨Nat.le_trans q.dp hb, l⟩
theorem Th.tyq {a b : Nat} {v : PV} (h : Th a b v) : tyq v ∧ noK v = true := by
  cases h <;> exact ⟨fun _ => rfl, rfl⟩
theorem Th.shortS {a b : Nat} {v : PV} (h : Th a b v) (ha : a ≤ 2 ^ 20) : shortS v = true := by
  cases h with
  | str x hx hc => 
    have : x.length ≤ SZ := Nat.le_trans hx (Nat.le_trans ha (by decide))
    simpa [Mini.shortS] using this
  | _ => rfl
theorem Th.len {a b : Nat} {xs : List PV} (h : Th a b (.tup xs)) (ha : a ≤ 2 ^ 20) : xs.length ≤ SZ ∧ ∃ m c, m ≤ 2 ^ 20 ∧ ∀ x ∈ xs, Th m c x := by
  cases h with
  | tup _ hm hl =>
    rename_i d m
    cases xs with
    | nil => exact ⟨by decide, 0, 0, by decide, fun x h => absurd h (by simp)⟩
    | cons y r =>
      rw [List.length_cons] at hl
      have h1 : (r.length + 1) * 1 ≤ (r.length + 1) * (m + 1) := Nat.mul_le_mul_left _ (by omega)
      have h2 : 1 * (m + 1) ≤ (r.length + 1) * (m + 1) := Nat.mul_le_mul_right _ (by omega)
      refine ⟨?_, m, d, by omega, hm⟩
      simp only [SZ, List.length_cons]; omega
theorem Th.askd {a b : Nat} {v : PV} (h : Th a b v) (ha : a ≤ 2 ^ 20) : Askd v := by
  refine ⟨h.tyq.1, h.tyq.2, ?_⟩
  rintro xs rfl x hx
  obtain ⟨_, m, c, hm, h2⟩ := h.len ha
  have hx := h2 x hx
  refine ⟨hx.tyq.1, hx.tyq.2, ?_⟩
  rintro ys rfl
  obtain ⟨l, m', c', hm', h3⟩ := hx.len hm
  exact ⟨l, fun y hy => ⟨(h3 y hy).tyq.1, (h3 y hy).shortS hm'⟩⟩
end Mini
end

section
set_option linter.all false
set_option maxRecDepth 100000
set_option maxHeartbeats 0
namespace Mini
open PySem (Str PyData)
variable {P : Prog} [PK P] {n : Nat}
@[simp] theorem pow11 : binop .pow (.int 10) (.int 11) = some (.int 100000000000) := rfl
theorem lit_th {x : Str} {k d : Nat} (h : x.cps.size ≤ k ∧ ∀ c ∈ x.cps.toList, c < 16 ^ 8) : Th k d (.str x) := .str _ h.1 h.2
theorem ix3 {a b c : PV} {i : Int} (h0 : 0 ≤ i) (h1 : i < 3) : ∃ v, index (.lst [a, b, c]) (.int i) = some v ∧ (v = a ∨ v = b ∨ v = c) := by
  have : i = 0 ∨ i = 1 ∨ i = 2 := by omega
  rcases this with rfl | rfl | rfl
  · exact ⟨_, rfl, .inl rfl⟩
  · exact ⟨_, rfl, .inr (.inl rfl)⟩
  · exact ⟨_, rfl, .inr (.inr rfl)⟩
def odds : List PV := [.non, .int 0, .int (-1), .bl true, .bl false, .str "", .str "t>", .lst [], .tup [], .dk [], .tup [.tup []], .tup [.tup [], .tup []], .tup [.str "t>"], .int 100000000000]
theorem th_nilT {k d : Nat} : Th k (d + 1) (.tup []) := .tup (m := 0) [] (by simp) (by simp)
theorem th_nilL {k d : Nat} : Th k (d + 1) (.lst []) := .lst (m := 0) [] (by simp) (by simp)
theorem odds_th : ∀ v ∈ odds, Th 100 31 v := by
  intro v hv
  simp only [odds, List.mem_cons, List.not_mem_nil, or_false] at hv
  rcases hv with rfl | rfl | rfl | rfl | rfl | rfl | rfl | rfl | rfl | rfl | rfl | rfl | rfl | rfl
  · exact .non
  · exact .int _ (by decide)
  · exact .int _ (by decide)
  · exact .bl _
  · exact .bl _
  · exact lit_th (by decide)
  · exact lit_th (by decide)
  · exact th_nilL
  · exact th_nilT
  · exact .dk0
  · exact .tup (m := 0) _ (by simp; exact th_nilT) (by decide)
  · exact .tup (m := 0) _ (by simp; exact th_nilT) (by decide)
  · exact .tup (m := 2) _ (by simp; exact lit_th (by decide)) (by decide)
  · exact .int _ (by decide)
theorem odd {h : PV} (hh : HandV h) : Ok (callF P (n + 3) 1004 [.own h]) fun w o => ∃ v h', w = .sh v ∧ Th 100 31 v ∧ HandV h' ∧ o = [some (.own h')] := by
  rw [call_at (m := f1004) rfl]
  refine ok_run rfl ?_
  simp only [f1004, inits, outsOf]
  rw [ss_cons]
  refine Wp.mono (Q := fun fl s => fl = .nx ∧ s = [some (.own h), some (.sh .non), none, none]) ?_ ?_
  · simp
  rintro _ _ ⟨rfl, rfl⟩
  rw [then_nx, ss_cons, s_fors]
  refine Wp.mono (Q := fun xs s => ∃ h' k, HandV h' ∧ k ≤ 30 ∧ xs = (List.range k).map (fun (j : Nat) => .int j) ∧ s = [some (.own h'), some (.sh .non), none, none]) ?_ ?_
  · have d0 := draw_0 (P := P) (n := n + 1) hh (m := 30) (by decide) (by decide)
    have d1 := draw_lt (P := P) (n := n + 1) hh (m := 30) (by decide) (by decide)
    have d2 := draw_h (P := P) (n := n + 1) hh (m := 30) (by decide) (by decide)
    have d3 := draw_eq (P := P) (n := n + 1) hh (m := 30) (by decide) (by decide)
    have d4 : 0 ≤ 1 + dI P (n + 1) h 30 := by omega
    have d5 : 1 + dI P (n + 1) h 30 < 1073741824 := by omega
    simp [lend_own, back_none, d3, rng_1 d4 d5, rng_items]
    exact ⟨_, d2, (1 + dI P (n + 1) h 30).toNat, by omega, rfl, rfl⟩
  rintro _ _ ⟨h, k, hh, hk, rfl, rfl⟩
  refine wp_for (fun r s => ∃ h' v o, HandV h' ∧ Th (3 * (30 - r.length)) (30 - r.length) v ∧ r.length ≤ 30 ∧ s = [some (.own h'), some (.sh v), o, none]) _ _ ⟨h, .non, none, hh, .non, by simpa using hk, rfl⟩ ?_ ?_
  · rintro x r s ⟨h, v, o, hh, hv, hl, rfl⟩
    rw [List.length_cons] at hl hv
    have d0 := draw_0 (P := P) (n := n + 1) hh (m := 3) (by decide) (by decide)
    have d1 := draw_lt (P := P) (n := n + 1) hh (m := 3) (by decide) (by decide)
    have d2 := draw_h (P := P) (n := n + 1) hh (m := 3) (by decide) (by decide)
    have d3 := draw_eq (P := P) (n := n + 1) hh (m := 3) (by decide) (by decide)
    obtain ⟨u, e1, e2⟩ := ix3 (a := .tup [v]) (b := .lst [v]) (c := .dk [(.inl 0, v)]) d0 d1
    have hu : Th (3 * (30 - r.length)) (30 - r.length) u := by
      obtain ⟨q, hq⟩ : ∃ q, 30 - r.length = q + 1 := ⟨30 - r.length - 1, by omega⟩
      rw [show 30 - (r.length + 1) = q by omega] at hv
      rw [hq]
      rcases e2 with rfl | rfl | rfl
      · exact .tup (m := 3 * q) _ (by simpa using hv) (by simp; omega)
      · exact .lst (m := 3 * q) _ (by simpa using hv) (by simp; omega)
      · exact .dk1 0 v (by decide) hv (by omega)
    have kf : keyOf (.int 0) = some (.inl 0) := rfl
    simp [lend_own, back_none, d3, e1, SZ, kf]
    exact ⟨_, d2, _, hu, by omega, rfl, rfl⟩
  · rintro s ⟨h, v, o, hh, hv, _, rfl⟩
    have hv : Th 100 31 v := hv.mono (by simp) (by simp)
    rw [then_nx, ss_cons]
    refine Wp.mono (Q := fun fl s => fl = .nx ∧ s = [some (.own h), some (.sh v), o, some (.sh (.lst odds))]) ?_ ?_
    · simp [SZ, odds]
    rintro _ _ ⟨rfl, rfl⟩
    have a1 : (odds ++ [v]).length = 15 := rfl
    have d2 := any_h (P := P) (n := n) hh (xs := odds ++ [v]) (by rw [a1]; decide) (by rw [a1]; decide)
    have e5 := any_eq (P := P) (n := n) hh (xs := odds ++ [v]) (by rw [a1]; decide) (by rw [a1]; decide)
    have e6 := any_mem (P := P) (n := n) hh (xs := odds ++ [v]) (by rw [a1]; decide) (by rw [a1]; decide)
    have e7 : Th 100 31 (anyV P n h (odds ++ [v])) := by
      rcases List.mem_append.mp e6 with m | m
      · exact odds_th _ m
      · rw [List.mem_singleton.mp m]; exact hv
    have a2 : odds.length + [v].length ≤ SZ := by simp [odds, SZ]
    have a3 := bin_addL a2
    simp only [then_nx, ss_cons]
    simp [lend_own, back_none, a3, e5, SZ]
    exact ⟨e7, d2⟩
end Mini
end

section
set_option linter.all false
set_option maxRecDepth 100000
set_option maxHeartbeats 0
namespace Mini
open PySem (Str PyData)
variable {P : Prog} [PK P] {n : Nat}
theorem slc_to {xs : List PV} {i : Int} (h0 : 0 ≤ i) (h1 : i ≤ xs.length) : slice (.tup xs) .non (.int i) = some (.tup (xs.take i.toNat)) := by
  simp only [slice, cut, cutAt]
  rw [if_neg (by omega), Nat.min_eq_left (by omega)]
  simp
theorem slc_from {xs : List PV} {i : Int} (h0 : 0 ≤ i) (h1 : i ≤ xs.length) : slice (.tup xs) (.int i) .non = some (.tup (xs.drop i.toNat)) := by
  simp only [slice, cut, cutAt]
  rw [if_neg (by omega), Nat.min_eq_left (by omega)]
  simp
theorem slc_m1 {xs : List PV} : slice (.tup xs) .non (.int (-1)) = some (.tup (xs.take (xs.length - 1))) := by
  simp only [slice, cut, cutAt]
  rw [if_pos (by decide)]
  have : (-1 + (xs.length : Int)).toNat = xs.length - 1 := by omega
  simp [this]
@[simp] theorem rev_tup {xs : List PV} : revs (.tup xs) = some (.tup xs.reverse) := rfl
theorem slc_1 {xs : List PV} : slice (.tup xs) .non (.int 1) = some (.tup (xs.take 1)) := by
  simp only [slice, cut, cutAt]
  rw [if_neg (by decide)]
  have : xs.take (min 1 xs.length) = xs.take 1 := by
    cases xs with
    | nil => rfl
    | cons a r => rw [Nat.min_eq_left (by simp)]
  simp [this]
theorem ix_in {xs : List PV} {i : Int} (h0 : 0 ≤ i) (h1 : i < xs.length) : ∃ x, index (.tup xs) (.int i) = some x ∧ x ∈ xs := by
  refine ⟨xs.getD i.toNat .non, ?_, ?_⟩
  · show (ixN xs.length i).bind _ = _
    unfold ixN
    rw [if_pos h0, if_pos h1]
    have : i.toNat < xs.length := by omega
    simp [this]
  · have : i.toNat < xs.length := by omega
    simp [this]
theorem th_sub {a b : Nat} {xs ys : List PV} (h : ∀ x ∈ xs, Th a b x) (hs : ∀ y ∈ ys, y ∈ xs) : ∀ y ∈ ys, Th a b y := fun y m => h y (hs y m)
/-- a tuple, a list of members or words -/
theorem th_t {xs : List PV} (h : ∀ x ∈ xs, Th 13 1 x) (hl : xs.length ≤ 130) : Th 2000 3 (.tup xs) := Th.mono (.tup (m := 13) xs h (Nat.le_refl _)) (by omega) (by decide)
theorem th_l {xs : List PV} (h : ∀ x ∈ xs, Th 13 1 x) (hl : xs.length ≤ 130) : Th 2000 3 (.lst xs) := Th.mono (.lst (m := 13) xs h (Nat.le_refl _)) (by omega) (by decide)
theorem th_T {xs : List PV} (h : ∀ x ∈ xs, Th 2000 3 x) (hl : xs.length ≤ 3) : Th 7000 40 (.tup xs) := Th.mono (.tup (m := 2000) xs h (Nat.le_refl _)) (by omega) (by decide)
theorem th_L {xs : List PV} (h : ∀ x ∈ xs, Th 2000 3 x) (hl : xs.length ≤ 3) : Th 7000 40 (.lst xs) := Th.mono (.lst (m := 2000) xs h (Nat.le_refl _)) (by omega) (by decide)
theorem th_T2 {a b : PV} (ha : Th 2000 3 a) (hb : Th 2000 3 b) : Th 7000 40 (.tup [a, b]) := th_T (by simp [ha, hb]) (by simp)
theorem th_str {i : Int} (h0 : 0 ≤ i) (h1 : i < 16) : Th 13 1 (.str (toStrI i)) := by
  have : i = 0 ∨ i = 1 ∨ i = 2 ∨ i = 3 ∨ i = 4 ∨ i = 5 ∨ i = 6 ∨ i = 7 ∨ i = 8 ∨ i = 9 ∨ i = 10 ∨ i = 11 ∨ i = 12 ∨ i = 13 ∨ i = 14 ∨ i = 15 := by omega
  rcases this with rfl | rfl | rfl | rfl | rfl | rfl | rfl | rfl | rfl | rfl | rfl | rfl | rfl | rfl | rfl | rfl <;> exact lit_th (by decide)
@[simp] theorem str_int {rp : PV → Option Str} {i : Int} (h : i.natAbs.log2 < 1920) : builtin rp .str [.int i] = some (.sh (.str (toStrI i))) := by
  show (if _ then _ else _) = _
  rw [if_pos h]
theorem mul5 {x : PV} : binop .mul (.lst [x]) (.int 5) = some (.lst [x, x, x, x, x]) := rfl
theorem mul3 {x : PV} : binop .mul (.lst [x]) (.int 3) = some (.lst [x, x, x]) := rfl
theorem in_01 {i : Int} : cmpop .in_ (.int i) (.tup [.int 0, .int 1]) = some (i == 0 || i == 1) := by
  simp [cmpop, Bool.beq_eq_decide_eq, eq_comm]
theorem th_w {w : PV} (h : isW w = true) : Th 13 1 w := by
  obtain ⟨c0, c1, rfl⟩ := isW_str h
  simp [isW] at h
  refine .str _ (by simp) ?_
  intro c hc
  simp at hc
  rcases hc with rfl | rfl <;> omega
theorem th_m {m : PV} {k : Nat} (hk : k ≤ 16) (h : inR m 0 (k - 1) = true) : Th 13 1 m := by
  obtain ⟨i, rfl⟩ := inR_int h
  simp [inR] at h
  exact .int i (by omega)
theorem th_i {i : Int} (h0 : -1 ≤ i) (h1 : i < 100) : Th 13 1 (.int i) := .int i (by omega)
def bads : List PV := [.str "t>", .str "t<", .str "g>", .str "g<", .str "r>", .str "w<", .str "x>", .str "t", .str ">t", .str "", .non, .tup [.str "t", .str ">"], .int 5, .str "T>"]
theorem bads_th : ∀ v ∈ bads, Th 13 1 v := by
  intro v hv
  simp only [bads, List.mem_cons, List.not_mem_nil, or_false] at hv
  rcases hv with rfl | rfl | rfl | rfl | rfl | rfl | rfl | rfl | rfl | rfl | rfl | rfl | rfl | rfl
  case inr.inr.inr.inr.inr.inr.inr.inr.inr.inr.inl => exact .non
  case inr.inr.inr.inr.inr.inr.inr.inr.inr.inr.inr.inl =>
    refine .tup (m := 1) _ ?_ (by decide)
    intro x hx
    simp at hx
    rcases hx with rfl | rfl <;> exact lit_th (by decide)
  case inr.inr.inr.inr.inr.inr.inr.inr.inr.inr.inr.inr.inl => exact .int _ (by decide)
  all_goals exact lit_th (by decide)
section
variable {k : Nat} {rt : Int → Int → Str} {ms ws : List PV}
def ot1 (ms ws : List PV) : List PV := [.tup [.lst ms, .tup ws], .tup [.tup ms, .lst ws], .lst [.tup ms, .tup ws], .tup [.tup ws, .tup ms], .tup [.tup ms], .tup ms]
def ot2 (ms ws : List PV) : List PV := [.tup [.tup (ms.take (ms.length - 1)), .tup ws], .tup [.tup ms, .tup (ws.take (ws.length - 1))], .tup [.tup ms.reverse, .tup ws.reverse]]
def ot3 (ms ws : List PV) : List PV := [.tup [.tup (ms ++ ms.take 1), .tup ws], .tup [.tup ms, .tup ws, .tup []], .tup [.tup (ms.take 1 ++ ms), .tup (.str "t>" :: ws)]]
theorem bent (hp : Pth k rt ms ws) (hk : k ≤ 16) (hk1 : 1 ≤ k) (hl : ms.length ≤ 128) {h : PV} (hh : HandV h) :
    Ok (callF P (n + 6) 1011 [.own h, .sh (.tup [.tup ms, .tup ws]), .sh (.int k)]) fun w o => ∃ v h', w = .sh v ∧ Th 7000 40 v ∧ HandV h' ∧ o = [some (.own h'), some (.sh (.tup [.tup ms, .tup ws])), some (.sh (.int k))] := by
  have hlw := hp.len
  have tm : ∀ m ∈ ms, Th 13 1 m := fun m q => th_m hk (hp.mem m q)
  have tw : ∀ w ∈ ws, Th 13 1 w := fun w q => th_w (hp.wds w q)
  have Tm := th_t tm (by omega)
  have Tw := th_t tw (by omega)
  rw [call_at (m := f1011) rfl]
  refine ok_run rfl ?_
  simp only [f1011, inits, outsOf]
  rw [ss_cons]
  refine Wp.mono (Q := fun fl s => fl = .nx ∧ s = [some (.own h), some (.sh (.tup [.tup ms, .tup ws])), some (.sh (.int k)), some (.sh (.tup ms)), some (.sh (.tup ws)), none, none, none, none, none]) (by simp) ?_
  rintro _ _ ⟨rfl, rfl⟩
  rw [then_nx, ss_cons]
  refine Wp.mono (Q := fun fl s => fl = .nx ∧ ∃ h' i, HandV h' ∧ 0 ≤ i ∧ i < (ms.length : Int) ∧ s = [some (.own h'), some (.sh (.tup [.tup ms, .tup ws])), some (.sh (.int k)), some (.sh (.tup ms)), some (.sh (.tup ws)), some (.sh (.int i)), none, none, none, none]) ?_ ?_
  · have d0 := draw_0 (P := P) (n := n + 4) hh (m := ms.length) (by omega) (by omega)
    have d1 := draw_lt (P := P) (n := n + 4) hh (m := ms.length) (by omega) (by omega)
    have d2 := draw_h (P := P) (n := n + 4) hh (m := ms.length) (by omega) (by omega)
    have d3 := draw_eq (P := P) (n := n + 4) hh (m := ms.length) (by omega) (by omega)
    simp [lend_own, back_none, d3]
    exact ⟨_, d2, _, d0, d1, rfl, rfl⟩
  rintro _ _ ⟨rfl, h, i, hh, i0, i1, rfl⟩
  obtain ⟨mi, ei, hmi⟩ := ix_in i0 i1
  obtain ⟨mj, rfl⟩ := inR_int (hp.mem mi hmi)
  have mj0 : 0 ≤ mj ∧ mj < 16 := by
    have := hp.mem _ hmi
    simp [inR] at this
    omega
  rw [then_nx, ss_cons]
  refine Wp.mono (Q := fun fl s => fl = .nx ∧ ∃ h' j, HandV h' ∧ s = [some (.own h'), some (.sh (.tup [.tup ms, .tup ws])), some (.sh (.int k)), some (.sh (.tup ms)), some (.sh (.tup ws)), some (.sh (.int i)), some (.sh (.int j)), none, none, none]) ?_ ?_
  · have d2 := draw_h (P := P) (n := n + 4) hh (m := 8) (by decide) (by decide)
    have d3 := draw_eq (P := P) (n := n + 4) hh (m := 8) (by decide) (by decide)
    simp [lend_own, back_none, d3]
    exact d2
  rintro _ _ ⟨rfl, h, j, hh, rfl⟩
  rw [then_nx, ss_cons, s_ifs]
  by_cases c1 : j < 3
  · have d0 := draw_0 (P := P) (n := n + 4) hh (m := k) (by omega) (by omega)
    have d1 := draw_lt (P := P) (n := n + 4) hh (m := k) (by omega) (by omega)
    have d2 := draw_h (P := P) (n := n + 4) hh (m := k) (by omega) (by omega)
    have d3 := draw_eq (P := P) (n := n + 4) hh (m := k) (by omega) (by omega)
    have lg : mj.natAbs.log2 < 1920 := int_log (by omega)
    generalize hr : dI P (n + 4) h k = r at d0 d1 d3
    generalize hh2 : dH P (n + 4) h k = h2 at d2 d3
    refine Wp.mono (Q := fun b s => b = true ∧ s = [some (.own h), some (.sh (.tup [.tup ms, .tup ws])), some (.sh (.int k)), some (.sh (.tup ms)), some (.sh (.tup ws)), some (.sh (.int i)), some (.sh (.int j)), none, none, none]) (by simp [c1]) ?_
    rintro _ _ ⟨rfl, rfl⟩
    rw [if_pos rfl, ss_cons]
    refine Wp.mono (Q := fun fl s => fl = .nx ∧ ∃ L, (∀ x ∈ L, Th 13 1 x) ∧ 0 < L.length ∧ L.length ≤ 20 ∧ s = [some (.own h2), some (.sh (.tup [.tup ms, .tup ws])), some (.sh (.int k)), some (.sh (.tup ms)), some (.sh (.tup ws)), some (.sh (.int i)), some (.sh (.int j)), some (.sh (.lst L)), none, none]) ?_ ?_
    · simp [lend_own, lend_sh, back_sh, back_none, ei, lg, SZ, mul5, d3]
      refine ⟨_, ?_, ?_, ?_, rfl⟩
      · intro x hx
        simp only [List.mem_cons, List.not_mem_nil, or_false] at hx
        rcases hx with rfl | rfl | rfl | rfl | rfl | rfl | rfl | rfl | rfl | rfl | rfl
        · exact th_i (by omega) (by omega)
        · exact th_i (by omega) (by omega)
        · exact .non
        · exact th_str mj0.1 mj0.2
        · exact .tup (m := 0) _ (by simp; exact .int _ (by omega)) (by simp)
        all_goals exact th_i (by omega) (by omega)
      · simp
      · simp
    rintro _ _ ⟨rfl, L, hL, l0, l1, rfl⟩
    rw [then_nx, ss_cons]
    refine Wp.mono (Q := fun fl s => fl = .nx ∧ ∃ L, (∀ x ∈ L, Th 13 1 x) ∧ 0 < L.length ∧ L.length ≤ 30 ∧ s = [some (.own h2), some (.sh (.tup [.tup ms, .tup ws])), some (.sh (.int k)), some (.sh (.tup ms)), some (.sh (.tup ws)), some (.sh (.int i)), some (.sh (.int j)), some (.sh (.lst L)), none, none]) ?_ ?_
    · by_cases c2 : mj = 0 ∨ mj = 1
      · have a2 : L.length + 3 ≤ SZ := by simp only [SZ]; omega
        simp [ei, in_01, c2, SZ, mul3, bin_addL, a2]
        refine ⟨_, ?_, ?_, ?_, rfl⟩
        · intro x hx
          rcases List.mem_append.mp hx with m | m
          · exact hL x m
          · simp only [List.mem_cons, List.not_mem_nil, or_false] at m
            rcases m with rfl | rfl | rfl <;> exact .bl _
        · simp
        · simp; omega
      · simp [ei, in_01, c2, SZ]
        exact ⟨_, hL, l0, by omega, rfl⟩
    rintro _ _ ⟨rfl, L, hL, l0, l1, rfl⟩
    have g2 := any_h (P := P) (n := n + 3) d2 (xs := L) l0 (by omega)
    have g5 := any_eqS (P := P) (n := n + 3) d2 (xs := L) l0 (by omega)
    have g6 := hL _ (any_mem (P := P) (n := n + 3) d2 (xs := L) l0 (by omega))
    have q1 := slc_to i0 (Int.le_of_lt i1)
    have q2 := slc_from (xs := ms) (i := i + 1) (by omega) (by omega)
    have z1 : (ms.take i.toNat).length + [anyV P (n + 3) h2 L].length ≤ SZ := by simp [SZ]; omega
    have z2 : (ms.take i.toNat ++ [anyV P (n + 3) h2 L]).length + (ms.drop (i + 1).toNat).length ≤ SZ := by simp [SZ]; omega
    have a3 := bin_addT z1
    have a4 := bin_addT z2
    simp [-List.append_assoc, lend_own, lend_sh, back_sh, back_none, q1, q2, g5, a3, a4, SZ]
    refine ⟨th_T2 (th_t ?_ ?_) Tw, g2⟩
    · intro x hx
      rcases List.mem_append.mp hx with m | m
      · rcases List.mem_append.mp m with m | m
        · exact tm x (List.mem_of_mem_take m)
        · rw [List.mem_singleton.mp m]; exact g6
      · exact tm x (List.mem_of_mem_drop m)
    · simp; omega
  · refine Wp.mono (Q := fun b s => b = false ∧ s = [some (.own h), some (.sh (.tup [.tup ms, .tup ws])), some (.sh (.int k)), some (.sh (.tup ms)), some (.sh (.tup ws)), some (.sh (.int i)), some (.sh (.int j)), none, none, none]) (by simp [c1]) ?_
    rintro _ _ ⟨rfl, rfl⟩
    rw [if_neg Bool.false_ne_true, ss_nil, then_nx, ss_cons, s_ifs]
    by_cases c2 : j < 5 ∧ 0 < ws.length
    · have c3 : (0 : Int) < ws.length := by omega
      have c4 : ¬ ws = [] := by rintro rfl; simp at c2
      refine Wp.mono (Q := fun b s => b = true ∧ s = [some (.own h), some (.sh (.tup [.tup ms, .tup ws])), some (.sh (.int k)), some (.sh (.tup ms)), some (.sh (.tup ws)), some (.sh (.int i)), some (.sh (.int j)), none, none, none]) (by simp [c2, c3, c4]) ?_
      rintro _ _ ⟨rfl, rfl⟩
      rw [if_pos rfl, ss_cons]
      refine Wp.mono (Q := fun fl s => fl = .nx ∧ ∃ h' e, HandV h' ∧ 0 ≤ e ∧ e < (ws.length : Int) ∧ s = [some (.own h'), some (.sh (.tup [.tup ms, .tup ws])), some (.sh (.int k)), some (.sh (.tup ms)), some (.sh (.tup ws)), some (.sh (.int i)), some (.sh (.int j)), none, some (.sh (.int e)), none]) ?_ ?_
      · have d0 := draw_0 (P := P) (n := n + 4) hh (m := ws.length) (by omega) (by omega)
        have d1 := draw_lt (P := P) (n := n + 4) hh (m := ws.length) (by omega) (by omega)
        have d2 := draw_h (P := P) (n := n + 4) hh (m := ws.length) (by omega) (by omega)
        have d3 := draw_eq (P := P) (n := n + 4) hh (m := ws.length) (by omega) (by omega)
        simp [lend_own, back_none, d3]
        exact ⟨_, d2, _, d0, d1, rfl, rfl⟩
      rintro _ _ ⟨rfl, h, e, hh, e0, e1, rfl⟩
      rw [then_nx, ss_cons]
      refine Wp.mono (Q := fun fl s => fl = .nx ∧ s = [some (.own h), some (.sh (.tup [.tup ms, .tup ws])), some (.sh (.int k)), some (.sh (.tup ms)), some (.sh (.tup ws)), some (.sh (.int i)), some (.sh (.int j)), some (.sh (.lst bads)), some (.sh (.int e)), none]) (by simp [bads, SZ]) ?_
      rintro _ _ ⟨rfl, rfl⟩
      have bl : bads.length = 14 := rfl
      have g2 := any_h (P := P) (n := n + 3) hh (xs := bads) (by rw [bl]; decide) (by rw [bl]; decide)
      have g5 := any_eqS (P := P) (n := n + 3) hh (xs := bads) (by rw [bl]; decide) (by rw [bl]; decide)
      have g6 := bads_th _ (any_mem (P := P) (n := n + 3) hh (xs := bads) (by rw [bl]; decide) (by rw [bl]; decide))
      rw [then_nx, ss_cons]
      have q1 := slc_to e0 (Int.le_of_lt e1)
      have q2 := slc_from (xs := ws) (i := e + 1) (by omega) (by omega)
      have z1 : (ws.take e.toNat).length + [anyV P (n + 3) h bads].length ≤ SZ := by simp [SZ]; omega
      have z2 : (ws.take e.toNat ++ [anyV P (n + 3) h bads]).length + (ws.drop (e + 1).toNat).length ≤ SZ := by simp [SZ]; omega
      have a3 := bin_addT z1
      have a4 := bin_addT z2
      simp [-List.append_assoc, lend_own, lend_sh, back_sh, back_none, q1, q2, g5, a3, a4, SZ]
      refine ⟨th_T2 Tm (th_t ?_ ?_), g2⟩
      · intro x hx
        rcases List.mem_append.mp hx with m | m
        · rcases List.mem_append.mp m with m | m
          · exact tw x (List.mem_of_mem_take m)
          · rw [List.mem_singleton.mp m]; exact g6
        · exact tw x (List.mem_of_mem_drop m)
      · simp; omega
    · refine Wp.mono (Q := fun b s => b = false ∧ s = [some (.own h), some (.sh (.tup [.tup ms, .tup ws])), some (.sh (.int k)), some (.sh (.tup ms)), some (.sh (.tup ws)), some (.sh (.int i)), some (.sh (.int j)), none, none, none]) ?_ ?_
      · by_cases c3 : j < 5
        · have : ws = [] := by
            cases ws with
            | nil => rfl
            | cons a r => exact absurd ⟨c3, by simp⟩ c2
          subst this
          simp [c3]
        · simp [c3]
      rintro _ _ ⟨rfl, rfl⟩
      rw [if_neg Bool.false_ne_true, ss_nil, then_nx, ss_cons]
      refine Wp.mono (Q := fun fl s => fl = .nx ∧ s = [some (.own h), some (.sh (.tup [.tup ms, .tup ws])), some (.sh (.int k)), some (.sh (.tup ms)), some (.sh (.tup ws)), some (.sh (.int i)), some (.sh (.int j)), none, none, some (.sh (.lst (ot1 ms ws)))]) (by simp [ot1, SZ]) ?_
      rintro _ _ ⟨rfl, rfl⟩
      rw [then_nx, ss_cons]
      have y1 := bin_addL (xs := ot1 ms ws) (ys := ot2 ms ws) (by simp [ot1, ot2, SZ])
      refine Wp.mono (Q := fun fl s => fl = .nx ∧ s = [some (.own h), some (.sh (.tup [.tup ms, .tup ws])), some (.sh (.int k)), some (.sh (.tup ms)), some (.sh (.tup ws)), some (.sh (.int i)), some (.sh (.int j)), none, none, some (.sh (.lst (ot1 ms ws ++ ot2 ms ws)))]) ?_ ?_
      · unfold ot2 at y1
        simp [slc_m1, SZ, y1, ot2]
      rintro _ _ ⟨rfl, rfl⟩
      rw [then_nx, ss_cons]
      have y2 := bin_addL (xs := ot1 ms ws ++ ot2 ms ws) (ys := ot3 ms ws) (by simp [ot1, ot2, ot3, SZ])
      refine Wp.mono (Q := fun fl s => fl = .nx ∧ s = [some (.own h), some (.sh (.tup [.tup ms, .tup ws])), some (.sh (.int k)), some (.sh (.tup ms)), some (.sh (.tup ws)), some (.sh (.int i)), some (.sh (.int j)), none, none, some (.sh (.lst (ot1 ms ws ++ ot2 ms ws ++ ot3 ms ws)))]) ?_ ?_
      · have z1 : ms.length + (ms.take 1).length ≤ SZ := by simp [SZ]; omega
        have z2 : (ms.take 1).length + ms.length ≤ SZ := by simp [SZ]; omega
        have z3 : [PV.str "t>"].length + ws.length ≤ SZ := by simp [SZ]; omega
        have a3 := bin_addT z1
        have a4 := bin_addT z2
        have a5 := bin_addT z3
        unfold ot3 at y2
        simp [-List.append_assoc, slc_1, SZ, a3, a4, a5, y2, ot3]
      rintro _ _ ⟨rfl, rfl⟩
      have T : ∀ v ∈ ot1 ms ws ++ ot2 ms ws ++ ot3 ms ws, Th 7000 40 v := by
        intro v hv
        rcases List.mem_append.mp hv with m | m
        · rcases List.mem_append.mp m with m | m
          · simp only [ot1, List.mem_cons, List.not_mem_nil, or_false] at m
            have Lm := th_l tm (by omega)
            have Lw := th_l tw (by omega)
            rcases m with rfl | rfl | rfl | rfl | rfl | rfl
            · exact th_T2 Lm Tw
            · exact th_T2 Tm Lw
            · exact th_L (by simp [Tm, Tw]) (by simp)
            · exact th_T2 Tw Tm
            · exact th_T (by simp [Tm]) (by simp)
            · exact Tm.mono (by decide) (by decide)
          · simp only [ot2, List.mem_cons, List.not_mem_nil, or_false] at m
            rcases m with rfl | rfl | rfl
            · exact th_T2 (th_t (th_sub tm fun y => List.mem_of_mem_take) (by simp; omega)) Tw
            · exact th_T2 Tm (th_t (th_sub tw fun y => List.mem_of_mem_take) (by simp; omega))
            · exact th_T2 (th_t (th_sub tm fun y => List.mem_reverse.mp) (by simp; omega)) (th_t (th_sub tw fun y => List.mem_reverse.mp) (by simp; omega))
        · simp only [ot3, List.mem_cons, List.not_mem_nil, or_false] at m
          have tk : ∀ y ∈ ms.take 1, Th 13 1 y := th_sub tm fun y => List.mem_of_mem_take
          rcases m with rfl | rfl | rfl
          · exact th_T2 (th_t (fun y q => (List.mem_append.mp q).elim (tm y) (tk y)) (by simp; omega)) Tw
          · exact th_T (by simp [Tm, Tw]; exact th_nilT) (by simp)
          · refine th_T2 (th_t (fun y q => (List.mem_append.mp q).elim (tk y) (tm y)) (by simp; omega)) (th_t (fun y q => ?_) (by simp; omega))
            rcases List.mem_cons.mp q with q | q
            · rw [q]; exact lit_th (by decide)
            · exact tw y q
      obtain ⟨w, o, e1, v, h', rfl, hv, hh', rfl⟩ := odd (P := P) (n := n + 2) hh
      generalize hO : ot1 ms ws ++ ot2 ms ws ++ ot3 ms ws = O at T
      have hOl : O.length = 12 := by rw [← hO]; rfl
      generalize hX : O ++ [.tup [.tup [], .tup []], v] = X
      have hXl : X.length = 14 := by rw [← hX, List.length_append, hOl]; rfl
      have y3 : binop .add (.lst O) (.lst [.tup [.tup [], .tup []], v]) = some (.lst X) := by
        rw [← hX]
        exact bin_addL (by rw [hOl]; simp [SZ])
      have g2 := any_h (P := P) (n := n + 3) hh' (xs := X) (by omega) (by omega)
      have g5 := any_eq (P := P) (n := n + 3) hh' (xs := X) (by omega) (by omega)
      have g6 := any_mem (P := P) (n := n + 3) hh' (xs := X) (by omega) (by omega)
      have g7 : Th 7000 40 (anyV P (n + 3) h' X) := by
        rw [← hX] at g6
        rcases List.mem_append.mp g6 with m | m
        · rw [← hX]; exact T _ m
        · simp only [List.mem_cons, List.not_mem_nil, or_false] at m
          rw [hX] at m
          rcases m with m | m
          · rw [m]; exact (th_T2 th_nilT th_nilT)
          · rw [m]; exact hv.mono (by decide) (by decide)
      rw [then_nx, ss_cons]
      simp [lend_own, lend_sh, back_sh, back_none, e1, y3, g5, SZ]
      exact ⟨g7, g2⟩
end
end Mini
end

section
set_option linter.all false
set_option maxRecDepth 100000
set_option maxHeartbeats 0
namespace Mini
open PySem (Str PyData)
variable {P : Prog} [PK P] {n : Nat}
/-! moves: from states by words to states -/
abbrev Mv := List (List (Str × Nat))
def mvV (m : Mv) : PV := .ktup (m.map fun r => .ktup (r.map fun q => .ktup [.str q.1, .int q.2]))
def stp (m : Mv) (s : Nat) (w : Str) : Option Nat := ((m.getD s []).find? (fun q => q.1 == w)).map (·.2)
def stps (m : Mv) : Nat → List Str → Option Nat
  | s, [] => some s
  | s, w :: ws => (stp m s w).bind fun s => stps m s ws
def mvOk (m : Mv) : Bool := decide (0 < m.length) && m.all fun r => r.all fun q => decide (q.2 < m.length)
def stV' : Option Nat → PV
  | some s => .int s
  | none => .non
theorem stp_lt {m : Mv} (h : mvOk m = true) {s t : Nat} {w : Str} (e : stp m s w = some t) : t < m.length := by
  obtain ⟨q, hq, rfl⟩ := Option.map_eq_some_iff.mp e
  have h1 := List.mem_of_find?_eq_some hq
  simp only [mvOk, Bool.and_eq_true, List.all_eq_true, decide_eq_true_eq] at h
  refine h.2 (m.getD s []) ?_ q h1
  rw [List.getD_eq_getElem?_getD] at h1 ⊢
  cases e : m[s]? with
  | none => rw [e] at h1; simp at h1
  | some r => exact List.mem_of_getElem? e
theorem mv_ix {m : Mv} {s : Nat} (h : s < m.length) : index (mvV m) (.int s) = some (.ktup ((m.getD s []).map fun q => .ktup [.str q.1, .int q.2])) := by
  show (ixN (m.map _).length s).bind _ = _
  unfold ixN
  rw [if_pos (by omega), if_pos (by simpa using h)]
  simp [h]
theorem filt_find {r : List (Str × Nat)} {w : Str} : ((r.filter (fun q => q.1 == w)).map fun q => PV.int q.2) = match (r.find? (fun q => q.1 == w)).map (·.2) with
    | some t => .int t :: ((r.filter (fun q => q.1 == w)).map fun q => PV.int q.2).tail
    | none => [] := by
  rw [← List.head?_filter]
  cases r.filter (fun q => q.1 == w) with
  | nil => rfl
  | cons a l => rfl
def fltO (u : Str) : PV → Option PV
  | .ktup [.str w, i] => if w == u then some i else none
  | _ => none
theorem flt_eq (u : Str) : ∀ l : List (Str × Nat), (l.map fun q => PV.ktup [.str q.1, .int q.2]).filterMap (fltO u) = (l.filter (fun q => q.1 == u)).map fun q => PV.int q.2
  | [] => rfl
  | a :: l => by
    have ih := flt_eq u l
    by_cases e : a.1 = u
    · simp [fltO, e] at ih ⊢; exact ih
    · simp [fltO, e] at ih ⊢; exact ih
theorem ixL0 {a : PV} {r : List PV} : index (.lst (a :: r)) (.int 0) = some a := by simp [index, ixN]
theorem c89 {m : Mv} (hm : mvOk m = true) (hz : ∀ r ∈ m, r.length ≤ SZ) {ws : List Str} : callF P (n + 1) 89 [.sh (mvV m), .sh (.tup (ws.map .str))] = .ok (.sh (stV' (stps m 0 ws))) [some (.sh (mvV m)), some (.sh (.tup (ws.map .str)))] := by
  rw [call_at (m := f89) rfl]
  refine ok_eq (ok_run rfl ?_)
  simp only [f89, inits, outsOf]
  rw [ss_cons]
  refine Wp.mono (Q := fun fl s => fl = .nx ∧ s = [some (.sh (mvV m)), some (.sh (.tup (ws.map .str))), some (.sh (.int (0 : Nat))), none, none, none, none]) (by simp) ?_
  rintro _ _ ⟨rfl, rfl⟩
  rw [then_nx, ss_cons, s_fors]
  refine Wp.mono (Q := fun xs s => xs = ws.map .str ∧ s = [some (.sh (mvV m)), some (.sh (.tup (ws.map .str))), some (.sh (.int (0 : Nat))), none, none, none, none]) (by simp) ?_
  rintro _ _ ⟨rfl, rfl⟩
  refine wp_for (fun r s => ∃ (us : List Str) (st : Nat) (o3 o4 : Option W), r = us.map .str ∧ stps m 0 ws = stps m st us ∧ st < m.length ∧ s = [some (.sh (mvV m)), some (.sh (.tup (ws.map .str))), some (.sh (.int st)), o3, o4, none, none]) _ _ ⟨ws, 0, none, none, rfl, rfl, by simp [mvOk] at hm; exact hm.1, rfl⟩ ?_ ?_
  · rintro x r s ⟨us, st, o3, o4, e, e1, hl, rfl⟩
    cases us with
    | nil => cases e
    | cons u us =>
      cases e
      simp only [g_nm, put_m, setS_0, setS_s, Option.map_some]
      rw [ss_cons]
      refine Wp.mono (Q := fun fl s => fl = .nx ∧ s = [some (.sh (mvV m)), some (.sh (.tup (ws.map .str))), some (.sh (.int st)), some (.sh (.str u)), some (.sh (.lst (((m.getD st []).filter (fun q => q.1 == u)).map fun q => PV.int q.2))), none, none]) ?_ ?_
      · simp [mv_ix hl]
        have rz : (m.getD st []).length ≤ SZ := by
          rw [List.getD_eq_getElem?_getD]
          cases e : m[st]? with
          | none => simp
          | some r => exact hz r (List.mem_of_getElem? e)
        refine wp_compF (fltO u) [some (.sh (mvV m)), some (.sh (.tup (ws.map .str))), some (.sh (.int st)), some (.sh (.str u)), o4, none, none] rfl (by simpa using rz) ?_ ?_
        · intro x hx
          obtain ⟨q, _, rfl⟩ := List.mem_map.mp hx
          by_cases e : q.1 = u <;> simp [wp_frz, e, fltO]
        · intro s' hs
          rw [flt_eq]
          simp [hs]
      rintro _ _ ⟨rfl, rfl⟩
      rw [then_nx, filt_find]
      have e2 : stps m st (u :: us) = (stp m st u).bind fun s => stps m s us := rfl
      rw [e1, e2]
      have e3 : stp m st u = ((m.getD st []).find? (fun q => q.1 == u)).map (·.2) := rfl
      rw [← e3]
      cases e4 : stp m st u with
      | none =>
        simp [stV', e4]
      | some t =>
        have := stp_lt hm e4
        simp [e4, ixL0]
        exact ⟨us, rfl, t, rfl, this, rfl⟩
  · rintro s ⟨us, st, o3, o4, e, e1, hl, rfl⟩
    cases us with
    | cons _ _ => cases e
    | nil =>
      have e1 : stps m 0 ws = some st := e1
      simp [e1, stV']
end Mini
end

section
set_option linter.all false
set_option maxRecDepth 100000
set_option maxHeartbeats 0
namespace Mini
open PySem (Str PyData)
variable {P : Prog} [PK P] {n : Nat}
/-! the four ways -/
inductive Wy | f | b | w | r
def Wy.nm : Wy → Str
  | .f => "fetch" | .b => "bring" | .w => "write" | .r => "read"
def Wy.ls : Wy → Str
  | .f => "t>" | .b => "g>" | .w => "w>" | .r => "r>"
def Wy.en : Wy → Nat
  | .f => 0 | _ => 1
def Wy.mv : Wy → Mv
  | .f => [[("t>", 0)]]
  | y => [[("t>", 0), (y.ls, 1)], []]
theorem way_ix (y : Wy) : index g12 (.str y.nm) = some (.ktup [mvV y.mv, .ktup [.int y.en]]) := by cases y <;> rfl
theorem way_in (y : Wy) : cmpop .notin (.str y.nm) g12 = some false := by cases y <;> rfl
theorem way_mv (y : Wy) : mvOk y.mv = true ∧ ∀ r ∈ y.mv, r.length ≤ SZ := by cases y <;> decide
theorem glb12 : glbT 12 = some g12 := rfl
def okW (y : Wy) (ws : List Str) : Bool := match y with
  | .f => ws.all (· == "t>")
  | y => ws.dropLast.all (· == "t>") && (ws.isEmpty || ws.getLast? == some y.ls)
theorem stps_f : ∀ ws : List Str, stps (Wy.f).mv 0 ws = if ws.all (· == "t>") then some 0 else none
  | [] => rfl
  | w :: ws => by
    have ih := stps_f ws
    by_cases e : w = "t>"
    · subst e
      show ((stp (Wy.f).mv 0 "t>").bind fun s => stps (Wy.f).mv s ws) = _
      rw [show stp (Wy.f).mv 0 "t>" = some 0 from rfl, Option.bind_some, ih]
      simp
    · have : stp (Wy.f).mv 0 w = none := by
        have e' : ("t>" == w) = false := by simpa using fun h => e h.symm
        simp [stp, Wy.mv, e']
      show ((stp (Wy.f).mv 0 w).bind fun s => stps (Wy.f).mv s ws) = _
      rw [this]
      simp [e]
theorem stps_1 {y : Wy} (hy : y.en = 1) : ∀ ws : List Str, stps y.mv 1 ws = if ws = [] then some 1 else none
  | [] => rfl
  | w :: ws => by
    have : stp y.mv 1 w = none := by cases y <;> first | rfl | cases hy
    show ((stp y.mv 1 w).bind fun s => stps y.mv s ws) = _
    rw [this]; rfl
theorem stps_g {y : Wy} (hy : y.en = 1) : ∀ ws : List Str, (ws.isEmpty || stps y.mv 0 ws == some 1) = (ws.dropLast.all (· == "t>") && (ws.isEmpty || ws.getLast? == some y.ls))
  | [] => rfl
  | w :: ws => by
    have ih := stps_g hy ws
    show (false || ((stp y.mv 0 w).bind fun s => stps y.mv s ws) == some 1) = _
    have h1 : w = "t>" → stp y.mv 0 w = some 0 := by rintro rfl; cases y <;> rfl
    have h2 : w = y.ls → stp y.mv 0 w = some 1 := by rintro rfl; cases y <;> first | rfl | cases hy
    have h3 : w ≠ "t>" → w ≠ y.ls → stp y.mv 0 w = none := by
      intro a b
      have a' : ("t>" : Str) ≠ w := fun h => a h.symm
      have b' : y.ls ≠ w := fun h => b h.symm
      cases y <;> first | (cases hy; done) | (simp only [Wy.ls] at b'; simp [stp, Wy.mv, Wy.ls, a', b'])
    have ne : ("t>" : Str) ≠ y.ls := by cases y <;> first | decide | cases hy
    by_cases e1 : w = "t>"
    · rw [h1 e1, Option.bind_some]
      cases ws with
      | nil => subst e1; simp [stps, ne]
      | cons v vs =>
        simp only [List.isEmpty_cons, Bool.false_or] at ih ⊢
        rw [ih, e1]
        simp
    · by_cases e2 : w = y.ls
      · rw [h2 e2, Option.bind_some, stps_1 hy]
        cases ws with
        | nil => subst e2; simp
        | cons v vs => simp [e1]
      · rw [h3 e1 e2]
        cases ws with
        | nil => simp [e2]
        | cons v vs => simp [e1]
theorem stps_ok (y : Wy) (ws : List Str) : (ws.isEmpty || stps y.mv 0 ws == some y.en) = okW y ws := by
  cases y with
  | f =>
    rw [stps_f]
    cases ws with
    | nil => rfl
    | cons w ws =>
      simp only [List.isEmpty_cons, Bool.false_or, okW, Wy.en]
      cases (w :: ws).all (· == "t>") <;> rfl
  | b => exact stps_g rfl ws
  | w => exact stps_g rfl ws
  | r => exact stps_g rfl ws

/-! a path, taken apart -/
def pthV (is : List Int) (us : List Str) : PV := .tup [.tup (is.map .int), .tup (us.map .str)]
theorem path_ex {k : Nat} {rt : Int → Int → Str} {v : PV} (h : pathB k rt v = true) : ∃ is us, v = pthV is us ∧ is.length = us.length + 1 ∧ (∀ i ∈ is, 0 ≤ i ∧ i < k) ∧ (∀ u ∈ us, isW (.str u) = true) ∧ links rt (is.map .int) (us.map .str) = true := by
  unfold pathB at h
  split at h
  · rename_i ms ws
    simp only [Bool.and_eq_true, beq_iff_eq, List.all_eq_true] at h
    obtain ⟨h1, h2, h3, h4⟩ := h
    have hi : ∀ ms : List PV, (∀ m ∈ ms, inR m 0 (k - 1) = true) → ∃ is : List Int, ms = is.map .int ∧ ∀ i ∈ is, 0 ≤ i ∧ i < k := by
      intro ms
      induction ms with
      | nil => exact fun _ => ⟨[], rfl, by simp⟩
      | cons m ms ih =>
        intro h
        obtain ⟨is, rfl, hh⟩ := ih fun x hx => h x (List.mem_cons_of_mem _ hx)
        have := h m List.mem_cons_self
        obtain ⟨i, rfl⟩ := inR_int this
        simp [inR] at this
        refine ⟨i :: is, rfl, ?_⟩
        intro j hj
        rcases List.mem_cons.mp hj with rfl | hj
        · omega
        · exact hh j hj
    have hw : ∀ ws : List PV, (∀ w ∈ ws, isW w = true) → ∃ us : List Str, ws = us.map .str ∧ ∀ u ∈ us, isW (.str u) = true := by
      intro ws
      induction ws with
      | nil => exact fun _ => ⟨[], rfl, by simp⟩
      | cons w ws ih =>
        intro h
        obtain ⟨us, rfl, hh⟩ := ih fun x hx => h x (List.mem_cons_of_mem _ hx)
        have := h w List.mem_cons_self
        obtain ⟨c0, c1, rfl⟩ := isW_str this
        refine ⟨_ :: us, rfl, ?_⟩
        intro j hj
        rcases List.mem_cons.mp hj with rfl | hj
        · exact this
        · exact hh j hj
    obtain ⟨is, rfl, a⟩ := hi ms h2
    obtain ⟨us, rfl, b⟩ := hw ws h3
    exact ⟨is, us, rfl, by simpa using h1, a, b, h4⟩
  · cases h
def spI (y : Wy) (d m : Int) (is : List Int) (us : List Str) : Bool := is.head? == some d && (is.getLast? == some m && okW y us)
/-- intsM, texts out of a path -/
def unI : PV → List Int
  | .tup [.tup ms, _] => (Mini.intsM ms).getD []
  | _ => []
def unS : PV → List Str
  | .tup [_, .tup ws] => (Mini.strsM ws).getD []
  | _ => []
theorem ints_map : ∀ is : List Int, Mini.intsM (is.map .int) = some is
  | [] => rfl
  | i :: is => by
    show (Mini.intsM (is.map .int)).map (i :: ·) = _
    rw [ints_map is]; rfl
theorem strs_mapS : ∀ us : List Str, Mini.strsM (us.map .str) = some us
  | [] => rfl
  | i :: is => by
    show (Mini.strsM (is.map .str)).map (i :: ·) = _
    rw [strs_mapS is]; rfl
@[simp] theorem unI_p (is : List Int) (us : List Str) : unI (pthV is us) = is := by simp [unI, pthV, ints_map]
@[simp] theorem unS_p (is : List Int) (us : List Str) : unS (pthV is us) = us := by simp [unS, pthV, strs_mapS]
def spB (k : Nat) (rt : Int → Int → Str) (y : Wy) (d m : Int) (v : PV) : Bool := pathB k rt v && spI y d m (unI v) (unS v)
section
variable {ks : Str} {hd : List (List Key × PV)} {rw' : PV} {rt : Int → Int → Str} {d m : Int} {y : Wy} {v : PV}
/-- a doer -/
def isD (ks : Str) (d : Int) : Prop := 0 ≤ d ∧ d < ks.length ∧ ks.cps.toList[d.toNat]? = some 68
theorem glb2 : glbT 2 = some (.str "D") := rfl
theorem ixS {i : Int} {c : Nat} (h0 : 0 ≤ i) (hz : ks.length ≤ SZ) (h1 : i < ks.length) (h : ks.cps.toList[i.toNat]? = some c) : index (.str ks) (.int i) = some (.str ⟨#[c]⟩) := by
  show (if ks.length ≤ SZ then (ixN ks.length i).bind fun k => (ks.cps.toList[k]?).map fun c => PV.str ⟨#[c]⟩ else none) = _
  rw [if_pos hz]
  unfold ixN
  rw [if_pos h0, if_pos h1, Option.bind_some, h]
  rfl
theorem c31 (hz : ks.length ≤ SZ) (h : isD ks d) : callF P (n + 4) 31 [.sh (stV ks hd rw'), .sh (.int d)] = .ok (.sh (.bl true)) [some (.sh (stV ks hd rw')), some (.sh (.int d))] := by
  rw [call_at (m := f31) rfl]
  refine ok_eq (ok_run rfl ?_)
  obtain ⟨h0, h1, h2⟩ := h
  have t2 : tyq (.int d) := fun _ => rfl
  have r1 : inR (.int d) 0 (ks.length - 1) = true := by simp [inR]; omega
  simp [f31, inits, outsOf, lend_sh, back_sh, c30 t2 hz, r1, ixS h0 hz h1 h2, glb2]
  rfl
theorem c36 (hz : ks.length ≤ SZ) (h : isD ks d) : callF P (n + 5) 36 [.sh (stV ks hd rw'), .sh (.int d)] = .ok (.sh .non) [some (.sh (stV ks hd rw')), some (.sh (.int d))] := by
  rw [call_at (m := f36) rfl]
  refine ok_eq (ok_run rfl ?_)
  simp [f36, inits, outsOf, lend_sh, back_sh, c31 hz h]
theorem c34 (hz : ks.length ≤ SZ) (h0 : 0 ≤ m) (h1 : m < ks.length) : callF P (n + 4) 34 [.sh (stV ks hd rw'), .sh (.int m)] = .ok (.sh .non) [some (.sh (stV ks hd rw')), some (.sh (.int m))] := by
  rw [call_at (m := f34) rfl]
  refine ok_eq (ok_run rfl ?_)
  have t2 : tyq (.int m) := fun _ => rfl
  have r1 : inR (.int m) 0 (ks.length - 1) = true := by simp [inR]; omega
  simp [f34, inits, outsOf, lend_sh, back_sh, c30 t2 hz, r1]
theorem c93 (y : Wy) : callF P (n + 1) 93 [.sh (.str y.nm)] = .ok (.sh .non) [some (.sh (.str y.nm))] := by
  rw [call_at (m := f93) rfl]
  refine ok_eq (ok_run rfl ?_)
  simp [f93, inits, outsOf, glb12, way_in, typeIs, typeOk]
theorem c97 (hz : ks.length ≤ SZ) (h : isD ks d) (h0 : 0 ≤ m) (h1 : m < ks.length) : callF P (n + 6) 97 [.sh (stV ks hd rw'), .sh (.str y.nm), .sh (.int d), .sh (.int m)] = .ok (.sh .non) [some (.sh (stV ks hd rw')), some (.sh (.str y.nm)), some (.sh (.int d)), some (.sh (.int m))] := by
  rw [call_at (m := f97) rfl]
  refine ok_eq (ok_run rfl ?_)
  simp [f97, inits, outsOf, lend_sh, back_sh, c93, c36 hz h, c34 hz h0 h1]
theorem ix_p0 {is : List Int} {us : List Str} : index (pthV is us) (.int 0) = some (.tup (is.map .int)) := rfl
theorem ix_p1 {is : List Int} {us : List Str} : index (pthV is us) (.int 1) = some (.tup (us.map .str)) := rfl
theorem ixM {is : List Int} (h : is ≠ []) : ∃ a, is.head? = some a ∧ index (.tup (is.map .int)) (.int 0) = some (.int a) := by
  cases is with
  | nil => exact absurd rfl h
  | cons a r => exact ⟨a, rfl, ix_l0⟩
theorem ixT {xs : List PV} {a : PV} (h : xs.getLast? = some a) : index (.tup xs) (.int (-1)) = some a := ix_last (ms := xs) h
theorem ixE {is : List Int} (h : is ≠ []) : ∃ a, is.getLast? = some a ∧ index (.tup (is.map .int)) (.int (-1)) = some (.int a) := by
  cases e : is.getLast? with
  | none => exact absurd (List.getLast?_eq_none_iff.mp e) h
  | some a => exact ⟨a, rfl, ixT (by rw [List.getLast?_map, e]; rfl)⟩
theorem c99 (ht : Tb hd rt) (hz : ks.length ≤ SZ) (hv : Askd v) : callF P (n + 5) 99 [.sh (stV ks hd rw'), .sh v, .sh (.int d), .sh (.int m)] = .ok (.sh (.bl (pathB ks.length rt v && ((unI v).head? == some d && (unI v).getLast? == some m)))) [some (.sh (stV ks hd rw')), some (.sh v), some (.sh (.int d)), some (.sh (.int m))] := by
  rw [call_at (m := f99) rfl]
  refine ok_eq (ok_run rfl ?_)
  cases e : pathB ks.length rt v with
  | false => simp [f99, inits, outsOf, lend_sh, back_sh, c88 ht hz hv, e]
  | true =>
    obtain ⟨is, us, rfl, hl, _⟩ := path_ex e
    have hne : is ≠ [] := by rintro rfl; simp at hl
    obtain ⟨a, a1, a2⟩ := ixM hne
    obtain ⟨b, b1, b2⟩ := ixE hne
    by_cases ea : a = d
    · subst ea
      simp [f99, inits, outsOf, lend_sh, back_sh, c88 ht hz hv, e, ix_p0, a1, a2, b1, b2]
    · simp [f99, inits, outsOf, lend_sh, back_sh, c88 ht hz hv, e, ix_p0, a1, a2, b1, b2, ea]
theorem in_en {s : Option Nat} {e : Nat} : cmpop .in_ (stV' s) (.ktup [.int e]) = some (s == some e) := by
  cases s with
  | none => simp [cmpop, stV', isData, dep, deq]
  | some s => 
    have : ((e : Int) == (s : Int)) = (some s == some e) := by
      rw [Bool.eq_iff_iff]
      simp
      omega
    simp [cmpop, stV', isData, dep, deq, this]
theorem c100 (ht : Tb hd rt) (hz : ks.length ≤ SZ) (h : isD ks d) (h0 : 0 ≤ m) (h1 : m < ks.length) (hv : Askd v) :
    callF P (n + 7) 100 [.sh (stV ks hd rw'), .sh (.str y.nm), .sh (.int d), .sh (.int m), .sh v] = .ok (.sh (.bl (spB ks.length rt y d m v))) [some (.sh (stV ks hd rw')), some (.sh (.str y.nm)), some (.sh (.int d)), some (.sh (.int m)), some (.sh v)] := by
  rw [call_at (m := f100) rfl]
  refine ok_eq (ok_run rfl ?_)
  unfold spB spI
  by_cases e : (pathB ks.length rt v && ((unI v).head? == some d && (unI v).getLast? == some m)) = true
  · obtain ⟨e1, e2⟩ := Bool.and_eq_true_iff.mp e
    obtain ⟨e2, e3⟩ := Bool.and_eq_true_iff.mp e2
    obtain ⟨is, us, rfl, hl, _⟩ := path_ex e1
    have c99' := c99 (P := P) (n := n + 1) (rw' := rw') (d := d) (m := m) ht hz hv
    rw [e] at c99'
    have w1 := way_ix y
    have w2 := c89 (P := P) (n := n + 5) (way_mv y).1 (way_mv y).2 (ws := us)
    rw [e1, e2, e3, unS_p, ← stps_ok]
    cases us with
    | nil => simp [f100, inits, outsOf, lend_sh, back_sh, c97 hz h h0 h1, c99', glb12, w1, ix_p1]
    | cons u us =>
      have hne : ¬ ((us.length : Int) + 1 = 0) := by omega
      simp only [List.map_cons] at w2
      simp [f100, inits, outsOf, lend_sh, back_sh, c97 hz h h0 h1, c99', glb12, w1, w2, ix_p1, in_en, hne]
  · have e := Bool.eq_false_iff.mpr e
    have c99' := c99 (P := P) (n := n + 1) (rw' := rw') (d := d) (m := m) ht hz hv
    rw [e] at c99'
    have : (pathB ks.length rt v && ((unI v).head? == some d && ((unI v).getLast? == some m && okW y (unS v)))) = false := by
      rw [← Bool.and_assoc ((unI v).head? == some d), ← Bool.and_assoc, e, Bool.false_and]
    rw [this]
    simp [f100, inits, outsOf, lend_sh, back_sh, c97 hz h h0 h1, c99']
end
end Mini
end

section
set_option linter.all false
set_option maxRecDepth 100000
set_option maxHeartbeats 0
namespace Mini
open PySem (Str PyData)
variable {P : Prog} [PK P] {n : Nat}
section
variable {ks : Str} {tb : List (List Key × PV)} {rt : Int → Int → Str} {d m : Int} {y : Wy} {v : PV}
def lastD : PV := .dk [(.inr "bring", .str "g>"), (.inr "write", .str "w>"), (.inr "read", .str "r>")]
theorem mk_last : mkDK [.tup [.str "bring", .str "g>"], .tup [.str "write", .str "w>"], .tup [.str "read", .str "r>"]] [] = some [(.inr "bring", .str "g>"), (.inr "write", .str "w>"), (.inr "read", .str "r>")] := rfl
theorem ix_lastD {y : Wy} (h : y.en = 1) : index lastD (.str y.nm) = some (.str y.ls) := by cases y <;> first | rfl | cases h
theorem any_ne {us : List Str} : (us.map fun u => decide (u ≠ ("t>" : Str))).any id = !us.all (· == "t>") := by
  induction us with
  | nil => rfl
  | cons u us ih =>
    rw [List.map_cons, List.any_cons, ih, List.all_cons]
    by_cases e : u = "t>" <;> simp [e]
theorem len_last {us : List Str} (h : us ≠ []) : ∃ a, us.getLast? = some a ∧ index (.tup (us.map .str)) (.int (-1)) = some (.str a) := by
  cases e : us.getLast? with
  | none => exact absurd (List.getLast?_eq_none_iff.mp e) h
  | some a => exact ⟨a, rfl, ixT (by rw [List.getLast?_map, e]; rfl)⟩
theorem nm_f {y : Wy} : (y.nm == ("fetch" : Str)) = decide (y.en = 0) := by cases y <;> decide
theorem c1015 (ht : Tb tb rt) (hz : ks.length ≤ SZ) (hv : Askd v) :
    callF P (n + 3) 1015 [.sh (paV ks tb), .sh (.str y.nm), .sh (.int d), .sh (.int m), .sh v] = .ok (.sh (.bl (spB ks.length rt y d m v))) [some (.sh (paV ks tb)), some (.sh (.str y.nm)), some (.sh (.int d)), some (.sh (.int m)), some (.sh v)] := by
  rw [call_at (m := f1015) rfl]
  refine ok_eq (ok_run rfl ?_)
  have cP := c1009 (P := P) (n := n) ht hz hv
  unfold spB spI
  cases e : pathB ks.length rt v with
  | false => rw [e] at cP; simp [f1015, inits, outsOf, lend_sh, back_sh, cP]
  | true =>
    rw [e] at cP
    obtain ⟨is, us, rfl, hl, _⟩ := path_ex e
    have hne : is ≠ [] := by rintro rfl; simp at hl
    obtain ⟨a, a1, a2⟩ := ixM hne
    obtain ⟨b, b1, b2⟩ := ixE hne
    have hzu : us.length ≤ SZ := by
      have := (hv.el _ rfl (.tup (us.map .str)) (by simp)).2.2 _ rfl
      simpa using this.1
    by_cases ea : a = d
    · by_cases eb : b = m
      · subst ea eb
        have q1 : y.nm = ("fetch" : Str) ↔ y.en = 0 := by cases y <;> decide
        obtain ⟨us', hus⟩ : ∃ us', us' = if y.en = 0 then us else us.dropLast := ⟨_, rfl⟩
        have hz' : us'.length ≤ SZ := by
          rw [hus]; split
          · exact hzu
          · rw [List.length_dropLast]; omega
        have bm : ∀ us' : List Str, Mini.bools (us'.map fun u => PV.bl (decide (u ≠ ("t>" : Str)))) = some (us'.map fun u => decide (u ≠ ("t>" : Str))) := by
          intro us'
          induction us' with
          | nil => rfl
          | cons u us' ih =>
            show (Mini.bools (us'.map fun u => PV.bl (decide (u ≠ ("t>" : Str))))).map _ = _
            rw [ih]; rfl
        simp only [f1015, inits, outsOf]
        rw [ss_cons]
        refine Wp.mono (Q := fun fl s => fl = .nx ∧ s = [some (.sh (paV ks tb)), some (.sh (.str y.nm)), some (.sh (.int a)), some (.sh (.int b)), some (.sh (pthV is us)), none, none]) ?_ ?_
        · simp [lend_sh, back_sh, cP, ix_p0, ix_p1, a1, a2, b1, b2]
        rintro _ _ ⟨rfl, rfl⟩
        rw [then_nx, ss_cons]
        refine Wp.mono (Q := fun fl s => fl = .nx ∧ s = [some (.sh (paV ks tb)), some (.sh (.str y.nm)), some (.sh (.int a)), some (.sh (.int b)), some (.sh (pthV is us)), some (.sh (.tup (us'.map .str))), none]) ?_ ?_
        · by_cases ef : y.en = 0 <;> simp [q1, ef, hus, ix_p1, slc_m1, List.dropLast_eq_take]
        rintro _ _ ⟨rfl, rfl⟩
        rw [then_nx, ss_cons, s_ifs]
        refine Wp.mono (Q := fun c s => c = !us'.all (· == "t>") ∧ s = [some (.sh (paV ks tb)), some (.sh (.str y.nm)), some (.sh (.int a)), some (.sh (.int b)), some (.sh (pthV is us)), some (.sh (.tup (us'.map .str))), none]) ?_ ?_
        · simp
          refine wp_compM (fun x => match x with | .str u => .bl (decide (u ≠ ("t>" : Str))) | _ => .non) [some (.sh (paV ks tb)), some (.sh (.str y.nm)), some (.sh (.int a)), some (.sh (.int b)), some (.sh (pthV is us)), some (.sh (.tup (us'.map .str))), none] rfl (by simpa using hz') ?_ ?_
          · intro x hx
            obtain ⟨u, _, rfl⟩ := List.mem_map.mp hx
            by_cases e : u = ("t>" : Str) <;> simp [wp_frz, e]
          · intro s' hs
            rw [List.map_map, show ((fun x => match x with | PV.str u => PV.bl (decide (u ≠ ("t>" : Str))) | _ => PV.non) ∘ PV.str) = fun u => PV.bl (decide (u ≠ ("t>" : Str))) from rfl, bm]
            simp only [Option.map_some, any_ne]
            simp [hs]
        rintro _ _ ⟨rfl, rfl⟩
        cases ea : us'.all (· == "t>") with
        | false =>
          have : okW y us = false := by
            by_cases ef : y.en = 0
            · rw [if_pos ef] at hus
              have ey : y = .f := by cases y <;> first | rfl | cases ef
              subst ey hus
              exact ea
            · rw [if_neg ef] at hus
              subst hus
              cases y <;> first | exact absurd rfl ef | (simp only [okW, ea, Bool.false_and])
          simp [this]
        | true =>
          simp
          by_cases ef : y.en = 0
          · rw [if_pos ef] at hus
            have ey : y = .f := by cases y <;> first | rfl | cases ef
            subst ey hus
            have : okW .f us' = true := ea
            simp [q1, ef, this, a1, b1]
          · rw [if_neg ef] at hus
            subst hus
            have en : y.en = 1 := by cases y <;> first | rfl | exact absurd rfl ef
            have o1 : okW y us = (us.isEmpty || us.getLast? == some y.ls) := by
              cases y <;> first | exact absurd rfl ef | (simp only [okW, ea, Bool.true_and])
            cases us with
            | nil => simp [q1, ef, ix_p1, o1, a1, b1]
            | cons u us =>
              obtain ⟨c, c1, c2⟩ := len_last (us := u :: us) (by simp)
              have hne : ¬ ((us.length : Int) + 1 = 0) := by omega
              rw [List.map_cons] at c2
              simp [q1, ef, ix_p1, o1, a1, b1, hne, c1, c2, mk_last, show index (.dk [(.inr "bring", .str "g>"), (.inr "write", .str "w>"), (.inr "read", .str "r>")]) (.str y.nm) = some (.str y.ls) from ix_lastD en]
      · simp [f1015, inits, outsOf, lend_sh, back_sh, cP, ix_p0, ix_p1, a1, a2, b1, b2, ea, eb]
    · simp [f1015, inits, outsOf, lend_sh, back_sh, cP, ix_p0, ix_p1, a1, a2, b1, b2, ea]
/-! the doers -/
def dsF : PV → Option PV
  | .tup [.int i, .str u] => if u = "D" then some (.int i) else none
  | _ => none
def dsL (ks : Str) : List PV := (enumFrom 0 (ks.cps.toList.map fun c => PV.str ⟨#[c]⟩)).filterMap dsF
theorem ds_isD {v : PV} (h : v ∈ dsL ks) : ∃ i, v = .int i ∧ isD ks i := by
  obtain ⟨x, hx, e⟩ := List.mem_filterMap.mp h
  obtain ⟨j, e1, l3⟩ := enum_get hx
  rw [List.length_map] at l3
  subst e1
  have hg : (ks.cps.toList.map fun c => PV.str ⟨#[c]⟩).getD j .non = .str ⟨#[ks.cps.toList[j]]⟩ := by
    rw [List.getD_eq_getElem?_getD, List.getElem?_map, List.getElem?_eq_getElem l3]; rfl
  rw [hg, Nat.zero_add] at e
  have e : (if (⟨#[ks.cps.toList[j]]⟩ : Str) = "D" then some (PV.int j) else none) = some v := e
  split at e
  · rename_i hd
    cases e
    have e5 : ks.cps.toList[j] = 68 := by
      have h2 : (Str.ofString "D").cps = #[68] := rfl
      have := congrArg Str.cps hd
      rw [h2] at this
      simpa using this
    have l4 : j < ks.length := l3
    refine ⟨_, rfl, by omega, by omega, ?_⟩
    rw [Int.toNat_natCast, List.getElem?_eq_getElem l3, e5]
  · cases e
theorem c1013 (hz : ks.length ≤ SZ) : callF P (n + 1) 1013 [.sh (paV ks tb)] = .ok (.own (.lst (dsL ks))) [some (.sh (paV ks tb))] := by
  rw [call_at (m := f1013) rfl]
  refine ok_eq (ok_run rfl ?_)
  simp [f1013, inits, outsOf, paV_0, itemsS_str]
  have e0 : (enumFrom 0 (ks.cps.toList.map fun c => PV.str ⟨#[c]⟩)).length = ks.length := by rw [enum_len, List.length_map]; rfl
  refine wp_compF dsF [some (.sh (paV ks tb)), none, none] rfl (by rw [e0]; exact hz) ?_ ?_
  · intro x hx
    obtain ⟨j, w, rfl, hw, _, _⟩ := enum_mem hx
    obtain ⟨c, _, rfl⟩ := List.mem_map.mp hw
    by_cases e : (⟨#[c]⟩ : Str) = "D" <;> simp [wp_frz, dsF, e]
  · intro s' hs
    simp [hs, dsL]
/-! paths led on -/
theorem ix_e {is : List Int} {a : Int} (h : is.getLast? = some a) : index (.tup (is.map .int)) (.int (-1)) = some (.int a) := ixT (by rw [List.getLast?_map, h]; rfl)
end
end Mini
end

section
set_option linter.all false
set_option maxRecDepth 100000
set_option maxHeartbeats 0
namespace Mini
open PySem (Str PyData)
variable {P : Prog} [PK P] {n : Nat}
/-! a path led on -/
theorem links_app {rt : Int → Int → Str} {a : PV} {ms ws : List PV} : ∀ {ms0 ws0 : List PV}, ms0.length = ws0.length + 1 → ms0.getLast? = some a → links rt (ms0 ++ ms) (ws0 ++ ws) = (links rt ms0 ws0 && links rt (a :: ms) ws)
  | [], ws0, h, _ => by simp at h
  | [x], [], _, e => by
    cases e
    simp [links]
  | [x], w :: ws0, h, _ => by simp at h
  | x :: y :: r, [], h, _ => by simp at h
  | x :: y :: r, w :: ws0, h, e => by
    have ih := links_app (rt := rt) (a := a) (ms := ms) (ws := ws) (ms0 := y :: r) (ws0 := ws0) (by simpa using h) (by simpa using e)
    simp only [List.cons_append, links] at ih ⊢
    rw [ih, Bool.and_assoc]
theorem Pth.app {k : Nat} {rt : Int → Int → Str} {ms ws ms0 ws0 : List PV} {a : PV} (h0 : Pth k rt ms0 ws0) (h : Pth k rt ms ws) (ha : ms0.getLast? = some a) (hb : ms.head? = some a) : Pth k rt (ms0 ++ ms.tail) (ws0 ++ ws) := by
  cases ms with
  | nil => cases hb
  | cons b r =>
    cases hb
    refine ⟨?_, ?_, ?_, ?_⟩
    · have := h0.len
      have := h.len
      simp only [List.length_append, List.tail_cons, List.length_cons] at *
      omega
    · intro m hm
      rcases List.mem_append.mp hm with q | q
      · exact h0.mem m q
      · exact h.mem m (List.mem_cons_of_mem _ q)
    · intro w hw
      rcases List.mem_append.mp hw with q | q
      · exact h0.wds w q
      · exact h.wds w q
    · rw [List.tail_cons, links_app h0.len ha, h0.lnk, h.lnk]; rfl
theorem Pth.last {k : Nat} {rt : Int → Int → Str} {ms ws : List PV} (h : Pth k rt ms ws) : ∃ i : Int, ms.getLast? = some (.int i) ∧ 0 ≤ i ∧ i < k := by
  cases e : ms.getLast? with
  | none =>
    rw [List.getLast?_eq_none_iff] at e
    have := h.len
    rw [e] at this; simp at this
  | some a =>
    have := h.mem a (List.mem_of_getLast? e)
    obtain ⟨i, rfl⟩ := inR_int this
    simp [inR] at this
    exact ⟨i, rfl, by omega, by omega⟩
theorem Pth.first {k : Nat} {rt : Int → Int → Str} {ms ws : List PV} (h : Pth k rt ms ws) : ∃ i : Int, ms.head? = some (.int i) ∧ 0 ≤ i ∧ i < k := by
  cases ms with
  | nil => have := h.len; simp at this
  | cons a r =>
    have := h.mem a List.mem_cons_self
    obtain ⟨i, rfl⟩ := inR_int this
    simp [inR] at this
    exact ⟨i, rfl, by omega, by omega⟩
def words6 : List PV := [.str "g>", .str "r>", .str "w>", .str "t>", .str "g<", .str "t<"]
section
variable {ks : Str} {tb : List (List Key × PV)} {rt : Int → Int → Str}
def ptV (ms ws : List PV) : PV := .tup [.tup ms, .tup ws]
theorem ledOn (ht : Tb tb rt) (hk : ksOk ks) {h : PV} (hh : HandV h) {ms ws : List PV} (hp : Pth ks.length rt ms ws) (hl : ms.length ≤ 100) :
    Ok (callF P (n + 6) 1016 [.own h, .sh (paV ks tb), .sh (ptV ms ws)]) fun w o => ∃ ms' ws' h', w = .sh (ptV ms' ws') ∧ Pth ks.length rt ms' ws' ∧ ms'.length ≤ ms.length + 1 ∧ HandV h' ∧ o = [some (.own h'), some (.sh (paV ks tb)), some (.sh (ptV ms ws))] := by
  rw [call_at (m := f1016) rfl]
  refine ok_run rfl ?_
  simp only [f1016, inits, outsOf]
  obtain ⟨a, a1, a2, a3⟩ := hp.last
  obtain ⟨w, o, e, ms1, ws1, h', rfl, hp1, hl1, _, hd1, hh', rfl⟩ := walk (P := P) (n := n) ht hk hh (st := a) (most := 1) a2 (by omega) (by decide) (by decide) (wl := words6) (by intro w hw; simp [words6, words8] at hw ⊢; rcases hw with rfl | rfl | rfl | rfl | rfl | rfl <;> simp) (by decide)
  rw [ss_cons]
  refine Wp.mono (Q := fun fl s => fl = .nx ∧ s = [some (.own h'), some (.sh (paV ks tb)), some (.sh (ptV ms ws)), some (.sh (ptV ms1 ws1))]) ?_ ?_
  · have i0 : index (ptV ms ws) (.int 0) = some (.tup ms) := rfl
    simp only [words6] at e
    simp [i0, ixT a1, SZ, lend_own, lend_sh, back_none, back_sh, e]
    rfl
  rintro _ _ ⟨rfl, rfl⟩
  rw [then_nx, ss_cons]
  have i0 : ∀ ms ws, index (ptV ms ws) (.int 0) = some (.tup ms) := fun _ _ => rfl
  have i1 : ∀ ms ws, index (ptV ms ws) (.int 1) = some (.tup ws) := fun _ _ => rfl
  have l1 := hp.len
  have l2 := hp1.len
  have l3 : ms1.length ≤ 2 := hl1
  have z1 := bin_addT (xs := ms) (ys := ms1.tail) (by simp [SZ]; omega)
  have z2 := bin_addT (xs := ws) (ys := ws1) (by simp [SZ]; omega)
  simp [i0, i1, z1, z2, SZ]
  refine ⟨_, _, rfl, hp.app hp1 a1 hd1, ?_, hh'⟩
  simp; omega
end
end Mini
end

section
set_option linter.all false
set_option maxRecDepth 100000
set_option maxHeartbeats 0
namespace Mini
open PySem (Str PyData)
variable {P : Prog} [PK P] {n : Nat}
section
variable {h : PV}
theorem draw_x (hh : HandV h) {m : Int} (h0 : 0 < m) (h1 : m < 1073741824) : ∃ r h', callF P (n + 1) 1001 [.own h, .sh (.int m)] = .ok (.sh (.int r)) [some (.own h'), some (.sh (.int m))] ∧ 0 ≤ r ∧ r < m ∧ HandV h' :=
  ⟨_, _, draw_eq hh h0 h1, draw_0 hh h0 h1, draw_lt hh h0 h1, draw_h hh h0 h1⟩
theorem any_x (hh : HandV h) {xs : List PV} (h0 : 0 < xs.length) (h1 : xs.length < 1073741824) : ∃ v h', callF P (n + 2) 1002 [.own h, .own (.lst xs)] = .ok (.sh v) [some (.own h'), some (.own (.lst xs))] ∧ v ∈ xs ∧ HandV h' :=
  ⟨_, _, any_eq hh h0 h1, any_mem hh h0 h1, any_h hh h0 h1⟩
theorem any_xS (hh : HandV h) {xs : List PV} (h0 : 0 < xs.length) (h1 : xs.length < 1073741824) : ∃ v h', callF P (n + 2) 1002 [.own h, .sh (.lst xs)] = .ok (.sh v) [some (.own h'), some (.sh (.lst xs))] ∧ v ∈ xs ∧ HandV h' :=
  ⟨_, _, any_eqS hh h0 h1, any_mem hh h0 h1, any_h hh h0 h1⟩
end
theorem copy_tbl {rp : PV → Option Str} {S : List (Int × Int)} {f : Int → Int → Str} (h : ∀ p ∈ S, 0 ≤ p.1 ∧ p.1 < 32 ∧ 0 ≤ p.2 ∧ p.2 < 32) : builtin rp .dictT [.dt (tbl S f)] = some (.own (.dt (tbl S f))) := by
  show (if ((tbl S f).map (·.1)).all smallK = true then some (W.own (.dt (tbl S f))) else none) = _
  rw [if_pos]
  rw [List.all_eq_true]
  intro k hk
  simp only [tbl, List.map_map, List.mem_map, Function.comp] at hk
  obtain ⟨p, hp, rfl⟩ := hk
  have := h p hp
  simp [kp, smallK, this]
theorem len_k {rp : PV → Option Str} {ks : Str} (h : ks.length ≤ SZ) : builtin rp .len [.str ks] = some (.sh (.int ks.length)) := by
  show (if _ then _ else _) = _
  rw [if_pos h]
theorem fmod_ne {s a b m : Int} (h0 : 0 < m) (ha : 0 ≤ a) (ha' : a < m) (hb : 0 ≤ b) (hb' : b < m) (hab : a ≠ b) (hs : 0 ≤ s) : (s + a).fmod m ≠ (s + b).fmod m := by
  intro e
  rw [Int.fmod_eq_emod_of_nonneg _ (by omega), Int.fmod_eq_emod_of_nonneg _ (by omega)] at e
  have := (Int.emod_emod_of_dvd 0 (Int.dvd_refl m))
  have h1 : ((s + a) - (s + b)) % m = 0 := Int.emod_eq_emod_iff_emod_sub_eq_zero.mp e
  obtain ⟨q, hq⟩ := Int.dvd_of_emod_eq_zero h1
  have h2 : a - b = m * q := by omega
  rcases Int.lt_trichotomy q 0 with g | g | g
  · have := Int.mul_le_mul_of_nonneg_left (show q ≤ -1 by omega) (show 0 ≤ m by omega)
    omega
  · subst g; simp at h2; omega
  · have := Int.mul_le_mul_of_nonneg_left (show 1 ≤ q by omega) (show 0 ≤ m by omega)
    omega
def ringR : List PV := [.str "t", .str "gt", .str "rt", .str "tw", .str "grtw"]
theorem ring_rl {v : PV} (h : v ∈ ringR) : ∃ x, v = .str x ∧ x ∈ rl := by
  simp only [ringR, List.mem_cons, List.not_mem_nil, or_false] at h
  rcases h with rfl | rfl | rfl | rfl | rfl <;> exact ⟨_, rfl, by decide⟩
theorem ring {M : Int} (hM : M ≤ 16) {h pa : PV} (hh : HandV h) (hp : Drawn M pa) : Ok (callF P (n + 5) 1014 [.own h, .sh pa]) fun w o => ∃ ks S f h', w = .sh (paV ks (tbl S f)) ∧ ksOk ks ∧ (ks.length : Int) ≤ M ∧ Rows ks.length S f ∧ HandV h' ∧ o = [some (.own h'), some (.sh pa)] := by
  obtain ⟨ks, S, f, rfl, hk, hkM, hR, hS⟩ := hp
  rw [call_at (m := f1014) rfl]
  refine ok_run rfl ?_
  simp only [f1014, inits, outsOf]
  have cp := fun rp => copy_tbl (rp := rp) (S := S) (f := f) fun p hp => by have := hR.ok p hp; omega
  have hk1 := hk.1
  rw [ss_cons]
  refine Wp.mono (Q := fun fl s => fl = .nx ∧ s = [some (.own h), some (.sh (paV ks (tbl S f))), some (.own (.dt (tbl S f))), some (.sh (.int ks.length)), none, none, none, none, none]) ?_ ?_
  · simp [paV_0, paV_1, cp, len_k (ks_sz hk)]
  rintro _ _ ⟨rfl, rfl⟩
  rw [then_nx, ss_cons]
  refine Wp.mono (Q := fun fl s => fl = .nx ∧ ∃ (h' : PV) (st sz : Int), HandV h' ∧ 0 ≤ st ∧ st < ks.length ∧ 2 ≤ sz ∧ sz ≤ 4 ∧ s = [some (.own h'), some (.sh (paV ks (tbl S f))), some (.own (.dt (tbl S f))), some (.sh (.int ks.length)), some (.sh (.int st)), some (.sh (.int sz)), none, none, none]) ?_ ?_
  · obtain ⟨r, h1, e1, r0, r1, hh1⟩ := draw_x (P := P) (n := n + 3) hh (m := ks.length) (by omega) (by have := hk.2.1; omega)
    obtain ⟨r', h2, e2, r0', r1', hh2⟩ := draw_x (P := P) (n := n + 3) hh1 (m := 3) (by omega) (by omega)
    simp [lend_own, lend_sh, back_none, back_sh, e1, e2]
    exact ⟨_, hh2, r, r0, r1, _, by omega, by omega, rfl, rfl, rfl⟩
  rintro _ _ ⟨rfl, h1, st, sz, hh1, st0, st1, sz0, sz1, rfl⟩
  rw [then_nx, ss_cons, s_fors]
  refine Wp.mono (Q := fun xs s => ∃ k : Nat, (xs ≠ [] → sz < ks.length) ∧ k ≤ 4 ∧ (k : Int) ≤ sz ∧ xs = (List.range k).map (fun (j : Nat) => .int j) ∧ s = [some (.own h1), some (.sh (paV ks (tbl S f))), some (.own (.dt (tbl S f))), some (.sh (.int ks.length)), some (.sh (.int st)), some (.sh (.int sz)), none, none, none]) ?_ ?_
  · by_cases c : sz < ks.length
    · simp [c, rng_1 (show 0 ≤ sz by omega) (show sz < 1073741824 by omega), rng_items]
      exact ⟨sz.toNat, by omega, by omega, rfl⟩
    · simp [c, rng_1 (show (0 : Int) ≤ 0 by omega) (by decide), rng_items]
      omega
  rintro _ _ ⟨k, hks, hk4, hksz, rfl, rfl⟩
  refine wp_for (fun r s => ∃ h' t o_k o_a o_b j, HandV h' ∧ Tab ks.length j t ∧ j + r.length ≤ 36 ∧ (∀ x ∈ r, ∃ i : Int, x = .int i ∧ 0 ≤ i ∧ i < sz) ∧ (r ≠ [] → sz < ks.length) ∧ s = [some (.own h'), some (.sh (paV ks (tbl S f))), some (.own t), some (.sh (.int ks.length)), some (.sh (.int st)), some (.sh (.int sz)), o_k, o_a, o_b]) _ _ ⟨h1, _, none, none, none, 32, hh1, ⟨S, f, rfl, hR.nd, hS, fun p hp => by have := hR.ok p hp; exact this⟩, by simp; omega, ?_, hks, rfl⟩ ?_ ?_
  · intro x hx
    obtain ⟨j, hj, rfl⟩ := List.mem_map.mp hx
    rw [List.mem_range] at hj
    exact ⟨j, rfl, by omega, by omega⟩
  · rintro x r s ⟨h, t, o_k, o_a, o_b, j, hh, hT, hj, hx, hm, rfl⟩
    obtain ⟨i, rfl, i0, i1⟩ := hx _ List.mem_cons_self
    have hm := hm (by simp)
    rw [List.length_cons] at hj
    simp only [g_nm, put_m, setS_0, setS_s, Option.map_some]
    rw [ss_cons]
    have m0 : (0 : Int) < ks.length := by omega
    have q0 : 0 ≤ (i + 1).fmod sz ∧ (i + 1).fmod sz < sz := ⟨Int.fmod_nonneg_of_pos _ (by omega), Int.fmod_lt_of_pos _ (by omega)⟩
    have q1 : i ≠ (i + 1).fmod sz := by
      rw [Int.fmod_eq_emod_of_nonneg _ (by omega)]
      by_cases e : i + 1 = sz
      · rw [e, Int.emod_self]; omega
      · rw [Int.emod_eq_of_lt (by omega) (by omega)]; omega
    obtain ⟨a, ea⟩ : ∃ a, a = (st + i).fmod ks.length := ⟨_, rfl⟩
    obtain ⟨b, eb⟩ : ∃ b, b = (st + (i + 1).fmod sz).fmod ks.length := ⟨_, rfl⟩
    have ha : 0 ≤ a ∧ a < ks.length := by rw [ea]; exact ⟨Int.fmod_nonneg_of_pos _ m0, Int.fmod_lt_of_pos _ m0⟩
    have hb : 0 ≤ b ∧ b < ks.length := by rw [eb]; exact ⟨Int.fmod_nonneg_of_pos _ m0, Int.fmod_lt_of_pos _ m0⟩
    have hab : a ≠ b := by rw [ea, eb]; exact fmod_ne m0 i0 (by omega) q0.1 (by omega) q1 st0
    refine Wp.mono (Q := fun fl s => fl = .nx ∧ s = [some (.own h), some (.sh (paV ks (tbl S f))), some (.own t), some (.sh (.int ks.length)), some (.sh (.int st)), some (.sh (.int sz)), some (.sh (.int i)), some (.sh (.int a)), some (.sh (.int b))]) ?_ ?_
    · have n1 : (ks.length : Int) ≠ 0 := by omega
      have bm : ∀ i : Int, binop .mod (.int i) (.int ks.length) = some (.int (i.fmod ks.length)) := fun i => bin_mod n1
      have n2 : sz ≠ 0 := by omega
      simp [bm, n2, ea, eb]
    rintro _ _ ⟨rfl, rfl⟩
    obtain ⟨v, h2, e1, hv, hh2⟩ := any_x (P := P) (n := n + 2) hh (xs := ringR) (by decide) (by decide)
    obtain ⟨x, rfl, hx2⟩ := ring_rl hv
    obtain ⟨t', e7, ht'⟩ := tab_set (x := x) hT (by omega) ha hb hab hx2
    simp only [ringR] at e1
    simp [lend_own, back_none, e1, SZ, e7]
    exact ⟨_, hh2, _, _, _, _, j + 1, ht', by omega, fun x m => hx x (List.mem_cons_of_mem _ m), fun _ => hm, rfl, rfl, rfl, rfl, rfl⟩
  · rintro s ⟨h, t, o_k, o_a, o_b, j, hh, ⟨S', f', rfl, t1, t2, t3⟩, hj, _, _, rfl⟩
    simp [paV_0, SZ]
    exact ⟨ks, S', f', rfl, hk, hkM, ⟨t1, by omega, t3⟩, hh⟩
end Mini
end

section
set_option linter.all false
set_option maxRecDepth 100000
set_option maxHeartbeats 0
namespace Mini
open PySem (Str PyData)
variable {P : Prog} [PK P] {n : Nat}
def f2 (a _ : Int) : Str := if a = 0 then "tw" else "gt"
def T2 : List (Int × Int) := [(0, 1), (1, 0)]
def st2 : PV := stV "DT" (tbl T2 f2) (.tup (T2.map (rowV f2)))
theorem ks1 : ksOk "DT" := ⟨by decide, by decide, by decide⟩
theorem dt1 : ("DT" : Str).length = 2 := rfl
theorem rows2 : Rows ("DT" : Str).length T2 f2 := by
  rw [dt1]
  refine ⟨by decide, by decide, ?_⟩
  intro p hp
  simp only [T2, List.mem_cons, List.not_mem_nil, or_false] at hp
  rcases hp with rfl | rfl <;> exact ⟨by decide, by decide, by decide, by decide, by decide, by decide⟩
theorem new2 : callF P (n + 4) 47 [.obj 23 [], .sh (.str "DT"), .sh (.tup [.tup [.int 0, .int 1, .str "tw"], .tup [.int 1, .int 0, .str "gt"]])] = .ok (.sh .non) [some (objV "DT" T2 f2), some (.sh (.str "DT")), some (.sh (.tup [.tup [.int 0, .int 1, .str "tw"], .tup [.int 1, .int 0, .str "gt"]]))] := c47 (T := T2) (f := f2) ks1 rows2 (by decide)
theorem d0 : isD "DT" 0 := ⟨by decide, by decide, by decide⟩
def thereL : List Int := (List.replicate 30 [0, 1]).flatten
def gosL : List Str := List.replicate 59 "t>"
theorem sp1 : spB 2 (rtOf T2 f2) .b 0 0 (pthV (thereL ++ [0]) (gosL ++ [("g>" : Str)])) = true := by decide +kernel
theorem sp2 : spB 2 (rtOf T2 f2) .w 0 1 (pthV thereL gosL) = false := by decide +kernel
theorem pth_askd {is : List Int} {us : List Str} (h : ∀ i ∈ is, 0 ≤ i ∧ i < 100) (h1 : is.length ≤ 130) (h2 : us.length ≤ 130) (h3 : ∀ u ∈ us, isW (.str u) = true) : Askd (pthV is us) := by
  refine (th_T2 (th_t ?_ ?_) (th_t ?_ ?_)).askd (by decide)
  · intro x hx
    obtain ⟨i, hi, rfl⟩ := List.mem_map.mp hx
    have := h i hi
    exact th_i (by omega) (by omega)
  · simpa using h1
  · intro x hx
    obtain ⟨u, hu, rfl⟩ := List.mem_map.mp hx
    exact th_w (h3 u hu)
  · simpa using h2
theorem call1 : callF P (n + 7) 100 [.sh st2, .sh (.str "bring"), .sh (.int 0), .sh (.int 0), .sh (pthV (thereL ++ [0]) (gosL ++ [("g>" : Str)]))] = .ok (.sh (.bl true)) [some (.sh st2), some (.sh (.str "bring")), some (.sh (.int 0)), some (.sh (.int 0)), some (.sh (pthV (thereL ++ [0]) (gosL ++ [("g>" : Str)])))] := by
  have := c100 (P := P) (n := n) (y := .b) (rw' := .tup (T2.map (rowV f2))) (tb_tbl (S := T2) (f := f2)) (ks_sz ks1) d0 (m := 0) (by decide) (by decide) (v := pthV (thereL ++ [0]) (gosL ++ [("g>" : Str)])) (pth_askd (by decide) (by decide) (by decide) (by decide))
  rw [dt1, sp1] at this
  exact this
theorem call2 : callF P (n + 7) 100 [.sh st2, .sh (.str "write"), .sh (.int 0), .sh (.int 1), .sh (pthV thereL gosL)] = .ok (.sh (.bl false)) [some (.sh st2), some (.sh (.str "write")), some (.sh (.int 0)), some (.sh (.int 1)), some (.sh (pthV thereL gosL))] := by
  have := c100 (P := P) (n := n) (y := .w) (rw' := .tup (T2.map (rowV f2))) (tb_tbl (S := T2) (f := f2)) (ks_sz ks1) d0 (m := 1) (by decide) (by decide) (v := pthV thereL gosL) (pth_askd (by decide) (by decide) (by decide) (by decide))
  rw [dt1, sp2] at this
  exact this
def lctx (P : Prog) (n : Nat) : Ctx := { pctx P n with rp := Snd.rpStd }
@[simp] theorem lctx_call : (lctx P n).call = callF P n := rfl
@[simp] theorem lctx_rp : (lctx P n).rp = Snd.rpStd := rfl
@[simp] theorem lctx_glb : (lctx P n).glb = glbT := PK.glb
@[simp] theorem lctx_cok : (lctx P n).cok = P.cok := rfl
@[simp] theorem lctx_fok : (lctx P n).fok = P.fok := rfl
@[simp] theorem lctx_init : (lctx P n).init 23 = some 47 := PK.init
@[simp] theorem lctx_meth : (lctx P n).meth 23 1 = some 48 := PK.meth
theorem rp_of {v : PV} {z : Str} (h : Snd.rpStd v = some z) : builtin Snd.rpStd .repr [v] = some (.sh (.str z)) := by
  show (Snd.rpStd v).map _ = _
  rw [h]; rfl
theorem rngK {rp : PV → Option Str} {k : Nat} (h : k < 1000) : builtin rp .rng [.int k] = some (.sh (.rng 0 k)) := rng_1 (by omega) (by omega)
def lens : List PV := [.int 0, .int 1, .int 2, .int 4, .int 80]
theorem lens_ex {v : PV} (h : v ∈ lens) : ∃ l, v = .int l ∧ 0 ≤ l ∧ l ≤ 80 := by
  simp only [lens, List.mem_cons, List.not_mem_nil, or_false] at h
  rcases h with rfl | rfl | rfl | rfl | rfl <;> exact ⟨_, rfl, by decide, by decide⟩
def wayL : List PV := [.str "fetch", .str "bring", .str "write", .str "read"]
theorem way_ex {v : PV} (h : v ∈ wayL) : ∃ y : Wy, v = .str y.nm := by
  simp only [wayL, List.mem_cons, List.not_mem_nil, or_false] at h
  rcases h with rfl | rfl | rfl | rfl
  · exact ⟨.f, rfl⟩
  · exact ⟨.b, rfl⟩
  · exact ⟨.w, rfl⟩
  · exact ⟨.r, rfl⟩
def there2 : List Int := thereL ++ [0]
def gos2 : List Str := gosL ++ [("g>" : Str)]
theorem mulI : binop .mul (.tup [.int 0, .int 1]) (.int 30) = some (.tup (thereL.map .int)) := rfl
theorem mulT : binop .mul (.tup [.str "t>"]) (.int 59) = some (.tup (gosL.map .str)) := rfl
theorem addI : binop .add (.tup (thereL.map .int)) (.tup [.int 0]) = some (.tup (there2.map .int)) := rfl
theorem addT : binop .add (.tup (gosL.map .str)) (.tup [.str "g>"]) = some (.tup (gos2.map .str)) := rfl
theorem call1' : callF P (n + 7) 100 [.sh st2, .sh (.str "bring"), .sh (.int 0), .sh (.int 0), .sh (.tup [.tup (there2.map .int), .tup (gos2.map .str)])] = .ok (.sh (.bl true)) [some (.sh st2), some (.sh (.str "bring")), some (.sh (.int 0)), some (.sh (.int 0)), some (.sh (.tup [.tup (there2.map .int), .tup (gos2.map .str)]))] := call1
theorem call2' : callF P (n + 7) 100 [.sh st2, .sh (.str "write"), .sh (.int 0), .sh (.int 1), .sh (.tup [.tup (thereL.map .int), .tup (gosL.map .str)])] = .ok (.sh (.bl false)) [some (.sh st2), some (.sh (.str "write")), some (.sh (.int 0)), some (.sh (.int 1)), some (.sh (.tup [.tup (thereL.map .int), .tup (gosL.map .str)]))] := call2
theorem isntB {a b : Bool} : cmpop .isnt (.bl a) (.bl b) = some (a != b) := by cases a <;> cases b <;> rfl
theorem st2_eq : (objV "DT" T2 f2).frz = st2 := rfl
theorem ds_len {ks : Str} : (dsL ks).length ≤ ks.length := by
  have := List.length_filterMap_le dsF (enumFrom 0 (ks.cps.toList.map fun c => PV.str ⟨#[c]⟩))
  rw [enum_len, List.length_map] at this
  exact this
section
variable {ns : List Int}
def bodyOf : S → List S
  | .fors _ _ b => b
  | _ => []
def itOf : S → E
  | .fors _ it _ => it
  | _ => .lit .non
def tgOf : S → Tg
  | .fors t _ _ => t
  | _ => .tp []
/-- the three loops -/
def loop1 : S := f1017.body.getD 5 .pass
def loop2 : S := (bodyOf loop1).getD 3 .pass
def loop3 : S := (bodyOf loop2).getD 3 .pass
def StB (ns : List Int) (ks : Str) (tb hd : List (List Key × PV)) (rw' : PV) (s : Sl) : Prop := ∃ h o_turn o_again o_doer o_path o_thing o_once o_way o_member o_asker o_before o_due, HandV h ∧ s = [some (.sh (.lst (ns.map .int))), some (.own h), some (.sh st2), some (.sh (.tup (thereL.map .int))), o_turn, some (.sh (paV ks tb)), some (.sh (stV ks hd rw')), some (.sh (.lst (dsL ks))), some (.sh (.int ks.length)), o_again, o_doer, o_path, o_thing, o_once, o_way, o_member, o_asker, o_before, o_due]
def StC (ns : List Int) (ks : Str) (tb hd : List (List Key × PV)) (rw' : PV) (d : Int) (ms ws : List PV) (s : Sl) : Prop := ∃ h o_turn o_again o_thing o_once o_way o_member o_asker o_before o_due, HandV h ∧ s = [some (.sh (.lst (ns.map .int))), some (.own h), some (.sh st2), some (.sh (.tup (thereL.map .int))), o_turn, some (.sh (paV ks tb)), some (.sh (stV ks hd rw')), some (.sh (.lst (dsL ks))), some (.sh (.int ks.length)), o_again, some (.sh (.int d)), some (.sh (ptV ms ws)), o_thing, o_once, o_way, o_member, o_asker, o_before, o_due]
def StA (ns : List Int) (s : Sl) : Prop := ∃ h o_turn o_parts o_store o_folk o_many o_again o_doer o_path o_thing o_once o_way o_member o_asker o_before o_due, HandV h ∧ s = [some (.sh (.lst (ns.map .int))), some (.own h), some (.sh st2), some (.sh (.tup (thereL.map .int))), o_turn, o_parts, o_store, o_folk, o_many, o_again, o_doer, o_path, o_thing, o_once, o_way, o_member, o_asker, o_before, o_due]
theorem ptI0 {ms ws : List PV} : index (ptV ms ws) (.int 0) = some (.tup ms) := rfl
section
variable {ks : Str} {tb hd : List (List Key × PV)} {rw' : PV} {rt : Int → Int → Str}
theorem inner (h1 : Tb tb rt) (h2 : Tb hd rt) (hk : ksOk ks) {d : Int} (hD : .int d ∈ dsL ks) {ms ws : List PV} (hp : Pth ks.length rt ms ws) {x : PV} (hx : Th 7000 40 x) {s : Sl} (hs : StC ns ks tb hd rw' d ms ws s) :
    Wp (stTg (tgOf loop3) (.sh x)) s fun _ s1 => Wp (exSs (lctx P (n + 7)) (bodyOf loop3)) s1 fun fl s2 => match fl with
      | .nx => StC ns ks tb hd rw' d ms ws s2
      | _ => False := by
  obtain ⟨h, o_turn, o_again, o_thing, o_once, o_way, o_member, o_asker, o_before, o_due, hh, rfl⟩ := hs
  have k9 := hk.2.1
  have k1 := hk.1
  simp only [loop3, loop2, loop1, f1017, bodyOf, tgOf, List.getD_cons_succ, List.getD_cons_zero, g_nm, put_m, setS_0, setS_s, Option.map_some, frz_sh, if_false, Bool.false_eq_true]
  obtain ⟨v, h', e, hv, hh'⟩ := any_x (P := P) (n := n + 5) hh (xs := wayL) (by decide) (by decide)
  obtain ⟨y, rfl⟩ := way_ex hv
  simp only [wayL] at e
  refine Wp.stm (s1 := [some (.sh (.lst (ns.map .int))), some (.own h'), some (.sh st2), some (.sh (.tup (thereL.map .int))), o_turn, some (.sh (paV ks tb)), some (.sh (stV ks hd rw')), some (.sh (.lst (dsL ks))), some (.sh (.int ks.length)), o_again, some (.sh (.int d)), some (.sh (ptV ms ws)), some (.sh x), o_once, some (.sh (.str y.nm)), o_member, o_asker, o_before, o_due]) (by simp [lend_own, back_none, e, SZ]) ?_
  clear hh e
  obtain ⟨a, a1, a2, a3⟩ := hp.last
  obtain ⟨h, m, hh, m0, m1, e⟩ : ∃ (h : PV) (m : Int), HandV h ∧ 0 ≤ m ∧ m < ks.length ∧ Wp (exS (lctx P (n + 7)) (.asg (.nm 15 false) (.ite (.cmp .gt (.call 1001 [(.var 1), (.lit (.int 4))]) (.lit (.int 0))) (.idx (.idx (.var 11) (.lit (.int 0))) (.neg (.lit (.int 1)))) (.call 1001 [(.var 1), (.var 8)])))) [some (.sh (.lst (ns.map .int))), some (.own h'), some (.sh st2), some (.sh (.tup (thereL.map .int))), o_turn, some (.sh (paV ks tb)), some (.sh (stV ks hd rw')), some (.sh (.lst (dsL ks))), some (.sh (.int ks.length)), o_again, some (.sh (.int d)), some (.sh (ptV ms ws)), some (.sh x), o_once, some (.sh (.str y.nm)), o_member, o_asker, o_before, o_due] fun fl s => fl = .nx ∧ s = [some (.sh (.lst (ns.map .int))), some (.own h), some (.sh st2), some (.sh (.tup (thereL.map .int))), o_turn, some (.sh (paV ks tb)), some (.sh (stV ks hd rw')), some (.sh (.lst (dsL ks))), some (.sh (.int ks.length)), o_again, some (.sh (.int d)), some (.sh (ptV ms ws)), some (.sh x), o_once, some (.sh (.str y.nm)), some (.sh (.int m)), o_asker, o_before, o_due] := by
    obtain ⟨r, h2, e, r0, r1, hh2⟩ := draw_x (P := P) (n := n + 6) hh' (m := 4) (by decide) (by decide)
    by_cases c : 0 < r
    · exact ⟨_, a, hh2, a2, a3, by simp [lend_own, back_none, e, c, ptI0, ixT a1]⟩
    · obtain ⟨r', h3, e', r0', r1', hh3⟩ := draw_x (P := P) (n := n + 6) hh2 (m := ks.length) (by omega) (by omega)
      exact ⟨_, r', hh3, r0', r1', by simp [lend_own, lend_sh, back_sh, back_none, e, c, e']⟩
  refine Wp.stm e ?_
  clear e hh'
  obtain ⟨h, q, hh, hq, e⟩ : ∃ (h1 : PV) (q : Int), HandV h1 ∧ isD ks q ∧ Wp (exS (lctx P (n + 7)) (.asg (.nm 16 false) (.ite (.cmp .gt (.call 1001 [(.var 1), (.lit (.int 5))]) (.lit (.int 0))) (.var 10) (.call 1002 [(.var 1), (.var 7)])))) [some (.sh (.lst (ns.map .int))), some (.own h), some (.sh st2), some (.sh (.tup (thereL.map .int))), o_turn, some (.sh (paV ks tb)), some (.sh (stV ks hd rw')), some (.sh (.lst (dsL ks))), some (.sh (.int ks.length)), o_again, some (.sh (.int d)), some (.sh (ptV ms ws)), some (.sh x), o_once, some (.sh (.str y.nm)), some (.sh (.int m)), o_asker, o_before, o_due] fun fl s => fl = .nx ∧ s = [some (.sh (.lst (ns.map .int))), some (.own h1), some (.sh st2), some (.sh (.tup (thereL.map .int))), o_turn, some (.sh (paV ks tb)), some (.sh (stV ks hd rw')), some (.sh (.lst (dsL ks))), some (.sh (.int ks.length)), o_again, some (.sh (.int d)), some (.sh (ptV ms ws)), some (.sh x), o_once, some (.sh (.str y.nm)), some (.sh (.int m)), some (.sh (.int q)), o_before, o_due] := by
    obtain ⟨r, h', e, r0, r1, hh'⟩ := draw_x (P := P) (n := n + 6) hh (m := 5) (by decide) (by decide)
    by_cases c : 0 < r
    · obtain ⟨d', e2, hd'⟩ := ds_isD hD
      cases e2
      exact ⟨_, d, hh', hd', by simp [lend_own, back_none, e, c]⟩
    · have l0 : 0 < (dsL ks).length := List.length_pos_of_mem hD
      obtain ⟨v, h2', e', hv, hh2⟩ := any_xS (P := P) (n := n + 5) hh' (xs := dsL ks) l0 (by have := ds_len (ks := ks); omega)
      obtain ⟨q, rfl, hq⟩ := ds_isD hv
      exact ⟨_, q, hh2, hq, by simp [lend_own, lend_sh, back_sh, back_none, e, c, e']⟩
  refine Wp.stm e ?_
  obtain ⟨z, hz⟩ := hx.rp (by decide) (by decide)
  have ask := hx.askd (by decide)
  have a1 := c1015 (P := P) (n := n + 4) (d := q) (m := m) (y := y) h1 (ks_sz hk) ask
  have a2 := c100 (P := P) (n := n) (rw' := rw') (d := q) (m := m) (y := y) h2 (ks_sz hk) hq m0 m1 ask
  refine Wp.stm (s1 := [some (.sh (.lst (ns.map .int))), some (.own h), some (.sh st2), some (.sh (.tup (thereL.map .int))), o_turn, some (.sh (paV ks tb)), some (.sh (stV ks hd rw')), some (.sh (.lst (dsL ks))), some (.sh (.int ks.length)), o_again, some (.sh (.int d)), some (.sh (ptV ms ws)), some (.sh x), o_once, some (.sh (.str y.nm)), some (.sh (.int m)), some (.sh (.int q)), some (.sh (.str z)), some (.sh (.bl (spB ks.length rt y q m x)))]) (by simp [rp_of hz, lend_sh, back_sh, a1]) ?_
  refine Wp.stm (s1 := [some (.sh (.lst (ns.map .int))), some (.own h), some (.sh st2), some (.sh (.tup (thereL.map .int))), o_turn, some (.sh (paV ks tb)), some (.sh (stV ks hd rw')), some (.sh (.lst (dsL ks))), some (.sh (.int ks.length)), o_again, some (.sh (.int d)), some (.sh (ptV ms ws)), some (.sh x), o_once, some (.sh (.str y.nm)), some (.sh (.int m)), some (.sh (.int q)), some (.sh (.str z)), some (.sh (.bl (spB ks.length rt y q m x)))]) (by simp [rp_of hz, lend_sh, back_sh, a2, c1003]) ?_
  rw [ss_nil]
  exact ⟨h, _, _, _, _, _, _, _, _, _, hh, rfl⟩
/-- one turn of the middle loop -/
theorem middle (h1 : Tb tb rt) (h2 : Tb hd rt) (hk : ksOk ks) (hD : 0 < (dsL ks).length) {x : PV} {s : Sl} (hs : StB ns ks tb hd rw' s) :
    Wp (stTg (tgOf loop2) (.sh x)) s fun _ s1 => Wp (exSs (lctx P (n + 7)) (bodyOf loop2)) s1 fun fl s2 => match fl with
      | .nx => StB ns ks tb hd rw' s2
      | _ => False := by
  obtain ⟨h, o_turn, o_again, o_doer, o_path, o_thing, o_once, o_way, o_member, o_asker, o_before, o_due, hh, rfl⟩ := hs
  have k9 := hk.2.1
  have k1 := hk.1
  simp only [loop2, loop1, f1017, bodyOf, tgOf, List.getD_cons_succ, List.getD_cons_zero, g_nm, put_m, setS_0, setS_s, Option.map_some, frz_sh, if_false, Bool.false_eq_true]
  obtain ⟨v, h', e, hv0, hh'⟩ := any_xS (P := P) (n := n + 5) hh (xs := dsL ks) hD (by have := ds_len (ks := ks); omega)
  obtain ⟨d, rfl, hd'⟩ := ds_isD hv0
  refine Wp.stm (s1 := [some (.sh (.lst (ns.map .int))), some (.own h'), some (.sh st2), some (.sh (.tup (thereL.map .int))), o_turn, some (.sh (paV ks tb)), some (.sh (stV ks hd rw')), some (.sh (.lst (dsL ks))), some (.sh (.int ks.length)), some (.sh x), some (.sh (.int d)), o_path, o_thing, o_once, o_way, o_member, o_asker, o_before, o_due]) (by simp [lend_own, lend_sh, back_sh, back_none, e]) ?_
  clear e hh
  obtain ⟨l, h, e, hl, hh⟩ := any_x (P := P) (n := n + 5) hh' (xs := lens) (by decide) (by decide)
  obtain ⟨l, rfl, l0, l1⟩ := lens_ex hl
  obtain ⟨w, o, e2, ms, ws, h3, rfl, hp, hlen, hw, hf, hh3, rfl⟩ := walk (P := P) (n := n + 2) h1 hk hh (st := d) (most := l) hd'.1 hd'.2.1 l0 l1 (wl := [.str "t>"]) (by simp [words8]) (by decide)
  simp only [lens] at e
  refine Wp.stm (s1 := [some (.sh (.lst (ns.map .int))), some (.own h3), some (.sh st2), some (.sh (.tup (thereL.map .int))), o_turn, some (.sh (paV ks tb)), some (.sh (stV ks hd rw')), some (.sh (.lst (dsL ks))), some (.sh (.int ks.length)), some (.sh x), some (.sh (.int d)), some (.sh (ptV ms ws)), o_thing, o_once, o_way, o_member, o_asker, o_before, o_due]) (by simp [lend_own, lend_sh, back_sh, back_none, e, e2, SZ, ptV]) ?_
  clear e e2 hh hh'
  obtain ⟨h, ms, ws, hh, hp, hlen, e⟩ : ∃ (h : PV) (ms' ws' : List PV), HandV h ∧ Pth ks.length rt ms' ws' ∧ ms'.length ≤ 82 ∧ Wp (exS (lctx P (n + 7)) (.ifs (.cmp .gt (.call 1001 [(.var 1), (.lit (.int 3))]) (.lit (.int 0))) [.asg (.nm 11 false) (.call 1016 [(.var 1), (.var 5), (.var 11)])] [])) [some (.sh (.lst (ns.map .int))), some (.own h3), some (.sh st2), some (.sh (.tup (thereL.map .int))), o_turn, some (.sh (paV ks tb)), some (.sh (stV ks hd rw')), some (.sh (.lst (dsL ks))), some (.sh (.int ks.length)), some (.sh x), some (.sh (.int d)), some (.sh (ptV ms ws)), o_thing, o_once, o_way, o_member, o_asker, o_before, o_due] fun fl s => fl = .nx ∧ s = [some (.sh (.lst (ns.map .int))), some (.own h), some (.sh st2), some (.sh (.tup (thereL.map .int))), o_turn, some (.sh (paV ks tb)), some (.sh (stV ks hd rw')), some (.sh (.lst (dsL ks))), some (.sh (.int ks.length)), some (.sh x), some (.sh (.int d)), some (.sh (ptV ms' ws')), o_thing, o_once, o_way, o_member, o_asker, o_before, o_due] := by
    obtain ⟨r, h2, e, r0, r1, hh2⟩ := draw_x (P := P) (n := n + 6) hh3 (m := 3) (by decide) (by decide)
    by_cases c : 0 < r
    · obtain ⟨w, o, e2, ms', ws', h4, rfl, hp', hl', hh4, rfl⟩ := ledOn (P := P) (n := n + 1) h1 hk hh2 hp (by omega)
      exact ⟨h4, ms', ws', hh4, hp', by omega, by simp [lend_own, lend_sh, back_sh, back_none, e, c, e2]⟩
    · exact ⟨h2, ms, ws, hh2, hp, by omega, by simp [lend_own, back_none, e, c]⟩
  refine Wp.stm e ?_
  clear e hh3
  have hlw := hp.len
  have Tr : Th 7000 40 (ptV ms ws) := th_T2 (th_t (fun m q => th_m k9 (hp.mem m q)) (by omega)) (th_t (fun w q => th_w (hp.wds w q)) (by omega))
  rw [ss_cons, s_fors]
  refine Wp.mono (Q := fun xs s => ∃ h o_once, HandV h ∧ (∀ v ∈ xs, Th 7000 40 v) ∧ s = [some (.sh (.lst (ns.map .int))), some (.own h), some (.sh st2), some (.sh (.tup (thereL.map .int))), o_turn, some (.sh (paV ks tb)), some (.sh (stV ks hd rw')), some (.sh (.lst (dsL ks))), some (.sh (.int ks.length)), some (.sh x), some (.sh (.int d)), some (.sh (ptV ms ws)), o_thing, o_once, o_way, o_member, o_asker, o_before, o_due]) ?_ ?_
  · have r5 : builtin Snd.rpStd .rng [.int 4] = some (.sh (.rng 0 4)) := rfl
    have i5 : items (.rng 0 4) = some [.int 0, .int 1, .int 2, .int 3] := rfl
    simp [SZ, r5, i5]
    refine wp_comp (fun r acc s => ∃ h', HandV h' ∧ (∀ v ∈ acc, Th 7000 40 v) ∧ acc.length + r.length = 4 ∧ wipe [13] s = [some (.sh (.lst (ns.map .int))), some (.own h'), some (.sh st2), some (.sh (.tup (thereL.map .int))), o_turn, some (.sh (paV ks tb)), some (.sh (stV ks hd rw')), some (.sh (.lst (dsL ks))), some (.sh (.int ks.length)), some (.sh x), some (.sh (.int d)), some (.sh (ptV ms ws)), o_thing, none, o_way, o_member, o_asker, o_before, o_due]) _ _ _ ⟨h, hh, by simp, rfl, rfl⟩ (by simp [SZ]) ?_ ?_
    · rintro y r acc s ⟨h, hh, ha, hl2, hw⟩
      obtain ⟨w, o, e, v, h', rfl, hv, hh', rfl⟩ := bent (P := P) (n := n + 1) hp k9 k1 (by omega) hh
      rw [List.length_cons] at hl2
      simp [hw, lend_own, lend_sh, back_sh, back_none, e, ptV]
      exact ⟨_, hh', fun u m => m.elim (ha u) (fun e => e ▸ hv), by omega, rfl⟩
    · rintro acc s ⟨h, hh, ha, hl2, hw⟩
      have b1 := bin_addL (xs := [ptV ms ws]) (ys := acc) (by simp only [SZ, List.length_cons, List.length_nil] at hl2 ⊢; omega)
      simp [hw, b1]
      exact ⟨hh, Tr, ha⟩
  rintro xs _ ⟨h, o_once, hh, hL, rfl⟩
  refine wp_forM (StC ns ks tb hd rw' d ms ws) ⟨h, _, _, _, _, _, _, _, _, _, hh, rfl⟩ ?_ ?_
  · intro v hv s hs
    refine (inner (n := n) h1 h2 hk hv0 hp (hL v hv) hs).mono fun _ s1 q => Wp.mono q fun fl s2 q => ?_
    cases fl with
    | nx => exact q
    | _ => exact q.elim
  · rintro s ⟨h, o_turn, o_again, o_thing, o_once, o_way, o_member, o_asker, o_before, o_due, hh, rfl⟩
    rw [then_nx, ss_nil]
    exact ⟨h, _, _, _, _, _, _, _, _, _, _, _, hh, rfl⟩
end
theorem outer {x : PV} {s : Sl} (hs : StA ns s) :
    Wp (stTg (tgOf loop1) (.sh x)) s fun _ s1 => Wp (exSs (lctx P (n + 7)) (bodyOf loop1)) s1 fun fl s2 => match fl with
      | .nx => StA ns s2
      | _ => False := by
  obtain ⟨h, o_turn, o_parts, o_store, o_folk, o_many, o_again, o_doer, o_path, o_thing, o_once, o_way, o_member, o_asker, o_before, o_due, hh, rfl⟩ := hs
  simp only [loop1, f1017, bodyOf, tgOf, List.getD_cons_succ, List.getD_cons_zero, g_nm, put_m, setS_0, setS_s, Option.map_some, frz_sh, if_false, Bool.false_eq_true]
  obtain ⟨w, o, e, pa, h', rfl, hp, hh', rfl⟩ := drawn (P := P) (n := n + 2) (M := 8) (by decide) (by decide) hh
  refine Wp.stm (s1 := [some (.sh (.lst (ns.map .int))), some (.own h'), some (.sh st2), some (.sh (.tup (thereL.map .int))), some (.sh x), some (.sh pa), o_store, o_folk, o_many, o_again, o_doer, o_path, o_thing, o_once, o_way, o_member, o_asker, o_before, o_due]) (by simp [lend_own, back_none, e]) ?_
  clear e hh
  obtain ⟨h, ks, S, f, hh, hk, hR, e⟩ : ∃ (h : PV) (ks : Str) (S : List (Int × Int)) (f : Int → Int → Str), HandV h ∧ ksOk ks ∧ Rows ks.length S f ∧ Wp (exS (lctx P (n + 7)) (.ifs (.cmp .eq (.call 1001 [(.var 1), (.lit (.int 2))]) (.lit (.int 0))) [.asg (.nm 5 false) (.call 1014 [(.var 1), (.var 5)])] [])) [some (.sh (.lst (ns.map .int))), some (.own h'), some (.sh st2), some (.sh (.tup (thereL.map .int))), some (.sh x), some (.sh pa), o_store, o_folk, o_many, o_again, o_doer, o_path, o_thing, o_once, o_way, o_member, o_asker, o_before, o_due] fun fl s => fl = .nx ∧ s = [some (.sh (.lst (ns.map .int))), some (.own h), some (.sh st2), some (.sh (.tup (thereL.map .int))), some (.sh x), some (.sh (paV ks (tbl S f))), o_store, o_folk, o_many, o_again, o_doer, o_path, o_thing, o_once, o_way, o_member, o_asker, o_before, o_due] := by
    obtain ⟨r, h2, e, r0, r1, hh2⟩ := draw_x (P := P) (n := n + 6) hh' (m := 2) (by decide) (by decide)
    by_cases c : r = 0
    · obtain ⟨w, o, e2, ks, S, f, h4, rfl, hk, _, hR, hh4, rfl⟩ := ring (P := P) (n := n + 2) (M := 8) (by decide) hh2 hp
      exact ⟨h4, ks, S, f, hh4, hk, hR, by simp [lend_own, lend_sh, back_sh, back_none, e, c, e2]⟩
    · obtain ⟨ks, S, f, rfl, hk, _, hR, _⟩ := hp
      exact ⟨h2, ks, S, f, hh2, hk, hR, by simp [lend_own, back_none, e, c]⟩
  refine Wp.stm e ?_
  clear e hh'
  have k9 := hk.2.1
  have k1 := hk.1
  have pm : (isort lexP (isort lexP S)).Perm S := (Snd.isort_perm _).trans (Snd.isort_perm S)
  have a1 := c1006 (P := P) (n := n + 2) hk hR
  have a2 := c1013 (P := P) (n := n + 6) (tb := tbl S f) (ks_sz hk)
  refine Wp.stm (s1 := [some (.sh (.lst (ns.map .int))), some (.own h), some (.sh st2), some (.sh (.tup (thereL.map .int))), some (.sh x), some (.sh (paV ks (tbl S f))), some (.sh (stV ks (tbl (isort lexP (isort lexP S)) f) (.tup ((isort lexP (isort lexP S)).map (rowV f))))), some (.sh (.lst (dsL ks))), some (.sh (.int ks.length)), o_again, o_doer, o_path, o_thing, o_once, o_way, o_member, o_asker, o_before, o_due]) ?_ ?_
  · simp [lend_sh, back_sh, a1, a2, paV_0, len_k (ks_sz hk)]
    rfl
  generalize hT : isort lexP (isort lexP S) = T at pm
  have t2 : Tb (tbl T f) (rtOf S f) := tb_perm pm
  rw [ss_cons, s_fors]
  refine Wp.mono (Q := fun xs s => (xs ≠ [] → 0 < (dsL ks).length) ∧ StB ns ks (tbl S f) (tbl T f) (.tup (T.map (rowV f))) s) ?_ ?_
  · have r4 : builtin Snd.rpStd .rng [.int 4] = some (.sh (.rng 0 4)) := rfl
    have i4 : items (.rng 0 4) = some [.int 0, .int 1, .int 2, .int 3] := rfl
    have r0 : builtin Snd.rpStd .rng [.int 0] = some (.sh (.rng 0 0)) := rfl
    have i0 : items (.rng 0 0) = some [] := rfl
    have hl : (dsL ks).length ≤ SZ := by have := ds_len (ks := ks); simp only [SZ]; omega
    by_cases c : 0 < (dsL ks).length
    · have c' : (0 : Int) < (dsL ks).length := by omega
      simp [c, c', hl, r4, i4]
      exact ⟨h, _, _, _, _, _, _, _, _, _, _, _, hh, rfl⟩
    · have c' : ¬ (0 : Int) < (dsL ks).length := by omega
      simp [c, c', hl, r0, i0]
      exact ⟨h, _, _, _, _, _, _, _, _, _, _, _, hh, rfl⟩
  rintro xs s ⟨hne, hs⟩
  refine wp_forM (StB ns ks (tbl S f) (tbl T f) (.tup (T.map (rowV f)))) hs ?_ ?_
  · intro v hv s hs
    refine (middle (n := n) (tb_tbl (S := S) (f := f)) t2 hk (hne (List.ne_nil_of_mem hv)) hs).mono fun _ s1 q => Wp.mono q fun fl s2 q => ?_
    cases fl with
    | nx => exact q
    | _ => exact q.elim
  · rintro s ⟨h, o_turn, o_again, o_doer, o_path, o_thing, o_once, o_way, o_member, o_asker, o_before, o_due, hh, rfl⟩
    rw [then_nx, ss_nil]
    exact ⟨h, _, _, _, _, _, _, _, _, _, _, _, _, _, _, _, hh, rfl⟩
end
theorem f1017_body : f1017.body = [f1017.body.getD 0 .pass, f1017.body.getD 1 .pass, f1017.body.getD 2 .pass, f1017.body.getD 3 .pass, f1017.body.getD 4 .pass, loop1, .ret (.lit (.bl true))] := rfl
theorem law_plain {ns : List Int} (hl : ns.length ≤ 63) : Ok (runFn (lctx P (n + 7)) f1017 [.sh (.lst (ns.map .int))]) fun w _ => w = .sh (.bl true) := by
  refine ok_run rfl ?_
  obtain ⟨w, o, e, h, rfl, hh, rfl⟩ := hand (P := P) (n := n + 6) hl
  rw [f1017_body]
  refine Wp.stm (s1 := [some (.sh (.lst (ns.map .int))), some (.own h), none, none, none, none, none, none, none, none, none, none, none, none, none, none, none, none, none]) (by simp [f1017, inits, lend_sh, back_sh, e]) ?_
  refine Wp.stm (s1 := [some (.sh (.lst (ns.map .int))), some (.own h), some (.sh st2), none, none, none, none, none, none, none, none, none, none, none, none, none, none, none, none]) (by simp [f1017, new2, inits, lend_sh, back_sh, SZ, st2_eq]) ?_
  refine Wp.stm (s1 := [some (.sh (.lst (ns.map .int))), some (.own h), some (.sh st2), some (.sh (.tup (thereL.map .int))), none, none, none, none, none, none, none, none, none, none, none, none, none, none, none]) (by simp [f1017, mulI, SZ]) ?_
  refine Wp.stm (s1 := [some (.sh (.lst (ns.map .int))), some (.own h), some (.sh st2), some (.sh (.tup (thereL.map .int))), none, none, none, none, none, none, none, none, none, none, none, none, none, none, none]) (by simp [f1017, mulT, addI, addT, SZ, lend_sh, back_sh, call1', isntB]) ?_
  refine Wp.stm (s1 := [some (.sh (.lst (ns.map .int))), some (.own h), some (.sh st2), some (.sh (.tup (thereL.map .int))), none, none, none, none, none, none, none, none, none, none, none, none, none, none, none]) (by simp [f1017, mulT, SZ, lend_sh, back_sh, call2', isntB]) ?_
  rw [ss_cons]
  show Wp (exS (lctx P (n + 7)) (.fors (tgOf loop1) (itOf loop1) (bodyOf loop1))) _ _
  rw [s_fors]
  refine Wp.mono (Q := fun xs s => StA ns s) ?_ ?_
  · have r5 : builtin Snd.rpStd .rng [.int 5] = some (.sh (.rng 0 5)) := rfl
    have i5 : items (.rng 0 5) = some [.int 0, .int 1, .int 2, .int 3, .int 4] := rfl
    simp [loop1, itOf, f1017, r5, i5]
    exact ⟨h, _, _, _, _, _, _, _, _, _, _, _, _, _, _, _, hh, rfl⟩
  rintro xs s hs
  refine wp_forM (StA ns) hs ?_ ?_
  · intro v _ s hs
    refine (outer (n := n) hs).mono fun _ s1 q => Wp.mono q fun fl s2 q => ?_
    cases fl with
    | nx => exact q
    | _ => exact q.elim
  · rintro s ⟨h, o_turn, o_parts, o_store, o_folk, o_many, o_again, o_doer, o_path, o_thing, o_once, o_way, o_member, o_asker, o_before, o_due, hh, rfl⟩
    rw [then_nx]
    simp
end Mini
end

section
set_option linter.all false
set_option maxRecDepth 100000
set_option maxHeartbeats 0
namespace Snd
open PySem L2 Mini

/-! ### the law's own text, def by def -/
def topS (i : Nat) : PySem.Stmt := PySem.Challenge.pw_handles_k13_spans_judged.main.body.getD i (.Pass ⟨0, 0, 0, 0⟩)
def clsBody : PySem.Stmt → List PySem.Stmt
  | .ClassDef _ _ _ b _ _ _ _ _ _ _ => b
  | _ => []
def meS (i j : Nat) : PySem.Stmt := (clsBody (topS i)).getD j (.Pass ⟨0, 0, 0, 0⟩)
def part0 : List (PySem.Str × (Nat × Nat)) := [("is_integer", (22, 1)),
    ("is_within", (23, 3)),
    ("is_pair", (24, 1)),
    ("is_triple", (25, 1)),
    ("are_rights", (29, 1)),
    ("is_member", (30, 2)),
    ("is_doer", (31, 2)),
    ("check_member", (34, 2)),
    ("check_doer", (36, 2)),
    ("are_kinds", (45, 2)),
    ("is_handle", (46, 2)),
    ("rights_in", (51, 3)),
    ("has_link", (86, 4)),
    ("is_word", (87, 1)),
    ("is_path", (88, 2)),
    ("state_behind", (89, 2)),
    ("check_way", (93, 1)),
    ("check_span", (97, 4)),
    ("leads", (99, 4)),
    ("is_span", (100, 5))]
def part1 : List (PySem.Str × (Nat × Nat)) := [("_law_hand", (1000, 1)),
    ("_law_draw", (1001, 2)),
    ("_law_any", (1002, 2)),
    ("_law_same", (1003, 2)),
    ("_law_odd", (1004, 1)),
    ("_law_drawn", (1005, 2)),
    ("_law_store", (1006, 1)),
    ("_law_doers", (1013, 1)),
    ("_law_with_ring", (1014, 2)),
    ("_law_is_link", (1007, 4)),
    ("_law_is_member", (1008, 2)),
    ("_law_is_path", (1009, 2)),
    ("_law_is_span", (1015, 5)),
    ("_law_walk", (1010, 5)),
    ("_law_bent", (1011, 3)),
    ("_law_led_on", (1016, 3)),
    ("law", (1017, 1))]
def part2 : List (PySem.Str) := ["kinds",
    "held",
    "handles",
    "part",
    "at",
    "most",
    "line",
    "name",
    "a",
    "b",
    "right",
    "first",
    "present",
    "row",
    "store",
    "number",
    "brought",
    "fetchers",
    "stores",
    "shelf"]
def part3 : List (PySem.Str) := ["elders"]
def part4 : List (PySem.Str × Nat) := [("__init__", 2),
    ("fill", 3),
    ("__eq__", 2),
    ("put", 2),
    ("made", 4),
    ("fetched", 2),
    ("spans", 4),
    ("pass_by_takes", 4),
    ("pass_by_gift", 5),
    ("pass_by_asking", 5),
    ("pass_on", 5),
    ("comes", 4),
    ("rights", 3),
    ("do", 2),
    ("now", 1),
    ("can", 4),
    ("knows_now", 3),
    ("back", 1),
    ("deeds", 1),
    ("copy", 1)]
def part5 : List (PySem.Str × Nat) := [("trying", 2),
    ("undoable", 1),
    ("lay", 3),
    ("change", 3),
    ("take_back", 1),
    ("tell", 2)]
def part6 : List (Nat × He.DefD × List PySem.Str × List PySem.Str) := [(22, ⟨("is_integer", none), "is_integer", "is_integer", defArgs (topS 10), defBody (topS 10), defScope (topS 10), [], []⟩, ["thing"], ["thing"]),
    (23, ⟨("is_within", none), "is_within", "is_within", defArgs (topS 11), defBody (topS 11), defScope (topS 11), [], []⟩, ["thing", "least", "most"], ["thing", "least", "most"]),
    (24, ⟨("is_pair", none), "is_pair", "is_pair", defArgs (topS 12), defBody (topS 12), defScope (topS 12), [], []⟩, ["thing"], ["thing"]),
    (25, ⟨("is_triple", none), "is_triple", "is_triple", defArgs (topS 13), defBody (topS 13), defScope (topS 13), [], []⟩, ["thing"], ["thing"]),
    (29, ⟨("are_rights", none), "are_rights", "are_rights", defArgs (topS 14), defBody (topS 14), defScope (topS 14), [], []⟩, ["thing", "right"], ["thing"]),
    (30, ⟨("is_member", none), "is_member", "is_member", defArgs (topS 15), defBody (topS 15), defScope (topS 15), [], []⟩, ["store", "thing"], ["store", "thing"]),
    (31, ⟨("is_doer", none), "is_doer", "is_doer", defArgs (topS 16), defBody (topS 16), defScope (topS 16), [], []⟩, ["store", "thing"], ["store", "thing"]),
    (34, ⟨("check_member", none), "check_member", "check_member", defArgs (topS 17), defBody (topS 17), defScope (topS 17), [], []⟩, ["store", "thing"], ["store", "thing"]),
    (36, ⟨("check_doer", none), "check_doer", "check_doer", defArgs (topS 18), defBody (topS 18), defScope (topS 18), [], []⟩, ["store", "thing"], ["store", "thing"]),
    (45, ⟨("are_kinds", none), "are_kinds", "are_kinds", defArgs (topS 22), defBody (topS 22), defScope (topS 22), [], []⟩, ["thing", "most", "sign"], ["thing", "most"]),
    (46, ⟨("is_handle", none), "is_handle", "is_handle", defArgs (topS 23), defBody (topS 23), defScope (topS 23), [], []⟩, ["many", "thing"], ["many", "thing"]),
    (47, ⟨("Store", some "__init__"), "__init__", "Store.__init__", defArgs (meS 24 0), defBody (meS 24 0), defScope (meS 24 0), [], []⟩, ["self", "kinds", "handles", "number", "item", "a", "b", "rights"], ["self", "kinds", "handles"]),
    (48, ⟨("Store", some "fill"), "fill", "Store.fill", defArgs (meS 24 1), defBody (meS 24 1), defScope (meS 24 1), [], []⟩, ["self", "kinds", "held", "pair", "rights"], ["self", "kinds", "held"]),
    (49, ⟨("Store", some "__eq__"), "__eq__", "Store.__eq__", defArgs (meS 24 2), defBody (meS 24 2), defScope (meS 24 2), [], []⟩, ["self", "other"], ["self", "other"]),
    (51, ⟨("rights_in", none), "rights_in", "rights_in", defArgs (topS 25), defBody (topS 25), defScope (topS 25), [], []⟩, ["store", "a", "b"], ["store", "a", "b"]),
    (86, ⟨("has_link", none), "has_link", "has_link", defArgs (topS 32), defBody (topS 32), defScope (topS 32), [], []⟩, ["store", "a", "b", "word"], ["store", "a", "b", "word"]),
    (87, ⟨("is_word", none), "is_word", "is_word", defArgs (topS 33), defBody (topS 33), defScope (topS 33), [], []⟩, ["thing"], ["thing"]),
    (88, ⟨("is_path", none), "is_path", "is_path", defArgs (topS 34), defBody (topS 34), defScope (topS 34), [], []⟩, ["store", "thing", "members", "words", "member", "word", "a", "b"], ["store", "thing"]),
    (89, ⟨("state_behind", none), "state_behind", "state_behind", defArgs (topS 35), defBody (topS 35), defScope (topS 35), [], []⟩, ["moves", "words", "state", "word", "later", "told", "goal"], ["moves", "words"]),
    (93, ⟨("check_way", none), "check_way", "check_way", defArgs (topS 36), defBody (topS 36), defScope (topS 36), [], []⟩, ["thing"], ["thing"])]
def part7 : List (Nat × He.DefD × List PySem.Str × List PySem.Str) := [(97, ⟨("check_span", none), "check_span", "check_span", defArgs (topS 37), defBody (topS 37), defScope (topS 37), [], []⟩, ["store", "way", "doer", "member"], ["store", "way", "doer", "member"]),
    (99, ⟨("leads", none), "leads", "leads", defArgs (topS 38), defBody (topS 38), defScope (topS 38), [], []⟩, ["store", "thing", "one", "other"], ["store", "thing", "one", "other"]),
    (100, ⟨("is_span", none), "is_span", "is_span", defArgs (topS 39), defBody (topS 39), defScope (topS 39), [], []⟩, ["store", "way", "doer", "member", "thing", "moves", "ends"], ["store", "way", "doer", "member", "thing"]),
    (1000, ⟨("_law_hand", none), "_law_hand", "_law_hand", defArgs (topS 41), defBody (topS 41), defScope (topS 41), [], []⟩, ["script", "cells", "cell"], ["script"]),
    (1001, ⟨("_law_draw", none), "_law_draw", "_law_draw", defArgs (topS 42), defBody (topS 42), defScope (topS 42), [], []⟩, ["hand", "many", "cell", "digit", "number"], ["hand", "many"]),
    (1002, ⟨("_law_any", none), "_law_any", "_law_any", defArgs (topS 43), defBody (topS 43), defScope (topS 43), [], []⟩, ["hand", "some"], ["hand", "some"]),
    (1003, ⟨("_law_same", none), "_law_same", "_law_same", defArgs (topS 44), defBody (topS 44), defScope (topS 44), [], []⟩, ["one", "due", "two", "other"], ["one", "due"]),
    (1004, ⟨("_law_odd", none), "_law_odd", "_law_odd", defArgs (topS 45), defBody (topS 45), defScope (topS 45), [], []⟩, ["hand", "deep", "turn", "some"], ["hand"]),
    (1005, ⟨("_law_drawn", none), "_law_drawn", "_law_drawn", defArgs (topS 46), defBody (topS 46), defScope (topS 46), [], []⟩, ["hand", "most", "many", "kinds", "member", "table", "turn", "a", "b"], ["hand", "most"]),
    (1006, ⟨("_law_store", none), "_law_store", "_law_store", defArgs (topS 47), defBody (topS 47), defScope (topS 47), [], []⟩, ["parts", "kinds", "table", "a", "b"], ["parts"]),
    (1013, ⟨("_law_doers", none), "_law_doers", "_law_doers", defArgs (topS 48), defBody (topS 48), defScope (topS 48), [], []⟩, ["parts", "member", "kind"], ["parts"]),
    (1014, ⟨("_law_with_ring", none), "_law_with_ring", "_law_with_ring", defArgs (topS 49), defBody (topS 49), defScope (topS 49), [], []⟩, ["hand", "parts", "table", "many", "start", "size", "k", "a", "b"], ["hand", "parts"]),
    (1007, ⟨("_law_is_link", none), "_law_is_link", "_law_is_link", defArgs (topS 50), defBody (topS 50), defScope (topS 50), [], []⟩, ["parts", "a", "b", "word"], ["parts", "a", "b", "word"]),
    (1008, ⟨("_law_is_member", none), "_law_is_member", "_law_is_member", defArgs (topS 51), defBody (topS 51), defScope (topS 51), [], []⟩, ["parts", "thing"], ["parts", "thing"]),
    (1009, ⟨("_law_is_path", none), "_law_is_path", "_law_is_path", defArgs (topS 52), defBody (topS 52), defScope (topS 52), [], []⟩, ["parts", "thing", "words", "one", "word", "at"], ["parts", "thing"]),
    (1015, ⟨("_law_is_span", none), "_law_is_span", "_law_is_span", defArgs (topS 53), defBody (topS 53), defScope (topS 53), [], []⟩, ["parts", "way", "doer", "member", "thing", "words", "word"], ["parts", "way", "doer", "member", "thing"]),
    (1010, ⟨("_law_walk", none), "_law_walk", "_law_walk", defArgs (topS 54), defBody (topS 54), defScope (topS 54), [], []⟩, ["hand", "parts", "start", "words", "most", "members", "said", "turn", "some", "word", "to"], ["hand", "parts", "start", "words", "most"]),
    (1011, ⟨("_law_bent", none), "_law_bent", "_law_bent", defArgs (topS 55), defBody (topS 55), defScope (topS 55), [], []⟩, ["hand", "thing", "many", "members", "said", "at", "kind", "odd", "to", "some"], ["hand", "thing", "many"]),
    (1016, ⟨("_law_led_on", none), "_law_led_on", "_law_led_on", defArgs (topS 56), defBody (topS 56), defScope (topS 56), [], []⟩, ["hand", "parts", "path", "more"], ["hand", "parts", "path"]),
    (1017, ⟨("law", none), "law", "law", defArgs (topS 57), defBody (topS 57), defScope (topS 57), [], []⟩, ["script", "hand", "ring", "there", "turn", "parts", "store", "folk", "many", "again", "doer", "path", "thing", "once", "way", "member", "asker", "before", "due"], ["script"])]
def tabs : Ck.Tabs where
  fns := part0 ++ part1
  cls := [("Store", (23, 2))]
  tys := [("Store", 23)]
  glb := [("RIGHTS", 1),
    ("DOER", 2),
    ("KINDS", 3),
    ("MOST_MEMBERS", 4),
    ("MOST_HANDLES", 5),
    ("FETCH", 6),
    ("BRING", 7),
    ("WRITE", 8),
    ("READ", 9),
    ("WAYS", 12)]
  fld := part2 ++ part3
  mth := part4 ++ part5
  fre := ["len",
    "int",
    "abs",
    "str",
    "bool",
    "min",
    "max",
    "sum",
    "sorted",
    "tuple",
    "list",
    "all",
    "any",
    "range",
    "isinstance",
    "enumerate",
    "zip",
    "repr",
    "dict",
    "set"]
def cnT : Nat → PySem.Str
  | 23 => "Store"
  | _ => ""
def ld : LD where
  fns := part6 ++ part7
  T := tabs
  cn := cnT
  ck := [23]
  fk := [(23, 0),
    (23, 1),
    (23, 2)]
  ms := [(23, 1, 48),
    (23, 2, 49)]
  is := [(23, 47)]
  gv := [(1, (.str "grtwx")),
    (2, (.str "D")),
    (3, (.str "DT")),
    (4, (.int 16)),
    (5, (.int 60)),
    (6, (.ktup [(.ktup [(.ktup [(.str "t>"), (.int 0)])])])),
    (7, (.ktup [(.ktup [(.ktup [(.str "t>"), (.int 0)]), (.ktup [(.str "g>"), (.int 1)])]), (.ktup [])])),
    (8, (.ktup [(.ktup [(.ktup [(.str "t>"), (.int 0)]), (.ktup [(.str "w>"), (.int 1)])]), (.ktup [])])),
    (9, (.ktup [(.ktup [(.ktup [(.str "t>"), (.int 0)]), (.ktup [(.str "r>"), (.int 1)])]), (.ktup [])])),
    (12, (.kdk [((Sum.inr "fetch"), (.ktup [(.ktup [(.ktup [(.ktup [(.str "t>"), (.int 0)])])]), (.ktup [(.int 0)])])), ((Sum.inr "bring"), (.ktup [(.ktup [(.ktup [(.ktup [(.str "t>"), (.int 0)]), (.ktup [(.str "g>"), (.int 1)])]), (.ktup [])]), (.ktup [(.int 1)])])), ((Sum.inr "write"), (.ktup [(.ktup [(.ktup [(.ktup [(.str "t>"), (.int 0)]), (.ktup [(.str "w>"), (.int 1)])]), (.ktup [])]), (.ktup [(.int 1)])])), ((Sum.inr "read"), (.ktup [(.ktup [(.ktup [(.ktup [(.str "t>"), (.int 0)]), (.ktup [(.str "r>"), (.int 1)])]), (.ktup [])]), (.ktup [(.int 1)])]))]))]
  fuel := 1000000
  spl := fun _ _ => none
  fn := Mini.fnT


theorem glb_eq : ld.pr.glb = Mini.glbT := by
  funext g
  match g with
  | 0 => rfl
  | 1 => rfl
  | 2 => rfl
  | 3 => rfl
  | 4 => rfl
  | 5 => rfl
  | 6 => rfl
  | 7 => rfl
  | 8 => rfl
  | 9 => rfl
  | 10 => rfl
  | 11 => rfl
  | 12 => rfl
  | n + 13 => rfl
instance : Mini.PK ld.pr where
  fn := rfl
  glb := glb_eq
  meth := rfl
  init := rfl
  fok0 := rfl
  fok1 := rfl
  fok2 := rfl
  cok := rfl
theorem law_runs : ∀ ns : List Int, ns.length ≤ 63 → ∃ outs, Mini.runFn (lawCtx ld 60) f1017 [.sh (.lst (ns.map .int))] = .ok (.sh (.bl true)) outs := by
  intro ns hl
  obtain ⟨w, o, e, rfl⟩ := Mini.law_plain (P := ld.pr) (n := 53) hl
  exact ⟨o, e⟩
end Snd
end

section
set_option Elab.async false
set_option linter.all false
set_option maxRecDepth 100000
set_option maxHeartbeats 0
namespace HH
open PySem PySem.W PySem.Calls PyProof.Rows Snd
abbrev R : OpenRow := OpenLaw.row PySem.Challenge.rw_handles_k13_spans_judged
abbrev qv : Program := view R.prog [57]
abbrev hk : PySem.W.Hook := Snd.hookY 8 (faOf ld) (defsOf ld) (kdsOf ld) (exB ld)
def ob (s : PySem.W.SharedT) : Snd.AlY := Snd.obsY 8 (faOf ld) (defsOf ld) (kdsOf ld) (exB ld) (HandSHeadRun.getT s)
theorem ob_eq (s : PySem.W.SharedT) : ob s = hk.obs s.abs := Snd.obsY_eq (HandSHeadRun.getT_eq s)
def names0 : List PySem.Str := ["HandleError", "BadStore", "NoMember", "NoWay", "NoDoer", "RIGHTS", "DOER", "KINDS", "is_integer", "is_within", "is_pair", "is_triple", "are_rights", "is_member", "is_doer", "check_member", "check_doer", "MOST_MEMBERS", "MOST_HANDLES", "are_kinds", "is_handle", "Store", "rights_in", "FETCH", "BRING", "WRITE", "READ", "WAYS", "has_link", "is_word"]
def names1 : List PySem.Str := ["is_path", "state_behind", "check_way", "check_span", "leads", "is_span", "_law_hand", "_law_draw", "_law_any", "_law_same", "_law_odd", "_law_drawn", "_law_store", "_law_doers", "_law_with_ring", "_law_is_link", "_law_is_member", "_law_is_path", "_law_is_span", "_law_walk", "_law_bent", "_law_led_on"]
def names : List PySem.Str := names0 ++ names1
theorem run_f (w : World) : HandSHeadRun.RunEq R qv hk ob 3000 names (w.withFollow "special-get-raises" false) := by
  intro os
  kernel_rfl
theorem run_t (w : World) : HandSHeadRun.RunEq R qv hk ob 3000 names (w.withFollow "special-get-raises" true) := by
  intro os
  kernel_rfl
theorem run (w : World) : HandSHeadRun.RunEq R qv hk ob 3000 names w :=
  byRow2 "special-get-raises" (P := fun w => HandSHeadRun.RunEq R qv hk ob 3000 names w) run_f run_t w
theorem defs_ok : ld.fns.all (defOk ld) = true := by decide +kernel
theorem tabs_ok : tabOk ld = true := by decide +kernel
end HH
open PySem PySem.W PySem.Calls PyProof.Rows
theorem PySem.Challenge.cw_handles_k13_spans_judged_holds : PySem.Challenge.rw_handles_k13_spans_judged.Holds := by
  w_on; o_law
  refine HandSHeadRun.head_any (r := OpenLaw.row PySem.Challenge.rw_handles_k13_spans_judged) (q := HH.qv) (H := HH.hk) (ob := HH.ob) (M := 3000) (loose := HH.names) (d := HandSHeadRun.topDef (OpenLaw.row PySem.Challenge.rw_handles_k13_spans_judged).prog 57) (kwd := []) HH.ob_eq
    (by kernel_rfl) (fun s => by kernel_rfl) HH.run (by kernel_rfl) (by kernel_rfl) (by kernel_rfl) (by rfl) (by first | assumption | decide +kernel) (by decide +kernel) ⟨rfl, rfl, rfl, rfl, rfl, by decide +kernel⟩ ?hw ?hc
  case hw => w_witness2
  case hc => exact Snd.law_walk (l := PySem.Challenge.rw_handles_k13_spans_judged) (D := Snd.ld) (m := 63) (n := 60) (lid := 1017) rfl (by decide) (by kernel_rfl) (by kernel_rfl) HH.defs_ok HH.tabs_ok (by rfl) (by rfl) (by rfl) (by rfl) (by decide +kernel) (by decide) Snd.law_runs
end
