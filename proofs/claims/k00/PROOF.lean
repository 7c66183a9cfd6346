import PyProof.Rows.All
import Wide.All
import OpenK.AllK
import Wide.FinOn
import KE.KDictKeyed
import KE.SortData
import KE.DataMinMax
import PyProof.ReprReads
import KE.DataCmp
import HandS.ForMost
import HandS.ForExc
import HandS.Walk
import HandS.Codes
import HandS.Conv
import HandS.TryMany
import HandS.ExcField
import HandS.ExcIs
import HandS.Flow
import HandS.TupAny
import HandS.TupMul
import PyProof.StrOps2
import PyProof.Rows.StrRev
import KE.KRevSl
import HandS.Style
import HandS.Text
import HandS.Deep
import HandS.Defaults
import KE.GoesNewDict
import KE.GoesEnum
import KE.GoesDict
import HandS.Comp
import HandS.IsInst
import HandS.AnyAll
import KE.KDictCopyH
import HandS.TupLen
import HandS.HeadEnd
import HandS.More
import HandS.DictComp
import PyProof.ReprRoads
import KE.KDictPairs
import HandS.Head2
import HandS.HeadHook2
import HandS.ExcInit
import KE.KExcSuper
import KE.KSuper
import HandS.HotCalls
import HandS.Head0
import HandS.Head1
import HandS.HeadHook1
import KE.KStateDown
import PySem.Challenge.RW_keywrought_k00_errors_and_limits
set_option Elab.async false
set_option linter.all false
set_option maxRecDepth 100000
set_option maxHeartbeats 8000000
/-! MPEval: a compact syntax of the fragment, and an evaluator over values (no heap): slots hold data, owned or frozen; one counter cell. -/
namespace MP
open PySem

abbrev D := PyData

/-- a class of errors of the program's own: its name, which classes it is one of, its fields -/
structure XRow where
  nm : Str
  ans : List (Str × Bool)
  fds : List Str
/-- an exception of the program's own: which classes it is one of, its fields -/
structure Exn where
  nm : Str
  ans : List (Str × Bool)
  flds : List (Str × D)

/-- what a slot holds: data that others may hold too; data whose container is held here alone (oo: with all containers in it); the counter; an error that was caught -/
inductive Slot where
  | p (d : D) | o (d : D) | oo (d : D) | cell | err (e : Exn)
abbrev Ev := List (Option Slot)

inductive Rs (α : Type) where
  | ok (a : α) (n : Option Int)
  | exc (e : Exn) (n : Option Int)
  | bad

abbrev M (α : Type) := Option Int → Rs α
def M.bind {α β : Type} (m : M α) (f : α → M β) : M β := fun n =>
  match m n with
  | .ok a n' => f a n'
  | .exc e n' => .exc e n'
  | .bad => .bad
def M.ret {α : Type} (a : α) : M α := fun n => .ok a n
instance : Monad M := { pure := M.ret, bind := M.bind }
def fail {α : Type} : M α := fun _ => .bad
/-- a result that may be none: none is no answer -/
def lft {α : Type} (o : Option α) : M α := fun n => match o with
  | some a => .ok a n
  | none => .bad

inductive Op where
  | add | sub | mul | fdiv | mod | pow | band | shl | shr
inductive Cp where
  | eq | ne | lt | le | gt | ge | isN | notN | inn | nin
inductive Ty where
  | int | bool | str | tuple | list | dict
/-- what is handed the items of a walked thing -/
inductive B1 where
  | list | tuple | sorted | dict | sum | any | all | min | max
inductive B0 where
  | len | abs | int | str | repr
inductive Me1 where
  | join | index | count | split | endswith | get

inductive Tg where
  | nm (i : Nat)
  | tup (ts : List Tg)

mutual
inductive E where
  | cst (d : D)
  | var (i : Nat)
  | bin (o : Op) (a b : E)
  | neg (a : E)
  | not (a : E)
  | and (a b : E)
  | or (a b : E)
  | cmp (o : Cp) (a b : E)
  | cmp2 (o1 o2 : Cp) (a b c : E)
  | ife (t a b : E)
  | tup (es : List E)
  | lst (es : List E)
  | dct (kvs : List E)
  | ix (a i : E)
  | cellv (i : Nat)
  | cget (i : Nat)
  | sl (a : E) (lo hi : Option E)
  | rev (a : E)
  | call (f : Nat) (es : List E)
  | isi (e : E) (t : Ty)
  | b0 (b : B0) (e : E)
  | b1 (b : B1) (it : It)
  | mm2 (mx : Bool) (a b : E)
  | me1 (m : Me1) (r a : E)
  | get2 (r a b : E)
  | lc (elt : E) (tg : Tg) (it : It) (cond : Option E) (own : List Nat)
  | lc2 (elt : E) (tg : Tg) (it : It) (tg2 : Tg) (it2 : It) (cond : Option E) (own : List Nat)
  | dc (k v : E) (tg : Tg) (it : It) (cond : Option E) (own : List Nat)
  | dc2 (k v : E) (tg : Tg) (it : It) (tg2 : Tg) (it2 : It) (cond : Option E) (own : List Nat)
  /-- e.name, isinstance(e, C) of the error in a slot -/
  | exa (i : Nat) (name : Str)
  | exi (i : Nat) (c : Str)
  /-- a def of the program on the error in a slot -/
  | callX (f i : Nat)
inductive It where
  | of (e : E)
  | rng (es : List E)
  | enum (e : E)
  | zip (a b : E)
  | items (e : E)
  | vals (e : E)
end

mutual
inductive S where
  | pass
  | ex (e : E)
  /-- i = e; dp: a fresh container is held alone with all that is in it -/
  | asg (dp : Bool) (i : Nat) (e : E)
  | asgT (t : Tg) (e : E)
  | par (is : List Nat) (es : List E)
  | setIx (i : Nat) (k e : E)
  | aug (i : Nat) (o : Op) (e : E)
  | augIx (i : Nat) (k : E) (o : Op) (e : E)
  | app (i : Nat) (e : E)
  | pop (t : Tg) (i : Nat)
  | popK (i : Nat) (k : E)
  | remove (i : Nat) (e : E)
  | update (i : Nat) (e : E)
  | setdApp (i : Nat) (k e : E)
  | appIx (i : Nat) (k e : E)
  | setIx2 (i : Nat) (j k e : E)
  | mkCell (i : Nat)
  | cset (i : Nat) (e : E)
  | ife (t : E) (a b : List S)
  | for (t : Tg) (it : It) (body : List S)
  | while (t : E) (body : List S)
  | ret (e : E)
  | retN
  | brk
  | cont
  | raise (c : Nat) (es : List E)
  | tryE (body : List S) (hs : List Hd)
/-- a clause: the class that it takes, the name's slot, the suite -/
inductive Hd where
  | mk (c : Str) (v : Nat) (body : List S)
end

/-! ### what the operations give on data -/
def dNoDict (d : D) : Bool := !d.hasDict && decide (d.depth ≤ 60)

def big64 (i : Int) : Bool := decide (-(2 ^ 64) < i ∧ i < 2 ^ 64)
def fits (n : Nat) : Bool := decide (n ≤ 16777216)
def rep {α : Type} (xs : List α) (n : Int) : List α := (List.replicate n.toNat xs).flatten
def lftIf {α : Type} (b : Bool) (a : α) : Option α := if b then some a else none

def opE : Op → D → D → Option D
  | .add, .int a, .int b => some (.int (a + b))
  | .add, .str a, .str b => lftIf (fits (a.length + b.length)) (.str (a ++ b))
  | .add, .tuple a, .tuple b => lftIf (fits (a.length + b.length)) (.tuple (a ++ b))
  | .add, .list a, .list b => lftIf (fits (a.length + b.length)) (.list (a ++ b))
  | .sub, .int a, .int b => some (.int (a - b))
  | .mul, .int a, .int b => lftIf (big64 a || big64 b) (.int (a * b))
  | .mul, .list a, .int b => lftIf (decide (-(2 ^ 62) ≤ b ∧ b < 2 ^ 20) && fits (a.length * b.toNat)) (.list (rep a b))
  | .mul, .tuple a, .int b => lftIf (decide (-(2 ^ 62) ≤ b ∧ b ≤ 1000) && decide (a.length ≤ 1000)) (.tuple (rep a b))
  | .mul, .str a, .int b => lftIf (decide (-(2 ^ 62) ≤ b ∧ b ≤ 1000) && decide (a.length ≤ 1000)) (.str ⟨(rep a.cps.toList b).toArray⟩)
  | .fdiv, .int a, .int b => lftIf (decide (b ≠ 0 ∧ b.natAbs < 1073741824)) (.int (a.fdiv b))
  | .mod, .int a, .int b => lftIf (decide (b ≠ 0)) (.int (a.fmod b))
  | .pow, .int a, .int b => lftIf (decide (0 ≤ b ∧ b ≤ 1000000 ∧ a.natAbs < 2 ^ 64)) (.int (a ^ b.toNat))
  | .band, .int a, .int b => some (.int (Builtin.bitAnd a b))
  | .shl, .int a, .int b => lftIf (decide (0 ≤ b ∧ b ≤ 1000000 ∧ a.natAbs < 2 ^ 64)) (.int (a * 2 ^ b.toNat))
  | .shr, .int a, .int b => lftIf (decide (0 ≤ b)) (.int (a / 2 ^ b.toNat))
  | _, _, _ => none

def isHash : D → Bool
  | .none | .bool _ | .int _ | .str _ => true
  | .tuple xs => isHashL xs
  | _ => false
where isHashL : List D → Bool
  | [] => true
  | x :: xs => isHash x && isHashL xs
def isTup : D → Bool
  | .tuple _ => true
  | _ => false
/-- a key that may be asked for: a number, a text, a tuple of such (nested) -/
def keyFit : D → Bool
  | .int _ => true
  | .str _ => true
  | .tuple xs => isHash (.tuple xs) && decide ((PyData.tuple xs).depth ≤ 8)
  | _ => false
/-- a key that a dict with these entries may be asked for -/
def keyOk (kvs : List (D × D)) (k : D) : Bool := keyFit k && (match kvs with
  | [] => true
  | (k', _) :: _ => isTup k' == isTup k)
def dGet (kvs : List (D × D)) (k : D) : Option D := (kvs.find? fun kv => PyData.eqv kv.1 k).map (·.2)
def dHas (kvs : List (D × D)) (k : D) : Bool := kvs.any fun kv => PyData.eqv kv.1 k
def dSet (kvs : List (D × D)) (k v : D) : List (D × D) :=
  if dHas kvs k then kvs.map fun kv => if PyData.eqv kv.1 k then (kv.1, v) else kv else kvs ++ [(k, v)]
def dDel (kvs : List (D × D)) (k : D) : List (D × D) := kvs.filter fun kv => !PyData.eqv kv.1 k
def dSet? (kvs : List (D × D)) (k v : D) : Option (List (D × D)) := lftIf (keyOk kvs k && decide (kvs.length < 1000000)) (dSet kvs k v)

def isNn : D → Bool
  | .none => true
  | _ => false
def strLt (a b : Str) : Bool := decide (a.cps.toList < b.cps.toList)
def inStr (a b : Str) : Bool := !(Builtin.Str.occurrences b a 0 b.length 1).isEmpty
def cpE : Cp → D → D → Option Bool
  | .eq, a, b => lftIf (dNoDict a && dNoDict b) (PyData.eqv a b)
  | .ne, a, b => lftIf (dNoDict a && dNoDict b) (!PyData.eqv a b)
  | .lt, .int a, .int b => some (decide (a < b))
  | .le, .int a, .int b => some (decide (a ≤ b))
  | .gt, .int a, .int b => some (decide (b < a))
  | .ge, .int a, .int b => some (decide (b ≤ a))
  | .lt, .str a, .str b => some (strLt a b)
  | .le, .str a, .str b => some (!strLt b a)
  | .gt, .str a, .str b => some (strLt b a)
  | .ge, .str a, .str b => some (!strLt a b)
  | .isN, a, _ => some (isNn a)
  | .notN, a, _ => some (!isNn a)
  | .inn, a, .dict kvs => lftIf (keyOk kvs a) (dHas kvs a)
  | .nin, a, .dict kvs => lftIf (keyOk kvs a) (!dHas kvs a)
  | .inn, a, .list xs => lftIf (dNoDict a && dNoDict (.list xs)) (xs.any fun y => PyData.eqv y a)
  | .nin, a, .list xs => lftIf (dNoDict a && dNoDict (.list xs)) (!xs.any fun y => PyData.eqv y a)
  | .inn, a, .tuple xs => lftIf (dNoDict a && dNoDict (.tuple xs)) (xs.any fun y => PyData.eqv y a)
  | .nin, a, .tuple xs => lftIf (dNoDict a && dNoDict (.tuple xs)) (!xs.any fun y => PyData.eqv y a)
  | .inn, .str a, .str b => some (inStr a b)
  | .nin, .str a, .str b => some (!inStr a b)
  | _, _, _ => none

/-- truth by the value -/
def tru : D → Bool
  | .none => false
  | .bool b => b
  | .int i => i != 0
  | .str s => s.length != 0
  | .list xs => !xs.isEmpty
  | .tuple xs => !xs.isEmpty
  | .dict kvs => !kvs.isEmpty

/-- the place of an index that may count from the end -/
def ixN (len : Nat) (i : Int) : Option Nat :=
  if 0 ≤ i then (if i < len then some i.toNat else none) else (if -(len : Int) ≤ i then some (i + len).toNat else none)
def sgn (c : Nat) : D := .str ⟨#[c]⟩
def ixE : D → D → Option D
  | .list xs, .int i => do xs[← ixN xs.length i]?
  | .tuple xs, .int i => do xs[← ixN xs.length i]?
  | .str s, .int i => do sgn (← s.cps.toList[← ixN s.cps.size i]?)
  | .dict kvs, k => if keyOk kvs k then dGet kvs k else none
  | _, _ => none
/-- a bound of a slice -/
def bnd (len : Nat) (dflt : Nat) : Option Int → Nat
  | none => dflt
  | some i => if i < 0 then (i + (len : Int)).toNat else min i.toNat len
def cutL {α : Type} (xs : List α) (lo hi : Nat) : List α := (xs.drop lo).take (hi - lo)
def slE : D → Option Int → Option Int → Option D
  | .list xs, lo, hi => some (.list (cutL xs (bnd xs.length 0 lo) (bnd xs.length xs.length hi)))
  | .tuple xs, lo, hi => some (.tuple (cutL xs (bnd xs.length 0 lo) (bnd xs.length xs.length hi)))
  | .str s, lo, hi => some (.str ⟨(cutL s.cps.toList (bnd s.cps.size 0 lo) (bnd s.cps.size s.cps.size hi)).toArray⟩)
  | _, _, _ => none
def revE : D → Option D
  | .list xs => some (.list xs.reverse)
  | .tuple xs => some (.tuple xs.reverse)
  | .str s => some (.str ⟨s.cps.toList.reverse.toArray⟩)
  | _ => none

def isiE : Ty → D → Bool
  | .int, .int _ => true
  | .int, .bool _ => true
  | .bool, .bool _ => true
  | .str, .str _ => true
  | .tuple, .tuple _ => true
  | .list, .list _ => true
  | .dict, .dict _ => true
  | _, _ => false

def b0E : B0 → D → Option D
  | .len, .str s => some (.int s.length)
  | .len, .list xs => some (.int xs.length)
  | .len, .tuple xs => some (.int xs.length)
  | .len, .dict kvs => some (.int kvs.length)
  | .abs, .int i => some (.int (if i < 0 then -i else i))
  | .int, .int i => some (.int i)
  | .int, .bool b => some (.int (if b then 1 else 0))
  | .str, .int i => lftIf (decide (i.natAbs.log2 < 1920) && fits (toString i : Str).length && PyData.strOk (toString i)) (.str (toString i))
  | .repr, d => lftIf (dNoDict d && d.showable && fits d.shown.length && PyData.strOk d.shown) (.str d.shown)
  | _, _ => none

def asInt : D → Option Int
  | .int i => some i
  | _ => none
def asInts : List D → Option (List Int)
  | [] => some []
  | .int i :: xs => do let r ← asInts xs; some (i :: r)
  | _ => none
def asBools : List D → Option (List Bool)
  | [] => some []
  | .bool i :: xs => do let r ← asBools xs; some (i :: r)
  | _ => none
def asStrs : List D → Option (List Str)
  | [] => some []
  | .str i :: xs => do let r ← asStrs xs; some (i :: r)
  | _ => none
def asPairs : List D → Option (List (D × D))
  | [] => some []
  | .tuple [a, b] :: xs => do let r ← asPairs xs; some ((a, b) :: r)
  | _ => none
def dPut : List (D × D) → List (D × D) → Option (List (D × D))
  | acc, [] => some acc
  | acc, (k, v) :: r => do dPut (← dSet? acc k v) r

/-- data that may be put in order together -/
def allAlike : List D → Bool
  | [] => true
  | x :: xs => PySem.W.alike x x && xs.all (fun y => PySem.W.alike x y) && dNoDict x && allAlike xs
def sortOk (xs : List D) : Bool := allAlike xs && (xs.all (fun d => match d with | .tuple (_ :: _) => true | _ => false) || xs.all (fun d => match d with | .none => false | .tuple _ => false | _ => true))
def leE (x y : D) : Bool := !PySem.W.dataLt y x
def least (mx : Bool) : D → List D → D
  | b, [] => b
  | b, x :: xs => least mx (if (if mx then PySem.W.dataLt b x else PySem.W.dataLt x b) then x else b) xs

def joinStr (sep : Str) (xs : List Str) : Str := Str.join sep xs

def tupNe : D → Bool
  | .tuple (_ :: _) => true
  | _ => false
/-- the least, the greatest: of whole numbers, of tuples that may be put in order -/
def leastE (f : D → List D → D) (g : List Int → Option Int) (xs : List D) : Option D := match asInts xs with
  | some ns => (g ns).map .int
  | none => match xs with
    | x :: r => lftIf ((x :: r).all tupNe && allAlike (x :: r)) (f x r)
    | [] => none
def b1E : B1 → List D → Option D
  | .list, xs => lftIf (fits xs.length) (.list xs)
  | .tuple, xs => lftIf (fits xs.length) (.tuple xs)
  | .sorted, xs => lftIf (sortOk xs && fits xs.length) (.list (xs.mergeSort (PySem.W.dataLe false fun d => d)))
  | .dict, xs => do let ps ← asPairs xs; let r ← dPut [] ps; some (.dict r)
  | .sum, xs => do let ns ← asInts xs; some (.int ns.sum)
  | .any, xs => do let bs ← asBools xs; some (.bool (bs.any id))
  | .all, xs => do let bs ← asBools xs; some (.bool (bs.all id))
  | .min, xs => leastE PySem.W.minD List.min? xs
  | .max, xs => leastE PySem.W.maxD List.max? xs

def joinE (s : Str) (ts : List Str) : Option D := lftIf (fits ((ts.map (·.length)).sum + ts.length * s.length) && fits (joinStr s ts).length && PyData.strOk (joinStr s ts)) (.str (joinStr s ts))
def findIx (xs : List D) (x : D) : Option D := (xs.findIdx? fun y => PyData.eqv y x).map fun i => .int i
def me1E : Me1 → D → D → Option D
  | .join, .str s, .list xs => do let ts ← asStrs xs; joinE s ts
  | .join, .str s, .tuple xs => do let ts ← asStrs xs; joinE s ts
  | .index, .list xs, x => if dNoDict x && dNoDict (.list xs) then findIx xs x else none
  | .index, .tuple xs, x => if dNoDict x && dNoDict (.tuple xs) then findIx xs x else none
  | .get, .dict kvs, k => lftIf (keyOk kvs k) ((dGet kvs k).getD .none)
  | _, _, _ => none

/-- the items of data that is walked -/
def itemsE : D → Option (List D)
  | .list xs => some xs
  | .tuple xs => some xs
  | .dict kvs => some (kvs.map (·.1))
  | .str s => some (s.cps.toList.map sgn)
  | _ => none
def seqE : D → Option (List D)
  | .list xs => some xs
  | .tuple xs => some xs
  | .str s => some (s.cps.toList.map sgn)
  | _ => none
def rngL (lo c : Int) (n : Nat) : List D := (List.range n).map fun (i : Nat) => .int (lo + (i : Int) * c)
def sm62 (i : Int) : Bool := decide (-(2 ^ 62) ≤ i ∧ i < 2 ^ 62)
def rngE : List D → Option (List D)
  | [.int hi] => lftIf (sm62 hi) (rngL 0 1 hi.toNat)
  | [.int lo, .int hi] => lftIf (sm62 lo && sm62 hi) (rngL lo 1 (hi - lo).toNat)
  | [.int lo, .int hi, .int c] => lftIf (decide (c ≠ 0 ∧ c.natAbs < 1073741824) && Builtin.Range.small lo hi c) (rngL lo c (Builtin.Range.rangeSize lo hi c).toNat)
  | _ => none
def enumL (k : Nat) : List D → List D
  | [] => []
  | x :: xs => .tuple [.int k, x] :: enumL (k + 1) xs
def zipL : List D → List D → List D
  | x :: xs, y :: ys => .tuple [x, y] :: zipL xs ys
  | _, _ => []

/-! ### slots -/
def Slot.d : Slot → Option D
  | .p d => some d
  | .o d => some d
  | .oo d => some d
  | .cell => none
  | .err _ => none
def getS (ρ : Ev) (i : Nat) : Option Slot := (ρ[i]?).join
def getD (ρ : Ev) (i : Nat) : Option D := do (← getS ρ i).d
def setS (ρ : Ev) (i : Nat) (s : Slot) : Ev := ρ.set i (some s)
def wipeE (ρ : Ev) : List Nat → Ev
  | [] => ρ
  | v :: vs => (wipeE ρ vs).set v none
/-- what is held alone here is handed on: it stays as it is from now on -/
def frz (ρ : Ev) (i : Nat) : Ev := match getS ρ i with
  | some (.o d) => ρ.set i (some (.p d))
  | some (.oo d) => ρ.set i (some (.p d))
  | _ => ρ
/-- .. where a part of it is handed on -/
def frz2 (ρ : Ev) (i : Nat) : Ev := match getS ρ i with
  | some (.oo d) => ρ.set i (some (.p d))
  | _ => ρ
def frzAll (ρ : Ev) (is js : List Nat) : Ev := js.foldl frz2 (is.foldl frz ρ)

def Slot.frz : Slot → Slot
  | .o d => .p d
  | .oo d => .p d
  | s => s
/-- all that is held is only read from now on -/
def frzE (ρ : Ev) : Ev := ρ.map (Option.map Slot.frz)

mutual
def bindT : Tg → D → Ev → Option Ev
  | .nm i, d, ρ => some (setS ρ i (.p d))
  | .tup ts, .tuple ds, ρ => bindTs ts ds ρ
  | .tup _, _, _ => none
def bindTs : List Tg → List D → Ev → Option Ev
  | [], [], ρ => some ρ
  | t :: ts, d :: ds, ρ => do bindTs ts ds (← bindT t d ρ)
  | _, _, _ => none
end

/-! ### variables whose container may lie in what an expression gives -/
def E.isVar : E → Bool
  | .var _ => true
  | _ => false
/-- of a variable the items alone -/
def escX (b : Bool) (l : List Nat) : List Nat := if b then [] else l
mutual
def E.esc : E → List Nat
  | .var i => [i]
  | .bin _ a b => escX a.isVar a.esc ++ escX b.isVar b.esc
  | .and a b => a.esc ++ b.esc
  | .or a b => a.esc ++ b.esc
  | .ife _ a b => a.esc ++ b.esc
  | .tup es => escL es
  | .lst es => escL es
  | .dct kvs => escL kvs
  | .ix a _ => escX a.isVar a.esc
  | .sl a _ _ => escX a.isVar a.esc
  | .rev a => escX a.isVar a.esc
  | .call _ es => escL es
  | .b1 _ it => it.esc
  | .mm2 _ a b => a.esc ++ b.esc
  | .me1 _ r _ => escX r.isVar r.esc
  | .get2 r _ b => escX r.isVar r.esc ++ b.esc
  | .lc elt _ it _ own => elt.esc.filter (fun i => !own.contains i) ++ it.esc
  | .lc2 elt _ it _ it2 _ own => (elt.esc ++ it2.esc).filter (fun i => !own.contains i) ++ it.esc
  | .dc k v _ it _ own => (k.esc ++ v.esc).filter (fun i => !own.contains i) ++ it.esc
  | .dc2 k v _ it _ it2 _ own => (k.esc ++ v.esc ++ it2.esc).filter (fun i => !own.contains i) ++ it.esc
  | _ => []
def escL : List E → List Nat
  | [] => []
  | e :: es => e.esc ++ escL es
/-- the items of a walked thing -/
def It.esc : It → List Nat
  | .of e => escX e.isVar e.esc
  | .rng _ => []
  | .enum e => escX e.isVar e.esc
  | .zip a b => escX a.isVar a.esc ++ escX b.isVar b.esc
  | .items e => escX e.isVar e.esc
  | .vals e => escX e.isVar e.esc
end
def E.escB (e : E) : List Nat := escX e.isVar e.esc
/-- the walked thing itself -/
def It.escF : It → List Nat
  | .of e => e.esc
  | .rng _ => []
  | .enum e => e.esc
  | .zip a b => a.esc ++ b.esc
  | .items e => e.esc
  | .vals e => e.esc
mutual
/-- variables of which a part may lie in what an expression gives -/
def E.al : E → List Nat
  | .var i => [i]
  | .and a b => a.al ++ b.al
  | .or a b => a.al ++ b.al
  | .ife _ a b => a.al ++ b.al
  | .tup es => alL es
  | .lst es => alL es
  | .dct kvs => alL kvs
  | .call _ es => alL es
  | .mm2 _ a b => a.al ++ b.al
  | .get2 r _ b => r.al ++ b.al
  | .me1 _ r _ => r.al
  | .bin _ a b => a.al ++ b.al
  | .ix a _ => a.al
  | .sl a _ _ => a.al
  | .rev a => a.al
  | .b1 _ it => it.al
  | .lc elt _ it _ own => elt.al.filter (fun i => !own.contains i) ++ it.al
  | .lc2 elt _ it _ it2 _ own => (elt.al ++ it2.al).filter (fun i => !own.contains i) ++ it.al
  | .dc k v _ it _ own => (k.al ++ v.al).filter (fun i => !own.contains i) ++ it.al
  | .dc2 k v _ it _ it2 _ own => (k.al ++ v.al ++ it2.al).filter (fun i => !own.contains i) ++ it.al
  | _ => []
def alL : List E → List Nat
  | [] => []
  | e :: es => e.al ++ alL es
def It.al : It → List Nat
  | .of e => e.al
  | .rng _ => []
  | .enum e => e.al
  | .zip a b => a.al ++ b.al
  | .items e => e.al
  | .vals e => e.al
end
/-- what gives a container of its own -/
def E.fresh : E → Bool
  | .lst _ => true
  | .dct _ => true
  | .lc .. => true
  | .lc2 .. => true
  | .dc .. => true
  | .dc2 .. => true
  | .b1 .list _ => true
  | .b1 .sorted _ => true
  | .b1 .dict _ => true
  | _ => false
def isCont : D → Bool
  | .list _ => true
  | .dict _ => true
  | _ => false
def isEmp : D → Bool
  | .list [] => true
  | .dict [] => true
  | _ => false
/-- a dict is walked where it is held by a name, or new -/
def itOk (e : E) (x : D) : Bool := match x with
  | .dict _ => e.isVar || e.fresh
  | _ => true
def slotOf (dp : Bool) (fr : Bool) (d : D) : Slot := if fr && isCont d then (if dp && isEmp d then .oo d else .o d) else .p d

/-- min, max of two -/
def mm2E : Bool → D → D → Option D
  | true, .int i, .int j => some (.int (if j > i then j else i))
  | false, .int i, .int j => some (.int (if j < i then j else i))
  | _, _, _ => none
def isIntD : D → Bool
  | .int _ => true
  | _ => false
def isStrD : D → Bool
  | .str _ => true
  | _ => false
/-- what a built-in gives on a thing that is walked: the things that are served -/
def srcOk : B1 → D → Bool
  | .list, .list _ => true
  | .list, .tuple _ => true
  | .tuple, .list _ => true
  | .tuple, .tuple _ => true
  | .all, .list _ => true
  | .any, .list _ => true
  | .sum, .list _ => true
  | .sorted, .list _ => true
  | .sorted, .dict kvs => decide (kvs.length < 64) && ((kvs.all fun kv => isIntD kv.1) || (kvs.all fun kv => isStrD kv.1))
  | .min, .list _ => true
  | .max, .list _ => true
  | .dict, .list _ => true
  | _, _ => false
def b1S (b : B1) (e : E) (x : D) : Option D := if srcOk b x then (do let xs ← itemsE x; b1E b xs) else none

/-! ### the evaluator -/
def forM' (body : D → M (Option D)) : List D → M (List D)
  | [] => pure []
  | x :: xs => do
    let y ← body x
    let ys ← forM' body xs
    pure (match y with | some v => v :: ys | none => ys)

/-- keys and values in turn -/
def pairUp : List D → Option (List (D × D))
  | [] => some []
  | k :: v :: r => do let s ← pairUp r; some ((k, v) :: s)
  | _ => none
/-- lists one behind another -/
def lists : List D → Option (List D)
  | [] => some []
  | .list xs :: r => do let s ← lists r; some (xs ++ s)
  | _ => none

/-- what lets no exception out -/
def noX {α : Type} (m : M α) : M α := fun n => match m n with
  | .exc _ _ => .bad
  | r => r
structure Cxt where
  /-- a def of the program by its number, on arguments -/
  call : Nat → List Slot → M D
  /-- the most turns of a while -/
  wf : Nat
  /-- the classes of errors -/
  flds : List XRow

mutual
def evE (C : Cxt) : E → Ev → M D
  | .cst d, _ => pure d
  | .var i, ρ => lft (getD ρ i)
  | .bin o a b, ρ => do let x ← evE C a ρ; let y ← evE C b ρ; lft (opE o x y)
  | .neg a, ρ => do let x ← evE C a ρ; lft (match x with | .int i => some (.int (-i)) | _ => none)
  | .not a, ρ => do let x ← evE C a ρ; pure (.bool (!tru x))
  | .and a b, ρ => do let x ← evE C a ρ; if tru x then evE C b ρ else pure x
  | .or a b, ρ => do let x ← evE C a ρ; if tru x then pure x else evE C b ρ
  | .cmp o a b, ρ => do let x ← evE C a ρ; let y ← evE C b ρ; let r ← lft (cpE o x y); pure (.bool r)
  | .cmp2 o1 o2 a b c, ρ => do
    let x ← evE C a ρ; let y ← evE C b ρ; let r ← lft (cpE o1 x y)
    if r then do let z ← evE C c ρ; let r2 ← lft (cpE o2 y z); pure (.bool r2) else pure (.bool false)
  | .ife t a b, ρ => do let x ← evE C t ρ; if tru x then evE C a ρ else evE C b ρ
  | .tup es, ρ => do let xs ← evEs C es ρ; pure (.tuple xs)
  | .lst es, ρ => do let xs ← evEs C es ρ; pure (.list xs)
  | .dct kvs, ρ => do let xs ← noX (evEs C kvs ρ); lft (do let ps ← pairUp xs; let r ← dPut [] ps; some (.dict r))
  | .ix a i, ρ => do let x ← evE C a ρ; let y ← evE C i ρ; lft (ixE x y)
  | .cellv _, _ => fail
  | .cget i, ρ => fun n => match getS ρ i, n with
    | some .cell, some k => .ok (.int k) n
    | _, _ => .bad
  | .sl a lo hi, ρ => do let x ← evE C a ρ; let l ← evO C lo ρ; let h ← evO C hi ρ; lft (slE x l h)
  | .rev a, ρ => do let x ← evE C a ρ; lft (revE x)
  | .call f es, ρ => do let xs ← evAs C es ρ; C.call f xs
  | .isi e t, ρ => do let x ← evE C e ρ; pure (.bool (isiE t x))
  | .b0 b e, ρ => do let x ← evE C e ρ; lft (b0E b x)
  | .b1 b (.of e), ρ => do let x ← evE C e ρ; lft (b1S b e x)
  | .b1 b it, ρ => do let xs ← evIt C it ρ; lft (b1E b xs)
  | .mm2 mx a b, ρ => do let x ← evE C a ρ; let y ← evE C b ρ; lft (mm2E mx x y)
  | .me1 m r a, ρ => do let x ← evE C r ρ; let y ← noX (evE C a ρ); lft (me1E m x y)
  | .get2 r a b, ρ => do
    let x ← evE C r ρ; let y ← noX (evE C a ρ); let z ← noX (evE C b ρ)
    lft (match x with | .dict kvs => lftIf (keyOk kvs y) ((dGet kvs y).getD z) | _ => none)
  | .lc elt tg it cond own, ρ => do
    let xs ← evIt C it ρ
    let xs ← lft (lftIf (fits xs.length) xs)
    let ys ← noX <| forM' (fun x => do
      let ρ' ← lft (bindT tg x (wipeE (frzE ρ) own))
      let b ← evC C cond ρ'
      if b then do let y ← evE C elt ρ'; pure (some y) else pure none) xs
    pure (.list ys)
  | .lc2 elt tg it tg2 it2 cond own, ρ => do
    let xs ← evIt C it ρ
    let ys ← noX <| forM' (fun x => do
      let ρ' ← lft (bindT tg x (wipeE (frzE ρ) own))
      let xs2 ← evIt C it2 ρ'
      let ys ← forM' (fun x2 => do
        let ρ2 ← lft (bindT tg2 x2 ρ')
        let b ← evC C cond ρ2
        if b then do let y ← evE C elt ρ2; pure (some y) else pure none) xs2
      pure (some (.list ys))) xs
    lft (do let r ← lists ys; lftIf (fits r.length) (.list r))
  | .dc k v tg it cond own, ρ => do
    let xs ← evIt C it ρ
    let xs ← lft (lftIf (fits xs.length) xs)
    let ys ← noX <| forM' (fun x => do
      let ρ' ← lft (bindT tg x (wipeE (frzE ρ) own))
      let b ← evC C cond ρ'
      if b then do let y ← evE C k ρ'; let z ← evE C v ρ'; pure (some (.tuple [y, z])) else pure none) xs
    lft (do let ps ← asPairs ys; let r ← dPut [] ps; some (.dict r))
  | .dc2 k v tg it tg2 it2 cond own, ρ => do
    let xs ← evIt C it ρ
    let ys ← noX <| forM' (fun x => do
      let ρ' ← lft (bindT tg x (wipeE (frzE ρ) own))
      let xs2 ← evIt C it2 ρ'
      let ys ← forM' (fun x2 => do
        let ρ2 ← lft (bindT tg2 x2 ρ')
        let b ← evC C cond ρ2
        if b then do let y ← evE C k ρ2; let z ← evE C v ρ2; pure (some (.tuple [y, z])) else pure none) xs2
      pure (some (.list ys))) xs
    lft (do let r ← lists ys; let ps ← asPairs r; let r ← dPut [] ps; some (.dict r))
  | .exa i x, ρ => lft (match getS ρ i with | some (.err e) => e.flds.lookup x | _ => none)
  | .exi i c, ρ => lft (match getS ρ i with | some (.err e) => (e.ans.lookup c).map .bool | _ => none)
  | .callX f i, ρ => do let e ← lft (match getS ρ i with | some (.err e) => some e | _ => none); noX (C.call f [.err e])
def evEs (C : Cxt) : List E → Ev → M (List D)
  | [], _ => pure []
  | e :: es, ρ => do let x ← evE C e ρ; let xs ← evEs C es ρ; pure (x :: xs)
/-- arguments: the counter may be handed on -/
def evAs (C : Cxt) : List E → Ev → M (List Slot)
  | [], _ => pure []
  | e :: es, ρ => do
    let x ← (match e with
      | .cellv i => lft (match getS ρ i with | some .cell => some .cell | _ => none)
      | e => do let x ← evE C e ρ; pure (.p x))
    let xs ← evAs C es ρ; pure (x :: xs)
def evO (C : Cxt) : Option E → Ev → M (Option Int)
  | none, _ => pure none
  | some e, ρ => do let x ← evE C e ρ; let i ← lft (asInt x); pure (some i)
def evC (C : Cxt) : Option E → Ev → M Bool
  | none, _ => pure true
  | some e, ρ => do let x ← evE C e ρ; pure (tru x)
def evIt (C : Cxt) : It → Ev → M (List D)
  | .of e, ρ => do let x ← evE C e ρ; lft (if itOk e x then itemsE x else none)
  | .rng es, ρ => do let xs ← evEs C es ρ; lft (rngE xs)
  | .enum e, ρ => do let x ← evE C e ρ; let xs ← lft (seqE x); pure (enumL 0 xs)
  | .zip a b, ρ => do let x ← evE C a ρ; let y ← evE C b ρ; let xs ← lft (seqE x); let ys ← lft (seqE y); pure (zipL xs ys)
  | .items e, ρ => do let x ← evE C e ρ; lft (if itOk e x then (match x with | .dict kvs => some (kvs.map fun kv => .tuple [kv.1, kv.2]) | _ => none) else none)
  | .vals e, ρ => do let x ← evE C e ρ; lft (if itOk e x then (match x with | .dict kvs => some (kvs.map (·.2)) | _ => none) else none)
end
/-! ### statements -/
inductive Fl where
  | next | brk | cont
  | ret (d : D)

def forS (body : D → Ev → M (Ev × Fl)) : List D → Ev → M (Ev × Fl)
  | [], ρ => pure (ρ, .next)
  | x :: xs, ρ => do
    let r ← body x ρ
    match r.2 with
    | .next => forS body xs r.1
    | .cont => forS body xs r.1
    | .brk => pure (r.1, .next)
    | .ret d => pure (r.1, .ret d)
def whileN (test : Ev → M Bool) (body : Ev → M (Ev × Fl)) : Nat → Ev → M (Ev × Fl)
  | 0, _ => fail
  | k + 1, ρ => do
    let b ← test ρ
    if b then do
      let r ← body ρ
      match r.2 with
      | .next => whileN test body k r.1
      | .cont => whileN test body k r.1
      | .brk => pure (r.1, .next)
      | .ret d => pure (r.1, .ret d)
    else pure (ρ, .next)

/-- x op= y where nothing is written -/
def augE : Op → D → D → Option D
  | .add, .int a, .int b => some (.int (a + b))
  | .sub, .int a, .int b => some (.int (a - b))
  | _, _, _ => none
/-- x[k] = v -/
def setIxE : D → D → D → Option D
  | .list xs, .int i, v => do let j ← ixN xs.length i; some (.list (xs.set j v))
  | .dict kvs, k, v => do let r ← dSet? kvs k v; some (.dict r)
  | _, _, _ => none
/-- the container of a slot held alone, changed -/
def chg (ρ : Ev) (i : Nat) (f : D → Option D) : Option Ev := do
  match ← getS ρ i with
  | .o d => some (setS ρ i (.o (← f d)))
  | _ => none
/-- .. where all that is in it is held alone too -/
def chg2 (ρ : Ev) (i : Nat) (f : D → Option D) : Option Ev := do
  match ← getS ρ i with
  | .oo d => some (setS ρ i (.oo (← f d)))
  | _ => none
def appE (x : D) : D → Option D
  | .list xs => lftIf (fits (xs.length + 1)) (.list (xs ++ [x]))
  | _ => none
def extE (x : D) : D → Option D
  | .list xs => match x with
    | .list ys => lftIf (fits (xs.length + ys.length)) (.list (xs ++ ys))
    | _ => none
  | _ => none
def popE : D → Option (D × D)
  | .list xs => do some (← xs.getLast?, .list xs.dropLast)
  | _ => none
def removeE (x : D) : D → Option D
  | .list xs => if dNoDict x && dNoDict (.list xs) then do let i ← xs.findIdx? (fun y => PyData.eqv y x); some (.list (xs.eraseIdx i)) else none
  | _ => none
def popKE (k : D) : D → Option D
  | .dict kvs => if keyOk kvs k && dHas kvs k then some (.dict (dDel kvs k)) else none
  | _ => none
def updE (x : D) : D → Option D
  | .dict kvs => match x with
    | .dict more => do let r ← dPut kvs more; some (.dict r)
    | _ => none
  | _ => none
/-- the empty list under a key, if nothing is there -/
def sdE (k : D) : D → Option D
  | .dict kvs => if dHas kvs k then (if keyOk kvs k then some (.dict kvs) else none) else do let r ← dSet? kvs k (.list []); some (.dict r)
  | _ => none
/-- x[k] changed within -/
def inE (k : D) (f : D → Option D) (x : D) : Option D := do let y ← ixE x k; let z ← f y; setIxE x k z
def setAll (dp : Bool) : List Nat → List E → List D → Ev → Option Ev
  | [], [], [], ρ => some ρ
  | i :: is, e :: es, d :: ds, ρ => setAll dp is es ds (setS ρ i (slotOf dp e.fresh d))
  | _, _, _, _ => none

/-- a slot that holds a container alone; a list; the counter -/
def ownO (ρ : Ev) (i : Nat) : Option Unit := match getS ρ i with
  | some (.o _) => some ()
  | _ => none
def lstO (ρ : Ev) (i : Nat) : Option Unit := match getS ρ i with
  | some (.o (.list _)) => some ()
  | _ => none
def celO (ρ : Ev) (i : Nat) : Option Unit := match getS ρ i with
  | some .cell => some ()
  | _ => none
/-- data without containers -/
def plainD : D → Bool
  | .none => true
  | .bool _ => true
  | .int _ => true
  | .str _ => true
  | .tuple xs => plainL xs
  | _ => false
where plainL : List D → Bool
  | [] => true
  | x :: xs => plainD x && plainL xs
def notErr : Option Slot → Bool
  | some (.err _) => false
  | _ => true
/-- a suite that returns, without any error -/
def onlyRet (m : M (Ev × Fl)) : M (Ev × Fl) := fun n => match m n with
  | .ok (ρ, .ret d) n' => .ok (ρ, .ret d) n'
  | _ => .bad
mutual
def evS (C : Cxt) : S → Ev → M (Ev × Fl)
  | .pass, ρ => pure (ρ, .next)
  | .ex e, ρ => do let _ ← evE C e ρ; pure (frzAll ρ e.esc e.al, .next)
  | .asg dp i e, ρ => do let d ← evE C e ρ; pure (setS (frzAll ρ e.esc e.al) i (slotOf dp e.fresh d), .next)
  | .asgT t e, ρ => do let d ← evE C e ρ; let ρ' ← lft (bindT t d (frzAll ρ e.esc e.al)); pure (ρ', .next)
  | .par is es, ρ => do let ds ← evEs C es ρ; let ρ' ← lft (setAll false is es ds (frzAll ρ (escL es) (alL es))); pure (ρ', .next)
  | .setIx i k e, ρ => do
    let _ ← lft (ownO ρ i)
    let d ← evE C e ρ; let y ← evE C k ρ
    let ρ' ← lft (chg (frzAll ρ e.esc e.al) i fun x => setIxE x y d); pure (ρ', .next)
  | .aug i o e, ρ => do
    let x ← lft (getS ρ i)
    let y ← evE C e ρ
    match x with
    | .p d => do let z ← lft (augE o d y); pure (setS ρ i (.p z), .next)
    | _ => match o with
      | .add => do let ρ' ← lft (chg (frzAll ρ e.esc e.al) i (extE y)); pure (ρ', .next)
      | _ => fail
  | .augIx i k o e, ρ => do
    let x ← lft (getD ρ i)
    let y ← evE C k ρ
    let v ← lft (ixE x y)
    let d ← evE C e ρ
    let z ← lft (match v with | .list _ => none | _ => opE o v d)
    let ρ' ← lft (chg ρ i fun x => setIxE x y z); pure (ρ', .next)
  | .app i e, ρ => do let _ ← lft (lstO ρ i); let d ← evE C e ρ; let ρ' ← lft (chg (frzAll ρ e.esc e.al) i (appE d)); pure (ρ', .next)
  | .pop t i, ρ => do
    let x ← lft (getD ρ i)
    let r ← lft (popE x)
    let ρ' ← lft (chg ρ i fun _ => some r.2)
    let ρ2 ← lft (bindT t r.1 ρ'); pure (ρ2, .next)
  | .popK i k, ρ => do let y ← evE C k ρ; let ρ' ← lft (chg ρ i (popKE y)); pure (ρ', .next)
  | .remove i e, ρ => do let y ← evE C e ρ; let ρ' ← lft (chg ρ i (removeE y)); pure (ρ', .next)
  | .update i e, ρ => do let y ← evE C e ρ; let ρ' ← lft (chg (frzAll ρ e.esc e.al) i (updE y)); pure (ρ', .next)
  | .setdApp i k e, ρ => do
    let y ← noX (evE C k ρ)
    let ρ1 ← lft (chg2 ρ i (sdE y))
    let d ← noX (evE C e ρ1)
    let ρ' ← lft (if isHash d then chg2 (frzAll ρ1 e.esc e.al) i (inE y (appE d)) else none); pure (ρ', .next)
  | .appIx i k e, ρ => do
    let y ← evE C k ρ
    let d ← evE C e ρ
    let ρ' ← lft (chg2 (frzAll ρ e.esc e.al) i (inE y (appE d))); pure (ρ', .next)
  | .setIx2 i j k e, ρ => do
    let d ← evE C e ρ
    let y ← evE C j ρ
    let z ← evE C k ρ
    let ρ' ← lft (chg2 (frzAll ρ e.esc e.al) i (inE y fun x => setIxE x z d)); pure (ρ', .next)
  | .mkCell i, ρ => fun n => match n with
    | none => .ok (setS ρ i .cell, .next) (some 0)
    | some _ => .bad
  | .cset i e, ρ => do
    let _ ← lft (celO ρ i)
    let d ← evE C e ρ
    fun n => match d, getS ρ i, n with
      | .int k, some .cell, some _ => .ok (ρ, .next) (some k)
      | _, _, _ => .bad
  | .ife t a b, ρ => do let x ← evE C t ρ; if tru x then evSs C a ρ else evSs C b ρ
  | .for t it body, ρ => do
    let xs ← evIt C it ρ
    forS (fun x ρ => do let ρ' ← lft (bindT t x ρ); evSs C body ρ') xs (frzAll ρ it.escF it.al)
  | .while t body, ρ => whileN (fun ρ => do let x ← evE C t ρ; pure (tru x)) (fun ρ => evSs C body ρ) C.wf ρ
  | .ret e, ρ => do let d ← evE C e ρ; pure (ρ, .ret d)
  | .retN, ρ => pure (ρ, .ret .none)
  | .brk, ρ => pure (ρ, .brk)
  | .cont, ρ => pure (ρ, .cont)
  | .raise c es, ρ => do
    let r ← lft C.flds[c]?
    let ds ← evEs C es ρ
    fun n => if r.fds.length = ds.length ∧ ds.all plainD = true then .exc ⟨r.nm, r.ans, r.fds.zip ds⟩ n else .bad
  | .tryE body hs, ρ => fun n => if ρ.all notErr = true then (match evSs C body ρ n with
    | .exc e n' => evHs C hs e ρ n'
    | r => r) else .bad
def evSs (C : Cxt) : List S → Ev → M (Ev × Fl)
  | [], ρ => pure (ρ, .next)
  | s :: ss, ρ => do
    let r ← evS C s ρ
    match r.2 with
    | .next => evSs C ss r.1
    | f => pure (r.1, f)
/-- the clauses: a suite knows the error alone, and returns -/
def evHs (C : Cxt) : List Hd → Exn → Ev → M (Ev × Fl)
  | [], e, _ => fun n => .exc e n
  | h :: hs, e, ρ => match h with
    | .mk c v body => do
      let b ← lft (e.ans.lookup c)
      if b then onlyRet (evSs C body (setS (List.replicate ρ.length none) v (.err e))) else evHs C hs e ρ
end

/-! ### defs -/
structure Def where
  np : Nat
  slots : Nat
  dflts : List D
  body : List S
def Def.start (d : Def) (args : List Slot) : Option Ev :=
  if args.length ≤ d.np ∧ d.np ≤ args.length + d.dflts.length then
    some ((args ++ (d.dflts.drop (args.length + d.dflts.length - d.np)).map Slot.p).map some ++ List.replicate (d.slots - d.np) none)
  else none
def bodyDef (C : Cxt) (d : Def) (args : List Slot) : M D := do
  let ρ ← lft (d.start args)
  let r ← evSs C d.body ρ
  match r.2 with
  | .ret x => pure x
  | .next => pure .none
  | _ => fail
/-- a def's run: the counter is neither made nor lost -/
def runDef (C : Cxt) (d : Def) (args : List Slot) : M D := fun n => match bodyDef C d args n with
  | .ok x n' => if n'.isSome == n.isSome then .ok x n' else .bad
  | .exc e n' => if n'.isSome == n.isSome then .exc e n' else .bad
  | .bad => .bad
def callN (defs : List Def) (flds : List XRow) (wf : Nat) : Nat → Nat → List Slot → M D
  | 0, _, _ => fail
  | k + 1, f, args => match defs[f]? with
    | some d => runDef ⟨callN defs flds wf k, wf, flds⟩ d args
    | none => fail
/-- the law itself: it makes the counter -/
def runTop (defs : List Def) (flds : List XRow) (wf : Nat) (k f : Nat) (args : List Slot) : M D := match defs[f]? with
  | some d => bodyDef ⟨callN defs flds wf k, wf, flds⟩ d args
  | none => fail
end MP

/-! MPSrt: a list that is put in order strictly is what sorted gives. -/
namespace MP
open PySem
theorem lt_trans' {a b c : D} (h1 : W.dataLt a b = true) (h2 : W.dataLt b c = true) : W.dataLt a c = true := PyProof.Rows.lex_trans _ _ _ h1 h2
theorem lt_irr (a : D) : W.dataLt a a = false := PyProof.Rows.lex_irrefl _
theorem le_trans' (a b c : D) (h1 : W.dataLe false (fun d : D => d) a b = true) (h2 : W.dataLe false (fun d : D => d) b c = true) : W.dataLe false (fun d : D => d) a c = true := by
  have h1 : (!W.dataLt b a) = true := h1
  have h2 : (!W.dataLt c b) = true := h2
  show (!W.dataLt c a) = true
  cases q : W.dataLt c a with
  | false => rfl
  | true =>
    unfold W.dataLt at q
    rcases PyProof.Rows.lex_negTrans _ (W.keyToks b) _ q with z | z
    · rw [show W.dataLt c b = true from z] at h2; cases h2
    · rw [show W.dataLt b a = true from z] at h1; cases h1
theorem le_total' (a b : D) : (W.dataLe false (fun d : D => d) a b || W.dataLe false (fun d : D => d) b a) = true := by
  show (!W.dataLt b a || !W.dataLt a b) = true
  cases q : W.dataLt b a with
  | false => rfl
  | true =>
    cases q2 : W.dataLt a b with
    | false => rfl
    | true =>
      have := lt_trans' q q2
      rw [lt_irr] at this
      cases this
theorem sort_eq {xs ys : List D} (hp : xs.Perm ys) (hs : ys.Pairwise fun a b => W.dataLt a b = true) : xs.mergeSort (W.dataLe false fun d : D => d) = ys := by
  have anti : ∀ a b : D, a ∈ ys → b ∈ ys → W.dataLt a b = false → W.dataLt b a = false → a = b := by
    clear hp
    induction ys with
    | nil => intro a b h; cases h
    | cons y ys ih =>
      obtain ⟨h1, h2⟩ := List.pairwise_cons.mp hs
      intro a b ha hb q1 q2
      rcases List.mem_cons.mp ha with ea | ha <;> rcases List.mem_cons.mp hb with eb | hb
      · rw [ea, eb]
      · rw [ea, h1 b hb] at q1; cases q1
      · rw [eb, h1 a ha] at q2; cases q2
      · exact ih h2 a b ha hb q1 q2
  refine List.Perm.eq_of_pairwise (le := fun a b => W.dataLe false (fun d : D => d) a b = true) (fun a b ha hb q1 q2 => ?_) (List.pairwise_mergeSort le_trans' le_total' xs) (hs.imp fun {a b} h => ?_) ((List.mergeSort_perm xs _).trans hp)
  · have ha : a ∈ ys := hp.mem_iff.mp (List.mem_mergeSort.mp ha)
    have q1 : (!W.dataLt b a) = true := q1
    have q2 : (!W.dataLt a b) = true := q2
    exact anti a b ha hb (by simpa using q2) (by simpa using q1)
  · show (!W.dataLt b a) = true
    cases q : W.dataLt b a with
    | false => rfl
    | true =>
      have := lt_trans' h q
      rw [lt_irr] at this
      cases this
end MP

/-! MPRep: how data lie in the tracked heap. -/
namespace MP
open PySem PySem.Spec L2
open PyProof.Rows hiding St

/-! ### keys -/
mutual
def keyOf : D → NestedKey
  | .none => .none
  | .bool b => .num (if b = true then 1 else 0)
  | .int i => .num i
  | .str x => .text x
  | .tuple xs => .tup (keysOf xs)
  | .list _ => .none
  | .dict _ => .none
def keysOf : List D → List NestedKey
  | [] => []
  | x :: xs => keyOf x :: keysOf xs
end
mutual
theorem eqv_beq : ∀ a b : D, isHash a = true → isHash b = true → PyData.eqv a b = NestedKey.beq (keyOf a) (keyOf b)
  | .none, b, _, hb => by cases b <;> first | rfl | (simp [isHash] at hb) | simp [PyData.eqv, keyOf, NestedKey.beq]
  | .bool x, b, _, hb => by
    cases b with
    | bool y => cases x <;> cases y <;> rfl
    | int j => simp only [PyData.eqv, keyOf, NestedKey.beq]; cases x <;> simp [Bool.beq_eq_decide_eq]
    | _ => first | rfl | (simp [isHash] at hb) | simp [PyData.eqv, keyOf, NestedKey.beq]
  | .int i, b, _, hb => by
    cases b with
    | bool y => simp only [PyData.eqv, keyOf, NestedKey.beq]; cases y <;> simp [Bool.beq_eq_decide_eq]
    | int j => simp only [PyData.eqv, keyOf, NestedKey.beq]; simp [Bool.beq_eq_decide_eq]
    | _ => first | rfl | (simp [isHash] at hb) | simp [PyData.eqv, keyOf, NestedKey.beq]
  | .str x, b, _, hb => by
    cases b with
    | str y => simp only [PyData.eqv, keyOf, NestedKey.beq]; simp [Bool.beq_eq_decide_eq]
    | _ => first | rfl | (simp [isHash] at hb) | simp [PyData.eqv, keyOf, NestedKey.beq]
  | .tuple xs, b, ha, hb => by
    cases b with
    | tuple ys =>
      simp only [PyData.eqv, keyOf, NestedKey.beq]
      exact eqv_beqs xs ys (by simpa [isHash] using ha) (by simpa [isHash] using hb)
    | _ => first | rfl | (simp [isHash] at hb) | simp [PyData.eqv, keyOf, NestedKey.beq]
  | .list _, _, ha, _ => by simp [isHash] at ha
  | .dict _, _, ha, _ => by simp [isHash] at ha
theorem eqv_beqs : ∀ xs ys : List D, isHash.isHashL xs = true → isHash.isHashL ys = true → PyData.eqvAll xs ys = NestedKey.beqAll (keysOf xs) (keysOf ys)
  | [], [], _, _ => rfl
  | [], _ :: _, _, _ => rfl
  | _ :: _, [], _, _ => rfl
  | x :: xs, y :: ys, ha, hb => by
    simp only [isHash.isHashL, Bool.and_eq_true] at ha hb
    simp only [PyData.eqvAll, keysOf, NestedKey.beqAll]
    rw [eqv_beq x y ha.1 hb.1, eqv_beqs xs ys ha.2 hb.2]
end
theorem eqv_key {a b : D} (ha : isHash a = true) (hb : isHash b = true) : PyData.eqv a b = decide (keyOf a = keyOf b) := by
  rw [eqv_beq a b ha hb, NestedKey.decide_eq]
mutual
theorem depth_key : ∀ d : D, (keyOf d).depth ≤ d.depth
  | .none => by simp [keyOf, NestedKey.depth]
  | .bool _ => by simp [keyOf, NestedKey.depth]
  | .int _ => by simp [keyOf, NestedKey.depth]
  | .str _ => by simp [keyOf, NestedKey.depth]
  | .tuple xs => by
    have := depths_key xs
    simp only [keyOf, NestedKey.depth, PyData.depth]; omega
  | .list _ => by simp [keyOf, NestedKey.depth]
  | .dict _ => by simp [keyOf, NestedKey.depth]
theorem depths_key : ∀ xs : List D, NestedKey.depthAll (keysOf xs) ≤ PyData.depthAll xs
  | [] => by simp [keysOf, NestedKey.depthAll]
  | x :: xs => by
    have h1 := depth_key x
    have h2 := depths_key xs
    simp only [keysOf, NestedKey.depthAll, PyData.depthAll]; omega
end

/-! ### data in the tracked heap -/
/-- a text that may be met: not too long, plain code points -/
def TxtOk (x : Str) : Prop := x.length ≤ sizeLine ∧ PyData.strOk x = true
/-- a key that is no tuple -/
def lkey : D → Option Key
  | .int i => some (.inl i)
  | .str x => some (.inr x)
  | _ => none
/-- a dict with tuples as keys: the raw entries -/
def DTup (P : Program) (w : World) (a : Addr) (xs : List (NestedKey × Addr × Value)) : Heap → Prop := fun h =>
  ∃ (o : Obj) (es : Array DictEntry) (ep : Nat), h.get? a = some o ∧ o.ExactDict ∧ o.data = .dict es ep ∧ es.toList = xs.map (entryOfKey (nestedKind P w))

mutual
inductive Rep (P : Program) (w : World) (K : PySem.W.Frag) (H : Hp) : V → D → List Addr → Prop
  | non : Rep P w K H .non .none []
  | bl (b : Bool) : Rep P w K H (.bl b) (.bool b) []
  | int (i : Int) : Rep P w K H (.int i) (.int i) []
  | str (x : Str) : TxtOk x → Rep P w K H (.str x) (.str x) []
  | lst {a : Addr} {xs : List V} {ds : List D} {S : List Addr} : Rd H a (.lst xs) → RepL P w K H xs ds S → Rep P w K H (.ref a) (.list ds) (a :: S)
  | tup {a : Addr} {xs : List V} {ds : List D} {S : List Addr} : SqT K H a xs → RepL P w K H xs ds S → Rep P w K H (.ref a) (.tuple ds) S
  | dk {a : Addr} {es : List (Key × V)} {kvs : List (D × D)} {S : List Addr} : Rd H a (.dK es) → kvs.map (fun kv => lkey kv.1) = es.map (fun e => some e.1) → (∀ kv ∈ kvs, ∀ x, kv.1 = .str x → TxtOk x) → (es.map (·.1)).Nodup →
      RepL P w K H (es.map (·.2)) (kvs.map (·.2)) S → Rep P w K H (.ref a) (.dict kvs) (a :: S)
  | dt {a : Addr} {xs : List (NestedKey × Addr × Value)} {vs : List V} {kvs : List (D × D)} {S : List Addr} : Rd H a (.ext (DTup P w a xs)) → (a == sysModules) = false → (kvs ≠ [] ∧ kvs.length ≤ sizeLine) →
      RepL P w K H (xs.map fun x => V.ref x.2.1) (kvs.map (·.1)) [] → xs.map (·.1) = kvs.map (fun kv => keyOf kv.1) → (xs.map (·.1)).Nodup → (∀ kv ∈ kvs, isHash kv.1 = true ∧ isTup kv.1 = true ∧ kv.1.depth ≤ 8) →
      Vals vs (xs.map (·.2.2)) → RepL P w K H vs (kvs.map (·.2)) S → Rep P w K H (.ref a) (.dict kvs) (a :: S)
inductive RepL (P : Program) (w : World) (K : PySem.W.Frag) (H : Hp) : List V → List D → List Addr → Prop
  | nil : RepL P w K H [] [] []
  | cons {v : V} {vs : List V} {d : D} {ds : List D} {S T : List Addr} : Rep P w K H v d S → RepL P w K H vs ds T → RepL P w K H (v :: vs) (d :: ds) (S ++ T)
end

section
variable {P : Program} {w : World} {K : PySem.W.Frag} {H H' : Hp}
/-- what may change: things that are written -/
def WrO : Option HO → Prop
  | some (.lst _) => True
  | some (.dK _) => True
  | some (.ext _) => True
  | none => True
  | _ => False
theorem Rd.mono {A : Addr → Prop} (k : ∀ b o, H b = some o → ¬ A b → H' b = some o) {a : Addr} {o : HO} (h : Rd H a o) (ha : ¬ A a) : Rd H' a o := by
  rcases h with h | ⟨u, h⟩
  · exact .inl (k _ _ h ha)
  · exact .inr ⟨u, k _ _ h ha⟩
theorem SqL.mono {A : Addr → Prop} (k : ∀ b o, H b = some o → ¬ A b → H' b = some o) {a : Addr} {xs : List V} (h : SqL K H a xs) (ha : ¬ A a) : SqL K H' a xs := by
  rcases h with h | h
  · exact .inl (Rd.mono k h ha)
  · exact .inr h
theorem SqT.mono {A : Addr → Prop} (k : ∀ b o, H b = some o → ¬ A b → H' b = some o) (hA : ∀ b, A b → WrO (H b)) {a : Addr} {xs : List V} (h : SqT K H a xs) : SqT K H' a xs := by
  rcases h with h | h
  · refine .inl (Rd.mono (A := A) k h fun z => ?_)
    have q := hA a z
    rcases h with h | ⟨u, h⟩
    · rw [h] at q; exact q
    · rw [h] at q; exact q
  · exact .inr h
mutual
theorem Rep.mono {A : Addr → Prop} (k : ∀ b o, H b = some o → ¬ A b → H' b = some o) (hA : ∀ b, A b → WrO (H b)) : ∀ {v : V} {d : D} {S : List Addr}, Rep P w K H v d S → (∀ a ∈ S, ¬ A a) → Rep P w K H' v d S
  | _, _, _, .non, _ => .non
  | _, _, _, .bl b, _ => .bl b
  | _, _, _, .int i, _ => .int i
  | _, _, _, .str x h, _ => .str x h
  | _, _, _, .lst h r, hS => .lst (Rd.mono k h (hS _ List.mem_cons_self)) (RepL.mono k hA r fun a ha => hS a (List.mem_cons_of_mem _ ha))
  | _, _, _, .tup h r, hS => .tup (SqT.mono k hA h) (RepL.mono k hA r hS)
  | _, _, _, .dk h e z n r, hS => .dk (Rd.mono k h (hS _ List.mem_cons_self)) e z n (RepL.mono k hA r fun a ha => hS a (List.mem_cons_of_mem _ ha))
  | _, _, _, .dt h z l rk e n q rv r, hS => .dt (Rd.mono k h (hS _ List.mem_cons_self)) z l (RepL.mono k hA rk fun a ha => nomatch ha) e n q rv (RepL.mono k hA r fun a ha => hS a (List.mem_cons_of_mem _ ha))
theorem RepL.mono {A : Addr → Prop} (k : ∀ b o, H b = some o → ¬ A b → H' b = some o) (hA : ∀ b, A b → WrO (H b)) : ∀ {vs : List V} {ds : List D} {S : List Addr}, RepL P w K H vs ds S → (∀ a ∈ S, ¬ A a) → RepL P w K H' vs ds S
  | _, _, _, .nil, _ => .nil
  | _, _, _, .cons r rs, hS => .cons (Rep.mono k hA r fun a ha => hS a (List.mem_append_left _ ha)) (RepL.mono k hA rs fun a ha => hS a (List.mem_append_right _ ha))
end
theorem RepL.length : ∀ {vs : List V} {ds : List D} {S : List Addr}, RepL P w K H vs ds S → vs.length = ds.length
  | _, _, _, .nil => rfl
  | _, _, _, .cons _ rs => by simp [RepL.length rs]
theorem RepL.append : ∀ {vs vs' : List V} {ds ds' : List D} {S S' : List Addr}, RepL P w K H vs ds S → RepL P w K H vs' ds' S' → RepL P w K H (vs ++ vs') (ds ++ ds') (S ++ S')
  | _, _, _, _, _, _, .nil, h => h
  | _, _, _, _, _, _, .cons r rs, h => by
    rw [List.append_assoc]
    exact .cons r (RepL.append rs h)
theorem RepL.get : ∀ {vs : List V} {ds : List D} {S : List Addr} {i : Nat} {d : D}, RepL P w K H vs ds S → ds[i]? = some d → ∃ v T, vs[i]? = some v ∧ Rep P w K H v d T ∧ ∀ a ∈ T, a ∈ S
  | _, _, _, _, _, .nil, h => by simp at h
  | _, _, _, 0, _, .cons r _, h => by
    simp only [List.getElem?_cons_zero, Option.some.injEq] at h
    subst h
    exact ⟨_, _, rfl, r, fun a ha => List.mem_append_left _ ha⟩
  | _, _, _, i + 1, _, .cons _ rs, h => by
    obtain ⟨v, T, e, r, q⟩ := RepL.get (i := i) rs (by simpa using h)
    exact ⟨v, T, by simpa using e, r, fun a ha => List.mem_append_right _ (q a ha)⟩
theorem RepL.getV : ∀ {vs : List V} {ds : List D} {S : List Addr} {i : Nat} {v : V}, RepL P w K H vs ds S → vs[i]? = some v → ∃ d T, ds[i]? = some d ∧ Rep P w K H v d T ∧ ∀ a ∈ T, a ∈ S
  | _, _, _, _, _, .nil, h => by simp at h
  | _, _, _, 0, _, .cons r _, h => by
    simp only [List.getElem?_cons_zero, Option.some.injEq] at h
    subst h
    exact ⟨_, _, rfl, r, fun a ha => List.mem_append_left _ ha⟩
  | _, _, _, i + 1, _, .cons _ rs, h => by
    obtain ⟨v, T, e, r, q⟩ := RepL.getV (i := i) rs (by simpa using h)
    exact ⟨v, T, by simpa using e, r, fun a ha => List.mem_append_right _ (q a ha)⟩
theorem RepL.take : ∀ {vs : List V} {ds : List D} {S : List Addr} (n : Nat), RepL P w K H vs ds S → ∃ T, RepL P w K H (vs.take n) (ds.take n) T ∧ ∀ a ∈ T, a ∈ S
  | _, _, _, 0, _ => ⟨[], by simpa using RepL.nil, fun _ h => nomatch h⟩
  | _, _, _, _ + 1, .nil => ⟨[], by simpa using RepL.nil, fun _ h => nomatch h⟩
  | _, _, _, n + 1, .cons r rs => by
    obtain ⟨T, h, q⟩ := RepL.take n rs
    exact ⟨_, by simpa using RepL.cons r h, fun a ha => (List.mem_append.mp ha).elim (fun z => List.mem_append_left _ z) fun z => List.mem_append_right _ (q a z)⟩
theorem RepL.drop : ∀ {vs : List V} {ds : List D} {S : List Addr} (n : Nat), RepL P w K H vs ds S → ∃ T, RepL P w K H (vs.drop n) (ds.drop n) T ∧ ∀ a ∈ T, a ∈ S
  | _, _, S, 0, h => ⟨S, by simpa using h, fun _ h => h⟩
  | _, _, _, _ + 1, .nil => ⟨[], by simpa using RepL.nil, fun _ h => nomatch h⟩
  | _, _, _, n + 1, .cons r rs => by
    obtain ⟨T, h, q⟩ := RepL.drop n rs
    exact ⟨T, by simpa using h, fun a ha => List.mem_append_right _ (q a ha)⟩
theorem RepL.reverse : ∀ {vs : List V} {ds : List D} {S : List Addr}, RepL P w K H vs ds S → ∃ T, RepL P w K H vs.reverse ds.reverse T ∧ ∀ a ∈ T, a ∈ S
  | _, _, _, .nil => ⟨[], by simpa using RepL.nil, fun _ h => nomatch h⟩
  | _, _, _, .cons r rs => by
    obtain ⟨T, h, q⟩ := RepL.reverse rs
    have e := RepL.append h (.cons r .nil)
    rw [List.append_nil] at e
    exact ⟨_, by simpa using e, fun a ha => (List.mem_append.mp ha).elim (fun z => List.mem_append_right _ (q a z)) fun z => List.mem_append_left _ z⟩
theorem RepL.set : ∀ {vs : List V} {ds : List D} {S : List Addr} {v : V} {d : D} {T : List Addr} (i : Nat), RepL P w K H vs ds S → Rep P w K H v d T → ∃ U, RepL P w K H (vs.set i v) (ds.set i d) U ∧ ∀ a ∈ U, a ∈ S ∨ a ∈ T
  | _, _, _, _, _, _, _, .nil, _ => ⟨[], by simpa using RepL.nil, fun _ h => nomatch h⟩
  | _, _, _, _, _, _, 0, .cons _ rs, r => ⟨_, by simpa using RepL.cons r rs, fun a ha => (List.mem_append.mp ha).elim .inr fun z => .inl (List.mem_append_right _ z)⟩
  | _, _, _, _, _, _, i + 1, .cons r rs, r' => by
    obtain ⟨U, h, q⟩ := RepL.set i rs r'
    exact ⟨_, by simpa using RepL.cons r h, fun a ha => (List.mem_append.mp ha).elim (fun z => .inl (List.mem_append_left _ z)) fun z => (q a z).imp (fun y => List.mem_append_right _ y) id⟩
/-- items of no container -/
theorem RepL.ints : ∀ ns : List Int, RepL P w K H (ns.map V.int) (ns.map PyData.int) []
  | [] => .nil
  | n :: ns => .cons (S := []) (.int n) (RepL.ints ns)
theorem RepL.strs : ∀ ns : List Str, (∀ x ∈ ns, TxtOk x) → RepL P w K H (ns.map V.str) (ns.map PyData.str) []
  | [], _ => .nil
  | n :: ns, h => .cons (S := []) (.str n (h n List.mem_cons_self)) (RepL.strs ns fun x hx => h x (List.mem_cons_of_mem _ hx))
mutual
theorem Rep.hash_nil : ∀ {v : V} {d : D} {S : List Addr}, Rep P w K H v d S → isHash d = true → S = []
  | _, _, _, .non, _ => rfl
  | _, _, _, .bl _, _ => rfl
  | _, _, _, .int _, _ => rfl
  | _, _, _, .str _ _, _ => rfl
  | _, _, _, .lst _ _, h => by simp [isHash] at h
  | _, _, _, .tup _ r, h => RepL.hash_nil r (by simpa [isHash] using h)
  | _, _, _, .dk .., h => by simp [isHash] at h
  | _, _, _, .dt .., h => by simp [isHash] at h
theorem RepL.hash_nil : ∀ {vs : List V} {ds : List D} {S : List Addr}, RepL P w K H vs ds S → isHash.isHashL ds = true → S = []
  | _, _, _, .nil, _ => rfl
  | _, _, _, .cons r rs, h => by
    simp only [isHash.isHashL, Bool.and_eq_true] at h
    rw [Rep.hash_nil r h.1, RepL.hash_nil rs h.2]; rfl
end
end

/-! ### what the real heap then reads -/
section
variable {X : Cx} {pins : List (Addr × Obj)} {σ : St} {H : Hp} {s : Shared}
theorem DTup.of (I : Inv X pins σ H s) {a : Addr} {xs : List (NestedKey × Addr × Value)} (h : Rd H a (.ext (DTup X.prog X.w a xs))) : DTup X.prog X.w a xs s.heap := (h.ok I.hok).1
theorem dk_entries {h : Heap} {a : Addr} {es : List (Key × V)} {P : Program} {w : World} {H : Hp} (x : ObjOk P w H h a (.dK es)) : ∃ (o : Obj) (xs : Array DictEntry) (ep : Nat), h.get? a = some o ∧ o.cls = .type "dict" ∧ o.data = .dict xs ep ∧
    Vals (es.map fun e => kV e.1) (xs.toList.map (·.key)) ∧ Vals (es.map (·.2)) (xs.toList.map (·.val)) := by
  obtain ⟨_, _, vs, rel, o, xs, ep, ho, hd, hdat, hk, hp, hn⟩ := x
  refine ⟨o, xs, ep, ho, hd.1, hdat, ?_⟩
  have go : ∀ {es : List (Key × V)} {vs : List (Key × Value)} {l : List DictEntry}, KV es vs → Pairs (mixKind P w) l vs → Vals (es.map fun e => kV e.1) (l.map (·.key)) ∧ Vals (es.map (·.2)) (l.map (·.val)) := by
    intro es vs l r
    induction r generalizing l with
    | nil => intro p; cases p; exact ⟨.nil, .nil⟩
    | @cons a b l1 l2 r _ ih =>
      intro p
      cases p with
      | cons p1 p2 p3 =>
        obtain ⟨i1, i2⟩ := ih p3
        refine ⟨.cons ?_ i1, .cons ?_ i2⟩
        · have e : a.1 = b.1 := r.1
          rcases keyIs_shape (show keyIs b.1 _ = true from p1) with ⟨i, t, e1, e2⟩ | ⟨i, t, e1, e2⟩
          · show RelV (kV a.1) _
            rw [e, e1]; exact ⟨t, e2⟩
          · show RelV (kV a.1) _
            rw [e, e1]; exact ⟨t, e2⟩
        · show RelV a.2 (DictEntry.val _)
          rw [p2]; exact r.2
  exact go rel hp
theorem lkeys_reads {h : Heap} : ∀ {ds : List D} {ks : List Key} {us : List Value}, ds.map lkey = ks.map some → Vals (ks.map kV) us → ReadsAll h us ds []
  | [], [], _, _, r => by cases r; exact .nil
  | [], _ :: _, _, h, _ => by simp at h
  | _ :: _, [], _, h, _ => by simp at h
  | d :: ds, k :: ks, _, h, r => by
    simp only [List.map_cons, List.cons.injEq] at h
    cases r with
    | cons r1 r2 =>
      refine .cons (as := []) ?_ (lkeys_reads h.2 r2)
      cases d <;> simp only [lkey, Option.some.injEq] at h
      all_goals first
        | (obtain ⟨h, _⟩ := h; subst h; obtain ⟨t, rfl⟩ := r1; exact .int _ t)
        | (obtain ⟨h, _⟩ := h; subst h; obtain ⟨t, rfl⟩ := r1; exact .str _ t)
        | (obtain ⟨h, _⟩ := h; cases h)
mutual
theorem Rep.reads (I : Inv X pins σ H s) : ∀ {v : V} {d : D} {S : List Addr} {u : Value}, Rep X.prog X.w X.K H v d S → RelV v u → Reads s.heap u d S
  | _, _, _, _, .non, r => by cases r; exact .none
  | _, _, _, _, .bl b, r => by cases r; exact .bool b
  | _, _, _, _, .int i, r => by obtain ⟨t, rfl⟩ := r; exact .int i t
  | _, _, _, _, .str x _, r => by obtain ⟨t, rfl⟩ := r; exact .str x t
  | _, _, _, _, .lst h q, r => by
    cases r
    obtain ⟨_, its, n, rv, ho⟩ := h.ok I.hok
    exact .list ho rfl rfl (by simpa using RepL.reads I q rv)
  | _, _, _, _, .tup h q, r => by
    cases r
    obtain ⟨its, rv, ⟨o, ho, hc, n, hd⟩, _⟩ := I.tuple h
    exact .tuple ho hc hd (by simpa using RepL.reads I q rv)
  | _, _, _, _, .dk (es := es) (kvs := kvs) (S := S) h e _ n q, r => by
    cases r
    obtain ⟨o, xs, ep, ho, hc, hd, k1, k2⟩ := dk_entries (h.ok I.hok)
    have r1 := lkeys_reads (h := s.heap) (ds := kvs.map (·.1)) (ks := es.map (·.1)) (by rw [List.map_map, List.map_map]; exact e) (by simpa [List.map_map, Function.comp_def] using k1)
    have r2 := RepL.reads I q k2
    exact .dict (as := []) ho hc hd r1 r2
  | _, _, _, _, .dt (xs := xs) h z l rk e n q rv r, r' => by
    cases r'
    obtain ⟨o, es, ep, ho, hx, hd, he⟩ := DTup.of I h
    have k1 : Vals (xs.map fun x => V.ref x.2.1) (es.toList.map (·.key)) := by
      rw [he, List.map_map]
      have go : ∀ xs : List (NestedKey × Addr × Value), Vals (xs.map fun x => V.ref x.2.1) (xs.map ((·.key) ∘ entryOfKey (nestedKind X.prog X.w))) := fun xs => by
        induction xs with
        | nil => exact .nil
        | cons x xs ih => exact .cons rfl ih
      exact go xs
    have k2 : es.toList.map (·.val) = xs.map (·.2.2) := by rw [he, List.map_map]; rfl
    exact .dict (as := []) ho hx.1 hd (RepL.reads I rk k1) (RepL.reads I r (by rw [k2]; exact rv))
theorem RepL.reads (I : Inv X pins σ H s) : ∀ {vs : List V} {ds : List D} {S : List Addr} {us : List Value}, RepL X.prog X.w X.K H vs ds S → Vals vs us → ReadsAll s.heap us ds S
  | _, _, _, _, .nil, r => by cases r; exact .nil
  | _, _, _, _, .cons h hs, r => by
    cases r with
    | cons r1 r2 => exact .cons (Rep.reads I h r1) (RepL.reads I hs r2)
end
mutual
theorem Rep.nested (I : Inv X pins σ H s) : ∀ {v : V} {d : D} {S : List Addr} {u : Value}, Rep X.prog X.w X.K H v d S → isHash d = true → RelV v u → NestedIs s.heap (keyOf d) u
  | _, _, _, _, .non, _, r => by cases r; exact .none
  | _, _, _, _, .bl b, _, r => by cases r; exact .bool rfl
  | _, _, _, _, .int i, _, r => by obtain ⟨t, rfl⟩ := r; exact .int i t
  | _, _, _, _, .str x _, _, r => by obtain ⟨t, rfl⟩ := r; exact .text x t
  | _, _, _, _, .tup h q, hh, r => by
    cases r
    obtain ⟨its, rv, ⟨o, ho, hc, n, hd⟩, _⟩ := I.tuple h
    rw [keyOf]
    exact .tup ho hc hd (by simpa using RepL.nested I q (by simpa [isHash] using hh) rv)
  | _, _, _, _, .lst _ _, hh, _ => by simp [isHash] at hh
  | _, _, _, _, .dk .., hh, _ => by simp [isHash] at hh
  | _, _, _, _, .dt .., hh, _ => by simp [isHash] at hh
theorem RepL.nested (I : Inv X pins σ H s) : ∀ {vs : List V} {ds : List D} {S : List Addr} {us : List Value}, RepL X.prog X.w X.K H vs ds S → isHash.isHashL ds = true → Vals vs us → NestedAll s.heap (keysOf ds) us
  | _, _, _, _, .nil, _, r => by cases r; exact .nil
  | _, _, _, _, .cons h hs, hh, r => by
    simp only [isHash.isHashL, Bool.and_eq_true] at hh
    cases r with
    | cons r1 r2 => rw [keysOf]; exact .cons (Rep.nested I h hh.1 r1) (RepL.nested I hs hh.2 r2)
end
theorem dt_of' (I : Inv X pins σ H s) {a : Addr} {xs : List (NestedKey × Addr × Value)} {kvs : List (D × D)} (h : Rd H a (.ext (DTup X.prog X.w a xs)))
    (rk : RepL X.prog X.w X.K H (xs.map fun x => V.ref x.2.1) (kvs.map (·.1)) []) (e : xs.map (·.1) = kvs.map (fun kv => keyOf kv.1)) (n : (xs.map (·.1)).Nodup) (q : ∀ kv ∈ kvs, isHash kv.1 = true ∧ isTup kv.1 = true ∧ kv.1.depth ≤ 8) :
    s.heap.DictOfH (nestedKind X.prog X.w) a xs := by
  obtain ⟨o, es, ep, ho, hx, hd, he⟩ := DTup.of I h
  refine ⟨o, es, ep, ho, hx, hd, he, fun x hm => ?_, n⟩
  obtain ⟨i, hi⟩ := List.mem_iff_getElem?.mp hm
  have h1 : (xs.map fun x => V.ref x.2.1)[i]? = some (.ref x.2.1) := by rw [List.getElem?_map, hi]; rfl
  obtain ⟨d, T, hd', hr, _⟩ := rk.getV h1
  rw [List.getElem?_map] at hd'
  obtain ⟨kv, hkv, rfl⟩ := Option.map_eq_some_iff.mp hd'
  have ek : x.1 = keyOf kv.1 := by
    have z := congrArg (fun l => l[i]?) e
    simp only [List.getElem?_map, hi, hkv, Option.map_some, Option.some.injEq] at z
    exact z
  obtain ⟨g1, g2, g3⟩ := q kv (List.mem_of_getElem? hkv)
  rw [ek]
  exact ⟨Rep.nested I hr g1 rfl, Nat.le_trans (depth_key _) g3⟩
end
end MP

/-! MPSim1: the relation of slots and heap; what an expression's evaluation promises; rules of the plain expressions. -/
namespace MP
open PySem PySem.Spec L2
open PyProof.Rows hiding St

abbrev RepX (X : Cx) (H : Hp) := Rep X.prog X.w X.K H
abbrev RepLX (X : Cx) (H : Hp) := RepL X.prog X.w X.K H

structure Pres (At : Option Addr) (H H' : Hp) : Prop where
  keep : ∀ b o, H b = some o → At ≠ some b → H' b = some o
  trk : ∀ b, H' b = none → H b = none
theorem Pres.refl {At : Option Addr} {H : Hp} : Pres At H H := ⟨fun _ _ h _ => h, fun _ h => h⟩
theorem Pres.trans {At : Option Addr} {H H1 H2 : Hp} (a : Pres At H H1) (b : Pres At H1 H2) : Pres At H H2 := ⟨fun c o h n => b.keep c o (a.keep c o h n) n, fun c h => a.trk c (b.trk c h)⟩
theorem Pres.same {At : Option Addr} {H H' : Hp} (h : Same H H') : Pres At H H' := ⟨fun b o e _ => h b o e, fun b e => h.free e⟩

def CellOk (At : Option Addr) (n : Option Int) (H : Hp) : Prop :=
  match At, n with
  | none, none => True
  | some a, some k => H a = some (.lst [.int k])
  | _, _ => False
theorem CellOk.same {At : Option Addr} {n : Option Int} {H H' : Hp} (c : CellOk At n H) (h : Same H H') : CellOk At n H' := by
  unfold CellOk at *
  cases At <;> cases n <;> simp_all
  exact h _ _ c
theorem CellOk.at_some {n : Option Int} {H : Hp} {a : Addr} (c : CellOk (some a) n H) : ∃ xs, H a = some (.lst xs) := by
  unfold CellOk at c
  cases n with
  | none => exact c.elim
  | some k => exact ⟨_, c⟩
def Wr (o : Option HO) : Prop := (∃ xs, o = some (.lst xs)) ∨ (∃ es, o = some (.dK es)) ∨ ∃ φ, o = some (.ext φ)

/-- .. or it is locked while it is walked -/
def WrF (o : Option HO) : Prop := Wr o ∨ ∃ ob u, o = some (.frz ob u)
/-- the addresses of data's parts, its own container left out -/
def elems (d : D) (S : List Addr) : List Addr := if isCont d then S.tail else S
theorem elems_sub {d : D} {S : List Addr} {a : Addr} (h : a ∈ elems d S) : a ∈ S := by
  unfold elems at h
  split at h
  · exact List.mem_of_mem_tail h
  · exact h

/-! ### errors -/
/-- the value that a class's name stands for -/
def ClsV (mg : Str → Option Value) (x : Str) (c : Value) : Prop := mg x = some c ∨ (mg x = none ∧ bootBuiltins x = some c ∧ x ≠ "__name__")
/-- an error e as an object of class cls with dict d -/
structure ExR (P : Program) (w : World) (K : PySem.W.Frag) (mg : Str → Option Value) (H : Hp) (e : Exn) (cls : Value) (d : Option Addr) : Prop where
  obj : ∃ dd fs, d = some dd ∧ H dd = some (.xd fs) ∧ ∀ f x, e.flds.lookup f = some x → ∃ v, fs.lookup f = some v ∧ Rep P w K H v x []
  ans : ∀ x b, e.ans.lookup x = some b → ∃ c, ClsV mg x c ∧ PySem.W.exmOne K cls c = some b ∧ PySem.W.kitOne K cls c = some b
  cls : ∃ C, cls = .ref C ∧ XfC K C ∧ ExcC K C ∧ ∀ f x, e.flds.lookup f = some x → PySem.W.findIn K (.ref C) f = some none
abbrev ExX (X : Cx) (H : Hp) := ExR X.prog X.w X.K X.mg H
theorem ExR.imp {P : Program} {w : World} {K : PySem.W.Frag} {mg : Str → Option Value} {H H' : Hp} {e : Exn} {cls : Value} {d : Option Addr} (h : ExR P w K mg H e cls d) (hx : ∀ dd fs, H dd = some (.xd fs) → H' dd = some (.xd fs)) (hr : ∀ v x, Rep P w K H v x [] → Rep P w K H' v x []) : ExR P w K mg H' e cls d := by
  obtain ⟨dd, fs, e1, e2, e3⟩ := h.obj
  refine ⟨⟨dd, fs, e1, hx _ _ e2, fun f x q => ?_⟩, h.ans, h.cls⟩
  obtain ⟨v, e4, r⟩ := e3 f x q
  exact ⟨v, e4, hr _ _ r⟩
/-- what the suite of a clause knows of its error -/
def ErrOk (X : Cx) (H : Hp) (e : Exn) (v : V) (S : List Addr) : Prop := S = [] ∧ (X.calm = false → ∃ a oe cls d vs, v = .ref a ∧ (a, oe) ∈ X.pn ∧ Zc cls d oe ∧ oe.data = .fields vs ∧ ExX X H e cls d)
theorem ErrOk.imp {X : Cx} {H H' : Hp} {e : Exn} {v : V} {S : List Addr} (h : ErrOk X H e v S) (hx : ∀ dd fs, H dd = some (.xd fs) → H' dd = some (.xd fs)) (hr : ∀ v x, RepX X H v x [] → RepX X H' v x []) : ErrOk X H' e v S := by
  refine ⟨h.1, fun hc => ?_⟩
  obtain ⟨a, oe, cls, d, vs, e1, e2, e3, e4, e5⟩ := h.2 hc
  exact ⟨a, oe, cls, d, vs, e1, e2, e3, e4, e5.imp hx hr⟩

def SlotOk (X : Cx) (H0 : Hp) (At : Option Addr) (H : Hp) (s : Slot) (v : V) (S : List Addr) : Prop :=
  match s with
  | .p d => RepX X H v d S
  | .o d => RepX X H v d S ∧ isCont d = true ∧ ∃ a T, v = .ref a ∧ S = a :: T ∧ a ∉ T ∧ H0 a = none ∧ WrF (H a)
  | .oo d => RepX X H v d S ∧ isCont d = true ∧ (∃ a T, v = .ref a ∧ S = a :: T) ∧ S.Nodup ∧ ∀ a ∈ S, H0 a = none ∧ WrF (H a)
  | .cell => S = [] ∧ ∃ a, At = some a ∧ v = .ref a
  | .err e => ErrOk X H e v S
def SepS (s : Slot) (S T : List Addr) : Prop :=
  match s with
  | .o _ => ∀ a, S.head? = some a → a ∉ T
  | .oo _ => ∀ a ∈ S, a ∉ T
  | _ => True
structure Rl (X : Cx) (H0 : Hp) (A0 : Addr → Prop) (At : Option Addr) (n : Option Int) (ρ : Ev) (fp : Nat → List Addr) (σ : L2.St) (H : Hp) : Prop where
  pres : Pres At H0 H
  len : ρ.length = σ.length
  slot : ∀ i s, getS ρ i = some s → ∃ v, σ[i]? = some (some v) ∧ SlotOk X H0 At H s v (fp i)
  cell : CellOk At n H
  nat : ∀ i s, getS ρ i = some s → ∀ a ∈ fp i, At ≠ some a
  sep : ∀ i j si sj, i ≠ j → getS ρ i = some si → getS ρ j = some sj → SepS si (fp i) (fp j)
  src : ∀ i s, getS ρ i = some s → ∀ a ∈ fp i, H0 a = none ∨ A0 a

def Reach (ρ : Ev) (fp : Nat → List Addr) (es al : List Nat) (a : Addr) : Prop :=
  ∃ j s d, getS ρ j = some s ∧ s.d = some d ∧ a ∈ fp j ∧ j ∈ al ∧ (j ∈ es ∨ a ∈ elems d (fp j))
theorem Reach.mono {ρ : Ev} {fp : Nat → List Addr} {es al es' al' : List Nat} {a : Addr} (h : Reach ρ fp es al a) (h1 : ∀ i ∈ es, i ∈ es') (h2 : ∀ i ∈ al, i ∈ al') : Reach ρ fp es' al' a := by
  obtain ⟨j, s, d, e, ed, m, ja, q⟩ := h
  exact ⟨j, s, d, e, ed, m, h2 j ja, q.imp (h1 j) id⟩

/-! ### results -/
def Out {α : Type} (r : Rs α) (P : α → Option Int → Prop) (Z : Exn → Option Int → Prop) : Prop :=
  match r with
  | .ok a n => P a n
  | .exc e n => Z e n
  | .bad => False
theorem out_bind {α β : Type} {m : M α} {f : α → M β} {n : Option Int} {P : β → Option Int → Prop} {Z : Exn → Option Int → Prop} :
    Out ((m >>= f) n) P Z ↔ Out (m n) (fun a n' => Out (f a n') P Z) Z := by
  show Out (M.bind m f n) P Z ↔ _
  unfold M.bind Out
  cases m n <;> rfl
theorem out_pure {α : Type} {a : α} {n : Option Int} {P : α → Option Int → Prop} {Z : Exn → Option Int → Prop} : Out ((pure a : M α) n) P Z ↔ P a n := Iff.rfl
theorem out_lft {α : Type} {o : Option α} {n : Option Int} {P : α → Option Int → Prop} {Z : Exn → Option Int → Prop} : Out (lft o n) P Z ↔ ∃ a, o = some a ∧ P a n := by
  cases o with
  | none => simp [lft, Out]
  | some a => simp [lft, Out]
theorem out_ite {α : Type} {b : Bool} {x y : M α} {n : Option Int} {P : α → Option Int → Prop} {Z : Exn → Option Int → Prop} : Out ((if b = true then x else y) n) P Z ↔ if b = true then Out (x n) P Z else Out (y n) P Z := by
  cases b <;> rfl
theorem Out.imp {α : Type} {r : Rs α} {P P' : α → Option Int → Prop} {Z Z' : Exn → Option Int → Prop} (h : Out r P Z) (hp : ∀ a n, P a n → P' a n) (hz : ∀ e n, Z e n → Z' e n) : Out r P' Z' := by
  cases r with
  | ok a n => exact hp _ _ h
  | exc e n => exact hz _ _ h
  | bad => exact h

def AtOk (H0 : Hp) (At At' : Option Addr) : Prop := (At ≠ none → At' = At) ∧ ∀ a, At' = some a → At = some a ∨ H0 a = none
theorem AtOk.refl {H0 : Hp} {At : Option Addr} : AtOk H0 At At := ⟨fun _ => rfl, fun _ h => .inl h⟩
theorem AtOk.trans {H0 : Hp} {A B C : Option Addr} (h : AtOk H0 A B) (k : AtOk H0 B C) : AtOk H0 A C :=
  ⟨fun n => by rw [k.1 (by rw [h.1 n]; exact n), h.1 n], fun a e => (k.2 a e).elim (fun z => h.2 a z) .inr⟩
abbrev NoX : Exn → Option Int → Prop := fun _ _ => False
theorem out_noX {α : Type} {m : M α} {n : Option Int} {P : α → Option Int → Prop} {Z : Exn → Option Int → Prop} (h : Out (noX m n) P Z) : Out (m n) P NoX := by
  unfold noX at h
  unfold Out at *
  cases q : m n with
  | ok a k => rw [q] at h; exact h
  | exc e k => rw [q] at h; exact h
  | bad => rw [q] at h; exact h
theorem out_exists {α : Type} {r : Rs α} {P : α → Option Int → Prop} {A : Prop} (h : Out r P NoX) (k : ∀ a n, P a n → A) : A := by
  cases r with
  | ok a n => exact k a n h
  | exc _ _ => exact h.elim
  | bad => exact h.elim
theorem out_no {α : Type} {r : Rs α} {P : α → Option Int → Prop} {Z : Exn → Option Int → Prop} (h : Out r P NoX) : Out r P Z := h.imp (fun _ _ q => q) fun _ _ z => z.elim
/-- what is wanted of an error, by the heap behind it -/
abbrev ZT := Option Addr → Hp → Exn → Option Int → Prop
abbrev Z0 : ZT := fun _ _ _ _ => False
def ZMono (Z : ZT) : Prop := ∀ At H H1 e n, Pres At H H1 → Z At H e n → Z At H1 e n
/-- X takes an error of class cls with dict d over the heap H' -/
def WXX (X : Cx) (cls : Value) (d : Option Addr) (H' : Hp) : Prop := ∀ u s', XE X (fun c' d' _ H'' => c' = cls ∧ d' = d ∧ H'' = H') u s' → X.xe u s'
theorem wxx_takes (X : Cx) : Takes X (fun cls d _ H' => WXX X cls d H') := fun u s' ⟨a, B, sI, pins, σ, H, cls, d, e, I, nb, up, sky, na, os, ag, w⟩ =>
  w u s' ⟨a, B, sI, pins, σ, H, cls, d, e, I, nb, up, sky, na, os, ag, rfl, rfl, rfl⟩
theorem WXX.of {X : Cx} {W : WX} (t : Takes X W) {cls : Value} {d : Option Addr} {H' : Hp} (h : ∀ σ : L2.St, σ.length = X.N.length → W cls d σ H') : WXX X cls d H' := fun u s' ⟨a, B, sI, pins, σ, H, c, d', e, I, nb, up, sky, na, os, ag, w⟩ => by
  obtain ⟨rfl, rfl, rfl⟩ := w
  exact t u s' ⟨a, B, sI, pins, σ, _, _, _, e, I, nb, up, sky, na, os, ag, h σ I.len⟩
/-- the wish about errors that X itself has -/
def ZX (X : Cx) : ZT := fun At H e n => ∀ A cls d H', AtOk H At A → ExX X H' e cls d → Pres A H H' → CellOk A n H' → WXX X cls d H'
theorem Pres.at {At A : Option Addr} {H H1 : Hp} (k : AtOk H1 At A) (p : Pres At H H1) : Pres A H H1 := ⟨fun b o e nb => p.keep b o e fun z => nb ((k.1 (by rw [z]; simp)).trans z), p.trk⟩
theorem zx_go {X : Cx} {At At' : Option Addr} {H H1 : Hp} {e : Exn} {n : Option Int} (z : ZX X At H e n) (h : ∀ A H', AtOk H1 At' A → Pres A H1 H' → CellOk A n H' → AtOk H At A ∧ Pres A H H') : ZX X At' H1 e n := fun A cls d H' k ex p c =>
  z A cls d H' (h A H' k p c).1 ex (h A H' k p c).2 c
theorem AtOk.back {At A : Option Addr} {H H1 : Hp} (k : AtOk H1 At A) (t : ∀ b, H1 b = none → H b = none) : AtOk H At A := ⟨k.1, fun a e => (k.2 a e).imp id (t a)⟩
theorem zx_mono {X : Cx} : ZMono (ZX X) := fun _ _ _ _ _ p z => zx_go z fun _ _ k q _ => ⟨k.back p.trk, (p.at k).trans q⟩
theorem zx_at {X : Cx} {At At' : Option Addr} {H : Hp} {e : Exn} {n : Option Int} (z : ZX X At H e n) (k : AtOk H At At') : ZX X At' H e n := zx_go z fun _ _ k2 q _ => ⟨k.trans k2, q⟩
/-- a locked thing is unlocked by an error that leaves -/
theorem zx_lock {X : Cx} {At : Option Addr} {H H1 : Hp} {e : Exn} {n : Option Int} (z : ZX X At H e n) {a : Addr} {od : Obj} {u : HO} (hn : ∀ o' u', X.H_0 a ≠ some (.frz o' u'))
    (hv : ∀ H', H' a = some (.frz od u) → ∀ v x, RepX X H' v x [] → RepX X (upd H' a u) v x [])
    (h : ∀ A H', AtOk H1 At A → Pres A H1 H' → CellOk A n H' → H' a = some (.frz od u) ∧ AtOk H At A ∧ Pres A H (upd H' a u) ∧ CellOk A n (upd H' a u)) : ZX X At H1 e n := fun A cls d H' k ex p c => by
  obtain ⟨ha, k2, p2, c2⟩ := h A H' k p c
  have w := z A cls d (upd H' a u) k2 (ex.imp (fun dd fs q => by rw [upd_ne (fun y => by rw [y, ha] at q; cases q)]; exact q) (hv H' ha)) p2 c2
  rintro t s' ⟨b, B, sI, pins, σ, H2, c', d', e1, I, nb, up, sky, na, os, ag, rfl, rfl, rfl⟩
  exact w t s' ⟨b, B, sI, pins, σ, upd H2 a u, _, _, e1, I.unlock ha hn, nb, up, sky, by rw [upd_ne (fun y => by rw [y, ha] at na; cases na)]; exact na, os, ag, rfl, rfl, rfl⟩

structure Post (X : Cx) (At : Option Addr) (ρ : Ev) (fp : Nat → List Addr) (e : E) (H : Hp) (v : V) (d : D) (S : List Addr) (H' : Hp) (n' : Option Int) : Prop where
  rep : RepX X H' v d S
  pres : Pres At H H'
  cell : CellOk At n' H'
  from_ : ∀ a ∈ S, H a = none ∨ Reach ρ fp e.esc e.al a
  elem : ∀ a ∈ elems d S, H a = none ∨ Reach ρ fp e.escB e.al a
  new : e.fresh = true → isCont d = true → ∃ a T, v = .ref a ∧ S = a :: T ∧ H a = none ∧ a ∉ T ∧ Wr (H' a)
structure PostL (X : Cx) (At : Option Addr) (ρ : Ev) (fp : Nat → List Addr) (es : List E) (H : Hp) (vs : List V) (ds : List D) (S : List Addr) (H' : Hp) (n' : Option Int) : Prop where
  rep : RepLX X H' vs ds S
  pres : Pres At H H'
  cell : CellOk At n' H'
  from_ : ∀ a ∈ S, H a = none ∨ Reach ρ fp (escL es) (alL es) a

def tE (X : Cx) (C : Cxt) (Z : ZT) (e : E) : TE := fun σ H Q => ∃ H0 A0 At n ρ fp, Rl X H0 A0 At n ρ fp σ H ∧ Out (evE C e ρ n) (fun d n' => ∀ v H' S, Post X At ρ fp e H v d S H' n' → Q v H') (Z At H)
def tEs (X : Cx) (C : Cxt) (Z : ZT) (es : List E) : TA := fun σ H Q => ∃ H0 A0 At n ρ fp, Rl X H0 A0 At n ρ fp σ H ∧ Out (evEs C es ρ n) (fun ds n' => ∀ vs H' S, PostL X At ρ fp es H vs ds S H' n' → Q vs H') (Z At H)
/-- a test -/
def tEt (X : Cx) (C : Cxt) (Z : ZT) (e : E) : TT := fun σ H Q => ∃ H0 A0 At n ρ fp, Rl X H0 A0 At n ρ fp σ H ∧ Out (evE C e ρ n) (fun d n' => ∀ H', Pres At H H' → CellOk At n' H' → Q (tru d) H') (Z At H)

theorem _root_.L2.PE.weak {X : Cx} {x : Expr} {t t' : TE} (h : PE X x t) (hw : ∀ σ H Q, t' σ H Q → t σ H Q) : PE X x t' := ⟨fun pins s σ H Q I q => h.run pins s σ H Q I (hw _ _ _ q)⟩
theorem _root_.L2.PT.weak {X : Cx} {x : Expr} {t t' : TT} (h : PT X x t) (hw : ∀ σ H Q, t' σ H Q → t σ H Q) : PT X x t' := ⟨fun pins s σ H Q I q => h.run pins s σ H Q I (hw _ _ _ q)⟩
theorem _root_.L2.PA.weak {X : Cx} {x : List Expr} {t t' : TA} (h : PA X x t) (hw : ∀ σ H Q, t' σ H Q → t σ H Q) : PA X x t' := ⟨fun pos pins s σ H Q I q => h.run pos pins s σ H Q I (hw _ _ _ q)⟩

/-! ### the relation over a step that writes nothing of the frame's -/
section
variable {X : Cx} {H0 : Hp} {A0 : Addr → Prop} {At : Option Addr} {n n' : Option Int} {ρ : Ev} {fp : Nat → List Addr} {σ : L2.St} {H H' : Hp}
theorem cell_wr (c : CellOk At n H) : ∀ b, At = some b → WrO (H b) := by
  intro b e
  subst e
  obtain ⟨xs, q⟩ := c.at_some
  rw [q]; trivial
theorem Rep.step {v : V} {d : D} {S : List Addr} (r : RepX X H v d S) (c : CellOk At n H) (p : Pres At H H') (hS : ∀ a ∈ S, At ≠ some a) : RepX X H' v d S :=
  Rep.mono (A := fun b => At = some b) (fun b o e q => p.keep b o e q) (cell_wr c) r hS
theorem RepL.step {vs : List V} {ds : List D} {S : List Addr} (r : RepLX X H vs ds S) (c : CellOk At n H) (p : Pres At H H') (hS : ∀ a ∈ S, At ≠ some a) : RepLX X H' vs ds S :=
  RepL.mono (A := fun b => At = some b) (fun b o e q => p.keep b o e q) (cell_wr c) r hS
theorem Wr.step {a : Addr} (h : Wr (H a)) (p : Pres At H H') (ha : At ≠ some a) : Wr (H' a) := by
  rcases h with ⟨xs, e⟩ | ⟨xs, e⟩ | ⟨xs, e⟩
  · exact .inl ⟨xs, p.keep _ _ e ha⟩
  · exact .inr (.inl ⟨xs, p.keep _ _ e ha⟩)
  · exact .inr (.inr ⟨xs, p.keep _ _ e ha⟩)
theorem WrF.step {a : Addr} (h : WrF (H a)) (p : Pres At H H') (ha : At ≠ some a) : WrF (H' a) := by
  rcases h with h | ⟨ob, u, e⟩
  · exact .inl (h.step p ha)
  · exact .inr ⟨ob, u, p.keep _ _ e ha⟩
theorem xd_step (c : CellOk At n H) (p : Pres At H H') : ∀ dd fs, H dd = some (.xd fs) → H' dd = some (.xd fs) := fun dd fs e => by
  refine p.keep dd _ e ?_
  rintro rfl
  obtain ⟨xs, q⟩ := c.at_some
  rw [e] at q; cases q
theorem ErrOk.step {e : Exn} {v : V} {S : List Addr} (h : ErrOk X H e v S) (c : CellOk At n H) (p : Pres At H H') : ErrOk X H' e v S := h.imp (xd_step c p) fun _ _ r => Rep.step r c p fun _ z => nomatch z
theorem SlotOk.step {s : Slot} {v : V} {S : List Addr} (h : SlotOk X H0 At H s v S) (c : CellOk At n H) (p : Pres At H H') (hS : ∀ a ∈ S, At ≠ some a) : SlotOk X H0 At H' s v S := by
  cases s with
  | p d => exact Rep.step h c p hS
  | o d =>
    obtain ⟨r, i, a, T, e1, e2, e3, e4, e5⟩ := h
    exact ⟨Rep.step r c p hS, i, a, T, e1, e2, e3, e4, e5.step p (hS a (by rw [e2]; exact List.mem_cons_self))⟩
  | oo d =>
    obtain ⟨r, i, q, nd, all⟩ := h
    exact ⟨Rep.step r c p hS, i, q, nd, fun a ha => ⟨(all a ha).1, (all a ha).2.step p (hS a ha)⟩⟩
  | cell => exact h
  | err e => exact ErrOk.step h c p
theorem Rl.next (r : Rl X H0 A0 At n ρ fp σ H) (p : Pres At H H') (c : CellOk At n' H') : Rl X H0 A0 At n' ρ fp σ H' where
  pres := r.pres.trans p
  len := r.len
  slot := fun i s e => by
    obtain ⟨v, e1, q⟩ := r.slot i s e
    exact ⟨v, e1, q.step r.cell p (r.nat i s e)⟩
  cell := c
  nat := r.nat
  sep := r.sep
  src := r.src
theorem none_ne_at (c : CellOk At n H) {a : Addr} (h : H a = none) : At ≠ some a := by
  rintro rfl
  obtain ⟨xs, q⟩ := c.at_some
  rw [h] at q; cases q
theorem Rl.reach_ne (r : Rl X H0 A0 At n ρ fp σ H) {es al : List Nat} {a : Addr} (h : Reach ρ fp es al a) : At ≠ some a := by
  obtain ⟨j, s, d, e, _, m, _⟩ := h
  exact r.nat j s e a m
theorem Rl.avoid (r : Rl X H0 A0 At n ρ fp σ H) {es al : List Nat} {S : List Addr} (h : ∀ a ∈ S, H a = none ∨ Reach ρ fp es al a) : ∀ a ∈ S, At ≠ some a := fun a ha => by
  rcases h a ha with q | q
  · exact none_ne_at r.cell q
  · exact r.reach_ne q
mutual
theorem Rep.tracked : ∀ {v : V} {d : D} {S : List Addr}, RepX X H v d S → ∀ a ∈ S, H a ≠ none
  | _, _, _, .non, _, h => nomatch h
  | _, _, _, .bl _, _, h => nomatch h
  | _, _, _, .int _, _, h => nomatch h
  | _, _, _, .str _ _, _, h => nomatch h
  | _, _, _, .lst q r, a, h => by
    rcases List.mem_cons.mp h with rfl | h
    · rcases q with q | ⟨o, q⟩ <;> rw [q] <;> simp
    · exact RepL.tracked r a h
  | _, _, _, .tup _ r, a, h => RepL.tracked r a h
  | _, _, _, .dk q _ _ _ r, a, h => by
    rcases List.mem_cons.mp h with rfl | h
    · rcases q with q | ⟨o, q⟩ <;> rw [q] <;> simp
    · exact RepL.tracked r a h
  | _, _, _, .dt q _ _ _ _ _ _ _ r, a, h => by
    rcases List.mem_cons.mp h with rfl | h
    · rcases q with q | ⟨o, q⟩ <;> rw [q] <;> simp
    · exact RepL.tracked r a h
theorem RepL.tracked : ∀ {vs : List V} {ds : List D} {S : List Addr}, RepLX X H vs ds S → ∀ a ∈ S, H a ≠ none
  | _, _, _, .nil, _, h => nomatch h
  | _, _, _, .cons r rs, a, h => (List.mem_append.mp h).elim (Rep.tracked r a) (RepL.tracked rs a)
end
/-- made of the parts: nothing else -/
theorem Post.mk' {e : E} {v : V} {d : D} {S : List Addr} (rep : RepX X H' v d S) (pres : Pres At H H') (cell : CellOk At n' H') (hv : e.isVar = false) (from_ : ∀ a ∈ S, H a = none ∨ Reach ρ fp e.esc e.al a)
    (new : e.fresh = true → isCont d = true → ∃ a T, v = .ref a ∧ S = a :: T ∧ H a = none ∧ a ∉ T ∧ Wr (H' a)) : Post X At ρ fp e H v d S H' n' where
  rep := rep
  pres := pres
  cell := cell
  from_ := from_
  elem := fun a ha => by
    have := from_ a (elems_sub ha)
    unfold E.escB escX
    rw [hv]
    exact this
  new := new
theorem Post.flat {e : E} {v : V} {d : D} (rep : RepX X H' v d []) (pres : Pres At H H') (cell : CellOk At n' H') (hf : e.fresh = true → isCont d = true → False) : Post X At ρ fp e H v d [] H' n' where
  rep := rep
  pres := pres
  cell := cell
  from_ := fun _ h => nomatch h
  elem := fun _ h => nomatch (elems_sub h)
  new := fun h1 h2 => (hf h1 h2).elim
end

/-! ### names, constants -/
section
variable {X : Cx} {C : Cxt} {Z : ZT}
theorem se_var {i : Nat} {x : Str} {pos : Pos} (hN : X.N[i]? = some x) (hv : Vis X.env.scope x) (hd : (x == ("__debug__" : Str)) = false) (hcd : (x == ("__classdict__" : Str)) = false) : PE X (.Name x pos) (tE X C Z (.var i)) := by
  refine (pe_var hN hv hd hcd).weak fun σ H Q h => ?_
  obtain ⟨H0, A0, At, n, ρ, fp, rl, h⟩ := h
  rw [evE, out_lft] at h
  obtain ⟨d, hd, h⟩ := h
  unfold getD at hd
  cases hs : getS ρ i with
  | none => rw [hs] at hd; cases hd
  | some s =>
    rw [hs] at hd
    obtain ⟨v, e1, q⟩ := rl.slot i s hs
    have pw : Pres At H H := Pres.refl
    have fin : RepX X H v d (fp i) → (∀ a ∈ fp i, Reach ρ fp [i] [i] a) → (∀ a ∈ elems d (fp i), Reach ρ fp [] [i] a) → tVar i σ H Q := fun r h1 h2 =>
      ⟨v, e1, h v H (fp i) ⟨r, pw, rl.cell, fun a ha => .inr (h1 a ha), fun a ha => .inr (h2 a ha), fun z => by cases z⟩⟩
    cases s with
    | p d' =>
      obtain rfl : d' = d := Option.some.inj hd
      exact fin q (fun a ha => ⟨i, _, _, hs, rfl, ha, List.mem_cons_self, .inl List.mem_cons_self⟩) fun a ha => ⟨i, _, _, hs, rfl, elems_sub ha, List.mem_cons_self, .inr ha⟩
    | o d' =>
      obtain rfl : d' = d := Option.some.inj hd
      obtain ⟨r, ic, _⟩ := q
      exact fin r (fun a ha => ⟨i, _, _, hs, rfl, ha, List.mem_cons_self, .inl List.mem_cons_self⟩) fun a ha => ⟨i, _, _, hs, rfl, elems_sub ha, List.mem_cons_self, .inr ha⟩
    | oo d' =>
      obtain rfl : d' = d := Option.some.inj hd
      exact fin q.1 (fun a ha => ⟨i, _, _, hs, rfl, ha, List.mem_cons_self, .inl List.mem_cons_self⟩) fun a ha => ⟨i, _, _, hs, rfl, elems_sub ha, List.mem_cons_self, .inr ha⟩
    | cell => cases hd
    | err _ => cases hd
theorem se_cst {d : D} {x : Expr} {v : V} (h : PE X x (tC v)) (r : ∀ H, RepX X H v d []) (hc : isCont d = false) : PE X x (tE X C Z (.cst d)) := by
  refine h.weak fun σ H Q h => ?_
  obtain ⟨H0, A0, At, n, ρ, fp, rl, h⟩ := h
  exact h v H [] (.flat (r H) .refl rl.cell fun _ z => by rw [hc] at z; cases z)

/-! ### two operands -/
structure Two (X : Cx) (H0 : Hp) (A0 : Addr → Prop) (At : Option Addr) (ρ : Ev) (fp : Nat → List Addr) (σ : L2.St) (a b : E) (H : Hp) (x y : V) (dx dy : D) (S T : List Addr) (H2 : Hp) (n2 : Option Int) : Prop where
  r1 : RepX X H2 x dx S
  r2 : RepX X H2 y dy T
  pres : Pres At H H2
  rl : Rl X H0 A0 At n2 ρ fp σ H2
  f1 : ∀ c ∈ S, H c = none ∨ Reach ρ fp a.esc a.al c
  f2 : ∀ c ∈ T, H c = none ∨ Reach ρ fp b.esc b.al c
  e1 : ∀ c ∈ elems dx S, H c = none ∨ Reach ρ fp a.escB a.al c
  e2 : ∀ c ∈ elems dy T, H c = none ∨ Reach ρ fp b.escB b.al c
theorem bin2 (zm : ZMono Z) {xa xb : Expr} {a b : E} (ha : PE X xa (tE X C Z a)) (hb : PE X xb (tE X C Z b)) {pins : List (Addr × Obj)} {s : Shared} {σ : L2.St} {H H0 : Hp} {A0 : Addr → Prop} {At : Option Addr} {n : Option Int} {ρ : Ev} {fp : Nat → List Addr}
    (I : Inv X pins σ H s) (rl : Rl X H0 A0 At n ρ fp σ H) {R : D → D → Option Int → Prop} (h : Out (evE C a ρ n) (fun x n1 => Out (evE C b ρ n1) (R x) (Z At H)) (Z At H)) {α : Type} {Q : α → Shared → Prop} {f : Value → Value → Sem α}
    (hf : ∀ v u s2 x y dx dy S T H2 n2, Inv X pins σ H2 s2 → RelV x v → RelV y u → Two X H0 A0 At ρ fp σ a b H x y dx dy S T H2 n2 → R dx dy n2 → wpAny (model X.prog X.w) X.A (f v u) Q X.xe s2) :
    wpAny (model X.prog X.w) X.A (eval xa X.env) (fun v s₁ => wpAny (model X.prog X.w) X.A (eval xb X.env) (fun u s₂ => wpAny (model X.prog X.w) X.A (f v u) Q X.xe s₂) X.xe s₁) X.xe s := by
  refine thn (ha.run pins s σ H (fun x H1 => ∃ dx S n1, Post X At ρ fp a H x dx S H1 n1 ∧ Out (evE C b ρ n1) (R dx) (Z At H)) I ⟨H0, A0, At, n, ρ, fp, rl, h.imp (fun d n1 h1 v H1 S p => ⟨d, S, n1, p, h1⟩) fun _ _ z => z⟩) fun v s1 hh => ?_
  obtain ⟨x, H1, I1, r1, dx, S, n1, p1, h1⟩ := hh
  have rl1 : Rl X H0 A0 At n1 ρ fp σ H1 := rl.next p1.pres p1.cell
  refine thn (hb.run pins s1 σ H1 (fun y H2 => ∃ dy T n2, Post X At ρ fp b H1 y dy T H2 n2 ∧ R dx dy n2) I1 ⟨H0, A0, At, n1, ρ, fp, rl1, h1.imp (fun d n2 h2 v H2 T p => ⟨d, T, n2, p, h2⟩) fun e k z => zm _ _ _ _ _ p1.pres z⟩) fun u s2 hh => ?_
  obtain ⟨y, H2, I2, r2, dy, T, n2, p2, h2⟩ := hh
  have back : ∀ {es al : List Nat} {c : Addr}, H1 c = none ∨ Reach ρ fp es al c → H c = none ∨ Reach ρ fp es al c := fun q => q.imp (p1.pres.trk _) id
  exact hf v u s2 x y dx dy S T H2 n2 I2 r1 r2 ⟨Rep.step p1.rep p1.cell p2.pres (rl.avoid p1.from_), p2.rep, p1.pres.trans p2.pres, rl1.next p2.pres p2.cell, p1.from_, fun c hc => back (p2.from_ c hc), p1.elem, fun c hc => back (p2.elem c hc)⟩ h2
/-- one operand -/
structure One (X : Cx) (H0 : Hp) (A0 : Addr → Prop) (At : Option Addr) (ρ : Ev) (fp : Nat → List Addr) (σ : L2.St) (a : E) (H : Hp) (x : V) (dx : D) (S : List Addr) (H1 : Hp) (n1 : Option Int) : Prop where
  p : Post X At ρ fp a H x dx S H1 n1
  rl : Rl X H0 A0 At n1 ρ fp σ H1
theorem un1 {xa : Expr} {a : E} (ha : PE X xa (tE X C Z a)) {pins : List (Addr × Obj)} {s : Shared} {σ : L2.St} {H H0 : Hp} {A0 : Addr → Prop} {At : Option Addr} {n : Option Int} {ρ : Ev} {fp : Nat → List Addr}
    (I : Inv X pins σ H s) (rl : Rl X H0 A0 At n ρ fp σ H) {R : D → Option Int → Prop} (h : Out (evE C a ρ n) R (Z At H)) {Q : Value → Shared → Prop}
    (hf : ∀ v s2 x dx S H1 n1, Inv X pins σ H1 s2 → RelV x v → One X H0 A0 At ρ fp σ a H x dx S H1 n1 → R dx n1 → Q v s2) :
    wpAny (model X.prog X.w) X.A (eval xa X.env) Q X.xe s := by
  refine thn (ha.run pins s σ H (fun x H1 => ∃ dx S n1, Post X At ρ fp a H x dx S H1 n1 ∧ R dx n1) I ⟨H0, A0, At, n, ρ, fp, rl, h.imp (fun d n1 h1 v H1 S p => ⟨d, S, n1, p, h1⟩) fun _ _ z => z⟩) fun v s1 hh => ?_
  obtain ⟨x, H1, I1, r1, dx, S, n1, p1, h1⟩ := hh
  exact hf v s1 x dx S H1 n1 I1 r1 ⟨p1, rl.next p1.pres p1.cell⟩ h1

/-- an operation by values: what it gives is made of the operands' parts -/
def VOp (X : Cx) (f : Value → Value → Sem Value) (g : D → D → Option D) : Prop :=
  ∀ (pins : List (Addr × Obj)) (s : Shared) (σ : L2.St) (H : Hp) (x y : V) (v u : Value) (dx dy d : D) (S T : List Addr) (Q : VK), Inv X pins σ H s → RelV x v → RelV y u → RepX X H x dx S → RepX X H y dy T → g dx dy = some d →
    (∀ z H' U, Same H H' → RepX X H' z d U → (∀ a ∈ U, H a = none ∨ a ∈ elems dx S ∨ a ∈ elems dy T) → Q z H') → wpAny (model X.prog X.w) X.A (f v u) (EP X pins σ Q) X.xe s
theorem se_bin {o : Op} {op : Operator} {xa xb : Expr} {a b : E} {pos : Pos} (zm : ZMono Z) (ho : VOp X (binaryOp op) (opE o)) (ha : PE X xa (tE X C Z a)) (hb : PE X xb (tE X C Z b)) : PE X (.BinOp xa op xb pos) (tE X C Z (.bin o a b)) := by
  refine ⟨fun pins s σ H Q I h => ?_⟩
  obtain ⟨H0, A0, At, n, ρ, fp, rl, h⟩ := h
  rw [evE, out_bind] at h
  refine wpAny_BinOp (bin2 (R := fun dx dy n2 => Out (lft (opE o dx dy) n2) (fun d n' => ∀ v H' S, Post X At ρ fp (.bin o a b) H v d S H' n' → Q v H') (Z At H)) zm ha hb I rl (h.imp (fun x n1 h1 => by rw [out_bind] at h1; exact h1) fun _ _ z => z) fun v u s2 x y dx dy S T H2 n2 I2 rx ry tw q => ?_)
  rw [out_lft] at q
  obtain ⟨d, hd, q⟩ := q
  refine ho pins s2 σ H2 x y v u dx dy d S T Q I2 rx ry tw.r1 tw.r2 hd fun z H' U sm r hU => ?_
  refine q z H' U (.mk' r (tw.pres.trans (.same sm)) (tw.rl.cell.same sm) rfl (fun c hc => ?_) fun z => by cases z)
  rcases hU c hc with e | e | e
  · exact .inl (tw.pres.trk _ e)
  · exact (tw.e1 c e).imp id fun q => q.mono (fun i hi => by show i ∈ _ ++ _; exact List.mem_append_left _ hi) fun i hi => by show i ∈ _ ++ _; exact List.mem_append_left _ hi
  · exact (tw.e2 c e).imp id fun q => q.mono (fun i hi => by show i ∈ _ ++ _; exact List.mem_append_right _ hi) fun i hi => by show i ∈ _ ++ _; exact List.mem_append_right _ hi
end
end MP

/-! MPOps: the operators, by values. -/
namespace MP
open PySem PySem.Spec L2
open PyProof.Rows hiding St

theorem lftIf_some {α : Type} {b : Bool} {a d : α} (h : lftIf b a = some d) : b = true ∧ a = d := by
  unfold lftIf at h
  cases b with
  | true => exact ⟨rfl, Option.some.inj h⟩
  | false => cases h
theorem fits_le {n : Nat} (h : fits n = true) : n ≤ sizeLine := by
  have := of_decide_eq_true h
  rw [sizeLine_eq]; exact this
theorem same_new {H : Hp} {p : Addr} {o : HO} (h : H p = none) : Same H (upd H p o) := fun b x e => by
  rw [upd_ne (ne_of_none e h)]
  exact e
section
variable {X : Cx} {H H' : Hp}
theorem Rep.same {v : V} {d : D} {S : List Addr} (r : RepX X H v d S) (h : Same H H') : RepX X H' v d S :=
  Rep.mono (A := fun _ => False) (fun b o e _ => h b o e) (fun _ z => z.elim) r fun _ _ z => z
theorem RepL.same {vs : List V} {ds : List D} {S : List Addr} (r : RepLX X H vs ds S) (h : Same H H') : RepLX X H' vs ds S :=
  RepL.mono (A := fun _ => False) (fun b o e _ => h b o e) (fun _ z => z.elim) r fun _ _ z => z
theorem txt_append {a b : Str} (ha : TxtOk a) (hb : TxtOk b) (h : a.length + b.length ≤ sizeLine) : TxtOk (a ++ b) := by
  refine ⟨?_, ?_⟩
  · show (a.cps ++ b.cps).size ≤ _
    rw [Array.size_append]; exact h
  · show (a.cps ++ b.cps).all _ = true
    rw [Array.all_append]
    have h1 : a.cps.all (· < 0x110000) = true := ha.2
    have h2 : b.cps.all (· < 0x110000) = true := hb.2
    rw [h1, h2]; rfl
theorem elems_list {ds : List D} {a : Addr} {S : List Addr} : elems (.list ds) (a :: S) = S := rfl
theorem elems_tup {ds : List D} {S : List Addr} : elems (.tuple ds) S = S := rfl
theorem elems_dict {ds : List (D × D)} {a : Addr} {S : List Addr} : elems (.dict ds) (a :: S) = S := rfl
theorem rd_list {pins : List (Addr × Obj)} {s : Shared} {σ : L2.St} (I : Inv X pins σ H s) {a : Addr} {xs : List V} (h : Rd H a (.lst xs)) : xs.length ≤ sizeLine ∧ ∃ (its : List Value) (n : Nat), Vals xs its ∧ s.heap.get? a = some { cls := .type "list", data := .seq its.toArray n } := h.ok I.hok
theorem sql_rd {a : Addr} {xs : List V} (h : Rd H a (.lst xs)) : SqL X.K H a xs := .inl h

/-! ### + - * // % ** & << >> -/
theorem v_add : VOp X (binaryOp .Add) (opE .add) := by
  intro pins s σ H x y v u dx dy d S T Q I rv ru r1 r2 hg hq
  cases r1 with
  | int i =>
    cases r2 with
    | int j =>
      cases hg
      exact op_add pins s σ H _ _ v u Q I rv ru ⟨i, j, rfl, rfl, hq _ _ [] (Same.refl _) (.int _) fun _ h => nomatch h⟩
    | _ => cases hg
  | str a ha =>
    cases r2 with
    | str b hb =>
      obtain ⟨h1, h2⟩ := lftIf_some hg
      subst h2
      exact op_add_str pins s σ H _ _ v u Q I rv ru ⟨a, b, rfl, rfl, fits_le h1, hq _ _ [] (Same.refl _) (.str _ (txt_append ha hb (fits_le h1))) fun _ h => nomatch h⟩
    | _ => cases hg
  | @tup a xs ds S q1 q2 =>
    cases r2 with
    | @tup b ys es T k1 k2 =>
      obtain ⟨h1, h2⟩ := lftIf_some hg
      subst h2
      have e1 := q2.length
      have e2 := k2.length
      refine op_catA pins s σ H _ _ v u Q I rv ru ⟨a, b, xs, ys, rfl, rfl, q1, k1, by rw [e1, e2]; exact fits_le h1, fun z => ?_, fun z1 z2 => ?_, fun _ _ p hp => ?_⟩
      · subst z
        cases q2
        exact hq _ H T (Same.refl _) (.tup k1 k2) fun c hc => .inr (.inr hc)
      · subst z2
        cases k2
        rw [List.append_nil] at hq
        exact hq _ H S (Same.refl _) (.tup q1 q2) fun c hc => .inr (.inl hc)
      · have sm := same_new (o := .tup (xs ++ ys)) hp
        exact hq _ _ (S ++ T) sm (.tup (.inl (.inl upd_same)) (RepL.same (RepL.append q2 k2) sm)) fun c hc => .inr ((List.mem_append.mp hc).imp id id)
    | _ => cases hg
  | @lst a xs ds S q1 q2 =>
    cases r2 with
    | @lst b ys es T k1 k2 =>
      obtain ⟨h1, h2⟩ := lftIf_some hg
      subst h2
      have e1 := q2.length
      have e2 := k2.length
      cases rv
      cases ru
      obtain ⟨z1, its, n1, w1, g1⟩ := rd_list I q1
      obtain ⟨z2, its2, n2, w2, g2⟩ := rd_list I k1
      have l1 := w1.length
      have l2 := w2.length
      have hz := fits_le h1
      refine PySem.P.add_list g1 g2 ?_ (by rw [List.size_toArray, List.size_toArray]; omega)
      have ea : its.toArray ++ its2.toArray = (its ++ its2).toArray := by simp
      rw [ea]
      have sm := same_new (o := .lst (xs ++ ys)) I.fresh
      refine ⟨.ref _, _, I.lnew (t' := s.toks) (w1.append w2) (by rw [List.length_append]; omega), rfl, hq _ _ (s.heap.objs.size :: (S ++ T)) sm (.lst (.inl upd_same) (RepL.same (RepL.append q2 k2) sm)) fun c hc => ?_⟩
      rcases List.mem_cons.mp hc with rfl | hc
      · exact .inl I.fresh
      · exact .inr ((List.mem_append.mp hc).imp id id)
    | _ => cases hg
  | _ => cases hg
theorem v_sub : VOp X (binaryOp .Sub) (opE .sub) := by
  intro pins s σ H x y v u dx dy d S T Q I rv ru r1 r2 hg hq
  cases r1 with
  | int i =>
    cases r2 with
    | int j =>
      cases hg
      exact op_sub pins s σ H _ _ v u Q I rv ru ⟨i, j, rfl, rfl, hq _ _ [] (Same.refl _) (.int _) fun _ h => nomatch h⟩
    | _ => cases hg
  | _ => cases hg
theorem v_fdiv : VOp X (binaryOp .FloorDiv) (opE .fdiv) := by
  intro pins s σ H x y v u dx dy d S T Q I rv ru r1 r2 hg hq
  cases r1 with
  | int i =>
    cases r2 with
    | int j =>
      obtain ⟨h1, h2⟩ := lftIf_some hg
      subst h2
      exact op_fdivN pins s σ H _ _ v u Q I rv ru ⟨i, j, rfl, rfl, (of_decide_eq_true h1 :), hq _ _ [] (Same.refl _) (.int _) fun _ h => nomatch h⟩
    | _ => cases hg
  | _ => cases hg
theorem v_mod : VOp X (binaryOp .Mod) (opE .mod) := by
  intro pins s σ H x y v u dx dy d S T Q I rv ru r1 r2 hg hq
  cases r1 with
  | int i =>
    cases r2 with
    | int j =>
      obtain ⟨h1, h2⟩ := lftIf_some hg
      subst h2
      exact op_modN pins s σ H _ _ v u Q I rv ru ⟨i, j, rfl, rfl, (of_decide_eq_true h1 :), hq _ _ [] (Same.refl _) (.int _) fun _ h => nomatch h⟩
    | _ => cases hg
  | _ => cases hg
theorem v_pow : VOp X (binaryOp .Pow) (opE .pow) := by
  intro pins s σ H x y v u dx dy d S T Q I rv ru r1 r2 hg hq
  cases r1 with
  | int i =>
    cases r2 with
    | int j =>
      obtain ⟨h1, h2⟩ := lftIf_some hg
      subst h2
      exact op_pow pins s σ H _ _ v u Q I rv ru ⟨i, j, rfl, rfl, (of_decide_eq_true h1 :), hq _ _ [] (Same.refl _) (.int _) fun _ h => nomatch h⟩
    | _ => cases hg
  | _ => cases hg
theorem v_shl : VOp X (binaryOp .LShift) (opE .shl) := by
  intro pins s σ H x y v u dx dy d S T Q I rv ru r1 r2 hg hq
  cases r1 with
  | int i =>
    cases r2 with
    | int j =>
      obtain ⟨h1, h2⟩ := lftIf_some hg
      subst h2
      exact op_shl pins s σ H _ _ v u Q I rv ru ⟨i, j, rfl, rfl, (of_decide_eq_true h1 :), hq _ _ [] (Same.refl _) (.int _) fun _ h => nomatch h⟩
    | _ => cases hg
  | _ => cases hg
theorem v_shr : VOp X (binaryOp .RShift) (opE .shr) := by
  intro pins s σ H x y v u dx dy d S T Q I rv ru r1 r2 hg hq
  cases r1 with
  | int i =>
    cases r2 with
    | int j =>
      obtain ⟨h1, h2⟩ := lftIf_some hg
      subst h2
      exact op_shr pins s σ H _ _ v u Q I rv ru ⟨i, j, rfl, rfl, (of_decide_eq_true h1 :), hq _ _ [] (Same.refl _) (.int _) fun _ h => nomatch h⟩
    | _ => cases hg
  | _ => cases hg
theorem v_band : VOp X (binaryOp .BitAnd) (opE .band) := by
  intro pins s σ H x y v u dx dy d S T Q I rv ru r1 r2 hg hq
  cases r1 with
  | int i =>
    cases r2 with
    | int j =>
      cases hg
      exact op_and pins s σ H _ _ v u Q I rv ru ⟨i, j, rfl, rfl, hq _ _ [] (Same.refl _) (.int _) fun _ h => nomatch h⟩
    | _ => cases hg
  | _ => cases hg
theorem RepL.replicate {xs : List V} {ds : List D} {S : List Addr} (r : RepLX X H xs ds S) : ∀ k : Nat, ∃ U, RepLX X H (List.replicate k xs).flatten (List.replicate k ds).flatten U ∧ ∀ a ∈ U, a ∈ S
  | 0 => ⟨[], .nil, fun _ h => nomatch h⟩
  | k + 1 => by
    obtain ⟨U, h, q⟩ := RepL.replicate r k
    rw [List.replicate_succ, List.flatten_cons, List.replicate_succ, List.flatten_cons]
    exact ⟨_, RepL.append r h, fun a ha => (List.mem_append.mp ha).elim id (q a)⟩
theorem big_or {i j : Int} (h : (big64 i || big64 j) = true) : CMul i j := by
  rcases Bool.or_eq_true_iff.mp h with h | h
  · exact .inl (of_decide_eq_true h)
  · exact .inr (of_decide_eq_true h)
theorem v_mul_int {f : Value → Value → Sem Value} (hf : OpR X f (rI CMul fun i j => .int (i * j))) {pins : List (Addr × Obj)} {s : Shared} {σ : L2.St} {i j : Int} {v u : Value} {d : D} {Q : VK} (I : Inv X pins σ H s) (rv : RelV (.int i) v) (ru : RelV (.int j) u)
    (hg : lftIf (big64 i || big64 j) (PyData.int (i * j)) = some d) (hq : ∀ z H' U, Same H H' → RepX X H' z d U → (∀ a ∈ U, H a = none ∨ a ∈ elems (.int i) [] ∨ a ∈ elems (.int j) []) → Q z H') : wpAny (model X.prog X.w) X.A (f v u) (EP X pins σ Q) X.xe s := by
  obtain ⟨h1, h2⟩ := lftIf_some hg
  subst h2
  exact hf pins s σ H _ _ v u Q I rv ru ⟨i, j, rfl, rfl, big_or h1, hq _ _ [] (Same.refl _) (.int _) fun _ h => nomatch h⟩
end
end MP

/-! MPMul: tuple * int, text * int; t[::-1] of a list, a tuple, a text. -/
namespace MP
open PySem PySem.Spec L2
open PyProof.Rows hiding St
section
variable {prog : Program} {w : World} {A : Around} {E : Value → Shared → Prop} {s : Shared}
theorem adjust_rev (n : Nat) : Builtin.Slice.sliceAdjust none none (-1) (n : Int) = ((n : Int) - 1, -1) := by
  unfold Builtin.Slice.sliceAdjust
  simp
theorem places_rev (n : Nat) : Builtin.Slice.slicePlaces ((n : Int) - 1) (-1) (-1) = n := by
  unfold Builtin.Slice.slicePlaces
  simp
  omega
theorem sliceApplied_rev {sl : Addr} {vs : Value} {n : Nat} {Q : Int × Int × Nat → Shared → Prop} (hs : s.heap.IsSliceOf sl .none .none vs) (ps : IsPart vs (some (-1)))
    (h : Q ((n : Int) - 1, -1, n) s) : wpAny (model prog w) A (Builtin.Slice.sliceApplied (.ref sl) (pure (n : Int))) Q E s := by
  obtain ⟨os, hos, hcs, hds⟩ := id hs
  unfold Builtin.Slice.sliceApplied Builtin.Slice.sliceFields
  refine wpAny_bind (wpAny_bind (wpAny_field hos hds (x := .none) rfl (wpAny_bind (wpAny_field hos hds (x := .none) rfl (wpAny_bind (wpAny_field hos hds (x := vs) rfl (wpAny_pure ?_)))))))
  refine wpAny_bind (HT.slicePart_ ps ?_)
  show wpAny _ _ (if ((-1 : Int) == 0) = true then _ else _) _ _ s
  rw [if_neg (by decide)]
  refine wpAny_bind (HT.slicePart_ .none (wpAny_bind (HT.slicePart_ .none (wpAny_bind (wpAny_pure ?_)))))
  show wpAny _ _ (match Builtin.Slice.sliceAdjust none none (-1) (n : Int) with | (lo, hi) => pure (lo, (-1 : Int), Builtin.Slice.slicePlaces lo hi (-1))) _ _ s
  rw [adjust_rev n]
  show wpAny _ _ (pure ((n : Int) - 1, (-1 : Int), Builtin.Slice.slicePlaces ((n : Int) - 1) (-1) (-1))) _ _ s
  rw [places_rev]
  exact wpAny_pure h
theorem pick_rev (xs : Array Value) : ((List.range xs.size).filterMap fun (m : Nat) => xs[((xs.size : Int) - 1 + (m : Int) * (-1)).toNat]?).toArray = xs.toList.reverse.toArray := by
  have e : (List.range xs.size).filterMap (fun (m : Nat) => xs[((xs.size : Int) - 1 + (m : Int) * (-1)).toNat]?) = ((List.range xs.size).map fun k => xs.size - 1 - k).filterMap (xs[·]?) := by
    rw [List.filterMap_map]
    have g : ∀ (l : List Nat) (f g : Nat → Option Value), (∀ m ∈ l, f m = g m) → l.filterMap f = l.filterMap g := by
      intro l f g h
      induction l with
      | nil => rfl
      | cons a l ih => rw [List.filterMap_cons, List.filterMap_cons, h a List.mem_cons_self, ih fun m hm => h m (List.mem_cons_of_mem _ hm)]
    refine g _ _ _ fun m hm => ?_
    have := List.mem_range.mp hm
    have e : ((xs.size : Int) - 1 + (m : Int) * (-1)).toNat = xs.size - 1 - m := by omega
    rw [e]; rfl
  rw [e, PySem.W.krv_range, List.filterMap_reverse, PySem.W.krv_all]
theorem getItem_tuple_rev {t sl : Addr} {items : Array Value} {vs : Value} {Q : Value → Shared → Prop} (ht : IsTup s.heap t items) (hs : s.heap.IsSliceOf sl .none .none vs) (ps : IsPart vs (some (-1)))
    (h : Q (.ref s.heap.objs.size) { s with heap := s.heap.push { cls := .type "tuple", data := .seq items.toList.reverse.toArray } })
    (hsz : items.size ≤ sizeLine) : wpAny (model prog w) A (getItem (.ref t) (.ref sl)) Q E s := by
  have htake : sizeOk (.seq items.toList.reverse.toArray) := by
    show items.toList.reverse.toArray.size ≤ sizeLine
    rw [List.size_toArray, List.length_reverse, Array.length_toList]
    omega
  obtain ⟨os, hos, hcs, hds⟩ := id hs
  have hTs : s.TypeIs (.ref sl) "slice" := ⟨os, hos, hcs⟩
  unfold getItem
  try with_reducible refine wpAny_holding ?_
  first | refine wpAny_bind (wpAny_pure ?_) | skip
  refine wpAny_bind (wpAny_sequenceKey ht.typeIs (by decide) ?_)
  refine wpAny_bind (wpAny_callSpecial?_slot (name := Str.ofString "__getitem__") ht.typeIs PyProof.Rows.slot_tuple_getitem
    (wpAny_call_entry PyProof.Rows.slot_tuple_getitem ht.typeIs entry_tuple_getitem ?_ (args_tuple_getitem _ _)))
  show wpAny _ _ (Builtin.Tuple.tupleItemsOf (.ref t) >>= _) _ _ s
  refine wpAny_bind (tupleItemsOf_ ht ?_)
  refine wpAny_bind (wpAny_typeOf hTs ?_)
  rw [if_pos (by decide)]
  refine wpAny_bind (sliceApplied_rev hs ps ?_)
  have hno : ¬ (((items.size : Int) - 1 == 0 && (-1 : Int) == 1 && items.size == items.size) = true) := by
    intro q
    rw [Bool.and_eq_true, Bool.and_eq_true] at q
    have q2 : (-1 : Int) = 1 := eq_of_beq q.1.2
    omega
  show wpAny _ _ (if ((items.size : Int) - 1 == 0 && (-1 : Int) == 1 && items.size == items.size) = true then _ else _) _ _ s
  rw [if_neg hno, pick_rev]
  first
    | exact wpAny_bind (m := Builtin.Tuple.tupleExact _) (wpAny_newObj_type (wpAny_pure ⟨_, rfl, wpAny_pure h⟩) htake)
    | exact wpAny_bind (m := Builtin.Tuple.tupleExact _) (wpAny_newObj_type (wpAny_bind (wpAny_pure (wpAny_pure ⟨_, rfl, wpAny_pure h⟩))) htake)
    | exact wpAny_bind (wpAny_bind (m := Builtin.Tuple.tupleExact _) (wpAny_newObj_type (wpAny_pure (wpAny_pure ⟨_, rfl, wpAny_pure h⟩)) htake))
    | exact wpAny_bind (wpAny_bind (m := Builtin.Tuple.tupleExact _) (wpAny_newObj_type (wpAny_pure ⟨_, rfl, wpAny_pure h⟩) htake))
end
/-- the text turned round -/
def revT (z : Str) : Str := ⟨z.cps.toList.reverse.toArray⟩
theorem sliceBy_rev (z : Str) : (⟨((slicePicked z none none (some (-1, 0))).filterMap (z.cps[·]?)).toArray⟩ : Str) = revT z := by
  unfold slicePicked revT
  show (⟨((Builtin.Str.strSliceIndices none none (-1) z.length).filterMap (z.cps[·]?)).toArray⟩ : Str) = _
  rw [picked_rev, PySem.W.krv_range, List.filterMap_reverse]
  show (⟨((List.range z.cps.size).filterMap (z.cps[·]?)).reverse.toArray⟩ : Str) = _
  rw [PySem.W.krv_all]
theorem txt_rev {z : Str} (h : TxtOk z) : TxtOk (revT z) := by
  refine ⟨?_, ?_⟩
  · show z.cps.toList.reverse.toArray.size ≤ _
    rw [List.size_toArray, List.length_reverse, Array.length_toList]
    exact h.1
  · have h2 : z.cps.all (· < 0x110000) = true := h.2
    rw [← Array.all_toList, List.all_eq_true] at h2
    show z.cps.toList.reverse.toArray.all _ = true
    rw [List.all_toArray, List.all_eq_true]
    intro c hc
    exact h2 c (List.mem_reverse.mp hc)
section
variable {X : Cx}
def tRevA (K : PySem.W.Frag) (te : TE) : TE := fun σ H Q => te σ H fun x H1 => (∃ a xs, x = .ref a ∧ SqL K H1 a xs ∧ ∀ p, H1 p = none → Q (.ref p) (upd H1 p (.lst xs.reverse))) ∨
  (∃ a xs, x = .ref a ∧ SqT K H1 a xs ∧ ∀ p, H1 p = none → Q (.ref p) (upd H1 p (.tup xs.reverse))) ∨ (∃ z, x = .str z ∧ z.length ≤ sizeLine ∧ Q (.str (revT z)) H1)
theorem pe_revA' {e : Expr} {te : TE} {k : Nat} {p1 p2 p3 pos : Pos} (he : PE X e te) : PE X (.Subscript e (.Slice none none (some (.UnaryOp .USub (.Constant (.int 1) k p1) p2)) p3) pos) (tRevA X.K te) := by
  refine ⟨fun pins s σ H Q I h => ?_⟩
  refine Subscript_ (thn (he.run pins s σ H _ I h) fun v s1 ⟨x, H1, I1, r1, q1⟩ => ?_)
  have hst : PO X (some (.UnaryOp .USub (.Constant (.int 1) k p1) p2)) (tPart (tUn (rU fun i => .int (-i)) (tC (.int 1)))) := po_some (pe_un un_neg pe_int)
  refine wpAny_Slice (thn (po_none.run pins s1 σ H1 (fun o H2 => o = none ∧ H2 = H1) I1 ⟨rfl, rfl⟩) fun vl s2 ⟨l, H2, I2, pl, el, e2⟩ => ?_)
  subst el e2
  refine thn (po_none.run pins s2 σ H2 (fun o H3 => o = none ∧ H3 = H2) I2 ⟨rfl, rfl⟩) fun vu s3 ⟨u, H3, I3, pu, eu, e3⟩ => ?_
  subst eu e3
  refine thn (hst.run pins s3 σ H3 (fun o H4 => o = some (-1) ∧ H4 = H3) I3 ⟨1, rfl, -1, rfl, rfl, rfl⟩) fun vs s4 ⟨o, H4, I4, ps, eo, e4⟩ => ?_
  subst eo e4
  have I5 : Inv X pins σ H4 { s4 with heap := s4.heap.push { cls := .type "slice", data := .fields #[vl, vu, vs] } } := I4.kept (t' := s4.toks) fun b ob q => Heap.get?_push_of_some _ q
  rcases q1 with q1 | q1 | q1
  · obtain ⟨a, xs, ex, hx, q⟩ := q1
    subst ex
    cases r1
    obtain ⟨its, r, ht, hz⟩ := I5.list hx
    have hlen := r.length
    show wpAny (model X.prog X.w) X.A (subscriptTail e (.Slice none none (some (.UnaryOp .USub (.Constant (.int 1) k p1) p2)) p3) (.ref a) (.ref s4.heap.objs.size)) (EP X pins σ Q) X.xe { s4 with heap := s4.heap.push { cls := .type "slice", data := .fields #[vl, vu, vs] } }
    refine tail_any (ops := [.ref a, .ref s4.heap.objs.size]) ht.isList.typeIs (PySem.slot_list_getitem.lookup) ?_ (by with_unfolding_all rfl)
    refine wpAny_getItem_list_slice ht.isList (Heap.IsSliceOf.new _ vl vu vs) pl pu ps (by decide) ?_ (by rw [List.size_toArray]; omega)
    rw [PySem.W.krv_pick]
    refine ⟨.ref _, _, I5.laid (t' := s4.toks) (o := .lst xs.reverse) (fun b ob q => Heap.get?_push_of_some _ q) (Nat.le_refl _) ?_, rfl, q _ (I5.hok.fresh (Nat.le_refl _))⟩
    exact ⟨by rw [List.length_reverse]; exact hz, _, 0, r.reverse, Heap.get?_push_size _ rfl⟩
  · obtain ⟨a, xs, ex, hx, q⟩ := q1
    subst ex
    cases r1
    cases pl
    cases pu
    obtain ⟨its, r, ht, hz⟩ := I5.tuple hx
    have hlen := r.length
    show wpAny (model X.prog X.w) X.A (subscriptTail e (.Slice none none (some (.UnaryOp .USub (.Constant (.int 1) k p1) p2)) p3) (.ref a) (.ref s4.heap.objs.size)) (EP X pins σ Q) X.xe { s4 with heap := s4.heap.push { cls := .type "slice", data := .fields #[.none, .none, vs] } }
    refine tail_any (ops := [.ref a, .ref s4.heap.objs.size]) ht.typeIs (PyProof.Rows.slot_tuple_getitem.lookup) ?_ (by with_unfolding_all rfl)
    refine getItem_tuple_rev ht (Heap.IsSliceOf.new _ .none .none vs) ps ?_ (by rw [List.size_toArray]; omega)
    refine ⟨.ref _, _, I5.laid (t' := s4.toks) (o := .tup xs.reverse) (fun b ob q => Heap.get?_push_of_some _ q) (Nat.le_refl _) ?_, rfl, q _ (I5.hok.fresh (Nat.le_refl _))⟩
    exact ⟨by rw [List.length_reverse]; exact hz, _, r.reverse, IsTup.new _ _⟩
  · obtain ⟨z, ex, hz, q⟩ := q1
    subst ex
    obtain ⟨t, rfl⟩ := r1
    obtain ⟨l, rfl, el⟩ := IsPart.raw pl
    obtain ⟨u, rfl, eu⟩ := IsPart.raw pu
    obtain ⟨c, rfl, ec⟩ := IsPart.raw ps
    cases l with
    | some _ => cases el
    | none =>
    cases u with
    | some _ => cases eu
    | none =>
    cases c with
    | none => cases ec
    | some c =>
    obtain ⟨c, ct⟩ := c
    have ec : c = -1 := Option.some.inj ec
    subst ec
    show wpAny (model X.prog X.w) X.A (subscriptTail e (.Slice none none (some (.UnaryOp .USub (.Constant (.int 1) k p1) p2)) p3) (.str z t) (.ref s4.heap.objs.size)) (EP X pins σ Q) X.xe { s4 with heap := s4.heap.push { cls := .type "slice", data := .fields #[.none, .none, .int (-1) ct] } }
    refine tail_any (ops := [.ref s4.heap.objs.size, .str z t]) (typeIs_str _ _ _) (F.slot_str_getitem.lookup) ?_ (by with_unfolding_all rfl)
    refine wpAny_getItem_str_slice (l := none) (u := none) (st := some (-1, ct)) ⟨_, Heap.get?_push_size _ rfl, rfl, rfl⟩ rfl ?_
    show Made.post (.str ⟨((slicePicked z none none (some (-1, 0))).filterMap (z.cps[·]?)).toArray⟩) (EP X pins σ Q) _
    rw [sliceBy_rev]
    exact ⟨by show z.cps.toList.reverse.toArray.size ≤ _; rw [List.size_toArray, List.length_reverse, Array.length_toList]; exact hz, .str _, H4, I5.tok _, ⟨_, rfl⟩, q⟩
/-! ### tuple * int, text * int -/
theorem rep_le1 {α : Type} (xs : List α) {k : Int} (h : k ≤ 0) : MP.rep xs k = [] := by
  unfold MP.rep
  rw [show k.toNat = 0 by omega]; rfl
theorem rep_1 {α : Type} (xs : List α) : MP.rep xs 1 = xs := by
  unfold MP.rep
  simp
theorem rep_nil {α : Type} (k : Int) : MP.rep ([] : List α) k = [] := by
  unfold MP.rep
  induction k.toNat with
  | zero => rfl
  | succ n ih => rw [List.replicate_succ, List.flatten_cons, ih]; rfl
theorem tuple_mul0 (l : Addr) (items : Array Value) (n : Nat) (dd : Option Addr) (sl : Array (Option Value)) (x : Int) (u : Tok) (c0 : (decide (x < -(2 ^ 63)) || decide (x ≥ 2 ^ 63)) = false) (c1 : (items.isEmpty || x == 1) = false) (c2 : (decide (x ≤ 0) || items.isEmpty) = true) :
    Meets (Builtin.«tuple.__mul__» ⟨[.ref l, .int x u], []⟩) (fun _ R s => s.heap.get? l = some { cls := .type "tuple", dict := dd, data := .seq items n, slots := sl } ∧
      R (.ok (.ret (Value.ref s.heap.objs.size))) { s with heap := s.heap.push { cls := Value.type "tuple", data := Data.seq #[] }, toks := s.toks }) :=
  .of_wp fun prog w A R s h => by
    obtain ⟨hp, g, d, tk, os⟩ := s
    obtain ⟨hl, h⟩ := h
    have f1 := AutoSeq1.idx_int
    have hsz : (#[] : Array Value).size ≤ sizeLine := Nat.zero_le _
    wp_walk using wpAny_loadPart' hl
    repeat (first
      | (refine wpAny_ite_false (decide_eq_false (by rw [c0]; exact Bool.false_ne_true)) ?_; wp_walk using wpAny_loadPart' hl)
      | (refine wpAny_ite_false (decide_eq_false (by rw [c1]; exact Bool.false_ne_true)) ?_; wp_walk using wpAny_loadPart' hl)
      | (refine wpAny_ite_true (decide_eq_true c2) ?_; wp_walk using wpAny_loadPart' hl)
      | (refine wpAny_ite_false (decide_eq_false (Nat.not_lt.mpr hsz)) ?_; wp_walk using wpAny_loadPart' hl))
    exact ⟨_, rfl, h⟩
theorem tuple_mul1 (l : Addr) (items : Array Value) (n : Nat) (dd : Option Addr) (sl : Array (Option Value)) (x : Int) (u : Tok) (c0 : (decide (x < -(2 ^ 63)) || decide (x ≥ 2 ^ 63)) = false) (c1 : (items.isEmpty || x == 1) = true) :
    Meets (Builtin.«tuple.__mul__» ⟨[.ref l, .int x u], []⟩) (fun _ R s => s.heap.get? l = some { cls := .type "tuple", dict := dd, data := .seq items n, slots := sl } ∧
      R (.ok (.ret (Value.ref l))) s) :=
  .of_wp fun prog w A R s h => by
    obtain ⟨hp, g, d, tk, os⟩ := s
    obtain ⟨hl, h⟩ := h
    have f1 := AutoSeq1.idx_int
    wp_walk using wpAny_loadPart' hl
    repeat (first
      | (refine wpAny_ite_false (decide_eq_false (by rw [c0]; exact Bool.false_ne_true)) ?_; wp_walk using wpAny_loadPart' hl)
      | (refine wpAny_ite_true (decide_eq_true c1) ?_; wp_walk using wpAny_loadPart' hl))
    exact ⟨_, rfl, h⟩
theorem op_repT' : OpR X (binaryOp .Mult) (fun x y H Q => ∃ l k xs, x = .ref l ∧ y = .int k ∧ SqT X.K H l xs ∧ -(2 ^ 62) ≤ k ∧ k ≤ 1000 ∧ xs.length ≤ 1000 ∧ ((xs = [] ∨ k = 1) → Q (.ref l) H) ∧ ∀ p, H p = none → Q (.ref p) (upd H p (.tup (MP.rep xs k)))) := by
  intro pins s σ H x y v u Q I rx ry h
  obtain ⟨l, k, xs, rfl, rfl, hT, hlo, h1, hz, q1, q2⟩ := h
  by_cases hn2 : xs ≠ [] ∧ 2 ≤ k
  · exact op_repT pins s σ H _ _ v u Q I rx ry ⟨l, k, xs, rfl, rfl, hT, hn2.1, hn2.2, h1, hz, q2⟩
  cases rx
  obtain ⟨t, rfl⟩ := ry
  obtain ⟨its, r, ⟨⟨cls, dd, data, sl⟩, ho, hc, n, hd⟩, hs⟩ := I.tuple hT
  simp only at hc hd
  subst hc hd
  have hle : its.length = xs.length := r.length.symm
  have c0 : (decide (k < -(2 ^ 63)) || decide (k ≥ 2 ^ 63)) = false := by
    rw [decide_eq_false (by omega), decide_eq_false (by omega)] <;> rfl
  have hi : its.toArray.isEmpty = decide (xs = []) := by
    cases its with
    | nil => rw [List.eq_nil_of_length_eq_zero hle.symm]; rfl
    | cons a b =>
      cases xs with
      | nil => cases hle
      | cons _ _ => rfl
  by_cases hs1 : xs = [] ∨ k = 1
  · have c1 : (its.toArray.isEmpty || k == 1) = true := by
      rw [hi]
      rcases hs1 with z | z
      · rw [decide_eq_true z, Bool.true_or]
      · rw [z, Bool.or_comm]; rfl
    exact wpAny_binaryOp_repeat_ref (T := "tuple") (U := "int") (by decide) ⟨_, ho, rfl⟩ (fun s' => typeIs_int s' k t) noFill_tuple_mul F.fills_int_mul F.slot_int_rmul repeat_tuple F.slot_int_index.lookup
      (call_meets F.slot_int_rmul (typeIs_int s k t) F.entry_int_rmul (F.args_int_rmul_2 _ _) (int_rmul_tuple k t l its.toArray n dd sl)
        ⟨ho, rfl, ⟨_, ho, rfl⟩, call_meets F.slot_tuple_mul ⟨_, ho, rfl⟩ F.entry_tuple_mul (F.args_tuple_mul_2 _ _) (tuple_mul1 l its.toArray n dd sl k t c0 c1) ⟨ho, .ref l, H, I, rfl, q1 hs1⟩⟩)
  · have hne : xs ≠ [] := fun z => hs1 (.inl z)
    have hk0 : k ≤ 0 := by
      refine Classical.byContradiction fun z => ?_
      exact (by omega : ¬ 2 ≤ k → k = 1) (fun z2 => hn2 ⟨hne, z2⟩) |> fun z => hs1 (.inr z)
    have c1 : (its.toArray.isEmpty || k == 1) = false := by
      rw [hi, decide_eq_false hne, Bool.false_or]
      exact beq_eq_false_iff_ne.mpr (by omega)
    have c2 : (decide (k ≤ 0) || its.toArray.isEmpty) = true := by rw [decide_eq_true hk0, Bool.true_or]
    rw [rep_le1 xs hk0] at q2
    refine wpAny_binaryOp_repeat_ref (T := "tuple") (U := "int") (by decide) ⟨_, ho, rfl⟩ (fun s' => typeIs_int s' k t) noFill_tuple_mul F.fills_int_mul F.slot_int_rmul repeat_tuple F.slot_int_index.lookup
      (call_meets F.slot_int_rmul (typeIs_int s k t) F.entry_int_rmul (F.args_int_rmul_2 _ _) (int_rmul_tuple k t l its.toArray n dd sl)
        ⟨ho, rfl, ⟨_, ho, rfl⟩, call_meets F.slot_tuple_mul ⟨_, ho, rfl⟩ F.entry_tuple_mul (F.args_tuple_mul_2 _ _) (tuple_mul0 l its.toArray n dd sl k t c0 c1 c2) ⟨ho, ?_⟩⟩)
    refine ⟨.ref s.heap.objs.size, _, I.laid (t' := s.toks) (o := .tup []) (fun b ob q => Heap.get?_push_of_some _ q) (Nat.le_refl _) ?_, rfl, q2 _ (I.hok.fresh (Nat.le_refl _))⟩
    exact ⟨Nat.zero_le _, [], .nil, IsTup.new _ _⟩
theorem rep_cps (a : Array Nat) (m : Nat) : (List.replicate m a).foldl (· ++ ·) #[] = ((List.replicate m a.toList).flatten).toArray := by
  have g : ∀ (m : Nat) (acc : Array Nat), (List.replicate m a).foldl (· ++ ·) acc = (acc.toList ++ (List.replicate m a.toList).flatten).toArray := by
    intro m
    induction m with
    | zero => intro acc; simp
    | succ m ih => intro acc; rw [List.replicate_succ, List.foldl_cons, ih, List.replicate_succ, List.flatten_cons, Array.toList_append, List.append_assoc]
  rw [g]; simp
theorem rep_len {α : Type} (xs : List α) (m : Nat) : (List.replicate m xs).flatten.length = m * xs.length := by
  induction m with
  | zero => simp
  | succ m ih => rw [List.replicate_succ, List.flatten_cons, List.length_append, ih, Nat.succ_mul, Nat.add_comm]
theorem txt_rep {z : Str} (h : TxtOk z) {k : Int} (hk : k ≤ 1000) (hz : z.length ≤ 1000) : TxtOk ⟨(MP.rep z.cps.toList k).toArray⟩ := by
  have l : (MP.rep z.cps.toList k).length ≤ 1000000 := by
    unfold MP.rep
    rw [rep_len]
    have hz : z.cps.toList.length ≤ 1000 := by rw [Array.length_toList]; exact hz
    exact Nat.le_trans (Nat.mul_le_mul (show k.toNat ≤ 1000 by omega) hz) (by decide)
  refine ⟨?_, ?_⟩
  · show ((MP.rep z.cps.toList k).toArray).size ≤ _
    rw [List.size_toArray, sizeLine_eq]
    omega
  · have h2 : z.cps.all (· < 0x110000) = true := h.2
    rw [← Array.all_toList, List.all_eq_true] at h2
    show ((MP.rep z.cps.toList k).toArray).all _ = true
    rw [List.all_toArray, List.all_eq_true]
    intro c hc
    unfold MP.rep at hc
    obtain ⟨l, hl, hc⟩ := List.mem_flatten.mp hc
    rw [List.eq_of_mem_replicate hl] at hc
    exact h2 c hc
theorem op_repS : OpR X (binaryOp .Mult) (fun x y H Q => ∃ z k, x = .str z ∧ y = .int k ∧ -(2 ^ 62) ≤ k ∧ k ≤ 1000 ∧ z.length ≤ 1000 ∧ Q (.str ⟨(MP.rep z.cps.toList k).toArray⟩) H) := by
  intro pins s σ H x y v u Q I rx ry h
  obtain ⟨z, k, rfl, rfl, hlo, h1, hz, q⟩ := h
  obtain ⟨t, rfl⟩ := rx
  obtain ⟨t2, rfl⟩ := ry
  have hr : (decide (k < -(2 ^ 63 : Int)) || decide (k ≥ 2 ^ 63)) = false := by
    rw [decide_eq_false (by omega), decide_eq_false (by omega)] <;> rfl
  have hm : z.length * k.toNat ≤ 1000000 := Nat.le_trans (Nat.mul_le_mul hz (show k.toNat ≤ 1000 by omega)) (by decide)
  refine PySem.P.mul_str hr (fun k1 _ => ?_) (fun _ _ => ?_) ?_
  · have e : (1000 : Int) ≤ (2 ^ 63 - 1) / k := Int.le_ediv_of_mul_le (by omega) (by omega)
    omega
  · unfold Builtin.Str.tooLong
    rw [sizeLine_eq]
    exact decide_eq_false (by omega)
  · by_cases k1 : k < 1
    · rw [if_pos k1]
      rw [rep_le1 _ (by omega)] at q
      exact ⟨Nat.zero_le _, .str Str.empty, H, I.tok _, ⟨_, rfl⟩, q⟩
    · rw [if_neg k1]
      by_cases k2 : (k == 1 || z.length == 0) = true
      · rw [if_pos k2]
        have e : (⟨(MP.rep z.cps.toList k).toArray⟩ : Str) = z := by
          rw [Bool.or_eq_true] at k2
          rcases k2 with w | w
          · rw [eq_of_beq w, rep_1]
          · have w : z.cps.size = 0 := eq_of_beq w
            have w : z.cps = #[] := Array.eq_empty_of_size_eq_zero w
            obtain ⟨c⟩ := z
            simp only at w
            subst w
            show (⟨(MP.rep [] k).toArray⟩ : Str) = _
            rw [rep_nil]
        rw [e] at q
        exact ⟨.str z, H, I, ⟨t, rfl⟩, q⟩
      · rw [if_neg k2, rep_cps]
        refine ⟨?_, .str _, H, I.tok _, ⟨_, rfl⟩, q⟩
        show ((List.replicate k.toNat z.cps.toList).flatten).toArray.size ≤ _
        rw [List.size_toArray, rep_len, Array.length_toList, sizeLine_eq, Nat.mul_comm]
        have : z.cps.size * k.toNat ≤ 1000000 := hm
        omega
end
end MP

/-! MPDict: dicts looked at: in, [], get. -/
namespace MP
open PySem PySem.Spec L2
open PyProof.Rows hiding St

theorem keyFit_hash {k : D} (h : keyFit k = true) : isHash k = true := by
  cases k <;> simp [keyFit] at h <;> first | rfl | exact h.1
theorem keyFit_cases {k : D} (h : keyFit k = true) : (∃ kk, lkey k = some kk) ∨ (isTup k = true ∧ k.depth ≤ 8) := by
  cases k with
  | int i => exact .inl ⟨_, rfl⟩
  | str x => exact .inl ⟨_, rfl⟩
  | tuple xs =>
    simp [keyFit] at h
    exact .inr ⟨rfl, h.2⟩
  | _ => simp [keyFit] at h
theorem lkey_hash {k : D} {kk : Key} (h : lkey k = some kk) : isHash k = true := by
  cases k <;> simp [lkey] at h <;> rfl
theorem lkey_notTup {k : D} {kk : Key} (h : lkey k = some kk) : isTup k = false := by
  cases k <;> simp [lkey] at h <;> rfl
theorem lkey_key {k k' : D} {a b : Key} (h : lkey k = some a) (h' : lkey k' = some b) : PyData.eqv k k' = decide (a = b) := by
  cases k with
  | int i =>
    cases h
    cases k' with
    | int j => cases h'; rw [key_ll]; simp only [PyData.eqv]
    | str x => cases h'; rw [key_lr]; simp only [PyData.eqv]
    | _ => cases h'
  | str x =>
    cases h
    cases k' with
    | int j => cases h'; rw [key_rl]; simp only [PyData.eqv]
    | str y => cases h'; rw [key_rr]; simp only [PyData.eqv, Bool.beq_eq_decide_eq]
    | _ => cases h'
  | _ => cases h
section
variable {P : Program} {w : World} {K : PySem.W.Frag} {H : Hp}
/-- what is found -/
theorem lookL {k : D} {kk : Key} (hk : lkey k = some kk) : ∀ {kvs : List (D × D)} {es : List (Key × V)} {S : List Addr}, kvs.map (fun kv => lkey kv.1) = es.map (fun e => some e.1) → RepL P w K H (es.map (·.2)) (kvs.map (·.2)) S →
    (dGet kvs k = none → valV es kk = none) ∧ (∀ d, dGet kvs k = some d → ∃ v T, valV es kk = some v ∧ Rep P w K H v d T ∧ ∀ a ∈ T, a ∈ S)
  | [], [], _, _, _ => ⟨fun _ => rfl, fun d h => by cases h⟩
  | [], _ :: _, _, h, _ => by simp at h
  | _ :: _, [], _, h, _ => by simp at h
  | kv :: kvs, e :: es, S, h, r => by
    simp only [List.map_cons, List.cons.injEq] at h
    cases r with
    | @cons _ _ _ _ S1 S2 r1 r2 =>
      obtain ⟨i1, i2⟩ := lookL hk h.2 r2
      have q := lkey_key h.1 hk
      unfold dGet valV at *
      rw [List.find?_cons, List.find?_cons]
      by_cases c : e.1 = kk
      · rw [q, decide_eq_true c]
        exact ⟨fun z => by simp at z, fun d z => ⟨e.2, S1, rfl, by simp at z; rw [← z]; exact r1, fun a ha => List.mem_append_left _ ha⟩⟩
      · rw [q, decide_eq_false c]
        exact ⟨i1, fun d z => let ⟨v, T, a, b, c⟩ := i2 d z; ⟨v, T, a, b, fun x hx => List.mem_append_right _ (c x hx)⟩⟩
theorem lookT {k : D} (hk : isHash k = true) : ∀ {kvs : List (D × D)} {xs : List (NestedKey × Addr × Value)} {vs : List V} {S : List Addr}, xs.map (·.1) = kvs.map (fun kv => keyOf kv.1) → (∀ kv ∈ kvs, isHash kv.1 = true ∧ isTup kv.1 = true ∧ kv.1.depth ≤ 8) →
    Vals vs (xs.map (·.2.2)) → RepL P w K H vs (kvs.map (·.2)) S →
    (dGet kvs k = none → atKey xs (keyOf k) = none) ∧ (∀ d, dGet kvs k = some d → ∃ p v T, atKey xs (keyOf k) = some p ∧ RelV v p.2 ∧ Rep P w K H v d T ∧ ∀ a ∈ T, a ∈ S)
  | [], [], _, _, _, _, _, _ => ⟨fun _ => rfl, fun d h => by cases h⟩
  | [], _ :: _, _, _, h, _, _, _ => by simp at h
  | _ :: _, [], _, _, h, _, _, _ => by simp at h
  | kv :: kvs, x :: xs, _, S, h, hq, rv, r => by
    simp only [List.map_cons, List.cons.injEq] at h
    cases rv with
    | @cons v _ vs _ rv1 rv2 =>
      cases r with
      | @cons _ _ _ _ S1 S2 r1 r2 =>
        obtain ⟨i1, i2⟩ := lookT hk h.2 (fun kv hm => hq kv (List.mem_cons_of_mem _ hm)) rv2 r2
        have q := eqv_key (hq kv List.mem_cons_self).1 hk
        unfold dGet atKey at *
        rw [List.find?_cons, List.find?_cons, h.1, q]
        by_cases c : keyOf kv.1 = keyOf k
        · rw [decide_eq_true c]
          exact ⟨fun z => by simp at z, fun d z => ⟨x.2, v, S1, rfl, rv1, by simp at z; rw [← z]; exact r1, fun a ha => List.mem_append_left _ ha⟩⟩
        · rw [decide_eq_false c]
          exact ⟨i1, fun d z => let ⟨p, v, T, a, b, c, e⟩ := i2 d z; ⟨p, v, T, a, b, c, fun x hx => List.mem_append_right _ (e x hx)⟩⟩
theorem dHas_get (kvs : List (D × D)) (k : D) : dHas kvs k = (dGet kvs k).isSome := by
  induction kvs with
  | nil => rfl
  | cons kv kvs ih =>
    unfold dHas dGet at *
    rw [List.any_cons, List.find?_cons]
    cases PyData.eqv kv.1 k with
    | true => rfl
    | false => simpa using ih
end
section
variable {X : Cx} {pins : List (Addr × Obj)} {σ : L2.St} {H : Hp} {s : Shared}
theorem pairs_nil {P : Program} {w : World} {h : Heap} {a : Addr} {K K' : Type} [DecidableEq K] [DecidableEq K'] {knd : PySem.KeyKind P w K} {kh : HeapKind P w K'} (x : h.DictOf knd a []) : h.DictOfH kh a [] := by
  obtain ⟨o, es, ep, ho, hx, hd, _, hp, _⟩ := x
  have e : es.toList = [] := by cases hq : es.toList with
    | nil => rfl
    | cons e r => rw [hq] at hp; cases hp
  exact ⟨o, es, ep, ho, hx, hd, by rw [e]; rfl, (fun _ h => nomatch h), List.nodup_nil⟩
theorem nil_pairs {P : Program} {w : World} {h : Heap} {a : Addr} {K K' : Type} [DecidableEq K] [DecidableEq K'] {knd : PySem.KeyKind P w K} {kh : HeapKind P w K'} (x : h.DictOfH kh a []) : h.DictOf knd a [] := by
  obtain ⟨o, es, ep, ho, hx, hd, he, _, _⟩ := x
  have e : es.toList = [] := by rw [he]; rfl
  have e' : es = #[] := by
    obtain ⟨l⟩ := es
    have e2 : l = [] := e
    rw [e2]
  subst e'
  exact ⟨o, #[], ep, ho, hx, hd, fun _ h => by simp at h, .nil, List.nodup_nil⟩
/-- seen as a dict of numbers and texts -/
theorem view_l (I : Inv X pins σ H s) {a : Addr} {kvs : List (D × D)} {k : D} {kk : Key} {S : List Addr} (r : RepX X H (.ref a) (.dict kvs) S) (ho : keyOk kvs k = true) (hk : lkey k = some kk) :
    (a == sysModules) = false ∧ ∃ (es : List (Key × V)) (vs : List (Key × Value)) (T : List Addr), S = a :: T ∧ KV es vs ∧ s.heap.DictOf (mixKind X.prog X.w) a vs ∧ kvs.map (fun kv => lkey kv.1) = es.map (fun e => some e.1) ∧ RepLX X H (es.map (·.2)) (kvs.map (·.2)) T ∧ es.length ≤ sizeLine := by
  cases r with
  | dk h e tx n q =>
    obtain ⟨z, hs, vs, kv, dd⟩ := dk_rd I.hok h
    exact ⟨hs, _, vs, _, rfl, kv, dd, e, q, z⟩
  | @dt _ xs vs _ T h z l rk e n q rv r =>
    cases kvs with
    | nil =>
      have ex : xs = [] := by cases xs with
        | nil => rfl
        | cons _ _ => simp at e
      subst ex
      cases r
      exact ⟨z, [], [], [], rfl, .nil, nil_pairs (dt_of' I h rk e n q), rfl, .nil, Nat.zero_le _⟩
    | cons kv kvs =>
      have h1 := (q kv List.mem_cons_self).2.1
      have h2 := lkey_notTup hk
      simp [keyOk, h1, h2] at ho
/-- seen as a dict of tuples -/
theorem view_t (I : Inv X pins σ H s) {a : Addr} {kvs : List (D × D)} {k : D} {S : List Addr} (r : RepX X H (.ref a) (.dict kvs) S) (ho : keyOk kvs k = true) (hk : isTup k = true) :
    (a == sysModules) = false ∧ kvs.length ≤ sizeLine ∧ ∃ (xs : List (NestedKey × Addr × Value)) (vs : List V) (T : List Addr), S = a :: T ∧ s.heap.DictOfH (nestedKind X.prog X.w) a xs ∧ xs.map (·.1) = kvs.map (fun kv => keyOf kv.1) ∧
      (∀ kv ∈ kvs, isHash kv.1 = true ∧ isTup kv.1 = true ∧ kv.1.depth ≤ 8) ∧ Vals vs (xs.map (·.2.2)) ∧ RepLX X H vs (kvs.map (·.2)) T ∧ RepLX X H (xs.map fun x => V.ref x.2.1) (kvs.map (·.1)) [] := by
  cases r with
  | @dk _ es _ T h e tx n q =>
    obtain ⟨z, hs, vs, kv, dd⟩ := dk_rd I.hok h
    cases kvs with
    | nil =>
      have ex : es = [] := by cases es with
        | nil => rfl
        | cons _ _ => simp at e
      subst ex
      cases kv
      cases q
      exact ⟨hs, Nat.zero_le _, [], [], [], rfl, pairs_nil dd, rfl, (fun _ h => nomatch h), .nil, .nil, .nil⟩
    | cons kv kvs =>
      cases es with
      | nil => simp at e
      | cons e1 es =>
        simp only [List.map_cons, List.cons.injEq] at e
        have h2 := lkey_notTup e.1
        simp [keyOk, hk, h2] at ho
  | @dt _ xs vs _ T h z l rk e n q rv r => exact ⟨z, l.2, xs, vs, T, rfl, dt_of' I h rk e n q, e, q, rv, r, rk⟩
theorem key_rel {k : D} {kk : Key} {y : V} {u : Value} {T : List Addr} (hk : lkey k = some kk) (r : RepX X H y k T) (ru : RelV y u) : RelV (kV kk) u := by
  cases r with
  | int i => cases hk; exact ru
  | str x _ => cases hk; exact ru
  | _ => cases hk
theorem key_heap (I : Inv X pins σ H s) {k : D} {y : V} {u : Value} {T : List Addr} (hf : keyFit k = true) (ht : isTup k = true) (r : RepX X H y k T) (ru : RelV y u) : ∃ b, u = .ref b ∧ y = .ref b ∧ (nestedKind X.prog X.w).is s.heap (keyOf k) b := by
  have hh := keyFit_hash hf
  have q := Rep.nested I r hh ru
  cases r with
  | tup h1 h2 =>
    cases ru
    simp [keyFit] at hf
    exact ⟨_, rfl, rfl, q, Nat.le_trans (depth_key _) hf.2⟩
  | _ => simp [isTup] at ht
theorem keyOk_fit {kvs : List (D × D)} {k : D} (h : keyOk kvs k = true) : keyFit k = true := (Bool.and_eq_true_iff.mp h).1
variable {A : Around} {E : Value → Shared → Prop}
theorem dict_in (hu : A.units + 200 < cLine) (I : Inv X pins σ H s) {a : Addr} {kvs : List (D × D)} {k : D} {y : V} {u : Value} {S T : List Addr} {Q : Value → Shared → Prop} (r : RepX X H (.ref a) (.dict kvs) S) (ho : keyOk kvs k = true) (rk : RepX X H y k T) (ru : RelV y u)
    (h : ∀ s', Inv X pins σ H s' → Q (.bool (dHas kvs k)) s') : wpAny (model X.prog X.w) A (compareOp .In u (.ref a)) Q E s := by
  rcases keyFit_cases (keyOk_fit ho) with ⟨kk, hk⟩ | ⟨ht, hd⟩
  · obtain ⟨hs, es, vs, T', _, kv, dd, e, q, _⟩ := view_l I r ho hk
    obtain ⟨l1, l2⟩ := lookL hk e q
    refine wpAny_in_of (kV_is (key_rel hk rk ru)) hs dd.mapOf ?_
    rw [← (kv.val kk).isSome_eq]
    have ee : (valV es kk).isSome = dHas kvs k := by
      rw [dHas_get]
      cases g : dGet kvs k with
      | none => rw [l1 g]; rfl
      | some d => obtain ⟨v, _, e1, _⟩ := l2 d g; rw [e1]; rfl
    rw [ee]
    exact h _ (I.tok _)
  · obtain ⟨hs, _, xs, vs, T', _, dd, e, hq, rv, q, _⟩ := view_t I r ho ht
    obtain ⟨b, rfl, rfl, hb⟩ := key_heap I (keyOk_fit ho) ht rk ru
    obtain ⟨l1, l2⟩ := lookT (keyFit_hash (keyOk_fit ho)) e hq rv q
    refine wpAny_in_heap (show A.units + 1 + 8 < cLine by omega) hb hs dd ?_
    have ee : (atKey xs (keyOf k)).isSome = dHas kvs k := by
      rw [dHas_get]
      cases g : dGet kvs k with
      | none => rw [l1 g]; rfl
      | some d => obtain ⟨p, v, _, e1, _⟩ := l2 d g; rw [e1]; rfl
    rw [ee]
    exact h _ (I.tok _)
theorem dict_notIn (hu : A.units + 200 < cLine) (I : Inv X pins σ H s) {a : Addr} {kvs : List (D × D)} {k : D} {y : V} {u : Value} {S T : List Addr} {Q : Value → Shared → Prop} (r : RepX X H (.ref a) (.dict kvs) S) (ho : keyOk kvs k = true) (rk : RepX X H y k T) (ru : RelV y u)
    (h : ∀ s', Inv X pins σ H s' → Q (.bool (!dHas kvs k)) s') : wpAny (model X.prog X.w) A (compareOp .NotIn u (.ref a)) Q E s := by
  rcases keyFit_cases (keyOk_fit ho) with ⟨kk, hk⟩ | ⟨ht, hd⟩
  · obtain ⟨hs, es, vs, T', _, kv, dd, e, q, _⟩ := view_l I r ho hk
    obtain ⟨l1, l2⟩ := lookL hk e q
    refine wpAny_notIn_of (kV_is (key_rel hk rk ru)) hs dd.mapOf ?_
    rw [← (kv.val kk).isSome_eq]
    have ee : (valV es kk).isSome = dHas kvs k := by
      rw [dHas_get]
      cases g : dGet kvs k with
      | none => rw [l1 g]; rfl
      | some d => obtain ⟨v, _, e1, _⟩ := l2 d g; rw [e1]; rfl
    rw [ee]
    exact h _ (I.tok _)
  · obtain ⟨hs, _, xs, vs, T', _, dd, e, hq, rv, q, _⟩ := view_t I r ho ht
    obtain ⟨b, rfl, rfl, hb⟩ := key_heap I (keyOk_fit ho) ht rk ru
    obtain ⟨l1, l2⟩ := lookT (keyFit_hash (keyOk_fit ho)) e hq rv q
    refine wpAny_notIn_heap (show A.units + 1 + 8 < cLine by omega) hb hs dd ?_
    have ee : (atKey xs (keyOf k)).isSome = dHas kvs k := by
      rw [dHas_get]
      cases g : dGet kvs k with
      | none => rw [l1 g]; rfl
      | some d => obtain ⟨p, v, _, e1, _⟩ := l2 d g; rw [e1]; rfl
    rw [ee]
    exact h _ (I.tok _)
theorem dict_item (hu : A.units + 200 < cLine) (I : Inv X pins σ H s) {a : Addr} {kvs : List (D × D)} {k d : D} {y : V} {u : Value} {S T : List Addr} (r : RepX X H (.ref a) (.dict kvs) S) (ho : keyOk kvs k = true) (rk : RepX X H y k T) (ru : RelV y u)
    (hg : dGet kvs k = some d) : ∃ (v : V) (z : Value) (U : List Addr), RelV v z ∧ RepX X H v d U ∧ (∀ c ∈ U, c ∈ S.tail) ∧ ∀ (Q : Value → Shared → Prop), (∀ s', Inv X pins σ H s' → Q z s') → wpAny (model X.prog X.w) A (getItem (.ref a) u) Q E s := by
  rcases keyFit_cases (keyOk_fit ho) with ⟨kk, hk⟩ | ⟨ht, hd⟩
  · obtain ⟨hs, es, vs, T', rfl, kv, dd, e, q, _⟩ := view_l I r ho hk
    obtain ⟨l1, l2⟩ := lookL hk e q
    obtain ⟨v, U, e1, rv, hU⟩ := l2 d hg
    obtain ⟨w', hw, rw'⟩ := RelO.some_of (v := v) (o := valueAt vs kk) (by rw [← e1]; exact kv.val kk)
    exact ⟨v, w', U, rw', rv, hU, fun Q h => wpAny_getItem_of (kV_is (key_rel hk rk ru)) dd.mapOf hw (h _ (I.tok _))⟩
  · obtain ⟨hs, _, xs, vs, T', rfl, dd, e, hq, rv, q, _⟩ := view_t I r ho ht
    obtain ⟨b, rfl, rfl, hb⟩ := key_heap I (keyOk_fit ho) ht rk ru
    obtain ⟨l1, l2⟩ := lookT (keyFit_hash (keyOk_fit ho)) e hq rv q
    obtain ⟨p, v, U, e1, rv', rr, hU⟩ := l2 d hg
    exact ⟨v, p.2, U, rv', rr, hU, fun Q h => wpAny_getItem_heap (show A.units + 1 + 8 < cLine by omega) hb dd e1 (h _ (I.tok _))⟩
theorem dict_typeIs (I : Inv X pins σ H s) {a : Addr} {kvs : List (D × D)} {S : List Addr} (r : RepX X H (.ref a) (.dict kvs) S) : s.TypeIs (.ref a) "dict" := by
  cases r with
  | dk h e tx n q =>
    obtain ⟨z, hs, vs, kv, dd⟩ := dk_rd I.hok h
    exact dd.typeIs
  | dt h z l rk e n q rv r => exact (dt_of' I h rk e n q).typeIs
end
end MP

/-! MPCmp: comparisons, truth, and, or, not, conditional expressions. -/
namespace MP
open PySem PySem.Spec L2
open PyProof.Rows hiding St

section
variable {X : Cx} {H : Hp}
mutual
theorem Rep.canLay : ∀ {v : V} {d : D} {S : List Addr}, RepX X H v d S → d.hasDict = false → d.canLay0 = true
  | _, _, _, .non, _ => rfl
  | _, _, _, .bl _, _ => rfl
  | _, _, _, .int _, _ => rfl
  | _, _, _, .str _ h, _ => h.2
  | _, _, _, .lst _ r, h => by
    rw [PyData.hasDict] at h
    rw [PyData.canLay0]
    exact RepL.canLay r h
  | _, _, _, .tup _ r, h => by
    rw [PyData.hasDict] at h
    rw [PyData.canLay0]
    exact RepL.canLay r h
  | _, _, _, .dk .., h => by simp [PyData.hasDict] at h
  | _, _, _, .dt .., h => by simp [PyData.hasDict] at h
theorem RepL.canLay : ∀ {vs : List V} {ds : List D} {S : List Addr}, RepLX X H vs ds S → PyData.hasDictAll ds = false → PyData.canLayAll0 ds = true
  | _, _, _, .nil, _ => rfl
  | _, _, _, .cons r rs, h => by
    rw [PyData.hasDictAll, Bool.or_eq_false_iff] at h
    rw [PyData.canLayAll0, Rep.canLay r h.1, RepL.canLay rs h.2]; rfl
end
theorem noDict_iff {d : D} (h : dNoDict d = true) : d.hasDict = false ∧ d.depth ≤ 60 := by
  unfold dNoDict at h
  rw [Bool.and_eq_true] at h
  exact ⟨by simpa using h.1, of_decide_eq_true h.2⟩
theorem Rep.shaped {v : V} {d : D} {S : List Addr} (r : RepX X H v d S) (h : dNoDict d = true) : SeqAt.shaped d = true := by
  obtain ⟨h1, h2⟩ := noDict_iff h
  show (d.canLay0 && decide (d.depth ≤ 64)) = true
  rw [r.canLay h1, decide_eq_true (by omega)]; rfl

def VCp (X : Cx) (f : Value → Value → Sem Value) (g : D → D → Option Bool) : Prop :=
  ∀ (pins : List (Addr × Obj)) (s : Shared) (σ : L2.St) (H : Hp) (x y : V) (v u : Value) (dx dy : D) (b : Bool) (S T : List Addr) (Q : VK), Inv X pins σ H s → RelV x v → RelV y u → RepX X H x dx S → RepX X H y dy T → g dx dy = some b → Q (.bl b) H →
    wpAny (model X.prog X.w) X.A (f v u) (EP X pins σ Q) X.xe s
theorem c_eq (hu : X.A.units + 200 < cLine) : VCp X (compareOp .Eq) (cpE .eq) := by
  intro pins s σ H x y v u dx dy b S T Q I rv ru r1 r2 hg hq
  obtain ⟨h1, h2⟩ := lftIf_some hg
  subst h2
  rw [Bool.and_eq_true] at h1
  exact SeqAt.compareEq_shaped (Rep.reads I r1 rv) (Rep.reads I r2 ru) (r1.shaped h1.1) (r2.shaped h1.2) (by omega) ⟨.bl _, H, I, rfl, hq⟩
theorem c_ne (hu : X.A.units + 200 < cLine) : VCp X (compareOp .NotEq) (cpE .ne) := by
  intro pins s σ H x y v u dx dy b S T Q I rv ru r1 r2 hg hq
  obtain ⟨h1, h2⟩ := lftIf_some hg
  subst h2
  rw [Bool.and_eq_true] at h1
  exact SeqAt.compareNe_shaped (Rep.reads I r1 rv) (Rep.reads I r2 ru) (r1.shaped h1.1) (r2.shaped h1.2) (by omega) ⟨.bl _, H, I, rfl, hq⟩
theorem c_lt : VCp X (compareOp .Lt) (cpE .lt) := by
  intro pins s σ H x y v u dx dy b S T Q I rv ru r1 r2 hg hq
  cases r1 with
  | int i =>
    cases r2 with
    | int j => cases hg; exact op_lt pins s σ H _ _ v u Q I rv ru ⟨i, j, rfl, rfl, hq⟩
    | _ => cases hg
  | str i _ =>
    cases r2 with
    | str j _ => cases hg; exact op_lt_str pins s σ H _ _ v u Q I rv ru ⟨i, j, rfl, rfl, hq⟩
    | _ => cases hg
  | _ => cases hg
theorem c_le : VCp X (compareOp .LtE) (cpE .le) := by
  intro pins s σ H x y v u dx dy b S T Q I rv ru r1 r2 hg hq
  cases r1 with
  | int i =>
    cases r2 with
    | int j => cases hg; exact op_le pins s σ H _ _ v u Q I rv ru ⟨i, j, rfl, rfl, hq⟩
    | _ => cases hg
  | str i _ =>
    cases r2 with
    | str j _ => cases hg; exact op_le_str pins s σ H _ _ v u Q I rv ru ⟨i, j, rfl, rfl, hq⟩
    | _ => cases hg
  | _ => cases hg
theorem c_gt : VCp X (compareOp .Gt) (cpE .gt) := by
  intro pins s σ H x y v u dx dy b S T Q I rv ru r1 r2 hg hq
  cases r1 with
  | int i =>
    cases r2 with
    | int j => cases hg; exact op_gt pins s σ H _ _ v u Q I rv ru ⟨i, j, rfl, rfl, hq⟩
    | _ => cases hg
  | str i _ =>
    cases r2 with
    | str j _ => cases hg; exact op_gt_str pins s σ H _ _ v u Q I rv ru ⟨i, j, rfl, rfl, hq⟩
    | _ => cases hg
  | _ => cases hg
theorem c_ge : VCp X (compareOp .GtE) (cpE .ge) := by
  intro pins s σ H x y v u dx dy b S T Q I rv ru r1 r2 hg hq
  cases r1 with
  | int i =>
    cases r2 with
    | int j => cases hg; exact op_ge pins s σ H _ _ v u Q I rv ru ⟨i, j, rfl, rfl, hq⟩
    | _ => cases hg
  | str i _ =>
    cases r2 with
    | str j _ => cases hg; exact op_ge_str pins s σ H _ _ v u Q I rv ru ⟨i, j, rfl, rfl, hq⟩
    | _ => cases hg
  | _ => cases hg
theorem c_in (hu : X.A.units + 200 < cLine) : VCp X (compareOp .In) (cpE .inn) := by
  intro pins s σ H x y v u dx dy b S T Q I rv ru r1 r2 hg hq
  cases dy with
  | dict kvs =>
    obtain ⟨h1, h2⟩ := lftIf_some hg
    subst h2
    have ea : ∃ a, y = .ref a := by cases r2 <;> exact ⟨_, rfl⟩
    obtain ⟨a, rfl⟩ := ea
    cases ru
    exact dict_in hu I r2 h1 r1 rv fun s' I' => ⟨.bl _, H, I', rfl, hq⟩
  | list ys =>
    obtain ⟨h1, h2⟩ := lftIf_some hg
    subst h2
    rw [Bool.and_eq_true] at h1
    have s2 := r2.shaped h1.2
    exact SeqAt.in_list_reads (Rep.reads I r2 ru) (Rep.reads I r1 rv) (SeqAt.canLay_of_shaped s2) (SeqAt.canLay_of_shaped (r1.shaped h1.1)) (room_in_shaped (r1.shaped h1.1) (by omega)) ⟨.bl _, H, I, rfl, hq⟩
  | tuple ys =>
    obtain ⟨h1, h2⟩ := lftIf_some hg
    subst h2
    rw [Bool.and_eq_true] at h1
    have s2 := r2.shaped h1.2
    exact SeqAt.in_tuple_reads (Rep.reads I r2 ru) (Rep.reads I r1 rv) (SeqAt.canLay_of_shaped s2) (SeqAt.canLay_of_shaped (r1.shaped h1.1)) (room_in_shaped (r1.shaped h1.1) (by omega)) ⟨.bl _, H, I, rfl, hq⟩
  | str j =>
    cases r2 with
    | str _ hj =>
      cases r1 with
      | str i hi => cases hg; exact op_in_str pins s σ H _ _ v u Q I rv ru ⟨i, j, rfl, rfl, hq⟩
      | _ => cases hg
  | _ => cases dx <;> cases hg
theorem c_nin (hu : X.A.units + 200 < cLine) : VCp X (compareOp .NotIn) (cpE .nin) := by
  intro pins s σ H x y v u dx dy b S T Q I rv ru r1 r2 hg hq
  cases dy with
  | dict kvs =>
    obtain ⟨h1, h2⟩ := lftIf_some hg
    subst h2
    have ea : ∃ a, y = .ref a := by cases r2 <;> exact ⟨_, rfl⟩
    obtain ⟨a, rfl⟩ := ea
    cases ru
    exact dict_notIn hu I r2 h1 r1 rv fun s' I' => ⟨.bl _, H, I', rfl, hq⟩
  | list ys =>
    obtain ⟨h1, h2⟩ := lftIf_some hg
    subst h2
    rw [Bool.and_eq_true] at h1
    have s2 := r2.shaped h1.2
    exact SeqAt.notIn_list_reads (Rep.reads I r2 ru) (Rep.reads I r1 rv) (SeqAt.canLay_of_shaped s2) (SeqAt.canLay_of_shaped (r1.shaped h1.1)) (room_in_shaped (r1.shaped h1.1) (by omega)) ⟨.bl _, H, I, rfl, hq⟩
  | tuple ys =>
    obtain ⟨h1, h2⟩ := lftIf_some hg
    subst h2
    rw [Bool.and_eq_true] at h1
    have s2 := r2.shaped h1.2
    exact SeqAt.notIn_tuple_reads (Rep.reads I r2 ru) (Rep.reads I r1 rv) (SeqAt.canLay_of_shaped s2) (SeqAt.canLay_of_shaped (r1.shaped h1.1)) (room_in_shaped (r1.shaped h1.1) (by omega)) ⟨.bl _, H, I, rfl, hq⟩
  | str j =>
    cases r2 with
    | str _ hj =>
      cases r1 with
      | str i hi => cases hg; exact op_notin_str pins s σ H _ _ v u Q I rv ru ⟨i, j, rfl, rfl, hq⟩
      | _ => cases hg
  | _ => cases dx <;> cases hg
end

/-! ### truth -/
section
variable {X : Cx} {pins : List (Addr × Obj)} {σ : L2.St} {H : Hp} {s : Shared} {E : Value → Shared → Prop}
theorem Rep.raw (I : Inv X pins σ H s) {a : Addr} {kvs : List (D × D)} {S : List Addr} (r : RepX X H (.ref a) (.dict kvs) S) : (a == sysModules) = false ∧ kvs.length ≤ sizeLine ∧
    ∃ (es : Array DictEntry) (ep : Nat) (ks vs : List V) (T : List Addr), S = a :: T ∧ s.heap.DictRaw a es ep ∧ es.size = kvs.length ∧ Vals ks (es.toList.map (·.key)) ∧ Vals vs (es.toList.map (·.val)) ∧ RepLX X H ks (kvs.map (·.1)) [] ∧ RepLX X H vs (kvs.map (·.2)) T := by
  cases r with
  | @dk _ es _ T h e tx n q =>
    have ok := h.ok I.hok
    obtain ⟨z, hs, _⟩ := id ok
    obtain ⟨o, xs, ep, ho, hc, hd, k1, k2⟩ := dk_entries ok
    obtain ⟨_, _, vs', kv, o', es', ep', ho', hx, hd', _⟩ := id ok
    rw [ho] at ho'; cases ho'
    have el : es.length = kvs.length := by have := congrArg List.length e; simpa using this.symm
    refine ⟨hs, by omega, xs, ep, _, _, T, rfl, ⟨o, ho, hx, hd⟩, ?_, k1, k2, ?_, q⟩
    · have := k2.length
      simp only [List.length_map, Array.length_toList] at this
      omega
    · have go : ∀ {kvs : List (D × D)} {es : List (Key × V)}, kvs.map (fun kv => lkey kv.1) = es.map (fun e => some e.1) → (∀ kv ∈ kvs, ∀ x, kv.1 = .str x → TxtOk x) → RepLX X H (es.map fun e => kV e.1) (kvs.map (·.1)) [] := by
        intro kvs
        induction kvs with
        | nil => intro es e _; cases es with
          | nil => exact .nil
          | cons _ _ => simp at e
        | cons kv kvs ih =>
          intro es e tx
          cases es with
          | nil => simp at e
          | cons e1 es =>
            simp only [List.map_cons, List.cons.injEq] at e
            refine .cons (S := []) ?_ (ih e.2 fun kv hm => tx kv (List.mem_cons_of_mem _ hm))
            have q := e.1
            have t := tx kv List.mem_cons_self
            obtain ⟨k, d⟩ := kv
            obtain ⟨k1, v1⟩ := e1
            cases k with
            | int i => cases q; exact .int i
            | str x => cases q; exact .str x (t x rfl)
            | _ => cases q
      exact go e tx
  | @dt _ xs vs _ T h z l rk e n q rv r =>
    obtain ⟨o, es, ep, ho, hx, hd, he⟩ := DTup.of I h
    refine ⟨z, l.2, es, ep, _, vs, T, rfl, ⟨o, ho, hx, hd⟩, ?_, ?_, ?_, rk, r⟩
    · have h1 := congrArg List.length he
      have h2 := congrArg List.length e
      simp only [List.length_map, Array.length_toList] at h1 h2
      omega
    · rw [he, List.map_map]
      have go : ∀ xs : List (NestedKey × Addr × Value), Vals (xs.map fun x => V.ref x.2.1) (xs.map ((·.key) ∘ entryOfKey (nestedKind X.prog X.w))) := fun xs => by
        induction xs with
        | nil => exact .nil
        | cons x xs ih => exact .cons rfl ih
      exact go xs
    · have k2 : es.toList.map (·.val) = xs.map (·.2.2) := by rw [he, List.map_map]; rfl
      rw [k2]; exact rv
theorem len_body_raw {A : Around} {d : Addr} {es : Array DictEntry} {ep : Nat} {Q : Value → Shared → Prop} (hd : (d == sysModules) = false) (hm : s.heap.DictRaw d es ep) (hfit : es.size ≤ sizeLine)
    (h : ∀ t s', (∃ n, s' = { s with toks := n }) → Q (.int es.size t) s') : wpAny (model X.prog X.w) A (Builtin.«len» ⟨[.ref d], []⟩) (fun fin s' => ∃ r, fin = .done (.ret r) ∧ Q r s') E s := by
  rw [sizeLine_eq] at hfit
  unfold Builtin.«len»
  refine wpAny_bind (m := oneArg "len" _) (wpAny_pure ?_)
  refine wpAny_bind (m := callSpecial? (.ref d) (Str.ofString "__len__")) (wpAny_callSpecial?_slot (name := Str.ofString "__len__") hm.typeIs PySem.F.slot_dict_len (call_len_raw hd hm ?_))
  refine wpAny_bind (wpAny_holding (wpAny_pure ?_))
  refine wpAny_bind (wpAny_letGo ?_)
  show wpAny _ _ (if ((es.size : Nat) : Int) < 0 then _ else _) _ _ _
  rw [if_neg (by omega)]
  show wpAny _ _ (if ((es.size : Nat) : Int) ≥ 2 ^ 63 then _ else _) _ _ _
  rw [if_neg (by omega)]
  exact wpAny_bind (wpAny_mkInt (wpAny_pure ⟨_, rfl, h _ _ ⟨_, rfl⟩⟩))
theorem truthy_raw {A : Around} {d : Addr} {es : Array DictEntry} {ep : Nat} {Q : Bool → Shared → Prop} (hd : (d == sysModules) = false) (hm : s.heap.DictRaw d es ep) (hfit : es.size ≤ sizeLine)
    (h : ∀ s', (∃ n, s' = { s with toks := n }) → Q (es.size != 0) s') : wpAny (model X.prog X.w) A (truthy (.ref d)) Q E s := by
  have key : wpAny (model X.prog X.w) A (runValue (.builtin "len" ⟨[.ref d], []⟩)) (fun r s' => ∃ t, r = .int es.size t ∧ Q (es.size != 0) s') E s := by
    refine wpAny_runValue (codeAny_builtin entry_len ?_)
    rw [Around.under_plainId plain_len _]
    exact wpAny_mono (len_body_raw (Q := fun r s' => ∃ t, r = .int es.size t ∧ Q (es.size != 0) s') hd hm hfit fun t s' e => ⟨t, rfl, h s' e⟩) (fun fin s' q => by obtain ⟨r, rfl, q⟩ := q; exact q) fun _ _ e => e
  have hne : (((es.size : Nat) : Int) != 0) = (es.size != 0) := by
    cases hq : es.size with
    | zero => rfl
    | succ n =>
      have h1 : (((n + 1 : Nat) : Int) != 0) = true := by simp; omega
      rw [h1]; rfl
  unfold truthy
  first
    | refine wpAny_bind (wpAny_callSpecial?_none (name := Str.ofString "__bool__") hm.typeIs noBool_dict ?_)
    | refine wpAny_bind (wpAny_pure (wpAny_bind (wpAny_callSpecial?_none (name := Str.ofString "__bool__") hm.typeIs noBool_dict ?_)))
  first
    | refine wpAny_bind (wpAny_specialOf (name := Str.ofString "__len__") hm.typeIs PySem.F.slot_dict_len.lookup ?_)
    | refine wpAny_bind (wpAny_pure (wpAny_bind (wpAny_specialOf (name := Str.ofString "__len__") hm.typeIs PySem.F.slot_dict_len.lookup ?_)))
  refine wpAny_bind (wpAny_mono key (fun r s' q => by obtain ⟨t, rfl, q⟩ := q; exact wpAny_pure (hne ▸ q)) fun _ _ e => e)
theorem size_tru {n : Nat} {kvs : List (D × D)} (h : n = kvs.length) : tru (.dict kvs) = (n != 0) := by
  subst h
  cases kvs <;> rfl
theorem tru_rep (I : Inv X pins σ H s) {v : V} {d : D} {S : List Addr} {u : Value} {Q : Bool → Hp → Prop} (r : RepX X H v d S) (rv : RelV v u) (h : Q (tru d) H) : wpAny (model X.prog X.w) X.A (truthy u) (TP X pins σ Q) X.xe s := by
  have go : ∀ k, TruV X.K v H k → k = tru d → wpAny (model X.prog X.w) X.A (truthy u) (TP X pins σ Q) X.xe s := fun k q e => tru_ok pins s σ H v u Q I rv ⟨k, q, by rw [e]; exact h⟩
  cases r with
  | non => exact go false rfl rfl
  | bl b => exact go b rfl rfl
  | int i => exact go (i != 0) rfl rfl
  | str x hx => exact go ((x.length : Int) != 0) ⟨hx.1, rfl⟩ (by
      show _ = (x.length != 0)
      cases hq : x.length with
      | zero => rfl
      | succ n =>
        have h1 : (((n + 1 : Nat) : Int) != 0) = true := by simp; omega
        rw [h1]; rfl)
  | lst q1 q2 => exact go _ (.inl ⟨_, sql_rd q1, rfl⟩) (by cases q2 <;> rfl)
  | tup q1 q2 => exact go _ (.inr (.inl ⟨_, q1, rfl⟩)) (by cases q2 <;> rfl)
  | dk q e tx n r =>
    cases rv
    obtain ⟨hs, hl, es, ep, _, _, _, _, hr, hz, _⟩ := Rep.raw I (.dk q e tx n r)
    refine truthy_raw hs hr (by omega) fun s' ⟨n, e'⟩ => ?_
    subst e'
    refine ⟨H, I.tok _, ?_⟩
    exact (size_tru hz) ▸ h
  | dt q1 q2 q3 q4 q5 q6 q7 q8 q9 =>
    cases rv
    obtain ⟨hs, hl, es, ep, _, _, _, _, hr, hz, _⟩ := Rep.raw I (.dt q1 q2 q3 q4 q5 q6 q7 q8 q9)
    refine truthy_raw hs hr (by omega) fun s' ⟨n, e'⟩ => ?_
    subst e'
    refine ⟨H, I.tok _, ?_⟩
    exact (size_tru hz) ▸ h
end

/-! ### the rules -/
section
variable {X : Cx} {C : Cxt} {Z : ZT}
theorem se_cmp {o : Cp} {op : CmpOp} {xa xb : Expr} {a b : E} {pos : Pos} (zm : ZMono Z) (ho : VCp X (compareOp op) (cpE o)) (ha : PE X xa (tE X C Z a)) (hb : PE X xb (tE X C Z b)) (hm : behindInMarks op xb = false) : PE X (.Compare xa [op] [xb] pos) (tE X C Z (.cmp o a b)) := by
  refine ⟨fun pins s σ H Q I h => ?_⟩
  obtain ⟨H0, A0, At, n, ρ, fp, rl, h⟩ := h
  rw [evE, out_bind] at h
  refine wpAny_Compare1 (bin2 (R := fun dx dy n2 => Out (lft (cpE o dx dy) n2) (fun d n' => ∀ v H' S, Post X At ρ fp (.cmp o a b) H v (.bool d) S H' n' → Q v H') (Z At H)) zm ha hb I rl
    (h.imp (fun x n1 h1 => by rw [out_bind] at h1; exact h1.imp (fun y n2 h2 => by rw [out_bind] at h2; exact h2) fun _ _ z => z) fun _ _ z => z) fun v u s2 x y dx dy S T H2 n2 I2 rx ry tw q => ?_) hm
  rw [out_lft] at q
  obtain ⟨d, hd, q⟩ := q
  exact ho pins s2 σ H2 x y v u dx dy d S T Q I2 rx ry tw.r1 tw.r2 hd (q _ H2 [] (.flat (.bl d) tw.pres tw.rl.cell fun z => by cases z))
theorem se_isN {xa : Expr} {a : E} {pos pos' : Pos} {j : Nat} (ha : PE X xa (tE X C Z a)) : PE X (.Compare xa [.Is] [.Constant .none j pos'] pos) (tE X C Z (.cmp .isN a (.cst .none))) := by
  refine (pe_cmp (pc_isN ha)).weak fun σ H Q h => ?_
  obtain ⟨H0, A0, At, n, ρ, fp, rl, h⟩ := h
  rw [evE, out_bind] at h
  refine ⟨H0, A0, At, n, ρ, fp, rl, h.imp (fun d n1 h1 v H1 S p => ?_) fun _ _ z => z⟩
  have h1 : ∀ v H' S, Post X At ρ fp (.cmp .isN a (.cst .none)) H v (.bool (isNn d)) S H' n1 → Q v H' := h1
  refine h1 _ H1 [] (.flat ?_ p.pres p.cell fun z => by cases z)
  have e : decide (v = .non) = isNn d := by
    have r := p.rep
    cases r <;> first | rfl | exact decide_eq_false (fun z => nomatch z)
  rw [e]; exact .bl _
theorem se_notN {xa : Expr} {a : E} {pos pos' : Pos} {j : Nat} (ha : PE X xa (tE X C Z a)) : PE X (.Compare xa [.IsNot] [.Constant .none j pos'] pos) (tE X C Z (.cmp .notN a (.cst .none))) := by
  refine (pe_cmp (pc_notN ha)).weak fun σ H Q h => ?_
  obtain ⟨H0, A0, At, n, ρ, fp, rl, h⟩ := h
  rw [evE, out_bind] at h
  refine ⟨H0, A0, At, n, ρ, fp, rl, h.imp (fun d n1 h1 v H1 S p => ?_) fun _ _ z => z⟩
  have h1 : ∀ v H' S, Post X At ρ fp (.cmp .notN a (.cst .none)) H v (.bool (!isNn d)) S H' n1 → Q v H' := h1
  refine h1 _ H1 [] (.flat ?_ p.pres p.cell fun z => by cases z)
  have e : (!decide (v = .non)) = !isNn d := by
    have r := p.rep
    cases r <;> first | rfl | (rw [decide_eq_false (fun z => nomatch z)]; rfl)
  rw [e]; exact .bl _
/-- the test of a comparison is its value -/
theorem st_cmp {o : Cp} {op : CmpOp} {xa xb : Expr} {a b : E} {pos : Pos} (zm : ZMono Z) (ho : VCp X (compareOp op) (cpE o)) (ha : PE X xa (tE X C Z a)) (hb : PE X xb (tE X C Z b)) (hm : behindInMarks op xb = false) : PT X (.Compare xa [op] [xb] pos) (tEt X C Z (.cmp o a b)) := by
  refine ⟨fun pins s σ H Q I h => ?_⟩
  obtain ⟨H0, A0, At, n, ρ, fp, rl, h⟩ := h
  rw [evE, out_bind] at h
  refine wpAny_isTrue_Compare1 (bin2 (f := fun v u => compareOp op v u) (R := fun dx dy n2 => Out (lft (cpE o dx dy) n2) (fun d n' => ∀ H', Pres At H H' → CellOk At n' H' → Q (tru (.bool d)) H') (Z At H)) zm ha hb I rl
    (h.imp (fun x n1 h1 => by rw [out_bind] at h1; exact h1.imp (fun y n2 h2 => by rw [out_bind] at h2; exact h2) fun _ _ z => z) fun _ _ z => z) fun v u s2 x y dx dy S T H2 n2 I2 rx ry tw q => ?_) hm
  rw [out_lft] at q
  obtain ⟨d, hd, q⟩ := q
  refine thn (ho pins s2 σ H2 x y v u dx dy d S T (fun z H3 => z = .bl d ∧ H3 = H2) I2 rx ry tw.r1 tw.r2 hd ⟨rfl, rfl⟩) fun c s3 hh => ?_
  obtain ⟨z, H3, I3, r3, rfl, rfl⟩ := hh
  cases r3
  exact wpAny_truthy_bool ⟨H3, I3, q H3 tw.pres tw.rl.cell⟩
end
end MP

/-! MPBool: tests, and, or, not, conditional expressions, arguments in a row, tuples, lists. -/
namespace MP
open PySem PySem.Spec L2
open PyProof.Rows hiding St
section
variable {X : Cx} {C : Cxt} {Z : ZT} {H0 H H' : Hp} {A0 : Addr → Prop} {At : Option Addr} {n n' : Option Int} {ρ : Ev} {fp : Nat → List Addr} {σ : L2.St}
/-- a part's promise read by the whole -/
theorem Post.up {a e : E} {v : V} {d : D} {S : List Addr} (p : Post X At ρ fp a H v d S H' n') (hv : e.isVar = false) (hf : e.fresh = false) (h1 : ∀ i ∈ a.esc, i ∈ e.esc) (h2 : ∀ i ∈ a.al, i ∈ e.al) : Post X At ρ fp e H v d S H' n' :=
  .mk' p.rep p.pres p.cell hv (fun c hc => (p.from_ c hc).imp id fun q => q.mono h1 h2) fun z => by rw [hf] at z; cases z
/-- .. from a later heap -/
theorem Post.back {H1 : Hp} {e : E} {v : V} {d : D} {S : List Addr} (p : Post X At ρ fp e H1 v d S H' n') (q : Pres At H H1) : Post X At ρ fp e H v d S H' n' where
  rep := p.rep
  pres := q.trans p.pres
  cell := p.cell
  from_ := fun c hc => (p.from_ c hc).imp (q.trk c) id
  elem := fun c hc => (p.elem c hc).imp (q.trk c) id
  new := fun h1 h2 => by
    obtain ⟨a, T, e1, e2, e3, e4⟩ := p.new h1 h2
    exact ⟨a, T, e1, e2, q.trk a e3, e4⟩

theorem st_truth {xa : Expr} {a : E} (ha : PE X xa (tE X C Z a)) (he : ∀ whole, isTrue xa X.env whole = (do let v ← whole; standAt xa.pos; holding [v] (truthy v))) : PT X xa (tEt X C Z a) := by
  refine ⟨fun pins s σ H Q I h => ?_⟩
  obtain ⟨H0, A0, At, n, ρ, fp, rl, h⟩ := h
  exact isTrue_plain (un1 ha I rl h fun v s2 x dx S H1 n1 I1 rx on q => tru_rep I1 on.p.rep rx (q H1 on.p.pres on.p.cell)) (he _)
theorem st_not {xa : Expr} {a : E} {pos : Pos} (ha : PT X xa (tEt X C Z a)) : PT X (.UnaryOp .Not xa pos) (tEt X C Z (.not a)) := by
  refine (pt_not ha).weak fun σ H Q h => ?_
  obtain ⟨H0, A0, At, n, ρ, fp, rl, h⟩ := h
  rw [evE, out_bind] at h
  exact ⟨H0, A0, At, n, ρ, fp, rl, h.imp (fun d n1 h1 H' p c => h1 H' p c) fun _ _ z => z⟩
theorem se_not {xa : Expr} {a : E} {pos : Pos} (ha : PE X xa (tE X C Z a)) : PE X (.UnaryOp .Not xa pos) (tE X C Z (.not a)) := by
  refine ⟨fun pins s σ H Q I h => ?_⟩
  obtain ⟨H0, A0, At, n, ρ, fp, rl, h⟩ := h
  rw [evE, out_bind] at h
  refine UnaryOp_ (un1 ha I rl h fun v s2 x dx S H1 n1 I1 rx on q => ?_)
  refine not_of (thn (tru_rep (Q := fun b H2 => b = tru dx ∧ H2 = H1) I1 on.p.rep rx ⟨rfl, rfl⟩) fun b s3 hh => ?_)
  obtain ⟨H2, I2, rfl, rfl⟩ := hh
  exact ⟨.bl _, H2, I2, rfl, q _ H2 [] (.flat (.bl _) on.p.pres on.p.cell fun z => by cases z)⟩
theorem se_one {xa : Expr} {a : E} {op : BoolOp} {pos : Pos} (ha : PE X xa (tE X C Z a)) : PE X (.BoolOp op [xa] pos) (tE X C Z a) := pe_one ha
theorem se_and (zm : ZMono Z) {xa xb : Expr} {rest : List Expr} {a b : E} {pos : Pos} (ha : PE X xa (tE X C Z a)) (hb : PE X (.BoolOp .And (xb :: rest) pos) (tE X C Z b)) : PE X (.BoolOp .And (xa :: xb :: rest) pos) (tE X C Z (.and a b)) := by
  refine ⟨fun pins s σ H Q I h => ?_⟩
  obtain ⟨H0, A0, At, n, ρ, fp, rl, h⟩ := h
  rw [evE, out_bind] at h
  refine BoolOp_and (un1 ha I rl h fun v s2 x dx S H1 n1 I1 rx on q => ?_)
  refine thn (tru_rep (Q := fun b H2 => b = tru dx ∧ H2 = H1) I1 on.p.rep rx ⟨rfl, rfl⟩) fun c s3 hh => ?_
  obtain ⟨H2, I2, rfl, rfl⟩ := hh
  rw [out_ite] at q
  cases ht : tru dx with
  | true =>
    rw [ht, if_pos rfl] at q
    exact hb.run pins s3 σ H2 Q I2 ⟨H0, A0, At, n1, ρ, fp, on.rl, q.imp (fun d n2 h2 v H3 S p => h2 v H3 S ((p.back on.p.pres).up rfl rfl (fun i hi => List.mem_append_right _ hi) fun i hi => List.mem_append_right _ hi)) fun e k z => zm _ _ _ _ _ on.p.pres z⟩
  | false =>
    rw [ht, if_neg Bool.false_ne_true] at q
    exact ⟨x, H2, I2, rx, q x H2 S (on.p.up rfl rfl (fun i hi => List.mem_append_left _ hi) fun i hi => List.mem_append_left _ hi)⟩
theorem se_or (zm : ZMono Z) {xa xb : Expr} {rest : List Expr} {a b : E} {pos : Pos} (ha : PE X xa (tE X C Z a)) (hb : PE X (.BoolOp .Or (xb :: rest) pos) (tE X C Z b)) : PE X (.BoolOp .Or (xa :: xb :: rest) pos) (tE X C Z (.or a b)) := by
  refine ⟨fun pins s σ H Q I h => ?_⟩
  obtain ⟨H0, A0, At, n, ρ, fp, rl, h⟩ := h
  rw [evE, out_bind] at h
  refine BoolOp_or (un1 ha I rl h fun v s2 x dx S H1 n1 I1 rx on q => ?_)
  refine thn (tru_rep (Q := fun b H2 => b = tru dx ∧ H2 = H1) I1 on.p.rep rx ⟨rfl, rfl⟩) fun c s3 hh => ?_
  obtain ⟨H2, I2, rfl, rfl⟩ := hh
  rw [out_ite] at q
  cases ht : tru dx with
  | false =>
    rw [ht, if_neg Bool.false_ne_true] at q
    exact hb.run pins s3 σ H2 Q I2 ⟨H0, A0, At, n1, ρ, fp, on.rl, q.imp (fun d n2 h2 v H3 S p => h2 v H3 S ((p.back on.p.pres).up rfl rfl (fun i hi => List.mem_append_right _ hi) fun i hi => List.mem_append_right _ hi)) fun e k z => zm _ _ _ _ _ on.p.pres z⟩
  | true =>
    rw [ht, if_pos rfl] at q
    exact ⟨x, H2, I2, rx, q x H2 S (on.p.up rfl rfl (fun i hi => List.mem_append_left _ hi) fun i hi => List.mem_append_left _ hi)⟩
/-- .. as tests -/
theorem sw_and1 {xa : Expr} {a : E} {pos : Pos} (ha : PT X xa (tEt X C Z a)) : PW X (.BoolOp .And [xa] pos) (tEt X C Z a) := pw_and1 ha
theorem sw_or1 {xa : Expr} {a : E} {pos : Pos} (ha : PT X xa (tEt X C Z a)) : PW X (.BoolOp .Or [xa] pos) (tEt X C Z a) := pw_or1 ha
theorem _root_.L2.PW.weak {X : Cx} {x : Expr} {t t' : TT} (h : PW X x t) (hw : ∀ σ H Q, t' σ H Q → t σ H Q) : PW X x t' := ⟨fun wh pins s σ H Q I q => h.run wh pins s σ H Q I (hw _ _ _ q)⟩
theorem sw_and (zm : ZMono Z) {xa xb : Expr} {rest : List Expr} {a b : E} {pos : Pos} (ha : PT X xa (tEt X C Z a)) (hb : PW X (.BoolOp .And (xb :: rest) pos) (tEt X C Z b)) : PW X (.BoolOp .And (xa :: xb :: rest) pos) (tEt X C Z (.and a b)) := by
  refine (pw_and ha hb).weak fun σ H Q h => ?_
  obtain ⟨H0, A0, At, n, ρ, fp, rl, h⟩ := h
  rw [evE, out_bind] at h
  refine ⟨H0, A0, At, n, ρ, fp, rl, h.imp (fun d n1 h1 H1 p c => ?_) fun _ _ z => z⟩
  rw [out_ite] at h1
  cases ht : tru d with
  | true =>
    rw [ht, if_pos rfl] at h1
    rw [if_pos rfl]
    exact ⟨H0, A0, At, n1, ρ, fp, rl.next p c, h1.imp (fun d2 n2 h2 H2 p2 c2 => h2 H2 (p.trans p2) c2) fun e k z => zm _ _ _ _ _ p z⟩
  | false =>
    rw [ht, if_neg Bool.false_ne_true] at h1
    rw [if_neg Bool.false_ne_true]
    have := h1 H1 p c
    rw [ht] at this
    exact this
theorem sw_or (zm : ZMono Z) {xa xb : Expr} {rest : List Expr} {a b : E} {pos : Pos} (ha : PT X xa (tEt X C Z a)) (hb : PW X (.BoolOp .Or (xb :: rest) pos) (tEt X C Z b)) : PW X (.BoolOp .Or (xa :: xb :: rest) pos) (tEt X C Z (.or a b)) := by
  refine (pw_or ha hb).weak fun σ H Q h => ?_
  obtain ⟨H0, A0, At, n, ρ, fp, rl, h⟩ := h
  rw [evE, out_bind] at h
  refine ⟨H0, A0, At, n, ρ, fp, rl, h.imp (fun d n1 h1 H1 p c => ?_) fun _ _ z => z⟩
  rw [out_ite] at h1
  cases ht : tru d with
  | false =>
    rw [ht, if_neg Bool.false_ne_true] at h1
    rw [if_neg Bool.false_ne_true]
    exact ⟨H0, A0, At, n1, ρ, fp, rl.next p c, h1.imp (fun d2 n2 h2 H2 p2 c2 => h2 H2 (p.trans p2) c2) fun e k z => zm _ _ _ _ _ p z⟩
  | true =>
    rw [ht, if_pos rfl] at h1
    rw [if_pos rfl]
    have := h1 H1 p c
    rw [ht] at this
    exact this
theorem se_ife (zm : ZMono Z) {xt xa xb : Expr} {t a b : E} {pos : Pos} (ht : PT X xt (tEt X C Z t)) (ha : PE X xa (tE X C Z a)) (hb : PE X xb (tE X C Z b)) : PE X (.IfExp xt xa xb pos) (tE X C Z (.ife t a b)) := by
  refine (pe_ifExp ht ha hb).weak fun σ H Q h => ?_
  obtain ⟨H0, A0, At, n, ρ, fp, rl, h⟩ := h
  rw [evE, out_bind] at h
  refine ⟨H0, A0, At, n, ρ, fp, rl, h.imp (fun d n1 h1 H1 p c => ?_) fun _ _ z => z⟩
  rw [out_ite] at h1
  cases hd : tru d with
  | true =>
    rw [hd, if_pos rfl] at h1
    rw [if_pos rfl]
    exact ⟨H0, A0, At, n1, ρ, fp, rl.next p c, h1.imp (fun d2 n2 h2 v H2 S p2 => h2 v H2 S ((p2.back p).up rfl rfl (fun i hi => List.mem_append_left _ hi) fun i hi => List.mem_append_left _ hi)) fun e k z => zm _ _ _ _ _ p z⟩
  | false =>
    rw [hd, if_neg Bool.false_ne_true] at h1
    rw [if_neg Bool.false_ne_true]
    exact ⟨H0, A0, At, n1, ρ, fp, rl.next p c, h1.imp (fun d2 n2 h2 v H2 S p2 => h2 v H2 S ((p2.back p).up rfl rfl (fun i hi => List.mem_append_right _ hi) fun i hi => List.mem_append_right _ hi)) fun e k z => zm _ _ _ _ _ p z⟩

/-! ### several in a row -/
theorem ss_nil : PA X [] (tEs X C Z []) := by
  refine pa_nil.weak fun σ H Q h => ?_
  obtain ⟨H0, A0, At, n, ρ, fp, rl, h⟩ := h
  exact h [] H [] ⟨.nil, .refl, rl.cell, fun _ h => nomatch h⟩
theorem ss_cons (zm : ZMono Z) {x : Expr} {xs : List Expr} {e : E} {es : List E} (hx : PE X x (tE X C Z e)) (hs : PA X xs (tEs X C Z es)) (hst : starEach (x :: xs) X.env = (false, eval x X.env) :: starEach xs X.env) : PA X (x :: xs) (tEs X C Z (e :: es)) := by
  refine (pa_cons hx hs hst).weak fun σ H Q h => ?_
  obtain ⟨H0, A0, At, n, ρ, fp, rl, h⟩ := h
  rw [evEs, out_bind] at h
  refine ⟨H0, A0, At, n, ρ, fp, rl, h.imp (fun d n1 h1 v H1 S p => ?_) fun _ _ z => z⟩
  rw [out_bind] at h1
  refine ⟨H0, A0, At, n1, ρ, fp, rl.next p.pres p.cell, h1.imp (fun ds n2 h2 vs H2 T q => ?_) fun e k z => zm _ _ _ _ _ p.pres z⟩
  refine h2 (v :: vs) H2 (S ++ T) ⟨.cons (Rep.step p.rep p.cell q.pres (rl.avoid p.from_)) q.rep, p.pres.trans q.pres, q.cell, fun c hc => ?_⟩
  rcases List.mem_append.mp hc with hc | hc
  · exact (p.from_ c hc).imp id fun z => z.mono (fun i hi => by show i ∈ _ ++ _; exact List.mem_append_left _ hi) fun i hi => by show i ∈ _ ++ _; exact List.mem_append_left _ hi
  · exact (q.from_ c hc).imp (p.pres.trk c) fun z => z.mono (fun i hi => by show i ∈ _ ++ _; exact List.mem_append_right _ hi) fun i hi => by show i ∈ _ ++ _; exact List.mem_append_right _ hi
theorem bind_ok {α β : Type} {m : M α} {f : α → M β} {n : Option Int} {b : β} {k : Option Int} (h : (m >>= f) n = .ok b k) : ∃ a n1, m n = .ok a n1 ∧ f a n1 = .ok b k := by
  have h' : M.bind m f n = .ok b k := h
  unfold M.bind at h'
  cases hm : m n with
  | ok a n1 => rw [hm] at h'; exact ⟨a, n1, rfl, h'⟩
  | exc _ _ => rw [hm] at h'; cases h'
  | bad => rw [hm] at h'; cases h'
theorem evEs_len : ∀ {es : List E} {n k : Option Int} {ds : List D}, evEs C es ρ n = .ok ds k → ds.length = es.length
  | [], n, k, ds, h => by
    rw [evEs] at h
    cases h; rfl
  | e :: es, n, k, ds, h => by
    rw [evEs] at h
    obtain ⟨a, n1, _, h⟩ := bind_ok h
    obtain ⟨b, n2, h2, h⟩ := bind_ok h
    cases h
    rw [List.length_cons, List.length_cons, evEs_len h2]
/-- a result, with its length -/
theorem evEs_out {es : List E} {n : Option Int} {P : List D → Option Int → Prop} {Zz : Exn → Option Int → Prop} (h : Out (evEs C es ρ n) P Zz) : Out (evEs C es ρ n) (fun ds k => ds.length = es.length ∧ P ds k) Zz := by
  cases hq : evEs C es ρ n with
  | ok ds k => rw [hq] at h; exact ⟨evEs_len hq, h⟩
  | exc e k => rw [hq] at h; exact h
  | bad => rw [hq] at h; exact h
theorem se_tup {xs : List Expr} {es : List E} {k : Nat} {pos : Pos} (h : PA X xs (tEs X C Z es)) (hl : es.length ≤ 1000) : PE X (.Tuple xs k pos) (tE X C Z (.tup es)) := by
  refine (pe_tup h).weak fun σ H Q h => ?_
  obtain ⟨H0, A0, At, n, ρ, fp, rl, h⟩ := h
  rw [evE, out_bind] at h
  refine ⟨H0, A0, At, n, ρ, fp, rl, (evEs_out h).imp (fun ds n1 h1 vs H1 S p => ?_) fun _ _ z => z⟩
  obtain ⟨hlen, h1⟩ := h1
  have e := p.rep.length
  have small := small1000 (n := vs.length) (by omega)
  refine ⟨Nat.le_of_lt small, fun q hq => ?_⟩
  have sm := same_new (o := .tup vs) hq
  exact h1 _ _ S (.mk' (.tup (.inl (.inl upd_same)) (RepL.same p.rep sm)) (p.pres.trans (.same sm)) (p.cell.same sm) rfl p.from_ fun z => by cases z)
theorem se_lst {xs : List Expr} {es : List E} {pos : Pos} (h : PA X xs (tEs X C Z es)) (hl : es.length ≤ 1000) : PE X (.List xs pos) (tE X C Z (.lst es)) := by
  refine (pe_lst h).weak fun σ H Q h => ?_
  obtain ⟨H0, A0, At, n, ρ, fp, rl, h⟩ := h
  rw [evE, out_bind] at h
  refine ⟨H0, A0, At, n, ρ, fp, rl, (evEs_out h).imp (fun ds n1 h1 vs H1 S p => ?_) fun _ _ z => z⟩
  obtain ⟨hlen, h1⟩ := h1
  have e := p.rep.length
  have small := small1000 (n := vs.length) (by omega)
  refine ⟨Nat.le_of_lt small, fun q hq => ?_⟩
  have sm := same_new (o := .lst vs) hq
  refine h1 _ _ (q :: S) (.mk' (.lst (.inl upd_same) (RepL.same p.rep sm)) (p.pres.trans (.same sm)) (p.cell.same sm) rfl (fun c hc => ?_) fun _ _ => ⟨q, S, rfl, rfl, p.pres.trk q hq, fun hm => ?_, .inl ⟨_, upd_same⟩⟩)
  · rcases List.mem_cons.mp hc with rfl | hc
    · exact .inl (p.pres.trk _ hq)
    · exact p.from_ c hc
  · exact RepL.tracked p.rep q hm hq
end
end MP

/-! MPIx: subscripts, slices, chains, minus. -/
namespace MP
open PySem PySem.Spec L2
open PyProof.Rows hiding St
section
variable {X : Cx} {C : Cxt} {Z : ZT} {H : Hp}
/-- a subscript by values -/
def VIx (X : Cx) : Prop :=
  ∀ (value slice : Expr) (pins : List (Addr × Obj)) (s : Shared) (σ : L2.St) (H : Hp) (x y : V) (v u : Value) (dx dy d : D) (S T : List Addr) (Q : VK), Inv X pins σ H s → RelV x v → RelV y u → RepX X H x dx S → RepX X H y dy T → ixE dx dy = some d →
    subscripted slice false v u = operate [v, u] (getItem v u) → (∀ z U, RepX X H z d U → (∀ a ∈ U, a ∈ elems dx S) → Q z H) → wpAny (model X.prog X.w) X.A (subscriptTail value slice v u) (EP X pins σ Q) X.xe s
theorem atI_of {α : Type} {xs : List α} {i : Int} {j : Nat} {v : α} (h1 : MP.ixN xs.length i = some j) (h2 : xs[j]? = some v) : atI xs i = some v := by
  have h1' : L2.ixN xs.length i = some j := h1
  unfold atI
  rw [h1']
  exact h2
theorem txt_sign {s : Str} {c : Nat} {j : Nat} (hs : TxtOk s) (h : s.cps.toList[j]? = some c) : TxtOk ⟨#[c]⟩ := by
  refine ⟨by rw [sizeLine_eq]; exact (by decide : 1 ≤ 16777216), ?_⟩
  have h2 : s.cps.all (· < 0x110000) = true := hs.2
  rw [← Array.all_toList, List.all_eq_true] at h2
  have := h2 c (List.mem_of_getElem? h)
  show (#[c] : Array Nat).all _ = true
  simpa using this
theorem v_ix (hu : X.A.units + 200 < cLine) : VIx X := by
  intro value slice pins s σ H x y v u dx dy d S T Q I rv ru r1 r2 hg hs hq
  cases dx with
  | list ds =>
    cases dy with
    | int i =>
      cases r1 with
      | @lst a xs _ S q1 q2 =>
        cases r2
        have hg : (do ds[← MP.ixN ds.length i]?) = some d := hg
        cases hj : MP.ixN ds.length i with
        | none => rw [hj] at hg; cases hg
        | some j =>
          rw [hj] at hg
          obtain ⟨z, U, e, rr, sub⟩ := q2.get (show ds[j]? = some d from hg)
          exact ix_list value slice pins s σ H _ _ v u Q I rv ru ⟨a, xs, i, z, rfl, rfl, .inl q1, atI_of (j := j) (by rw [q2.length]; exact hj) e, hq z U rr sub⟩ hs
    | _ => cases hg
  | tuple ds =>
    cases dy with
    | int i =>
      cases r1 with
      | @tup a xs _ S q1 q2 =>
        cases r2
        have hg : (do ds[← MP.ixN ds.length i]?) = some d := hg
        cases hj : MP.ixN ds.length i with
        | none => rw [hj] at hg; cases hg
        | some j =>
          rw [hj] at hg
          obtain ⟨z, U, e, rr, sub⟩ := q2.get (show ds[j]? = some d from hg)
          exact ix_tup value slice pins s σ H _ _ v u Q I rv ru ⟨a, xs, i, z, rfl, rfl, q1, atI_of (j := j) (by rw [q2.length]; exact hj) e, hq z U rr sub⟩ hs
    | _ => cases hg
  | str x =>
    cases dy with
    | int i =>
      cases r1 with
      | str _ hx =>
        cases r2
        have hg : (do sgn (← x.cps.toList[← MP.ixN x.cps.size i]?)) = some d := hg
        cases hj : MP.ixN x.cps.size i with
        | none => rw [hj] at hg; cases hg
        | some j =>
          rw [hj] at hg
          cases hc : x.cps.toList[j]? with
          | none =>
            have hg : (do sgn (← x.cps.toList[j]?)) = some d := hg
            rw [hc] at hg; cases hg
          | some c =>
            have hg : (do sgn (← x.cps.toList[j]?)) = some d := hg
            rw [hc] at hg
            cases hg
            exact ix_str value slice pins s σ H _ _ v u Q I rv ru ⟨x, i, c, rfl, rfl, hx.1, atI_of (j := j) (by simpa using hj) hc, hq _ [] (.str _ (txt_sign hx hc)) fun _ h => nomatch h⟩ hs
    | _ => cases hg
  | dict kvs =>
    have hg' : (if keyOk kvs dy then dGet kvs dy else none) = some d := by cases dy <;> exact hg
    by_cases hk : keyOk kvs dy = true
    · rw [if_pos hk] at hg'
      have ea : ∃ a, x = .ref a := by cases r1 <;> exact ⟨_, rfl⟩
      obtain ⟨a, rfl⟩ := ea
      cases rv
      obtain ⟨v', z, U, rz, rr, sub, run⟩ := dict_item (E := X.xe) hu I r1 hk r2 ru hg'
      exact subscriptTail_builtinR (x := z) (dict_typeIs I r1) PySem.F.slot_dict_getitem.lookup (run (fun r s' => r = z ∧ EP X pins σ Q r s') fun s' I' => ⟨rfl, v', H, I', rz, hq v' U rr (by
        cases r1 <;> exact sub)⟩) hs
    · rw [if_neg hk] at hg'
      cases hg'
  | _ => cases dy <;> cases hg
theorem se_ix (hu : X.A.units + 200 < cLine) (zm : ZMono Z) {xa xb : Expr} {a b : E} {pos : Pos} (ha : PE X xa (tE X C Z a)) (hb : PE X xb (tE X C Z b)) (hs : PlainIx xb) : PE X (.Subscript xa xb pos) (tE X C Z (.ix a b)) := by
  refine ⟨fun pins s σ H Q I h => ?_⟩
  obtain ⟨H0, A0, At, n, ρ, fp, rl, h⟩ := h
  rw [evE, out_bind] at h
  refine Subscript_ (bin2 (f := fun v u => subscriptTail xa xb v u) (R := fun dx dy n2 => Out (lft (ixE dx dy) n2) (fun d n' => ∀ v H' S, Post X At ρ fp (.ix a b) H v d S H' n' → Q v H') (Z At H)) zm ha hb I rl (h.imp (fun x n1 h1 => by rw [out_bind] at h1; exact h1) fun _ _ z => z) fun v u s2 x y dx dy S T H2 n2 I2 rx ry tw q => ?_)
  rw [out_lft] at q
  obtain ⟨d, hd, q⟩ := q
  refine v_ix hu xa xb pins s2 σ H2 x y v u dx dy d S T Q I2 rx ry tw.r1 tw.r2 hd (hs _ _) fun z U r sub => ?_
  exact q z H2 U (.mk' r tw.pres tw.rl.cell rfl (fun c hc => tw.e1 c (sub c hc)) fun z => by cases z)
theorem se_neg {xa : Expr} {a : E} {pos : Pos} (ha : PE X xa (tE X C Z a)) : PE X (.UnaryOp .USub xa pos) (tE X C Z (.neg a)) := by
  refine (pe_un un_neg ha).weak fun σ H Q h => ?_
  obtain ⟨H0, A0, At, n, ρ, fp, rl, h⟩ := h
  rw [evE, out_bind] at h
  refine ⟨H0, A0, At, n, ρ, fp, rl, h.imp (fun d n1 h1 v H1 S p => ?_) fun _ _ z => z⟩
  rw [out_lft] at h1
  obtain ⟨d', hd, h1⟩ := h1
  have r := p.rep
  cases r with
  | int i => cases hd; exact ⟨i, rfl, h1 _ H1 [] (.flat (.int _) p.pres p.cell fun z => by cases z)⟩
  | _ => cases hd

/-! ### slices -/
def tEo (X : Cx) (C : Cxt) (Z : ZT) (e : Option E) : TO := fun σ H Q => ∃ H0 A0 At n ρ fp, Rl X H0 A0 At n ρ fp σ H ∧ Out (evO C e ρ n) (fun o n' => ∀ H', Pres At H H' → CellOk At n' H' → Q o H') (Z At H)
theorem so_none : PO X none (tEo X C Z none) := by
  refine ⟨fun pins s σ H Q I h => po_none.run pins s σ H Q I ?_⟩
  obtain ⟨H0, A0, At, n, ρ, fp, rl, h⟩ := h
  exact h H .refl rl.cell
theorem so_some {xa : Expr} {a : E} (ha : PE X xa (tE X C Z a)) : PO X (some xa) (tEo X C Z (some a)) := by
  refine ⟨fun pins s σ H Q I h => (po_some ha).run pins s σ H Q I ?_⟩
  obtain ⟨H0, A0, At, n, ρ, fp, rl, h⟩ := h
  rw [evO, out_bind] at h
  refine ⟨H0, A0, At, n, ρ, fp, rl, h.imp (fun d n1 h1 v H1 S p => ?_) fun _ _ z => z⟩
  rw [out_bind, out_lft] at h1
  obtain ⟨i, e, h1⟩ := h1
  have r := p.rep
  cases r with
  | int j => cases e; exact ⟨_, rfl, h1 H1 p.pres p.cell⟩
  | _ => cases e
theorem RepL.cut {vs : List V} {ds : List D} {S : List Addr} (r : RepLX X H vs ds S) (a b : Nat) : ∃ U, RepLX X H ((vs.drop a).take (b - a)) (cutL ds a b) U ∧ ∀ c ∈ U, c ∈ S := by
  obtain ⟨T, h1, q1⟩ := r.drop a
  obtain ⟨U, h2, q2⟩ := h1.take (b - a)
  exact ⟨U, h2, fun c hc => q1 c (q2 c hc)⟩
theorem cutV_eq {xs : List V} {ds : List D} {S : List Addr} {i j : Option Int} (r : RepLX X H xs ds S) : cutV xs i j = (xs.drop (HT.sIx ds.length 0 i)).take (HT.sIx ds.length ds.length j - HT.sIx ds.length 0 i) := by
  unfold cutV
  rw [r.length]
theorem txt_cut {x : Str} (h : TxtOk x) (a b : Nat) : TxtOk ⟨(cutL x.cps.toList a b).toArray⟩ := by
  have h1 : x.cps.size ≤ sizeLine := h.1
  refine ⟨?_, ?_⟩
  · show ((cutL x.cps.toList a b).toArray).size ≤ _
    rw [List.size_toArray]
    unfold cutL
    rw [List.length_take, List.length_drop, Array.length_toList]
    omega
  · have h2 : x.cps.all (· < 0x110000) = true := h.2
    rw [← Array.all_toList, List.all_eq_true] at h2
    show ((cutL x.cps.toList a b).toArray).all _ = true
    rw [List.all_toArray, List.all_eq_true]
    intro c hc
    exact h2 c (List.mem_of_mem_drop (List.mem_of_mem_take hc))
theorem se_sl (zm : ZMono Z) {xa : Expr} {a : E} {lo hi : Option Expr} {l h : Option E} {pos p2 : Pos} (ha : PE X xa (tE X C Z a)) (hl : PO X lo (tEo X C Z l)) (hh : PO X hi (tEo X C Z h)) : PE X (.Subscript xa (.Slice lo hi none p2) pos) (tE X C Z (.sl a l h)) := by
  refine (pe_slice (sl_list.or (sl_tupA.or sl_str)) ha hl hh).weak fun σ H Q q => ?_
  obtain ⟨H0, A0, At, n, ρ, fp, rl, q⟩ := q
  rw [evE, out_bind] at q
  refine ⟨H0, A0, At, n, ρ, fp, rl, q.imp (fun d n1 q1 v H1 S p => ?_) fun _ _ z => z⟩
  rw [out_bind] at q1
  have rl1 := rl.next p.pres p.cell
  refine ⟨H0, A0, At, n1, ρ, fp, rl1, q1.imp (fun i n2 q2 H2 p2 c2 => ?_) fun e k z => zm _ _ _ _ _ p.pres z⟩
  rw [out_bind] at q2
  refine ⟨H0, A0, At, n2, ρ, fp, rl1.next p2 c2, q2.imp (fun j n3 q3 H3 p3 c3 => ?_) fun e k z => zm _ _ _ _ _ (p.pres.trans p2) z⟩
  rw [out_lft] at q3
  obtain ⟨d', hd, q1⟩ := q3
  have pp : Pres At H1 H3 := p2.trans p3
  have rep : RepX X H3 v d S := Rep.step p.rep p.cell pp (rl.avoid p.from_)
  have pf := p.pres.trans pp
  have cl : ∀ {U : List Addr}, (∀ c ∈ U, H3 c = none ∨ c ∈ elems d S) → ∀ c ∈ U, H c = none ∨ Reach ρ fp (E.sl a l h).esc (E.sl a l h).al c := fun hU c hc => (hU c hc).elim (fun z => .inl (pf.trk c z)) fun z => p.elem c z
  cases rep with
  | @lst b xs ds S r1 r2 =>
    refine .inl ⟨b, xs, rfl, .inl r1, fun q hq => ?_⟩
    have e : d' = .list (cutL ds (HT.sIx ds.length 0 i) (HT.sIx ds.length ds.length j)) := by cases i <;> cases j <;> exact (Option.some.inj hd).symm
    subst e
    obtain ⟨U, rU, sU⟩ := r2.cut (HT.sIx ds.length 0 i) (HT.sIx ds.length ds.length j)
    have sm := same_new (o := .lst (cutV xs i j)) hq
    refine q1 _ _ (q :: U) (.mk' (.lst (.inl upd_same) ?_) (pf.trans (.same sm)) (c3.same sm) rfl (cl fun c hc => ?_) fun z => by cases z)
    · have g := RepL.same rU sm
      rw [← cutV_eq r2] at g
      exact g
    · rcases List.mem_cons.mp hc with rfl | hc
      · exact .inl hq
      · exact .inr (sU c hc)
  | @tup b xs ds S r1 r2 =>
    have e : d' = .tuple (cutL ds (HT.sIx ds.length 0 i) (HT.sIx ds.length ds.length j)) := by cases i <;> cases j <;> exact (Option.some.inj hd).symm
    subst e
    refine .inr (.inl ⟨b, xs, rfl, r1, fun hw => ?_, fun hw q hq => ?_⟩)
    · rw [r2.length] at hw
      have e : cutL ds (HT.sIx ds.length 0 i) (HT.sIx ds.length ds.length j) = ds := by
        unfold cutL
        rw [hw.1, hw.2]; simp
      rw [e] at q1
      exact q1 _ H3 S (.mk' (.tup r1 r2) pf c3 rfl (cl fun c hc => .inr hc) fun z => by cases z)
    · obtain ⟨U, rU, sU⟩ := r2.cut (HT.sIx ds.length 0 i) (HT.sIx ds.length ds.length j)
      have sm := same_new (o := .tup (cutV xs i j)) hq
      refine q1 _ _ U (.mk' (.tup (.inl (.inl upd_same)) ?_) (pf.trans (.same sm)) (c3.same sm) rfl (cl fun c hc => .inr (sU c hc)) fun z => by cases z)
      have g := RepL.same rU sm
      rw [← cutV_eq r2] at g
      exact g
  | str x hx =>
    have e : d' = .str ⟨(cutL x.cps.toList (HT.sIx x.length 0 i) (HT.sIx x.length x.length j)).toArray⟩ := by cases i <;> cases j <;> exact (Option.some.inj hd).symm
    subst e
    exact .inr (.inr ⟨x, rfl, hx.1, q1 _ H3 [] (.flat (.str _ (txt_cut hx _ _)) pf c3 fun z => by cases z)⟩)
  | _ => cases hd
/-- a op b op2 c -/
theorem se_cmp2 {o1 o2 : Cp} {op1 op2 : CmpOp} {xa xb xc : Expr} {a b c : E} {pos : Pos} (zm : ZMono Z) (h1 : VCp X (compareOp op1) (cpE o1)) (h2 : VCp X (compareOp op2) (cpE o2)) (ha : PE X xa (tE X C Z a)) (hb : PE X xb (tE X C Z b)) (hc : PE X xc (tE X C Z c))
    (hm : lastMarks [op1, op2] [xb, xc] = false) : PE X (.Compare xa [op1, op2] [xb, xc] pos) (tE X C Z (.cmp2 o1 o2 a b c)) := by
  refine ⟨fun pins s σ H Q I h => ?_⟩
  obtain ⟨H0, A0, At, n, ρ, fp, rl, h⟩ := h
  rw [evE, out_bind] at h
  refine Compare_chain (un1 ha I rl h fun v s1 x dx S H1 n1 I1 rx on q => ?_) hm
  rw [out_bind] at q
  refine chain_link (un1 hb I1 on.rl (q.imp (fun _ _ z => z) fun e k z => zm _ _ _ _ _ on.p.pres z) fun u s2 y dy T H2 n2 I2 ry on2 q2 => ?_)
  rw [out_bind, out_lft] at q2
  obtain ⟨r1, e1, q2⟩ := q2
  have r2x : RepX X H2 x dx S := Rep.step on.p.rep on.p.cell on2.p.pres (rl.avoid on.p.from_)
  have p02 := on.p.pres.trans on2.p.pres
  refine thn (h1 pins s2 σ H2 x y v u dx dy r1 S T (fun z H3 => z = .bl r1 ∧ H3 = H2) I2 rx ry r2x on2.p.rep e1 ⟨rfl, rfl⟩) fun k s3 hh => ?_
  obtain ⟨z, H3, I3, r3, rfl, rfl⟩ := hh
  cases r3
  refine wpAny_truthy_bool ?_
  rw [out_ite] at q2
  cases r1 with
  | false =>
    rw [if_neg Bool.false_ne_true] at q2
    exact ite_ff ⟨.bl false, H3, I3, rfl, q2 _ H3 [] (.flat (.bl false) p02 on2.p.cell fun z => by cases z)⟩
  | true =>
    rw [if_pos rfl] at q2
    rw [out_bind] at q2
    refine ite_tt (chain_last (un1 hc I3 on2.rl (q2.imp (fun _ _ z => z) fun e k z => zm _ _ _ _ _ p02 z) fun w' s4 z' dz U H4 n4 I4 rz on4 q4 => ?_))
    rw [out_bind, out_lft] at q4
    obtain ⟨r4, e4, q4⟩ := q4
    have ry4 : RepX X H4 y dy T := Rep.step on2.p.rep on2.p.cell on4.p.pres (on.rl.avoid on2.p.from_)
    exact h2 pins s4 σ H4 y z' u w' dy dz r4 T U Q I4 ry rz ry4 on4.p.rep e4 (q4 _ H4 [] (.flat (.bl r4) (p02.trans on4.p.pres) on4.p.cell fun z => by cases z))
end
end MP

/-! MPG: the layer's promise of a def, asked only where no guard of repr stands around; exceptions may leave (CX). -/
namespace MP
open PySem PySem.Spec L2
open PyProof.Rows hiding St

/-- room on the stack, and no guard of repr around -/
structure RoomG (k : Nat) (A : Around) : Prop where
  r : Room k A
  g : A.guards = some []
theorem RoomG.mono {j k : Nat} {A : Around} (h : RoomG k A) (hj : j ≤ k) : RoomG j A := ⟨h.r.mono hj, h.g⟩
theorem RoomG.down {k : Nat} {A : Around} (h : RoomG (k + 1) A) (env : Env) : RoomG k (A.deeper env) := ⟨h.r.deeper env, h.g⟩
structure FnG (P : Program) (w : World) (K : PySem.W.Frag) (mg : Str → Option Value) (base : Heap) (k : Nat) (f : Addr) (fd : FuncData) (ps : List Str) (sp : Sp) : Prop where
  lens : ∀ vs H Q E, sp vs H Q E → vs.length = ps.length
  runs : ∀ (A : Around) (fr : List Env) (t : Shared) (H : Hp) (args : Args) (us : List Value) (vs : List V) (Q : VK) (E : XK), RoomG k A → Env0 P w K mg base A fr t H → BindsTo t fd args (ps.zip us) → Vals vs us → sp vs H Q E →
    codeAny (model P w) A (.call (.ref f) args) (CR (CX P w) fr P w H t Q E) t
/-- what a flow that leaves the body means for the caller -/
theorem ce_flow {P : Program} {w : World} {K : PySem.W.Frag} {mg : Str → Option Value} {base : Heap} {N : List Str} {qual : Str} {scope : Scope} {f : Addr} {cd : Value} {A : Around} {fr : List Env} {t t' : Shared} {H H' : Hp} {Q : VK} {E : XK} {τ : L2.St} {v : V} {u : Value}
    (J : Inv (cxOf (CX P w) P w K mg base N qual scope f cd A fr t H E) [] τ H' t') (rv : RelV v u) (q : Q v H') : CE fr P w H t Q u t' := ⟨v, H', J.os, J.bare, J.base, J.hok, rv, q⟩
theorem fng_of {P : Program} {w : World} {K : PySem.W.Frag} {mg : Str → Option Value} {base : Heap} {k : Nat} {f : Addr} {nm qual : Str} {params : Arguments} {body : List Stmt} {scope : Scope} {dV kV doc pm cd ct oc : Value} {an od : Option Addr} {osl : Array (Option Value)} {N ps : List Str} {sp : Sp}
    (look : K.lookup f = some ⟨oc, od, .func (PySem.W.fnOf nm qual params body scope dV kV doc pm an cd ct), osl⟩) (code : PySem.W.codeIn K cd qual = true) (S : FnScope N ps scope) (lens : ∀ vs H Q E, sp vs H Q E → vs.length = ps.length)
    (bd : ∀ (A : Around) (fr : List Env) (t : Shared) (H : Hp) (vs : List V) (Q : VK) (E : XK), RoomG k (A.deeper (envOfC qual scope t.heap.objs.size f cd)) → sp vs H Q E →
      ∃ T, PSs (cxOf (CX P w) P w K mg base N qual scope f cd A fr t H E) body T ∧ T { nx := fun _ H' => Q .non H', rt := Q } (L2.start N vs) H) :
    FnG P w K mg base (k + 1) f (PySem.W.fnOf nm qual params body scope dV kV doc pm an cd ct) ps sp := by
  refine ⟨lens, ?_⟩
  intro A fr t H args us vs Q E room en bind rel want
  have kin : K.In t.heap := en.mod.kin.keeps fun b o z => (en.bs b o z).1
  have unlim : t.heap.NoLimit := en.mod.nolimit.keeps fun b o z => (en.bs b o z).1
  refine codeAny_call_function room.r.depth (kin _ _ look) rfl S.co S.gen rfl (PySem.W.codeRec_of kin code) (bind _ _ _ _ ?_)
  refine wpAny_newFunctionEnv_cells S.kind (fun ⟨y, z⟩ hy => ?_) fun env henv t1 grown => ?_
  · exact (S.par y (List.of_mem_zip hy).1).imp id fun q => ⟨q, PySem.W.cellsFrom_some _ _ _ (.inl q)⟩
  subst henv
  refine ⟨unlim.keeps grown.toInCall.keep, codeAny_func ?_⟩
  obtain ⟨T, pT, hT⟩ := bd A fr t H vs Q E (room.down _) want
  refine wpAny_mono (pT.run [] t1 (L2.start N vs) H _ (inv_start S room.r.hd en (lens _ _ _ _ want) rel grown) hT) (fun fl t' left => ?_) fun _ _ z => z
  cases fl with
  | next =>
    obtain ⟨τ, H', J, q⟩ := left
    exact ce_flow (v := V.non) (u := Value.none) J rfl q
  | ret u =>
    obtain ⟨v, τ, H', J, rv, q⟩ := left
    exact ce_flow J rv q
  | brk =>
    obtain ⟨_, _, _, z⟩ := left
    exact z.elim
  | cont =>
    obtain ⟨_, _, _, z⟩ := left
    exact z.elim
/-- a call; what is wanted of an exception may speak of the caller's slots -/
def tCallG (sp : Sp) (dvs : List V) (W : WX) (t : TA) : TE := fun σ H Q => t σ H fun vs H1 => sp (vs ++ dvs) H1 Q fun cls d H' => W cls d σ H'
theorem pe_callG {X : Cx} {k : Nat} {f : Addr} {fd : FuncData} {ps : List Str} {sp : Sp} {dvs : List V} {ds : List Value} {W : WX} {x : Str} {p pos : Pos} {a : Expr} {as : List Expr} {t : TA} (F : FnG X.prog X.w X.K X.mg X.base k f fd ps sp) (room : RoomG k X.A) (hg : Gl X x) (hm : X.mg x = some (.ref f)) (hk : PySem.W.keepIn X.K (.ref f) = true)
    (hb : Binds X.K fd ps ds) (hd : Vals dvs ds) (tk : Takes X W) (ha : PA X (a :: as) t) (hdb : (x == ("__debug__" : Str)) = false := by decide) (he : starEach (a :: as) X.env = (false, eval a X.env) :: starEach as X.env := by rfl) (hpl : (backTo pos (starEach as X.env)).any (·.1) = false := by rfl) :
    PE X (.Call (.Name x p) (a :: as) [] pos) (tCallG sp dvs W t) := by
  constructor
  intro pins s0 σ H Q I0 want
  refine wpAny_Call_Name_kw (ld_glob I0 hg hm (PySem.W.callWith_K (h₀ := X.base) I0.ok.mod.kin hk (thn (ha.run pos pins s0 σ H _ I0 want) fun us s1 ⟨vs, H1, I1, rel, sq⟩ => ⟨I1.kIn, ?_⟩) he hpl) hdb)
  have rel2 : Vals (vs ++ dvs) (us ++ ds) := rel.append hd
  have cnt : (us ++ ds).length = ps.length := rel2.length ▸ F.lens _ _ _ _ sq
  refine wpAny_call (codeAny_mono (F.runs X.A X.stack s1 H1 ⟨us, []⟩ (us ++ ds) (vs ++ dvs) Q _ room I1.env0 (hb s1 us I1.kIn cnt) rel2 sq) fun r s2 out => ?_)
  match r, out with
  | .error e, out => exact tk _ _ (XE.of_call I1 (fun _ _ _ z => z) out)
  | .ok (.ret u), out => exact I1.after out
  | .ok .next, out => exact out.elim
  | .ok .brk, out => exact out.elim
  | .ok .cont, out => exact out.elim
theorem _root_.L2.FunD.okG {P : Program} {w : World} {K : PySem.W.Frag} {mg : Str → Option Value} {base : Heap} {x qual : Str} {params : Arguments} {body : List Stmt} {scope : Scope} {dvs : List V} {kws : List (Str × V)} {f : Addr} {fd : FuncData} {N ps : List Str} {k : Nat} {sp : Sp} (F : FunD K x qual params body scope dvs kws f fd) (S : FnScope N ps scope) (lens : ∀ vs H Q E, sp vs H Q E → vs.length = ps.length)
    (bd : ∀ (cd : Value) (A : Around) (fr : List Env) (t : Shared) (H : Hp) (vs : List V) (Q : VK) (E : XK), RoomG k (A.deeper (envOfC qual scope t.heap.objs.size f cd)) → sp vs H Q E →
      ∃ T, PSs (cxOf (CX P w) P w K mg base N qual scope f cd A fr t H E) body T ∧ T { nx := fun _ H' => Q .non H', rt := Q } (L2.start N vs) H) : FnG P w K mg base (k + 1) f fd ps sp := by
  obtain ⟨oc, od, dV, kV, doc, pm, an, cd, ct, osl, rfl, look, code, _, _⟩ := F.ex
  exact fng_of look code S lens fun A fr t H vs Q E room want => bd cd A fr t H vs Q E room want
end MP

/-! MPCall: arguments, what a def promises, its call. -/
namespace MP
open PySem PySem.Spec L2
open PyProof.Rows hiding St

inductive ArgL (P : Program) (w : World) (K : PySem.W.Frag) (At : Option Addr) (H : Hp) : List V → List Slot → List Addr → Prop
  | nil : ArgL P w K At H [] [] []
  | dat {v : V} {d : D} {S T : List Addr} {vs : List V} {ss : List Slot} : Rep P w K H v d S → ArgL P w K At H vs ss T → ArgL P w K At H (v :: vs) (.p d :: ss) (S ++ T)
  | cell {a : Addr} {T : List Addr} {vs : List V} {ss : List Slot} : At = some a → ArgL P w K At H vs ss T → ArgL P w K At H (.ref a :: vs) (.cell :: ss) T
section
variable {P : Program} {w : World} {K : PySem.W.Frag} {At : Option Addr} {H : Hp}
theorem ArgL.length : ∀ {vs : List V} {ss : List Slot} {S : List Addr}, ArgL P w K At H vs ss S → vs.length = ss.length
  | _, _, _, .nil => rfl
  | _, _, _, .dat _ h => by simp [ArgL.length h]
  | _, _, _, .cell _ h => by simp [ArgL.length h]
theorem ArgL.append : ∀ {vs us : List V} {ss ts : List Slot} {S T : List Addr}, ArgL P w K At H vs ss S → ArgL P w K At H us ts T → ArgL P w K At H (vs ++ us) (ss ++ ts) (S ++ T)
  | _, _, _, _, _, _, .nil, h => h
  | _, _, _, _, _, _, .dat r q, h => by
    rw [List.append_assoc]
    exact .dat r (ArgL.append q h)
  | _, _, _, _, _, _, .cell r q, h => .cell r (ArgL.append q h)
/-- the i-th argument -/
theorem ArgL.get : ∀ {vs : List V} {ss : List Slot} {S : List Addr} {i : Nat} {s : Slot}, ArgL P w K At H vs ss S → ss[i]? = some s → ∃ v T, vs[i]? = some v ∧ (∀ a ∈ T, a ∈ S) ∧
    ((∃ d, s = .p d ∧ Rep P w K H v d T) ∨ (s = .cell ∧ T = [] ∧ ∃ a, At = some a ∧ v = .ref a))
  | _, _, _, _, _, .nil, h => by simp at h
  | _, _, _, 0, _, .dat (d := d) r _, h => by
    simp only [List.getElem?_cons_zero, Option.some.injEq] at h
    exact ⟨_, _, rfl, fun a ha => List.mem_append_left _ ha, .inl ⟨d, h.symm, r⟩⟩
  | _, _, _, 0, _, .cell (a := a) e _, h => by
    simp only [List.getElem?_cons_zero, Option.some.injEq] at h
    exact ⟨_, [], rfl, (fun _ h => nomatch h), .inr ⟨h.symm, rfl, a, e, rfl⟩⟩
  | _, _, _, i + 1, _, .dat _ q, h => by
    obtain ⟨v, T, e, sub, r⟩ := ArgL.get (i := i) q (by simpa using h)
    exact ⟨v, T, by simpa using e, fun a ha => List.mem_append_right _ (sub a ha), r⟩
  | _, _, _, i + 1, _, .cell _ q, h => by
    obtain ⟨v, T, e, sub, r⟩ := ArgL.get (i := i) q (by simpa using h)
    exact ⟨v, T, by simpa using e, sub, r⟩
end
/-- what a def promises: what the evaluator gives -/
def spF (P : Program) (w : World) (K : PySem.W.Frag) (mg : Str → Option Value) (k : Nat) (F : List Slot → M D) : Sp := fun vs H Q E => ∃ (ss : List Slot) (S : List Addr) (At : Option Addr) (n : Option Int),
  ss.length = k ∧ ArgL P w K At H vs ss S ∧ CellOk At n H ∧ (∀ a ∈ S, At ≠ some a) ∧
  Out (F ss n) (fun d n' => ∀ v H' T, Rep P w K H' v d T → Pres At H H' → CellOk At n' H' → (∀ a ∈ T, H a = none ∨ a ∈ S) → Q v H') (fun e n' => ∀ cls d H', ExR P w K mg H' e cls d → Pres At H H' → CellOk At n' H' → E cls d H')

section
variable {X : Cx} {C : Cxt} {Z : ZT} {H0 H H' : Hp} {A0 : Addr → Prop} {At : Option Addr} {n n' : Option Int} {ρ : Ev} {fp : Nat → List Addr} {σ : L2.St}
theorem ArgL.step {vs : List V} {ss : List Slot} {S : List Addr} (r : ArgL X.prog X.w X.K At H vs ss S) (c : CellOk At n H) (p : Pres At H H') (hS : ∀ a ∈ S, At ≠ some a) : ArgL X.prog X.w X.K At H' vs ss S := by
  induction r with
  | nil => exact .nil
  | dat r _ ih => exact .dat (Rep.step r c p fun a ha => hS a (List.mem_append_left _ ha)) (ih fun a ha => hS a (List.mem_append_right _ ha))
  | cell e _ ih => exact .cell e (ih hS)
structure PostA (X : Cx) (At : Option Addr) (ρ : Ev) (fp : Nat → List Addr) (es : List E) (H : Hp) (vs : List V) (ss : List Slot) (S : List Addr) (H' : Hp) (n' : Option Int) : Prop where
  rep : ArgL X.prog X.w X.K At H' vs ss S
  pres : Pres At H H'
  cell : CellOk At n' H'
  from_ : ∀ a ∈ S, H a = none ∨ Reach ρ fp (escL es) (alL es) a
def tAs (X : Cx) (C : Cxt) (Z : ZT) (es : List E) : TA := fun σ H Q => ∃ H0 A0 At n ρ fp, Rl X H0 A0 At n ρ fp σ H ∧ Out (evAs C es ρ n) (fun ss n' => ∀ vs H' S, PostA X At ρ fp es H vs ss S H' n' → Q vs H') (Z At H)
def isCellv : E → Bool
  | .cellv _ => true
  | _ => false
theorem sa_nil : PA X [] (tAs X C Z []) := by
  refine pa_nil.weak fun σ H Q h => ?_
  obtain ⟨H0, A0, At, n, ρ, fp, rl, h⟩ := h
  exact h [] H [] ⟨.nil, .refl, rl.cell, fun _ h => nomatch h⟩
theorem evAs_dat {e : E} {es : List E} (he : isCellv e = false) : evAs C (e :: es) ρ = (evE C e ρ >>= fun x => evAs C es ρ >>= fun xs => pure (Slot.p x :: xs)) := by
  have assoc : ∀ {α β γ : Type} (m : M α) (f : α → M β) (g : β → M γ), (m >>= f) >>= g = m >>= fun a => f a >>= g := by
    intro α β γ m f g
    funext n
    show M.bind (M.bind m f) g n = M.bind m (fun a => M.bind (f a) g) n
    unfold M.bind
    cases m n <;> rfl
  rw [evAs, assoc]
  · rfl
  · intro i q
    subst q
    cases he
theorem sa_cons (zm : ZMono Z) {x : Expr} {xs : List Expr} {e : E} {es : List E} (hx : PE X x (tE X C Z e)) (he : isCellv e = false) (hs : PA X xs (tAs X C Z es)) (hst : starEach (x :: xs) X.env = (false, eval x X.env) :: starEach xs X.env) : PA X (x :: xs) (tAs X C Z (e :: es)) := by
  refine (pa_cons hx hs hst).weak fun σ H Q h => ?_
  obtain ⟨H0, A0, At, n, ρ, fp, rl, h⟩ := h
  rw [evAs_dat he, out_bind] at h
  refine ⟨H0, A0, At, n, ρ, fp, rl, h.imp (fun d n1 h1 v H1 S p => ?_) fun _ _ z => z⟩
  rw [out_bind] at h1
  refine ⟨H0, A0, At, n1, ρ, fp, rl.next p.pres p.cell, h1.imp (fun ds n2 h2 vs H2 T q => ?_) fun e k z => zm _ _ _ _ _ p.pres z⟩
  refine h2 (v :: vs) H2 (S ++ T) ⟨.dat (Rep.step p.rep p.cell q.pres (rl.avoid p.from_)) q.rep, p.pres.trans q.pres, q.cell, fun c hc => ?_⟩
  rcases List.mem_append.mp hc with hc | hc
  · exact (p.from_ c hc).imp id fun z => z.mono (fun i hi => by show i ∈ _ ++ _; exact List.mem_append_left _ hi) fun i hi => by show i ∈ _ ++ _; exact List.mem_append_left _ hi
  · exact (q.from_ c hc).imp (p.pres.trk c) fun z => z.mono (fun i hi => by show i ∈ _ ++ _; exact List.mem_append_right _ hi) fun i hi => by show i ∈ _ ++ _; exact List.mem_append_right _ hi
/-- the counter handed on -/
theorem sa_cell {i : Nat} {x : Str} {p : Pos} {xs : List Expr} {es : List E} (hN : X.N[i]? = some x) (hv : Vis X.env.scope x) (hd : (x == ("__debug__" : Str)) = false) (hcd : (x == ("__classdict__" : Str)) = false)
    (hs : PA X xs (tAs X C Z es)) (hst : starEach (.Name x p :: xs) X.env = (false, eval (.Name x p) X.env) :: starEach xs X.env) : PA X (.Name x p :: xs) (tAs X C Z (.cellv i :: es)) := by
  refine (pa_cons (pe_var hN hv hd hcd) hs hst).weak fun σ H Q h => ?_
  obtain ⟨H0, A0, At, n, ρ, fp, rl, h⟩ := h
  rw [evAs, out_bind] at h
  have h : Out (lft (match getS ρ i with | some .cell => some Slot.cell | _ => none) n) _ _ := h
  rw [out_lft] at h
  obtain ⟨s, e, h⟩ := h
  cases hs : getS ρ i with
  | none => rw [hs] at e; cases e
  | some sl =>
    rw [hs] at e
    cases sl with
    | cell =>
      cases e
      obtain ⟨v, e1, _, a, ea, ev⟩ := rl.slot i _ hs
      rw [out_bind] at h
      refine ⟨v, e1, H0, A0, At, n, ρ, fp, rl, h.imp (fun ds n2 h2 vs H2 T q => ?_) fun _ _ z => z⟩
      subst ev
      exact h2 (.ref a :: vs) H2 T ⟨.cell ea q.rep, q.pres, q.cell, q.from_⟩
    | _ => cases e
theorem se_call {i k kl : Nat} {f : Addr} {fd : FuncData} {ps : List Str} {x : Str} {p pos : Pos} {xe : Expr} {xes : List Expr} {e : E} {es : List E} {dvs : List V} {dds : List Value} {dl : List D}
    (F : FnG X.prog X.w X.K X.mg X.base kl f fd ps (spF X.prog X.w X.K X.mg k (C.call i))) (hr : RoomG kl X.A) (hg : Gl X x) (hm : X.mg x = some (.ref f)) (hk : PySem.W.keepIn X.K (.ref f) = true) (hb : Binds X.K fd ps dds) (hd : Vals dvs dds)
    (hrd : ∀ H, RepLX X H dvs dl []) (hc : ∀ ss n, ss.length = (e :: es).length → C.call i ss n = C.call i (ss ++ dl.map Slot.p) n) (hlen : (e :: es).length + dl.length = k) (ha : PA X (xe :: xes) (tAs X C (ZX X) (e :: es))) (hdb : (x == ("__debug__" : Str)) = false)
    (he : starEach (xe :: xes) X.env = (false, eval xe X.env) :: starEach xes X.env) (hpl : (backTo pos (starEach xes X.env)).any (·.1) = false) : PE X (.Call (.Name x p) (xe :: xes) [] pos) (tE X C (ZX X) (.call i (e :: es))) := by
  refine (pe_callG F hr hg hm hk hb hd (wxx_takes X) ha hdb he hpl).weak fun σ H Q h => ?_
  obtain ⟨H0, A0, At, n, ρ, fp, rl, h⟩ := h
  rw [evE, out_bind] at h
  have hl : ∀ {es : List E} {n k : Option Int} {ss : List Slot}, evAs C es ρ n = .ok ss k → ss.length = es.length := by
    intro es
    induction es with
    | nil => intro n k ss q; rw [evAs] at q; cases q; rfl
    | cons e es ih =>
      intro n k ss q
      by_cases hc : isCellv e = false
      · rw [evAs_dat hc] at q
        obtain ⟨a, n1, _, q⟩ := bind_ok q
        obtain ⟨b, n2, h2, q⟩ := bind_ok q
        cases q
        rw [List.length_cons, List.length_cons, ih h2]
      · cases e <;> first | (exact absurd rfl hc) | skip
        rw [evAs] at q
        obtain ⟨a, n1, _, q⟩ := bind_ok q
        obtain ⟨b, n2, h2, q⟩ := bind_ok q
        cases q
        rw [List.length_cons, List.length_cons, ih h2]
  have h' : Out (evAs C (e :: es) ρ n) (fun ss n1 => ss.length = (e :: es).length ∧ Out (C.call i ss n1) (fun d n' => ∀ v H' S, Post X At ρ fp (.call i (e :: es)) H v d S H' n' → Q v H') (ZX X At H)) (ZX X At H) := by
    cases hq : evAs C (e :: es) ρ n with
    | ok ss n1 => rw [hq] at h; exact ⟨hl hq, h⟩
    | exc _ _ => rw [hq] at h; exact h
    | bad => rw [hq] at h; exact h
  refine ⟨H0, A0, At, n, ρ, fp, rl, h'.imp (fun ss n1 h1 vs H1 S pa => ?_) fun _ _ z => z⟩
  obtain ⟨hsl, h1⟩ := h1
  have av := rl.avoid pa.from_
  have dArg : ArgL X.prog X.w X.K At H1 dvs (dl.map Slot.p) [] := by
    have go : ∀ {vs : List V} {ds : List D} {S : List Addr}, RepLX X H1 vs ds S → ArgL X.prog X.w X.K At H1 vs (ds.map Slot.p) S := by
      intro vs ds S r
      induction ds generalizing vs S with
      | nil => cases r; exact .nil
      | cons d ds ih => cases r with
        | cons r rs => exact .dat r (ih rs)
    exact go (hrd H1)
  have aa := pa.rep.append dArg
  rw [List.append_nil] at aa
  refine ⟨ss ++ dl.map Slot.p, S, At, n1, by rw [List.length_append, List.length_map, hsl]; exact hlen, aa, pa.cell, av, ?_⟩
  rw [← hc ss n1 hsl]
  cases hq : C.call i ss n1 with
  | bad => rw [hq] at h1; exact h1
  | exc e k =>
    rw [hq] at h1
    exact fun cls d H' ex p c => h1 At cls d H' .refl ex (pa.pres.trans p) c
  | ok d n2 =>
    rw [hq] at h1
    intro v H2 T r pr cl fr
    refine h1 v H2 T (.mk' r (pa.pres.trans pr) cl rfl (fun c hc => ?_) fun z => by cases z)
    rcases fr c hc with q | q
    · exact .inl (pa.pres.trk c q)
    · exact pa.from_ c q
end
end MP

/-! MPWalk: what is walked, told by its data. -/
namespace MP
open PySem PySem.Spec L2
open PyProof.Rows hiding St

/-! ### the view of a heap: locked or not -/
def NoF (u : HO) : Prop := ∀ o' u', u ≠ .frz o' u'
theorem nf_lst {xs : List V} : NoF (.lst xs) := fun _ _ z => nomatch z
theorem nf_tup {xs : List V} : NoF (.tup xs) := fun _ _ z => nomatch z
theorem nf_dk {xs : List (Key × V)} : NoF (.dK xs) := fun _ _ z => nomatch z
theorem nf_ext {φ : Heap → Prop} : NoF (.ext φ) := fun _ _ z => nomatch z
def Vw (H H' : Hp) : Prop := ∀ b u, NoF u → Rd H b u → Rd H' b u
section
variable {P : Program} {w : World} {K : PySem.W.Frag} {H H' : Hp}
mutual
theorem Rep.view (k : Vw H H') : ∀ {v : V} {d : D} {S : List Addr}, Rep P w K H v d S → Rep P w K H' v d S
  | _, _, _, .non => .non
  | _, _, _, .bl b => .bl b
  | _, _, _, .int i => .int i
  | _, _, _, .str x h => .str x h
  | _, _, _, .lst h r => .lst (k _ _ nf_lst h) (RepL.view k r)
  | _, _, _, .tup h r => .tup (h.imp (k _ _ nf_tup) id) (RepL.view k r)
  | _, _, _, .dk h e z n r => .dk (k _ _ nf_dk h) e z n (RepL.view k r)
  | _, _, _, .dt h z l rk e n q rv r => .dt (k _ _ nf_ext h) z l (RepL.view k rk) e n q rv (RepL.view k r)
theorem RepL.view (k : Vw H H') : ∀ {vs : List V} {ds : List D} {S : List Addr}, RepL P w K H vs ds S → RepL P w K H' vs ds S
  | _, _, _, .nil => .nil
  | _, _, _, .cons r rs => .cons (Rep.view k r) (RepL.view k rs)
end
theorem Vw.lock {a : Addr} {u : HO} {od : Obj} (h : H a = some u) (hu : NoF u) : Vw H (upd H a (.frz od u)) := fun b x hx r => by
  by_cases e : b = a
  · subst e
    rcases r with r | ⟨o, r⟩
    · rw [h] at r; cases r
      exact .inr ⟨od, by rw [upd_same]⟩
    · rw [h] at r; cases r
      exact absurd rfl (hu _ _)
  · rcases r with r | ⟨o, r⟩
    · exact .inl (by rw [upd_ne e]; exact r)
    · exact .inr ⟨o, by rw [upd_ne e]; exact r⟩
theorem Vw.unlock {a : Addr} {u : HO} {od : Obj} (h : H a = some (.frz od u)) : Vw H (upd H a u) := fun b x hx r => by
  by_cases e : b = a
  · subst e
    rcases r with r | ⟨o, r⟩
    · rw [h] at r; cases r
      exact absurd rfl (hx _ _)
    · rw [h] at r; cases r
      exact .inl (by rw [upd_same])
  · rcases r with r | ⟨o, r⟩
    · exact .inl (by rw [upd_ne e]; exact r)
    · exact .inr ⟨o, by rw [upd_ne e]; exact r⟩
end

/-! ### an iterator told by the library's GoesN -/
def Jd (n : Nat) (Sr : Hp → Prop) (Y : Nat → Hp → V → Hp → Prop) : L2.It := ⟨fun i H => i < n ∧ Sr H, fun i H x H' => Y i H x H', fun i H => i = n ∧ Sr H⟩
structure GnOk (P : Program) (w : World) (K : PySem.W.Frag) (tg : Expr) (fp : List Addr) (it : Addr) (n : Nat) (StI : Nat → Heap → Prop) (Sr : Hp → Prop) (Y : Nat → Hp → V → Hp → Prop) : Prop where
  mem : it ∈ fp
  obj : ∀ i h, StI i h → ∀ b ∈ fp, ∃ o, h.get? b = some o ∧ ∀ v, o.data ≠ .cell v
  keep : ∀ i h h', StI i h → (∀ b ∈ fp, ∀ o, h.get? b = some o → h'.get? b = some o) → StI i h'
  self : ∀ (A : Around) (i : Nat) (s : Shared) (Q : Value → Shared → Prop) (E : Value → Shared → Prop), StI i s.heap → Q (.ref it) s → wpAny (model P w) A (pyIter (.ref it)) Q E s
  go : ∀ (X : Cx), X.prog = P → X.w = w → X.K = K → X.calm = true → ∀ (pins : List (Addr × Obj)) (s : Shared) (σ : L2.St) (H : Hp), Inv X pins σ H s → Sr H →
    ∃ (fpA wr : List Addr) (Yv : Nat → Heap → Value → Heap → Prop) (St : Nat → Heap → Prop), GoesN P w X.A tg it fpA wr n Yv St ∧ (∀ b ∈ wr, b ∈ fp) ∧ (∀ i, StI i s.heap → St i s.heap) ∧ (∀ i h, St i h → StI i h) ∧
      ∀ i v h', i < n → Yv i s.heap v h' → (∃ x, RelV x v ∧ Y i H x H) ∨ ∃ (T : Addr) (vs : List V) (us : List Value), v = .ref T ∧ s.heap.objs.size ≤ T ∧ h'.IsTuple T us.toArray ∧ Vals vs us ∧ vs.length ≤ sizeLine ∧ Y i H (.ref T) (upd H T (.tup vs))
theorem GnOk.turn {P : Program} {w : World} {K : PySem.W.Frag} {tg : Expr} {fp : List Addr} {it : Addr} {n : Nat} {StI : Nat → Heap → Prop} {Sr : Hp → Prop} {Y : Nat → Hp → V → Hp → Prop} (G : GnOk P w K tg fp it n StI Sr Y) :
    Turn P w K tg (Jd n Sr Y) fp it StI where
  mem := G.mem
  obj := G.obj
  keep := G.keep
  self := G.self
  item := by
    intro X hP hw hK hc i pins s σ H E I hf st hg
    obtain ⟨fpA, wr, Yv, St, W, wf, to, of, y⟩ := G.go X hP hw hK hc pins s σ H I hg.2
    subst hP hw hK
    refine W.goes i s _ E hg.1 (to i st) fun v h' tk hy st' kk _ => ?_
    have lt : ∀ b ∈ fp, b < s.heap.objs.size := fun b hb => by
      obtain ⟨o, e, _⟩ := G.obj i _ st b hb
      exact Heap.lt_size e
    rcases y i v h' hg.1 hy with ⟨x, r, q⟩ | ⟨T, vs, us, ev, hT, ht, rv, hz, q⟩
    · exact ⟨x, H, I.turnedL (ch := wr) kk (fun b hb => hf b (wf b hb)), r, q, of _ _ st', fun b hb => (hf b hb).1⟩
    · subst ev
      refine ⟨.ref T, _, I.turnedNew (ch := wr) (ob := .tup vs) kk (fun b hb => hf b (wf b hb)) hT ⟨hz, us, rv, ht⟩, rfl, q, of _ _ st', fun b hb => ?_⟩
      rw [upd_ne (Nat.ne_of_lt (Nat.lt_of_lt_of_le (lt b hb) hT))]
      exact (hf b hb).1
  done := by
    intro X hP hw hK hc i pins s σ H E I hf st hg
    obtain ⟨fpA, wr, Yv, St, W, wf, to, of, y⟩ := G.go X hP hw hK hc pins s σ H I hg.2
    subst hP hw hK
    obtain ⟨e, _⟩ := hg
    subst e
    refine W.stops s _ E (to _ st) fun h' tk kk _ => ?_
    exact I.turnedL (ch := wr) kk (fun b hb => hf b (wf b hb))

/-! ### what is given, by the data -/
def YD (P : Program) (w : World) (K : PySem.W.Frag) (xs : List D) (T : List Addr) : Nat → Hp → V → Hp → Prop := fun i H v H' => Same H H' ∧ ∃ d U, xs[i]? = some d ∧ Rep P w K H' v d U ∧ ∀ a ∈ U, a ∈ T
theorem same_upd {H : Hp} {T : Addr} {o : HO} (h : H T = none) : Same H (upd H T o) := fun b u e => by
  rw [upd_ne (fun z => by rw [z, h] at e; cases e)]; exact e
/-- the iterator over it, at turn i -/
def stI : D → Value → Addr → Nat → Heap → Prop
  | .list _, .ref a => fun it i h => h.IsListIter it a i
  | .tuple _, .ref a => fun it i h => h.IsTupleIter it a i
  | .str x, .str _ t => fun it i h => h.IsStrIter it (strIterType x) x t i
  | _, _ => fun _ _ _ => False
def fpS : D → Value → List Addr
  | .list _, .ref a => [a]
  | .tuple _, .ref a => [a]
  | _, _ => []
def objI : D → Value → Obj
  | .list _, .ref a => { cls := .type "list_iterator", data := .fields #[.ref a, .int 0 0] }
  | .tuple _, .ref a => { cls := .type "tuple_iterator", data := .fields #[.ref a, .int 0 0] }
  | .str x, v => { cls := .type (strIterType x), data := .fields #[v, .int 0 0] }
  | _, _ => { cls := .type "list_iterator", data := .fields #[] }
section
variable {X : Cx} {pins : List (Addr × Obj)} {σ : L2.St} {H : Hp} {s : Shared} {x : V} {v : Value} {d : D} {S : List Addr} {xs : List D}
theorem stI_obj {it : Addr} {i : Nat} {h : Heap} (st : stI d v it i h) : ∃ o, h.get? it = some o ∧ ∀ c, o.data ≠ .cell c := by
  cases d <;> cases v <;> first | exact st.elim | skip
  all_goals
    obtain ⟨o, e, c, dd⟩ := st
    exact ⟨o, e, fun v z => by rw [dd] at z; cases z⟩
theorem stI_keep {it : Addr} {i : Nat} {h h' : Heap} (st : stI d v it i h) (k : ∀ o, h.get? it = some o → h'.get? it = some o) : stI d v it i h' := by
  cases d <;> cases v <;> first | exact st.elim | skip
  all_goals
    obtain ⟨o, e, c⟩ := st
    exact ⟨o, k o e, c⟩
/-- it begins -/
theorem seq_begins (I : Inv X pins σ H s) (r : RelV x v) (rep : RepX X H x d S) (hx : seqE d = some xs) : (∃ Hs, Begins v (objI d v) Hs ∧ Hs s.heap) ∧ (∀ it h, h.get? it = some (objI d v) → stI d v it 0 h) ∧ ∀ b ∈ fpS d v, b < s.heap.objs.size := by
  cases rep with
  | @lst a vs ds S h rr =>
    cases r
    obtain ⟨its, rv, p, hz⟩ := I.list (.inl h)
    refine ⟨⟨_, begins_list a its.toArray, p.isList⟩, fun it h e => ⟨_, e, rfl, rfl⟩, fun b hb => ?_⟩
    obtain rfl : b = a := by simpa [fpS] using hb
    exact p.lt
  | @tup a vs ds S h rr =>
    cases r
    obtain ⟨its, rv, p, hz⟩ := I.tuple h
    refine ⟨⟨_, begins_tuple a its.toArray, p⟩, fun it h e => ⟨_, e, rfl, rfl⟩, fun b hb => ?_⟩
    obtain rfl : b = a := by simpa [fpS] using hb
    obtain ⟨o, e, _⟩ := p
    exact Heap.lt_size e
  | str y hy =>
    obtain ⟨t, rfl⟩ := r
    exact ⟨⟨_, begins_text y t, trivial⟩, fun it h e => ⟨_, e, rfl, rfl⟩, fun b hb => by simp [fpS] at hb⟩
  | _ => cases hx
/-- it draws -/
theorem seq_draws {prog : Program} {w : World} {A : Around} (hh : A.handled = none) {it : Addr} (I : Inv X pins σ H s) (r : RelV x v) (rep : RepX X H x d S) (hx : seqE d = some xs) (hit : ∀ b ∈ fpS d v, b ≠ it) :
    ∃ (P : Nat → Value → Prop) (St : Nat → Heap → Prop), Draws prog w A it (it :: fpS d v) xs.length P St ∧ (∀ i, stI d v it i s.heap → St i s.heap) ∧ (∀ i h, St i h → stI d v it i h) ∧
      ∀ i u, P i u → ∃ y dy T, RelV y u ∧ xs[i]? = some dy ∧ RepX X H y dy T ∧ ∀ a ∈ T, a ∈ elems d S := by
  cases rep with
  | @lst a vs ds S h rr =>
    cases r; cases hx
    obtain ⟨its, rv, p, hz⟩ := I.list (.inl h)
    have hne : a ≠ it := hit a (by simp [fpS])
    have D := Draws.list (prog := prog) (w := w) hh it a hne its.toArray
    have el : its.toArray.size = xs.length := by rw [List.size_toArray, ← rv.length]; exact rr.length
    rw [el] at D
    refine ⟨_, _, D, fun i st => ⟨st, p.isList⟩, fun i h st => st.1, fun i u hu => ?_⟩
    have hu : its[i]? = some u := by simpa using hu
    have hi : i < its.length := by
      rcases Nat.lt_or_ge i its.length with q | q
      · exact q
      · rw [List.getElem?_eq_none q] at hu; cases hu
    obtain ⟨y, hy⟩ : ∃ y, vs[i]? = some y := ⟨vs[i]'(by rw [rv.length]; exact hi), by simp [rv.length, hi]⟩
    obtain ⟨u', hu', ru⟩ := rv.get hy
    rw [hu] at hu'; cases hu'
    obtain ⟨dy, T, e1, r1, sub⟩ := rr.getV hy
    exact ⟨y, dy, T, ru, e1, r1, fun b hb => sub b hb⟩
  | @tup a vs ds S h rr =>
    cases r; cases hx
    obtain ⟨its, rv, p, hz⟩ := I.tuple h
    have hne : a ≠ it := hit a (by simp [fpS])
    have D := Draws.tuple (prog := prog) (w := w) hh it a hne its.toArray
    have el : its.toArray.size = xs.length := by rw [List.size_toArray, ← rv.length]; exact rr.length
    rw [el] at D
    refine ⟨_, _, D, fun i st => ⟨st, p⟩, fun i h st => st.1, fun i u hu => ?_⟩
    have hu : its[i]? = some u := by simpa using hu
    have hi : i < its.length := by
      rcases Nat.lt_or_ge i its.length with q | q
      · exact q
      · rw [List.getElem?_eq_none q] at hu; cases hu
    obtain ⟨y, hy⟩ : ∃ y, vs[i]? = some y := ⟨vs[i]'(by rw [rv.length]; exact hi), by simp [rv.length, hi]⟩
    obtain ⟨u', hu', ru⟩ := rv.get hy
    rw [hu] at hu'; cases hu'
    obtain ⟨dy, T, e1, r1, sub⟩ := rr.getV hy
    exact ⟨y, dy, T, ru, e1, r1, fun b hb => sub b hb⟩
  | str y hy =>
    obtain ⟨t, rfl⟩ := r
    cases hx
    have D := Draws.text (prog := prog) (w := w) hh it y t
    have el : y.cps.size = (y.cps.toList.map sgn).length := by simp
    rw [el] at D
    refine ⟨_, _, D, fun i st => st, fun i h st => st, fun i u hu => ?_⟩
    obtain ⟨c, t', e, rfl⟩ := hu
    refine ⟨.str ⟨#[c]⟩, sgn c, [], ⟨t', rfl⟩, ?_, .str _ ⟨?_, ?_⟩, fun a h => nomatch h⟩
    · rw [List.getElem?_map]
      have : y.cps.toList[i]? = some c := by rw [Array.getElem?_toList]; exact e
      rw [this]; rfl
    · show (1 : Nat) ≤ sizeLine
      decide
    · have := hy.2
      unfold PyData.strOk at this ⊢
      rw [Array.all_eq_true] at this
      obtain ⟨hi, e⟩ := Array.getElem?_eq_some_iff.mp e
      have q := this i hi
      rw [e] at q
      simp [q]
  | _ => cases hx
end
end MP

/-! MPGn: the iterators. -/
namespace MP
open PySem PySem.Spec L2
open PyProof.Rows hiding St

section
variable {P : Program} {w : World} {K : PySem.W.Frag} {x : V} {v : Value} {d : D} {S : List Addr} {xs : List D}
theorem stI_self {it : Addr} {A : Around} {i : Nat} {s : Shared} {Q : Value → Shared → Prop} {E : Value → Shared → Prop} (st : stI d v it i s.heap) (h : Q (.ref it) s) : wpAny (model P w) A (pyIter (.ref it)) Q E s := by
  cases d with
  | list _ => cases v <;> first | exact st.elim | exact wpAny_pyIter_listiter st h
  | tuple _ => cases v <;> first | exact st.elim | exact wpAny_pyIter_tupleiter st h
  | str y =>
    cases v with
    | str _ t =>
      have st : s.heap.IsStrIter it (strIterType y) y t i := st
      unfold strIterType at st
      split at st
      · exact wpAny_pyIter_striter_ascii st h
      · exact wpAny_pyIter_striter_wide st h
    | _ => exact st.elim
  | _ => exact st.elim
/-- the library's walk of it, to a target of any form -/
theorem seq_goes {X : Cx} {pins : List (Addr × Obj)} {σ : L2.St} {H : Hp} {s : Shared} {prog : Program} {w : World} {A : Around} {tg : Expr} (hh : A.handled = none) {it : Addr} (I : Inv X pins σ H s) (r : RelV x v) (rep : RepX X H x d S) (hx : seqE d = some xs) (hit : ∀ b ∈ fpS d v, b ≠ it) :
    ∃ (Y : Nat → Value → Heap → Prop) (St : Nat → Heap → Prop), Goes prog w A tg it (it :: fpS d v) [it] xs.length Y St ∧ (∀ i, stI d v it i s.heap → St i s.heap) ∧ (∀ i h, St i h → stI d v it i h) ∧
      ∀ i u h, Y i u h → ∃ y dy T, RelV y u ∧ xs[i]? = some dy ∧ RepX X H y dy T ∧ ∀ a ∈ T, a ∈ elems d S := by
  cases rep with
  | @lst a vs ds S h rr =>
    cases r; cases hx
    obtain ⟨its, rv, p, hz⟩ := I.list (.inl h)
    have hne : a ≠ it := hit a (by simp [fpS])
    have D := Goes.list (prog := prog) (w := w) (target := tg) hh it a hne its.toArray
    have el : its.toArray.size = xs.length := by rw [List.size_toArray, ← rv.length]; exact rr.length
    rw [el] at D
    refine ⟨_, _, D, fun i st => ⟨st, p.isList⟩, fun i h st => st.1, fun i u h' hu => ?_⟩
    have hu : its[i]? = some u := by simpa using hu
    have hi : i < its.length := by
      rcases Nat.lt_or_ge i its.length with q | q
      · exact q
      · rw [List.getElem?_eq_none q] at hu; cases hu
    obtain ⟨y, hy⟩ : ∃ y, vs[i]? = some y := ⟨vs[i]'(by rw [rv.length]; exact hi), by simp [rv.length, hi]⟩
    obtain ⟨u', hu', ru⟩ := rv.get hy
    rw [hu] at hu'; cases hu'
    obtain ⟨dy, T, e1, r1, sub⟩ := rr.getV hy
    exact ⟨y, dy, T, ru, e1, r1, fun b hb => sub b hb⟩
  | @tup a vs ds S h rr =>
    cases r; cases hx
    obtain ⟨its, rv, p, hz⟩ := I.tuple h
    have hne : a ≠ it := hit a (by simp [fpS])
    have D := Goes.tuple (prog := prog) (w := w) (target := tg) hh it a hne its.toArray
    have el : its.toArray.size = xs.length := by rw [List.size_toArray, ← rv.length]; exact rr.length
    rw [el] at D
    refine ⟨_, _, D, fun i st => ⟨st, p⟩, fun i h st => st.1, fun i u h' hu => ?_⟩
    have hu : its[i]? = some u := by simpa using hu
    have hi : i < its.length := by
      rcases Nat.lt_or_ge i its.length with q | q
      · exact q
      · rw [List.getElem?_eq_none q] at hu; cases hu
    obtain ⟨y, hy⟩ : ∃ y, vs[i]? = some y := ⟨vs[i]'(by rw [rv.length]; exact hi), by simp [rv.length, hi]⟩
    obtain ⟨u', hu', ru⟩ := rv.get hy
    rw [hu] at hu'; cases hu'
    obtain ⟨dy, T, e1, r1, sub⟩ := rr.getV hy
    exact ⟨y, dy, T, ru, e1, r1, fun b hb => sub b hb⟩
  | str y hy =>
    obtain ⟨t, rfl⟩ := r
    cases hx
    have D := Goes.text (prog := prog) (w := w) (target := tg) hh it y t
    have el : y.cps.size = (y.cps.toList.map sgn).length := by simp
    rw [el] at D
    refine ⟨_, _, D, fun i st => st, fun i h st => st, fun i u h' hu => ?_⟩
    obtain ⟨c, t', e, rfl⟩ := hu
    refine ⟨.str ⟨#[c]⟩, sgn c, [], ⟨t', rfl⟩, ?_, .str _ ⟨?_, ?_⟩, fun a h => nomatch h⟩
    · rw [List.getElem?_map]
      have : y.cps.toList[i]? = some c := by rw [Array.getElem?_toList]; exact e
      rw [this]; rfl
    · show (1 : Nat) ≤ sizeLine
      decide
    · have := hy.2
      unfold PyData.strOk at this ⊢
      rw [Array.all_eq_true] at this
      obtain ⟨hi, e⟩ := Array.getElem?_eq_some_iff.mp e
      have q := this i hi
      rw [e] at q
      simp [q]
  | _ => cases hx
theorem lt_of_get {α : Type} {l : List α} {i : Nat} {a : α} (h : l[i]? = some a) : i < l.length := by
  rcases Nat.lt_or_ge i l.length with q | q
  · exact q
  · rw [List.getElem?_eq_none q] at h; cases h
/-- a list, a tuple, a text -/
theorem gn_seq {tg : Expr} {it : Addr} (r : RelV x v) (hx : seqE d = some xs) (hit : ∀ b ∈ fpS d v, b ≠ it) : GnOk P w K tg [it] it xs.length (stI d v it) (fun H => Rep P w K H x d S) (YD P w K xs (elems d S)) where
  mem := by simp
  obj := fun i h st b hb => by obtain rfl : b = it := by simpa using hb
                               exact stI_obj st
  keep := fun i h h' st k => stI_keep st (k it (by simp))
  self := fun A i s Q E st h => stI_self st h
  go := by
    intro X hP hw hK hc pins s σ H I rep
    subst hP hw hK
    obtain ⟨Y, St, G, to, of, y⟩ := seq_goes (prog := X.prog) (w := X.w) (tg := tg) (A := X.A) (I.ok.hd hc) I r rep hx hit
    refine ⟨_, [it], _, St, G.toN, fun b hb => hb, to, of, fun i u h' hi hy => ?_⟩
    obtain ⟨y1, dy, T, r1, e1, r2, sub⟩ := y i u h' hy
    exact .inl ⟨y1, r1, fun _ _ e => e, dy, T, e1, r2, sub⟩
theorem enumL_get : ∀ {xs : List D} {k i : Nat} {y : D}, xs[i]? = some y → (enumL k xs)[i]? = some (.tuple [.int ((k + i : Nat) : Int), y])
  | [], _, _, _, h => by simp at h
  | x :: xs, k, 0, y, h => by
    simp only [List.getElem?_cons_zero, Option.some.injEq] at h
    subst h
    simp [enumL]
  | x :: xs, k, i + 1, y, h => by
    simp only [List.getElem?_cons_succ] at h
    simp only [enumL, List.getElem?_cons_succ]
    rw [enumL_get h]
    simp only [Option.some.injEq, PyData.tuple.injEq, List.cons.injEq, PyData.int.injEq, and_true]
    omega
theorem enumL_length : ∀ {xs : List D} {k : Nat}, (enumL k xs).length = xs.length
  | [], _ => rfl
  | x :: xs, k => by simp [enumL, enumL_length]
theorem zipL_get : ∀ {xs ys : List D} {i : Nat} {x y : D}, xs[i]? = some x → ys[i]? = some y → (zipL xs ys)[i]? = some (.tuple [x, y])
  | [], _, _, _, _, h, _ => by simp at h
  | _ :: _, [], _, _, _, _, h => by simp at h
  | a :: xs, b :: ys, 0, x, y, h, h' => by
    simp only [List.getElem?_cons_zero, Option.some.injEq] at h h'
    subst h h'
    simp [zipL]
  | a :: xs, b :: ys, i + 1, x, y, h, h' => by
    simp only [List.getElem?_cons_succ] at h h'
    simp only [zipL, List.getElem?_cons_succ]
    exact zipL_get h h'
theorem zipL_length : ∀ {xs ys : List D}, (zipL xs ys).length = min xs.length ys.length
  | [], ys => by simp [zipL]
  | _ :: _, [] => by simp [zipL]
  | a :: xs, b :: ys => by simp only [zipL, List.length_cons, zipL_length]; omega
/-- a pair just laid -/
theorem rep_pair {H : Hp} {T : Addr} {a b : V} {da db : D} {U1 U2 : List Addr} (h : H T = none) (r1 : Rep P w K H a da U1) (r2 : Rep P w K H b db U2) : Rep P w K (upd H T (.tup [a, b])) (.ref T) (.tuple [da, db]) (U1 ++ (U2 ++ [])) := by
  have m : ∀ {v : V} {d : D} {S : List Addr}, Rep P w K H v d S → Rep P w K (upd H T (.tup [a, b])) v d S := fun r =>
    Rep.mono (A := fun _ => False) (fun b o e _ => same_upd h b o e) (fun _ z => z.elim) r fun _ _ z => z
  exact .tup (.inl (.inl (by rw [upd_same]))) (.cons (m r1) (.cons (m r2) .nil))
/-- enumerate -/
theorem gn_enum {elts : List Expr} {kk : Nat} {tpos : Pos} {e it : Addr} (r : RelV x v) (hx : seqE d = some xs) (hit : ∀ b ∈ fpS d v, b ≠ it ∧ b ≠ e) (hei : e ≠ it) :
    GnOk P w K (.Tuple elts kk tpos) [e, it] e (enumL 0 xs).length (fun i h => (∃ old, IsEnum h e it ((0 : Int) + (i : Int)) old) ∧ stI d v it i h) (fun H => Rep P w K H x d S) (YD P w K (enumL 0 xs) (elems d S)) where
  mem := by simp
  obj := fun i h st b hb => by
    obtain ⟨⟨old, he⟩, st⟩ := st
    have e' : b = e ∨ b = it := by simpa using hb
    rcases e' with z | z
    · rw [z]; exact ⟨_, he, fun v q => nomatch q⟩
    · rw [z]; exact stI_obj st
  keep := fun i h h' st k => let ⟨⟨old, he⟩, hi⟩ := st; ⟨⟨old, k e (by simp) _ he⟩, stI_keep hi (k it (by simp))⟩
  self := fun A i s Q E st h => let ⟨⟨_, he⟩, _⟩ := st; wpAny_pyIter_enum he h
  go := by
    intro X hP hw hK hc pins s σ H I rep
    subst hP hw hK
    obtain ⟨P, St, D, to, of, y⟩ := seq_draws (prog := X.prog) (w := X.w) (A := X.A.in1) (I.ok.hd hc) (it := it) I r rep hx fun b hb => (hit b hb).1
    have G := GoesN.enumFrom (elts := elts) (x1 := kk) (pos := tpos) 0 D e hei (fun m => by
      rcases List.mem_cons.mp m with q | q
      · exact hei q
      · exact (hit e q).2 rfl) List.mem_cons_self
    rw [enumL_length]
    refine ⟨_, _, _, _, G, fun b hb => hb, fun i st => ⟨st.1, to i st.2⟩, fun i h st => ⟨st.1, of i h st.2⟩, fun i u h' hi hy => ?_⟩
    obtain ⟨T, t, z, ev, hT, hz, ht⟩ := hy
    obtain ⟨y1, dy, U, r1, e1, r2, sub⟩ := y i z hz
    have hn : H T = none := I.hok.fresh hT
    refine .inr ⟨T, [.int (i : Int), y1], [.int ((0 : Int) + (i : Int)) t, z], ev, hT, ht, .cons ⟨t, by simp⟩ (.cons r1 .nil), (show (2 : Nat) ≤ sizeLine by decide), same_upd hn, _, _, (by have q := enumL_get (k := 0) e1; rw [Nat.zero_add] at q; exact q), rep_pair hn (.int _) r2, fun a ha => ?_⟩
    · have ha : a ∈ U := by simpa using ha
      exact sub a ha
/-- zip -/
theorem gn_zip {elts : List Expr} {kk : Nat} {tpos : Pos} {z TI TO i1 i2 : Addr} {x2 : V} {v2 : Value} {d2 : D} {S2 : List Addr} {ys : List D} (r : RelV x v) (hx : seqE d = some xs) (r2 : RelV x2 v2) (hx2 : seqE d2 = some ys)
    (Sp : ZipSep2 z TI TO i1 i2 (i1 :: fpS d v) (i2 :: fpS d2 v2)) (h1 : ∀ b ∈ fpS d v, b ≠ i1) (h2 : ∀ b ∈ fpS d2 v2, b ≠ i2) :
    GnOk P w K (.Tuple elts kk tpos) [z, TI, TO, i1, i2] z (zipL xs ys).length (fun i h => IsZip h z TI TO .none ∧ IsTupOf2 h TI (.ref i1) (.ref i2) ∧ (∃ a1 a2, IsTupOf2 h TO a1 a2) ∧ stI d v i1 i h ∧ stI d2 v2 i2 i h)
      (fun H => Rep P w K H x d S ∧ Rep P w K H x2 d2 S2) (YD P w K (zipL xs ys) (elems d S ++ elems d2 S2)) where
  mem := by simp
  obj := fun i h st b hb => by
    obtain ⟨hz, hTI, ⟨a1, a2, hTO⟩, s1, s2⟩ := st
    have e' : b = z ∨ b = TI ∨ b = TO ∨ b = i1 ∨ b = i2 := by simpa using hb
    rcases e' with q | q | q | q | q
    · rw [q]; exact ⟨_, hz, fun v q => nomatch q⟩
    · rw [q]; exact ⟨_, hTI, fun v q => nomatch q⟩
    · rw [q]; exact ⟨_, hTO, fun v q => nomatch q⟩
    · rw [q]; exact stI_obj s1
    · rw [q]; exact stI_obj s2
  keep := fun i h h' st k => let ⟨hz, hTI, ⟨a1, a2, hTO⟩, s1, s2⟩ := st
    ⟨k z (by simp) _ hz, k TI (by simp) _ hTI, ⟨a1, a2, k TO (by simp) _ hTO⟩, stI_keep s1 (k i1 (by simp)), stI_keep s2 (k i2 (by simp))⟩
  self := fun A i s Q E st h => wpAny_pyIter_zip st.1 h
  go := by
    intro X hP hw hK hc pins s σ H I rep
    subst hP hw hK
    obtain ⟨P1, St1, D1, to1, of1, y1⟩ := seq_draws (prog := X.prog) (w := X.w) (A := X.A.in1) (I.ok.hd hc) (it := i1) I r rep.1 hx h1
    obtain ⟨P2, St2, D2, to2, of2, y2⟩ := seq_draws (prog := X.prog) (w := X.w) (A := X.A.in1) (I.ok.hd hc) (it := i2) I r2 rep.2 hx2 h2
    have G := GoesN.zip2 (elts := elts) (x1 := kk) (pos := tpos) Sp D1 D2
    rw [zipL_length]
    refine ⟨_, _, _, _, G, fun b hb => by simp at hb ⊢; rcases hb with q | q | q | q <;> simp [q], fun i st => ⟨st.1, st.2.1, st.2.2.1, to1 i st.2.2.2.1, to2 i st.2.2.2.2⟩, fun i h st => ⟨st.1, st.2.1, st.2.2.1, of1 i h st.2.2.2.1, of2 i h st.2.2.2.2⟩, fun i u h' hi hy => ?_⟩
    obtain ⟨T, a, b, ev, hT, ha, hb, ht⟩ := hy
    obtain ⟨ya, da, Ua, ra, ea, pa, suba⟩ := y1 i a ha
    obtain ⟨yb, db, Ub, rb, eb, pb, subb⟩ := y2 i b hb
    have hn : H T = none := I.hok.fresh hT
    refine .inr ⟨T, [ya, yb], [a, b], ev, hT, ht, .cons ra (.cons rb .nil), (show (2 : Nat) ≤ sizeLine by decide), same_upd hn, _, _, zipL_get ea eb, rep_pair hn pa pb, fun c hc => ?_⟩
    have hc : c ∈ Ua ∨ c ∈ Ub := by simpa using hc
    exact List.mem_append.mpr (hc.imp (suba c) (subb c))

/-! ### a locked dict -/
variable {a : Addr} {o : Obj} {kvs : List (D × D)} {es : Array DictEntry} {ep : Nat}
def LkD (P : Program) (w : World) (K : PySem.W.Frag) (a : Addr) (o : Obj) (kvs : List (D × D)) (S : List Addr) : Hp → Prop := fun H => Rep P w K H (.ref a) (.dict kvs) S ∧ ∃ u, H a = some (.frz o u)
theorem lk_raw {X : Cx} {pins : List (Addr × Obj)} {σ : L2.St} {H : Hp} {s : Shared} (I : Inv X pins σ H s) (h : LkD X.prog X.w X.K a o kvs S H) (hod : o.data = .dict es ep) :
    s.heap.DictRaw a es ep ∧ es.size = kvs.length ∧ ∃ (ks vs : List V) (T : List Addr), S = a :: T ∧ Vals ks (es.toList.map (·.key)) ∧ Vals vs (es.toList.map (·.val)) ∧ RepLX X H ks (kvs.map (·.1)) [] ∧ RepLX X H vs (kvs.map (·.2)) T := by
  obtain ⟨rep, u, e⟩ := h
  obtain ⟨z, l, es', ep', ks, vs, T, eS, raw, sz, k1, k2, r1, r2⟩ := rep.raw I
  obtain ⟨o', ho, hx, hd⟩ := id raw
  have q := (I.hok a _ e).1
  rw [q] at ho
  cases ho
  rw [hod] at hd
  cases hd
  exact ⟨raw, sz, ks, vs, T, eS, k1, k2, r1, r2⟩
theorem lk_obj {X : Cx} {pins : List (Addr × Obj)} {σ : L2.St} {H : Hp} {s : Shared} (I : Inv X pins σ H s) (h : LkD X.prog X.w X.K a o kvs S H) : (a == sysModules) = false ∧ s.heap.get? a = some o ∧ o.ExactDict ∧ ∃ es ep, o.data = .dict es ep ∧ es.size = kvs.length := by
  obtain ⟨rep, u, e⟩ := h
  obtain ⟨z, l, es', ep', ks, vs, T, eS, raw, sz, k1, k2, r1, r2⟩ := rep.raw I
  obtain ⟨o', ho, hx, hd⟩ := id raw
  have q := (I.hok a _ e).1
  rw [q] at ho
  cases ho
  exact ⟨z, q, hx, es', ep', hd, sz⟩
theorem vals_at {ks : List V} {us : List Value} {i : Nat} {u : Value} (h : Vals ks us) (e : us[i]? = some u) : ∃ y, ks[i]? = some y ∧ RelV y u := by
  have hi := lt_of_get e
  have hk : i < ks.length := by rw [h.length]; exact hi
  obtain ⟨u', e', r⟩ := h.get (List.getElem?_eq_getElem hk)
  rw [e] at e'; cases e'
  exact ⟨_, List.getElem?_eq_getElem hk, r⟩
theorem gn_keys {tg : Expr} {it : Addr} (hod : o.data = .dict es ep) (hne : a ≠ it) (hn : es.size = kvs.length) : GnOk P w K tg [it] it kvs.length (fun i h => h.IsKeyIter it a i es.size ep) (LkD P w K a o kvs S) (YD P w K (kvs.map (·.1)) []) where
  mem := by simp
  obj := fun i h st b hb => by
    obtain rfl : b = it := by simpa using hb
    obtain ⟨oi, e, c, dd⟩ := st
    exact ⟨oi, e, fun v z => by rw [dd] at z; cases z⟩
  keep := fun i h h' st k => st.at fun oi e => k it (by simp) oi e
  self := fun A i s Q E st h => wpAny_pyIter_keyiter st h
  go := by
    intro X hP hw hK hc pins s σ H I lk
    subst hP hw hK
    obtain ⟨raw, sz, ks, vs, T, eS, k1, k2, r1, r2⟩ := lk_raw I lk hod
    have G := Goes.rawKeys (prog := X.prog) (w := X.w) (target := tg) (I.ok.hd hc) it a hne es ep
    rw [← hn]
    refine ⟨_, [it], _, _, G.toN, fun b hb => hb, fun i st => ⟨st, raw⟩, fun i h st => st.1, fun i u h' hi hy => ?_⟩
    obtain ⟨hi, ev⟩ := hy
    subst ev
    have e1 : (es.toList.map (·.key))[i]? = some es[i].key := by
      rw [List.getElem?_map, Array.getElem?_toList, Array.getElem?_eq_getElem hi]; rfl
    obtain ⟨y, ey, ry⟩ := vals_at k1 e1
    obtain ⟨dy, U, e2, r2, sub⟩ := r1.getV ey
    exact .inl ⟨y, ry, fun _ _ e => e, dy, U, e2, r2, sub⟩
theorem gn_vals {tg : Expr} {it : Addr} (hod : o.data = .dict es ep) (hne : a ≠ it) (hn : es.size = kvs.length) : GnOk P w K tg [it] it kvs.length (fun i h => h.IsValIter it a i es.size ep) (LkD P w K a o kvs S) (YD P w K (kvs.map (·.2)) S.tail) where
  mem := by simp
  obj := fun i h st b hb => by
    obtain rfl : b = it := by simpa using hb
    obtain ⟨oi, e, c, dd⟩ := st
    exact ⟨oi, e, fun v z => by rw [dd] at z; cases z⟩
  keep := fun i h h' st k => st.at fun oi e => k it (by simp) oi e
  self := fun A i s Q E st h => wpAny_pyIter_valiter st h
  go := by
    intro X hP hw hK hc pins s σ H I lk
    subst hP hw hK
    obtain ⟨raw, sz, ks, vs, T, eS, k1, k2, r1, r2⟩ := lk_raw I lk hod
    have G := Goes.rawValues (prog := X.prog) (w := X.w) (target := tg) (I.ok.hd hc) it a hne es ep
    rw [← hn]
    refine ⟨_, [it], _, _, G.toN, fun b hb => hb, fun i st => ⟨st, raw⟩, fun i h st => st.1, fun i u h' hi hy => ?_⟩
    obtain ⟨hi, ev⟩ := hy
    subst ev
    have e1 : (es.toList.map (·.val))[i]? = some es[i].val := by
      rw [List.getElem?_map, Array.getElem?_toList, Array.getElem?_eq_getElem hi]; rfl
    obtain ⟨y, ey, ry⟩ := vals_at k2 e1
    obtain ⟨dy, U, e2, r2, sub⟩ := r2.getV ey
    exact .inl ⟨y, ry, fun _ _ e => e, dy, U, e2, r2, fun b hb => by rw [eS]; exact sub b hb⟩
theorem gn_items {elts : List Expr} {kk : Nat} {tpos : Pos} {it : Addr} (hod : o.data = .dict es ep) (hne : a ≠ it) (hn : es.size = kvs.length) : GnOk P w K (.Tuple elts kk tpos) [it] it kvs.length (fun i h => ∃ ok ov, IsItemIter h it a i es.size ep ok ov) (LkD P w K a o kvs S) (YD P w K (kvs.map fun kv => .tuple [kv.1, kv.2]) S.tail) where
  mem := by simp
  obj := fun i h st b hb => by
    obtain rfl : b = it := by simpa using hb
    obtain ⟨ok, ov, e⟩ := st
    exact ⟨_, e, fun v z => nomatch z⟩
  keep := fun i h h' st k => let ⟨ok, ov, e⟩ := st; ⟨ok, ov, k it (by simp) _ e⟩
  self := fun A i s Q E st h => let ⟨_, _, e⟩ := st; PySem.W.kcp_self e h
  go := by
    intro X hP hw hK hc pins s σ H I lk
    subst hP hw hK
    obtain ⟨raw, sz, ks, vs, T, eS, k1, k2, r1, r2⟩ := lk_raw I lk hod
    have G := GoesN.rawItems (prog := X.prog) (w := X.w) (elts := elts) (x1 := kk) (pos := tpos) (I.ok.hd hc) it a hne es ep
    rw [← hn]
    refine ⟨_, [it], _, _, G, fun b hb => hb, fun i st => ⟨st, raw⟩, fun i h st => st.1, fun i u h' hi hy => ?_⟩
    obtain ⟨T', hi, ev, hT, ht⟩ := hy
    have e1 : (es.toList.map (·.val))[i]? = some es[i].val := by
      rw [List.getElem?_map, Array.getElem?_toList, Array.getElem?_eq_getElem hi]; rfl
    have e2 : (es.toList.map (·.key))[i]? = some es[i].key := by
      rw [List.getElem?_map, Array.getElem?_toList, Array.getElem?_eq_getElem hi]; rfl
    obtain ⟨y, ey, ry⟩ := vals_at k2 e1
    obtain ⟨dy, U, ed, rd, sub⟩ := r2.getV ey
    obtain ⟨y2, ey2, ry2⟩ := vals_at k1 e2
    obtain ⟨dy2, U2, ed2, rd2, sub2⟩ := r1.getV ey2
    have hn' : H T' = none := I.hok.fresh hT
    refine .inr ⟨T', [y2, y], [es[i].key, es[i].val], ev, hT, ht, .cons ry2 (.cons ry .nil), (show (2 : Nat) ≤ sizeLine by decide), same_upd hn', .tuple [dy2, dy], _, ?_, rep_pair hn' rd2 rd, fun c hc => ?_⟩
    · rw [List.getElem?_map] at ed ed2 ⊢
      cases q : kvs[i]? with
      | none => rw [q] at ed; cases ed
      | some kv =>
        rw [q] at ed ed2
        cases ed; cases ed2
        rfl
    · have hc : c ∈ U2 ∨ c ∈ U := by simpa using hc
      rw [eS]
      exact hc.elim (fun z => nomatch sub2 c z) fun z => sub c z
end
end MP

/-! MPIt: what a walked thing promises. -/
namespace MP
open PySem PySem.Spec L2
open PyProof.Rows hiding St

def Keeps (S : List Addr) (H Hb : Hp) : Prop := ∀ b o, H b = some o → Hb b = some o ∨ (b ∉ S ∧ WrO (some o))
section
variable {X : Cx} {H Hb : Hp}
theorem Rep.keeps {v : V} {d : D} {S U : List Addr} (r : RepX X H v d S) (k : Keeps U H Hb) (hs : ∀ a ∈ S, a ∈ U) : RepX X Hb v d S := by
  refine Rep.mono (A := fun b => ∃ o, H b = some o ∧ Hb b ≠ some o) (fun b o e n => ?_) (fun b ⟨o, e, n⟩ => ?_) r fun a ha ⟨o, e, n⟩ => ?_
  · exact Classical.byContradiction fun z => n ⟨o, e, z⟩
  · rw [e]
    exact (k b o e).elim (fun z => absurd z n) fun z => z.2
  · exact (k a o e).elim (fun z => n z) fun z => z.1 (hs a ha)
end

structure PostI (X : Cx) (At : Option Addr) (ρ : Ev) (fp : Nat → List Addr) (it : It) (H : Hp) (J : L2.It) (xs : List D) (S T : List Addr) (H' : Hp) (n' : Option Int) : Prop where
  pres : Pres At H H'
  cell : CellOk At n' H'
  from_ : ∀ a ∈ S, H a = none ∨ Reach ρ fp it.escF it.al a
  elem : ∀ a ∈ T, H a = none ∨ Reach ρ fp it.esc it.al a
  sub : ∀ a ∈ T, a ∈ S
  trk : ∀ a ∈ S, H' a ≠ none
  walk : ∀ Hb, Keeps S H' Hb → Walk J xs.length (Same Hb) (YD X.prog X.w X.K xs T)
def E.lv : E → List Nat
  | .var i => [i]
  | _ => []
/-- the names whose things are walked -/
def It.lv : It → List Nat
  | .of e => e.lv
  | .items e => e.lv
  | .vals e => e.lv
  | _ => []
def Lkd (ρ : Ev) (fp : Nat → List Addr) (H : Hp) (l : List Nat) : Prop := ∀ i ∈ l, ∀ kvs, getD ρ i = some (.dict kvs) → ∀ a, (fp i).head? = some a → ∃ o u, H a = some (.frz o u)
def tI (X : Cx) (C : Cxt) (Z : ZT) (it : It) : TI := fun σ H R => ∃ H0 A0 At n ρ fp, Rl X H0 A0 At n ρ fp σ H ∧ Lkd ρ fp H it.lv ∧
  Out (evIt C it ρ n) (fun xs n' => ∀ J H' S T, PostI X At ρ fp it H J xs S T H' n' → R J H') (Z At H)

section
variable {X : Cx} {pins : List (Addr × Obj)} {σ : L2.St} {H : Hp} {s : Shared} {tg : Expr} {R : L2.It → Hp → Prop}
theorem walk_gn {n : Nat} {Sr : Hp → Prop} {Hb : Hp} {Y : Nat → Hp → V → Hp → Prop} (h : ∀ H, Same Hb H → Sr H) : Walk (Jd n Sr Y) n (Same Hb) Y :=
  ⟨fun i H hi q => ⟨hi, h H q⟩, fun H q => ⟨rfl, h H q⟩, fun i H x H' hi q y => y⟩
/-- a list, a tuple, a text begins to be walked -/
theorem it_seq {x : V} {v : Value} {d : D} {S : List Addr} {xs : List D} (I : Inv X pins σ H s) (r : RelV x v) (rep : RepX X H x d S) (hx : seqE d = some xs)
    (q : R (Jd xs.length (fun H => RepX X H x d S) (YD X.prog X.w X.K xs (elems d S))) H) : wpAny (model X.prog X.w) X.A (pyIter v) (PIE X pins σ tg R) X.xe s := by
  obtain ⟨⟨Hs, B, hs⟩, st0, lt⟩ := seq_begins I r rep hx
  refine B.iter _ _ _ _ s _ hs ?_
  refine pi_one (tk := s.toks) I _ (gn_seq (P := X.prog) (w := X.w) (K := X.K) (tg := tg) r hx fun b hb => Nat.ne_of_lt (lt b hb)).turn (st0 _ _ (Heap.get?_push_size _ B.free)) q
theorem frz_sub {a : Addr} {S : List Addr} {o : Obj} {kvs : List (D × D)} {Hb H H' : Hp} (lk : LkD X.prog X.w X.K a o kvs S H) (k : Keeps S H Hb) (sm : Same Hb H') : LkD X.prog X.w X.K a o kvs S H' := by
  obtain ⟨rep, u, e⟩ := lk
  refine ⟨(rep.keeps k fun _ h => h).same sm, u, ?_⟩
  rcases k a _ e with z | z
  · exact sm _ _ z
  · exact z.2.elim
/-- a locked dict -/
theorem it_keys {a : Addr} {S : List Addr} {o : Obj} {kvs : List (D × D)} (I : Inv X pins σ H s) (lk : LkD X.prog X.w X.K a o kvs S H)
    (q : R (Jd kvs.length (LkD X.prog X.w X.K a o kvs S) (YD X.prog X.w X.K (kvs.map (·.1)) [])) H) : wpAny (model X.prog X.w) X.A (pyIter (.ref a)) (PIE X pins σ tg R) X.xe s := by
  obtain ⟨hs, hg, hx, es, ep, hd, hn⟩ := lk_obj I lk
  exact iter_keys hs hg hx hd (pi_one (tk := s.toks) I _ (gn_keys (P := X.prog) (w := X.w) (K := X.K) (tg := tg) (S := S) (kvs := kvs) hd (Nat.ne_of_lt (Heap.lt_size hg)) hn).turn ⟨_, Heap.get?_push_size _ rfl, rfl, rfl⟩ q)
end

section
variable {X : Cx} {C : Cxt} {Z : ZT} {tg : Expr}
theorem isDict_or {d : D} {xs : List D} (h : itemsE d = some xs) : seqE d = some xs ∨ ∃ kvs, d = .dict kvs ∧ xs = kvs.map (·.1) := by
  cases d <;> first | (exact .inl h) | (cases h) | skip
  exact .inr ⟨_, rfl, rfl⟩
/-- the things of one operand, walked -/
theorem PostI.seq {H H1 : Hp} {At : Option Addr} {n1 : Option Int} {ρ : Ev} {fp : Nat → List Addr} {e : E} {x : V} {dx : D} {S : List Addr} {xs : List D} (p : Post X At ρ fp e H x dx S H1 n1) :
    PostI X At ρ fp (.of e) H (Jd xs.length (fun H => RepX X H x dx S) (YD X.prog X.w X.K xs (elems dx S))) xs S (elems dx S) H1 n1 where
  pres := p.pres
  cell := p.cell
  from_ := p.from_
  elem := p.elem
  sub := fun a ha => elems_sub ha
  trk := p.rep.tracked
  walk := fun Hb k => walk_gn fun H sm => (p.rep.keeps k fun _ h => h).same sm
/-- a new dict is locked for good -/
theorem lock_new {pins : List (Addr × Obj)} {σ : L2.St} {s : Shared} {H H1 : Hp} {At : Option Addr} {n1 : Option Int} {ρ : Ev} {fp : Nat → List Addr} {e : E} {x : V} {kvs : List (D × D)} {S : List Addr} (I : Inv X pins σ H1 s) (p : Post X At ρ fp e H x (.dict kvs) S H1 n1) (hf : e.fresh = true) :
    ∃ a o u T, x = .ref a ∧ S = a :: T ∧ H a = none ∧ Inv X pins σ (upd H1 a (.frz o u)) s ∧ LkD X.prog X.w X.K a o kvs S (upd H1 a (.frz o u)) ∧ Pres At H (upd H1 a (.frz o u)) ∧ CellOk At n1 (upd H1 a (.frz o u)) := by
  obtain ⟨a, T, e1, e2, e3, e4, e5⟩ := p.new hf rfl
  obtain ⟨u, hu, mu, nf⟩ : ∃ u, H1 a = some u ∧ Mut (some u) ∧ NoF u := by
    rcases e5 with ⟨xs, q⟩ | ⟨xs, q⟩ | ⟨xs, q⟩
    · exact ⟨_, q, trivial, nf_lst⟩
    · exact ⟨_, q, trivial, nf_dk⟩
    · exact ⟨_, q, trivial, nf_ext⟩
  obtain ⟨o, I'⟩ := I.lock hu mu
  have na : At ≠ some a := by
    rintro rfl
    obtain ⟨xs, q⟩ := p.cell.at_some
    have z := p.rep
    rw [e1, e2] at z
    cases z with
    | dk h _ _ _ _ => rcases h with h | ⟨o, h⟩ <;> rw [q] at h <;> cases h
    | dt h _ _ _ _ _ _ _ _ => rcases h with h | ⟨o, h⟩ <;> rw [q] at h <;> cases h
  refine ⟨a, o, u, T, e1, e2, e3, I', ⟨?_, u, by rw [upd_same]⟩, ⟨fun b w hb nb => ?_, fun b hb => ?_⟩, ?_⟩
  · rw [← e1]
    exact Rep.view (Vw.lock hu nf) p.rep
  · rw [upd_ne (fun z => by rw [z, e3] at hb; cases hb)]
    exact p.pres.keep b w hb nb
  · by_cases z : b = a
    · rw [z, upd_same] at hb; cases hb
    · rw [upd_ne z] at hb
      exact p.pres.trk b hb
  · have c := p.cell
    unfold CellOk at c ⊢
    cases At with
    | none =>
      cases n1 with
      | none => exact trivial
      | some k => exact c.elim
    | some b =>
      cases n1 with
      | none => exact c
      | some k =>
        show upd H1 a (.frz o u) b = _
        rw [upd_ne (fun z => na (by rw [z]))]
        exact c
theorem elem_of {H : Hp} {ρ : Ev} {fp : Nat → List Addr} {e : E} {At : Option Addr} {x : V} {kvs : List (D × D)} {S : List Addr} {H1 : Hp} {n1 : Option Int} (p : Post X At ρ fp e H x (.dict kvs) S H1 n1) : ∀ a ∈ S.tail, H a = none ∨ Reach ρ fp (escX e.isVar e.esc) e.al a := p.elem
theorem PostI.keysNew {H H1 H2 : Hp} {At : Option Addr} {n1 : Option Int} {ρ : Ev} {fp : Nat → List Addr} {e : E} {x : V} {kvs : List (D × D)} {S : List Addr} {a : Addr} {o : Obj} (p : Post X At ρ fp e H x (.dict kvs) S H1 n1) (lk : LkD X.prog X.w X.K a o kvs S H2) (pr : Pres At H H2) (c : CellOk At n1 H2) :
    PostI X At ρ fp (.of e) H (Jd kvs.length (LkD X.prog X.w X.K a o kvs S) (YD X.prog X.w X.K (kvs.map (·.1)) [])) (kvs.map (·.1)) S [] H2 n1 where
  pres := pr
  cell := c
  from_ := p.from_
  elem := fun a h => nomatch h
  sub := fun a h => nomatch h
  trk := lk.1.tracked
  walk := fun Hb k => by
    rw [List.length_map]
    exact walk_gn fun H sm => frz_sub lk k sm
/-- an expression that is no name -/
theorem si_of {xe : Expr} {e : E} (he : PE X xe (tE X C Z e)) (hv : e.isVar = false) : PI X tg xe (tI X C Z (.of e)) := by
  refine ⟨fun pins s σ H R I h => ?_⟩
  obtain ⟨H0, A0, At, n, ρ, fp, rl, _, h⟩ := h
  rw [evIt, out_bind] at h
  refine un1 he I rl h fun v s2 x dx S H1 n1 I1 rx one q => ?_
  rw [out_lft] at q
  obtain ⟨xs, e1, q⟩ := q
  by_cases ok : itOk e dx = true
  · rw [if_pos ok] at e1
    rcases isDict_or e1 with e2 | ⟨kvs, e2, e3⟩
    · exact it_seq I1 rx one.p.rep e2 (q _ _ _ _ (.seq one.p))
    · subst e2 e3
      have fr : e.fresh = true := by
        have ok : (e.isVar || e.fresh) = true := ok
        rw [hv] at ok
        exact ok
      obtain ⟨a, o, u, T, ex, eS, _, I2, lk, pr, cl⟩ := lock_new I1 one.p fr
      subst ex
      obtain rfl : v = .ref a := rx
      exact it_keys I2 lk (q _ _ _ _ (.keysNew one.p lk pr cl))
  · rw [if_neg ok] at e1; cases e1
/-- a name -/
theorem lk_slot {H0 H : Hp} {A0 : Addr → Prop} {At : Option Addr} {n : Option Int} {ρ : Ev} {fp : Nat → List Addr} {σ : L2.St} {i : Nat} {d : D} (rl : Rl X H0 A0 At n ρ fp σ H) (hd : getD ρ i = some d) :
    ∃ v, σ[i]? = some (some v) ∧ RepX X H v d (fp i) ∧ (∀ a ∈ fp i, Reach ρ fp [i] [i] a) ∧ ∀ a ∈ elems d (fp i), Reach ρ fp [] [i] a := by
  unfold getD at hd
  cases hs : getS ρ i with
  | none => rw [hs] at hd; cases hd
  | some s =>
    rw [hs] at hd
    obtain ⟨v, e1, q⟩ := rl.slot i s hs
    refine ⟨v, e1, ?_⟩
    cases s with
    | p d' =>
      obtain rfl : d' = d := Option.some.inj hd
      exact ⟨q, fun a ha => ⟨i, _, _, hs, rfl, ha, List.mem_cons_self, .inl List.mem_cons_self⟩, fun a ha => ⟨i, _, _, hs, rfl, elems_sub ha, List.mem_cons_self, .inr ha⟩⟩
    | o d' =>
      obtain rfl : d' = d := Option.some.inj hd
      obtain ⟨r, ic, _⟩ := q
      exact ⟨r, fun a ha => ⟨i, _, _, hs, rfl, ha, List.mem_cons_self, .inl List.mem_cons_self⟩, fun a ha => ⟨i, _, _, hs, rfl, elems_sub ha, List.mem_cons_self, .inr ha⟩⟩
    | oo d' =>
      obtain rfl : d' = d := Option.some.inj hd
      exact ⟨q.1, fun a ha => ⟨i, _, _, hs, rfl, ha, List.mem_cons_self, .inl List.mem_cons_self⟩, fun a ha => ⟨i, _, _, hs, rfl, elems_sub ha, List.mem_cons_self, .inr ha⟩⟩
    | cell => cases hd
    | err _ => cases hd
theorem lk_slotD {H0 H : Hp} {A0 : Addr → Prop} {At : Option Addr} {n : Option Int} {ρ : Ev} {fp : Nat → List Addr} {σ : L2.St} {i : Nat} {kvs : List (D × D)} (rl : Rl X H0 A0 At n ρ fp σ H) (hd : getD ρ i = some (.dict kvs)) (lk : Lkd ρ fp H [i]) :
    ∃ a o, σ[i]? = some (some (.ref a)) ∧ LkD X.prog X.w X.K a o kvs (fp i) H ∧ (∀ a ∈ fp i, Reach ρ fp [i] [i] a) ∧ ∀ a ∈ (fp i).tail, Reach ρ fp [] [i] a := by
  obtain ⟨v, e1, r, h1, h2⟩ := lk_slot rl hd
  have go : ∀ {v : V} {d : D} {S : List Addr}, RepX X H v d S → ∀ kvs, d = .dict kvs → ∃ a T, v = .ref a ∧ S = a :: T := by
    intro v d S r kvs e
    cases r with
    | dk _ _ _ _ _ => exact ⟨_, _, rfl, rfl⟩
    | dt _ _ _ _ _ _ _ _ _ => exact ⟨_, _, rfl, rfl⟩
    | _ => cases e
  obtain ⟨a, T, ev, eS⟩ := go r _ rfl
  obtain ⟨o, u, hl⟩ := lk i List.mem_cons_self kvs hd a (by rw [eS]; rfl)
  subst ev
  exact ⟨a, o, e1, ⟨r, u, hl⟩, h1, h2⟩
theorem si_ofV {i : Nat} {x : Str} {pos : Pos} (hN : X.N[i]? = some x) (hv : Vis X.env.scope x) (hd : (x == ("__debug__" : Str)) = false) (hcd : (x == ("__classdict__" : Str)) = false) : PI X tg (.Name x pos) (tI X C Z (.of (.var i))) := by
  refine ⟨fun pins s σ H R I h => ?_⟩
  obtain ⟨H0, A0, At, n, ρ, fp, rl, lk, h⟩ := h
  rw [evIt, out_bind, evE, out_lft] at h
  obtain ⟨d, hd', h⟩ := h
  rw [out_lft] at h
  obtain ⟨xs, e1, q⟩ := h
  rw [if_pos (show itOk (.var i) d = true by cases d <;> rfl)] at e1
  rcases isDict_or e1 with e2 | ⟨kvs, e2, e3⟩
  · obtain ⟨v, e3, r, h1, h2⟩ := lk_slot rl hd'
    refine thn ((pe_var hN hv hd hcd).run pins s σ H (fun y H1 => H1 = H ∧ y = v) I ⟨v, e3, rfl, rfl⟩) fun u s1 ⟨y, H1, I1, ry, eH, ey⟩ => ?_
    subst eH ey
    exact it_seq I1 ry r e2 (q _ _ _ _ (.seq ⟨r, .refl, rl.cell, fun a ha => .inr (h1 a ha), fun a ha => .inr (h2 a ha), fun z => by cases z⟩))
  · subst e2 e3
    obtain ⟨a, o, e3, ld, h1, h2⟩ := lk_slotD rl hd' lk
    refine thn ((pe_var hN hv hd hcd).run pins s σ H (fun y H1 => H1 = H ∧ y = .ref a) I ⟨_, e3, rfl, rfl⟩) fun u s1 ⟨y, H1, I1, ry, eH, ey⟩ => ?_
    subst eH ey
    obtain rfl : u = .ref a := ry
    refine it_keys I1 ld (q _ _ (fp i) [] (PostI.mk .refl rl.cell (fun a ha => .inr (h1 a ha)) (fun a h => by cases h) (fun a h => by cases h) ld.1.tracked fun Hb k => ?_))
    rw [List.length_map]
    exact walk_gn fun H sm => frz_sub ld k sm
end
end MP

/-! MPIt2: range, enumerate, zip, items, values. -/
namespace MP
open PySem PySem.Spec L2
open PyProof.Rows hiding St

theorem meets_enumerate_1B {v : Value} {o : Obj} {H : Heap → Prop} (B : Begins v o H) :
    Meets (Builtin.«enumerate.__new__» ⟨[.type "enumerate", v], []⟩) (fun _ R s => H s.heap ∧
      R (.ok (.ret (.ref (s.heap.push o).objs.size))) { s with heap := (s.heap.push o).push { cls := .type "enumerate", data := .fields #[.none, .bool false, .ref s.heap.objs.size, rawInt 0, .none, .none] } }) :=
  .of_wp fun prog w A R s h => by
    obtain ⟨hp, g, d, tk, os⟩ := s; obtain ⟨h1, h⟩ := h
    have hsub := sub_enumerate
    have q1 : ∀ {A' : Around} {E : Value → Shared → Prop} {Q : Value → Shared → Prop}, Q (.ref hp.objs.size) ⟨hp.push o, g, d, tk, os⟩ → wpAny (model prog w) A' (pyIter v) Q E ⟨hp, g, d, tk, os⟩ :=
      fun q => B.iter prog w _ _ ⟨hp, g, d, tk, os⟩ _ h1 q
    wp_walk using q1
    refine wpAny_stack_any fun st => wpAny_pure ?_
    split
    · rename_i c _ _ _ _ _
      cases (c == Value.type "enumerate")
      · wp_walk using q1
        exact ⟨_, rfl, h⟩
      · wp_walk using q1
        exact ⟨_, rfl, h⟩
    · wp_walk using q1
      exact ⟨_, rfl, h⟩
theorem enum_begins1 {prog : Program} {w : World} {A : Around} {E : Value → Shared → Prop} {s : Shared} {v : Value} {o : Obj} {H : Heap → Prop} {Q : Value → Shared → Prop} (B : Begins v o H) (h1 : H s.heap)
    (h : ∀ h', IsEnum h' (s.heap.objs.size + 1) s.heap.objs.size 0 .none → h'.get? s.heap.objs.size = some o → h'.objs.size = s.heap.objs.size + 2 →
      (∀ b o, s.heap.get? b = some o → h'.get? b = some o) → Q (.ref (s.heap.objs.size + 1)) { s with heap := h' }) :
    wpAny (model prog w) A (call (.type "enumerate") [v]) Q E s := by
  refine callType_new F.called_enumerate (by decide) (F.typeCall_enumerate_1 _) (F.newCall_enumerate_1 _) (fun obj => F.args_object_init_2 obj _) F.entry_enumerate_new
    (meets_enumerate_1B B) ⟨h1, ?_⟩
  have hz : (s.heap.push o).objs.size = s.heap.objs.size + 1 := Heap.size_push ..
  show _ ∧ _
  rw [hz]
  have he : IsEnum ((s.heap.push o).push { cls := .type "enumerate", data := .fields #[.none, .bool false, .ref s.heap.objs.size, rawInt 0, .none, .none] }) (s.heap.objs.size + 1) s.heap.objs.size 0 .none := by
    have := Heap.get?_push_size (s.heap.push o) (o := { cls := .type "enumerate", data := .fields #[.none, .bool false, .ref s.heap.objs.size, rawInt 0, .none, .none] }) rfl
    rw [hz] at this; exact this
  refine ⟨⟨_, he, rfl⟩, h _ he (Heap.get?_push_of_some _ (Heap.get?_push_size _ B.free)) (by rw [Heap.size_push, hz]) fun b o x => Heap.get?_push_of_some _ (Heap.get?_push_of_some _ x)⟩

section
variable {X : Cx} {C : Cxt} {Z : ZT} {tg : Expr}
theorem rngL_get {lo c : Int} {n i : Nat} (h : i < n) : (rngL lo c n)[i]? = some (.int (lo + (i : Int) * c)) := by
  unfold rngL
  rw [List.getElem?_map, List.getElem?_range h]; rfl
theorem rngL_length {lo c : Int} {n : Nat} : (rngL lo c n).length = n := by simp [rngL]
theorem PostI.nums {H H1 : Hp} {At : Option Addr} {n1 : Option Int} {ρ : Ev} {fp : Nat → List Addr} {es : List E} {J : L2.It} {lo c : Int} {n : Nat} (pr : Pres At H H1) (cl : CellOk At n1 H1) (w : Walk J n (fun _ => True) (YFn fun i => .int (lo + (i : Nat) * c))) :
    PostI X At ρ fp (.rng es) H J (rngL lo c n) [] [] H1 n1 where
  pres := pr
  cell := cl
  from_ := fun a h => nomatch h
  elem := fun a h => nomatch h
  sub := fun a h => nomatch h
  trk := fun a h => nomatch h
  walk := fun Hb k => by
    rw [rngL_length]
    refine w.mono (fun _ _ => trivial) fun i H x H' hi _ y => ?_
    obtain ⟨e1, e2⟩ := y
    subst e1 e2
    exact ⟨fun _ _ e => e, _, [], rngL_get hi, .int _, fun a h => nomatch h⟩
theorem ints_of {H : Hp} {vs : List V} {ds : List D} {S : List Addr} (r : RepLX X H vs ds S) : (∀ i, ds = [.int i] → vs = [.int i]) ∧ (∀ i j, ds = [.int i, .int j] → vs = [.int i, .int j]) ∧ ∀ i j k, ds = [.int i, .int j, .int k] → vs = [.int i, .int j, .int k] := by
  refine ⟨fun i e => ?_, fun i j e => ?_, fun i j k e => ?_⟩
  · subst e
    cases r with | cons r1 r => cases r1; cases r; rfl
  · subst e
    cases r with | cons r1 r => cases r1; cases r with | cons r1 r => cases r1; cases r; rfl
  · subst e
    cases r with | cons r1 r => cases r1; cases r with | cons r1 r => cases r1; cases r with | cons r1 r => cases r1; cases r; rfl
theorem sm62_iff {i : Int} : sm62 i = true ↔ -(2 ^ 62) ≤ i ∧ i < 2 ^ 62 := by
  unfold sm62
  rw [decide_eq_true_eq]
theorem rng_out {At : Option Addr} {n : Option Int} {ρ : Ev} {fp : Nat → List Addr} {H : Hp} {es : List E} {R : L2.It → Hp → Prop}
    (h : Out (evIt C (.rng es) ρ n) (fun xs n' => ∀ J H' S T, PostI X At ρ fp (.rng es) H J xs S T H' n' → R J H') (Z At H)) :
    Out (evEs C es ρ n) (fun ds n' => ds.length = es.length ∧ ∃ xs, rngE ds = some xs ∧ ∀ J H' S T, PostI X At ρ fp (.rng es) H J xs S T H' n' → R J H') (Z At H) := by
  rw [evIt, out_bind] at h
  exact (evEs_out h).imp (fun ds n1 h1 => ⟨h1.1, by have h2 := h1.2; rw [out_lft] at h2; exact h2⟩) fun _ _ z => z
theorem rng_1 {ds : List D} {xs : List D} (hl : ds.length = 1) (e : rngE ds = some xs) : ∃ j, ds = [.int j] ∧ sm62 j = true ∧ xs = rngL 0 1 j.toNat := by
  match ds, hl with
  | [d], _ =>
    cases d with
    | int j =>
      obtain ⟨e1, e2⟩ := lftIf_some e
      exact ⟨j, rfl, e1, e2.symm⟩
    | _ => cases e
theorem rng_2 {ds : List D} {xs : List D} (hl : ds.length = 2) (e : rngE ds = some xs) : ∃ i j, ds = [.int i, .int j] ∧ sm62 i = true ∧ sm62 j = true ∧ xs = rngL i 1 (j - i).toNat := by
  match ds, hl with
  | [d, d2], _ =>
    cases d with
    | int i =>
      cases d2 with
      | int j =>
        obtain ⟨e1, e2⟩ := lftIf_some e
        rw [Bool.and_eq_true] at e1
        exact ⟨i, j, rfl, e1.1, e1.2, e2.symm⟩
      | _ => cases e
    | _ => cases e
theorem rng_3 {ds : List D} {xs : List D} (hl : ds.length = 3) (e : rngE ds = some xs) : ∃ i j c, ds = [.int i, .int j, .int c] ∧ RgC i j c (Builtin.Range.rangeSize i j c).toNat ∧ xs = rngL i c (Builtin.Range.rangeSize i j c).toNat := by
  match ds, hl with
  | [d, d2, d3], _ =>
    cases d with
    | int i =>
      cases d2 with
      | int j =>
        cases d3 with
        | int c =>
          obtain ⟨e1, e2⟩ := lftIf_some e
          rw [Bool.and_eq_true, decide_eq_true_eq] at e1
          exact ⟨i, j, c, rfl, ⟨e1.1.1, e1.1.2, e1.2, rangeSize_toNat i j c⟩, e2.symm⟩
        | _ => cases e
      | _ => cases e
    | _ => cases e
theorem si_rng1 {a : Expr} {e : E} {p pos : Pos} (hg : Gl X "range") (hm : X.mg "range" = none) (ha : PA X [a] (tEs X C Z [e])) (hs : starEach [a] X.env = [(false, eval a X.env)] := by rfl) : PI X tg (.Call (.Name "range" p) [a] [] pos) (tI X C Z (.rng [e])) := by
  refine ⟨fun pins s σ H R I h => (pi_range1 (tg := tg) hg hm ha hs).run pins s σ H R I ?_⟩
  obtain ⟨H0, A0, At, n, ρ, fp, rl, _, h⟩ := h
  refine ⟨H0, A0, At, n, ρ, fp, rl, (rng_out h).imp (fun ds n1 hd vs H1 S p => ?_) fun _ _ z => z⟩
  obtain ⟨hl, xs, e1, q⟩ := hd
  obtain ⟨j, ej, hj, ex⟩ := rng_1 hl e1
  subst ex
  obtain ⟨h1, h2⟩ := sm62_iff.mp hj
  refine ⟨j, (ints_of p.rep).1 j ej, h1, h2, q _ _ [] [] (.nums p.pres p.cell ?_)⟩
  exact walk_range.mono (fun _ h => h) fun i H x H' _ _ y => ⟨y.1, by rw [y.2]; simp⟩
theorem si_rng2 {a b : Expr} {e e2 : E} {p pos : Pos} (hg : Gl X "range") (hm : X.mg "range" = none) (ha : PA X [a, b] (tEs X C Z [e, e2])) (hs : starEach [a, b] X.env = [(false, eval a X.env), (false, eval b X.env)] := by rfl) (hs2 : starEach [b] X.env = [(false, eval b X.env)] := by rfl) :
    PI X tg (.Call (.Name "range" p) [a, b] [] pos) (tI X C Z (.rng [e, e2])) := by
  refine ⟨fun pins s σ H R I h => (pi_range2 (tg := tg) hg hm ha hs hs2).run pins s σ H R I ?_⟩
  obtain ⟨H0, A0, At, n, ρ, fp, rl, _, h⟩ := h
  refine ⟨H0, A0, At, n, ρ, fp, rl, (rng_out h).imp (fun ds n1 hd vs H1 S p => ?_) fun _ _ z => z⟩
  obtain ⟨hl, xs, e1, q⟩ := hd
  obtain ⟨i, j, ej, hi, hj, ex⟩ := rng_2 hl e1
  subst ex
  obtain ⟨h1, h2⟩ := sm62_iff.mp hj
  obtain ⟨h3, h4⟩ := sm62_iff.mp hi
  refine ⟨i, j, (ints_of p.rep).2.1 i j ej, ⟨h3, h4, h1, h2⟩, q _ _ [] [] (.nums p.pres p.cell ?_)⟩
  exact walk_range.mono (fun _ h => h) fun i H x H' _ _ y => ⟨y.1, by rw [y.2]; simp⟩
theorem si_rng3 {a b c : Expr} {e e2 e3 : E} {p pos : Pos} (hg : Gl X "range") (hm : X.mg "range" = none) (ha : PA X [a, b, c] (tEs X C Z [e, e2, e3]))
    (hs : starEach [a, b, c] X.env = (false, eval a X.env) :: starEach [b, c] X.env := by rfl) (hpl : (backTo pos (starEach [b, c] X.env)).any (·.1) = false := by rfl) :
    PI X tg (.Call (.Name "range" p) [a, b, c] [] pos) (tI X C Z (.rng [e, e2, e3])) := by
  refine ⟨fun pins s σ H R I h => (pi_range3 (tg := tg) hg hm ha hs hpl).run pins s σ H R I ?_⟩
  obtain ⟨H0, A0, At, n, ρ, fp, rl, _, h⟩ := h
  refine ⟨H0, A0, At, n, ρ, fp, rl, (rng_out h).imp (fun ds n1 hd vs H1 S p => ?_) fun _ _ z => z⟩
  obtain ⟨hl, xs, e1, q⟩ := hd
  obtain ⟨i, j, c, ej, hr, ex⟩ := rng_3 hl e1
  subst ex
  exact ⟨i, j, c, _, (ints_of p.rep).2.2 i j c ej, hr, q _ _ [] [] (.nums p.pres p.cell walk_rangeC)⟩
/-! ### enumerate, zip -/
theorem si_enum {xe : Expr} {e : E} {elts : List Expr} {kk : Nat} {tpos p pos : Pos} (hg : Gl X "enumerate") (hm : X.mg "enumerate" = none) (he : PE X xe (tE X C Z e)) (hs : starEach [xe] X.env = [(false, eval xe X.env)] := by rfl) (hs0 : starEach [] X.env = [] := by rfl) :
    PI X (.Tuple elts kk tpos) (.Call (.Name "enumerate" p) [xe] [] pos) (tI X C Z (.enum e)) := by
  refine ⟨fun pins s σ H R I h => ?_⟩
  obtain ⟨H0, A0, At, n, ρ, fp, rl, _, h⟩ := h
  rw [evIt, out_bind] at h
  have ha : PA X [xe] (tCons (tE X C Z e) tNil) := pa_cons he pa_nil (by rw [hs, hs0])
  refine Call_ (ld_blt I hg hm boot_enumerate (PyProof.Rows.callWith_type1 (thn (ha.run pos pins s σ H (fun vs H1 => ∃ x dx S n1, vs = [x] ∧ Post X At ρ fp e H x dx S H1 n1 ∧ ∃ xs, seqE dx = some xs ∧ ∀ J H' S T, PostI X At ρ fp (.enum e) H J (enumL 0 xs) S T H' n1 → R J H') I ⟨H0, A0, At, n, ρ, fp, rl, h.imp (fun d n1 h1 v H1 S q => ?_) fun _ _ z => z⟩) fun us s1 hh => ?_) hs rfl))
  · rw [out_bind, out_lft] at h1
    obtain ⟨xs, e1, h1⟩ := h1
    exact ⟨v, d, S, n1, rfl, q, xs, e1, h1⟩
  obtain ⟨vs, H1, I1, r1, x, dx, S, n1, ev, q, xs, e1, h1⟩ := hh
  subst ev
  cases r1 with
  | cons r rr =>
    cases rr
    obtain ⟨⟨Hs, B, hs⟩, st0, lt⟩ := seq_begins I1 r q.rep e1
    refine enum_begins1 B hs fun h' he hit hsz hk => wpAny_pyIter_enum he ?_
    have I2 : Inv X pins σ H1 { s1 with heap := h' } := I1.kept (t' := s1.toks) hk
    refine ⟨s1.heap.objs.size + 1, [s1.heap.objs.size + 1, s1.heap.objs.size], _, _, H1, rfl, I2, (gn_enum (P := X.prog) (w := X.w) (K := X.K) (S := S) r e1 (fun b hb => ⟨Nat.ne_of_lt (lt b hb), Nat.ne_of_lt (Nat.lt_succ_of_lt (lt b hb))⟩) (Nat.succ_ne_self _)).turn, ⟨⟨.none, by simpa using he⟩, st0 _ _ hit⟩, fun b hb => ?_, h1 _ _ S (elems dx S) ⟨q.pres, q.cell, q.from_, q.elem, fun a ha => elems_sub ha, q.rep.tracked, fun Hb k => walk_gn fun H sm => (q.rep.keeps k fun _ h => h).same sm⟩⟩
    have e' : b = s1.heap.objs.size + 1 ∨ b = s1.heap.objs.size := by simpa using hb
    have hle : s1.heap.objs.size ≤ b := by
      rcases e' with z | z
      · rw [z]; exact Nat.le_add_right _ _
      · rw [z]; exact Nat.le_refl _
    exact I1.fpOk hle (I1.hok.fresh hle)
theorem evEs2 {a b : E} {n : Option Int} {ρ : Ev} {P : D → D → Option Int → Prop} {Zz : Exn → Option Int → Prop} (h : Out (evE C a ρ n) (fun x n1 => Out (evE C b ρ n1) (P x) Zz) Zz) : Out (evEs C [a, b] ρ n) (fun ds n' => ∃ x y, ds = [x, y] ∧ P x y n') Zz := by
  rw [evEs, out_bind]
  refine h.imp (fun x n1 h1 => ?_) fun _ _ z => z
  rw [out_bind, evEs, out_bind]
  refine h1.imp (fun y n2 h2 => ?_) fun _ _ z => z
  rw [out_bind, evEs]
  exact ⟨x, y, rfl, h2⟩
theorem si_zip {xa xb : Expr} {a b : E} {elts : List Expr} {kk : Nat} {tpos p pos : Pos} (zm : ZMono Z) (hg : Gl X "zip") (hm : X.mg "zip" = none) (ha : PE X xa (tE X C Z a)) (hb : PE X xb (tE X C Z b))
    (hs : starEach [xa, xb] X.env = (false, eval xa X.env) :: starEach [xb] X.env := by rfl) (hs1 : starEach [xb] X.env = [(false, eval xb X.env)] := by rfl) (hs0 : starEach [] X.env = [] := by rfl) (hpl : (backTo pos (starEach [xb] X.env)).any (·.1) = false := by rfl) :
    PI X (.Tuple elts kk tpos) (.Call (.Name "zip" p) [xa, xb] [] pos) (tI X C Z (.zip a b)) := by
  refine ⟨fun pins s σ H R I h => ?_⟩
  obtain ⟨H0, A0, At, n, ρ, fp, rl, _, h⟩ := h
  rw [evIt, out_bind] at h
  have h' : Out (evE C a ρ n) (fun x n1 => Out (evE C b ρ n1) (fun y n2 => ∃ xs ys, seqE x = some xs ∧ seqE y = some ys ∧ ∀ J H' S T, PostI X At ρ fp (.zip a b) H J (zipL xs ys) S T H' n2 → R J H') (Z At H)) (Z At H) := by
    refine h.imp (fun x n1 h1 => ?_) fun _ _ z => z
    rw [out_bind] at h1
    refine h1.imp (fun y n2 h2 => ?_) fun _ _ z => z
    rw [out_bind, out_lft] at h2
    obtain ⟨xs, e1, h2⟩ := h2
    rw [out_bind, out_lft] at h2
    obtain ⟨ys, e2, h2⟩ := h2
    exact ⟨xs, ys, e1, e2, h2⟩
  have pa : PA X [xa, xb] (tCons (tE X C Z a) (tCons (tE X C Z b) tNil)) := pa_cons ha (pa_cons hb pa_nil (by rw [hs1, hs0])) hs
  refine Call_ (ld_blt I hg hm PyProof.Rows.boot_zip (PyProof.Rows.callWith_type1 (thn (pa.run pos pins s σ H (fun vs H2 => ∃ x y dx dy S T n2, vs = [x, y] ∧ Two X H0 A0 At ρ fp σ a b H x y dx dy S T H2 n2 ∧ ∃ xs ys, seqE dx = some xs ∧ seqE dy = some ys ∧ ∀ J H' S T, PostI X At ρ fp (.zip a b) H J (zipL xs ys) S T H' n2 → R J H') I ⟨H0, A0, At, n, ρ, fp, rl, h'.imp (fun dx n1 h1 v H1 S p1 => ?_) fun _ _ z => z⟩) fun us s1 hh => ?_) hs hpl))
  · have rl1 := rl.next p1.pres p1.cell
    refine ⟨H0, A0, At, n1, ρ, fp, rl1, h1.imp (fun dy n2 h2 v2 H2 T p2 => ?_) fun e k z => zm _ _ _ _ _ p1.pres z⟩
    have back : ∀ {es al : List Nat} {c : Addr}, H1 c = none ∨ Reach ρ fp es al c → H c = none ∨ Reach ρ fp es al c := fun q => q.imp (p1.pres.trk _) id
    exact ⟨v, v2, dx, dy, S, T, n2, rfl, ⟨Rep.step p1.rep p1.cell p2.pres (rl.avoid p1.from_), p2.rep, p1.pres.trans p2.pres, rl1.next p2.pres p2.cell, p1.from_, fun c hc => back (p2.from_ c hc), p1.elem, fun c hc => back (p2.elem c hc)⟩, h2⟩
  obtain ⟨vs, H1, I1, r1, x, y, dx, dy, S, T, n2, ev, tw, xs, ys, e1, e2, q⟩ := hh
  subst ev
  cases r1 with
  | cons r rr =>
    cases rr with
    | cons r' rr =>
      cases rr
      obtain ⟨⟨Hs, B, hs⟩, st0, lt⟩ := seq_begins I1 r tw.r1 e1
      obtain ⟨⟨Hs2, B2, hs2⟩, st2, lt2⟩ := seq_begins I1 r' tw.r2 e2
      refine zip_begins2 B B2 hs hs2 fun h' hz hTI hTO h1 h2 hsz hk => wpAny_pyIter_zip hz ?_
      have I2 : Inv X pins σ H1 { s1 with heap := h' } := I1.kept (t' := s1.toks) hk
      refine ⟨s1.heap.objs.size + 4, [s1.heap.objs.size + 4, s1.heap.objs.size + 2, s1.heap.objs.size + 3, s1.heap.objs.size, s1.heap.objs.size + 1], _, _, H1, rfl, I2, (gn_zip (P := X.prog) (w := X.w) (K := X.K) (S := S) (S2 := T) r e1 r' e2 (zip_sep2 lt lt2) (fun b hb => Nat.ne_of_lt (lt b hb)) fun b hb => Nat.ne_of_lt (Nat.lt_succ_of_lt (lt2 b hb))).turn, ⟨hz, hTI, ⟨_, _, hTO⟩, st0 _ _ h1, st2 _ _ h2⟩, fun c hcm => ?_, q _ _ (S ++ T) (elems dx S ++ elems dy T) ⟨tw.pres, tw.rl.cell, fun c hc => ?_, fun c hc => ?_, fun c hc => ?_, fun c hc => (List.mem_append.mp hc).elim (tw.r1.tracked c) (tw.r2.tracked c), fun Hb k => walk_gn fun H sm => ⟨(tw.r1.keeps k fun _ h => List.mem_append_left _ h).same sm, (tw.r2.keeps k fun _ h => List.mem_append_right _ h).same sm⟩⟩⟩
      · have e' : c = s1.heap.objs.size + 4 ∨ c = s1.heap.objs.size + 2 ∨ c = s1.heap.objs.size + 3 ∨ c = s1.heap.objs.size ∨ c = s1.heap.objs.size + 1 := by simpa using hcm
        have hle : s1.heap.objs.size ≤ c := by
          rcases e' with z | z | z | z | z
          · rw [z]; exact Nat.le_add_right _ _
          · rw [z]; exact Nat.le_add_right _ _
          · rw [z]; exact Nat.le_add_right _ _
          · rw [z]; exact Nat.le_refl _
          · rw [z]; exact Nat.le_add_right _ _
        exact I1.fpOk hle (I1.hok.fresh hle)
      · rcases List.mem_append.mp hc with z | z
        · exact (tw.f1 c z).imp id fun q => q.mono (fun i hi => List.mem_append_left _ hi) fun i hi => List.mem_append_left _ hi
        · exact (tw.f2 c z).imp id fun q => q.mono (fun i hi => List.mem_append_right _ hi) fun i hi => List.mem_append_right _ hi
      · rcases List.mem_append.mp hc with z | z
        · exact (tw.e1 c z).imp id fun q => q.mono (fun i hi => List.mem_append_left _ hi) fun i hi => List.mem_append_left _ hi
        · exact (tw.e2 c z).imp id fun q => q.mono (fun i hi => List.mem_append_right _ hi) fun i hi => List.mem_append_right _ hi
      · rcases List.mem_append.mp hc with z | z
        · exact List.mem_append_left _ (elems_sub z)
        · exact List.mem_append_right _ (elems_sub z)
end
end MP

/-! MPTg: targets. -/
namespace MP
open PySem PySem.Spec L2
open PyProof.Rows hiding St

mutual
def Tg.vars : Tg → List Nat
  | .nm i => [i]
  | .tup ts => varsL ts
def varsL : List Tg → List Nat
  | [] => []
  | t :: ts => t.vars ++ varsL ts
end
theorem getS_set {ρ : Ev} {i j : Nat} {s : Slot} : getS (setS ρ i s) j = if j = i then (if i < ρ.length then some s else none) else getS ρ j := by
  unfold getS setS
  rw [List.getElem?_set]
  by_cases h : i = j
  · subst h
    by_cases h2 : i < ρ.length
    · simp [h2]
    · simp [h2]
  · simp [h, Ne.symm h]
theorem getS_lt {ρ : Ev} {i : Nat} {s : Slot} (h : getS ρ i = some s) : i < ρ.length := by
  unfold getS at h
  rcases Nat.lt_or_ge i ρ.length with q | q
  · exact q
  · rw [List.getElem?_eq_none q] at h; cases h
theorem setS_length {ρ : Ev} {i : Nat} {s : Slot} : (setS ρ i s).length = ρ.length := by simp [setS]
section
variable {X : Cx} {H0 H : Hp} {A0 : Addr → Prop} {At : Option Addr} {n : Option Int} {ρ : Ev} {fp : Nat → List Addr} {σ : L2.St}
def fset (fp : Nat → List Addr) (i : Nat) (S : List Addr) : Nat → List Addr := fun j => if j = i then S else fp j
theorem fset_ne {fp : Nat → List Addr} {i j : Nat} {S : List Addr} (h : j ≠ i) : fset fp i S j = fp j := by simp [fset, h]
theorem fset_same {fp : Nat → List Addr} {i : Nat} {S : List Addr} : fset fp i S i = S := by simp [fset]
/-- a slot is given a new thing -/
theorem Rl.put (rl : Rl X H0 A0 At n ρ fp σ H) {i : Nat} {s : Slot} {v : V} {S : List Addr} (hs : SlotOk X H0 At H s v S) (nat : ∀ a ∈ S, At ≠ some a) (src : ∀ a ∈ S, H0 a = none ∨ A0 a)
    (sep : ∀ j sj, j ≠ i → getS ρ j = some sj → SepS sj (fp j) S ∧ SepS s S (fp j)) : Rl X H0 A0 At n (setS ρ i s) (fset fp i S) (σ.set i (some v)) H where
  pres := rl.pres
  len := by rw [setS_length, List.length_set]; exact rl.len
  slot := fun j sj e => by
    rw [getS_set] at e
    by_cases h : j = i
    · subst h
      rw [if_pos rfl] at e
      by_cases h2 : j < ρ.length
      · rw [if_pos h2] at e
        cases e
        refine ⟨v, ?_, by rw [fset_same]; exact hs⟩
        rw [List.getElem?_set]
        simp [← rl.len, h2]
      · rw [if_neg h2] at e; cases e
    · rw [if_neg h] at e
      obtain ⟨w, e1, q⟩ := rl.slot j sj e
      refine ⟨w, ?_, by rw [fset_ne h]; exact q⟩
      rw [List.getElem?_set_ne (Ne.symm h)]
      exact e1
  cell := rl.cell
  nat := fun j sj e a ha => by
    rw [getS_set] at e
    by_cases h : j = i
    · subst h
      rw [fset_same] at ha
      exact nat a ha
    · rw [if_neg h] at e
      rw [fset_ne h] at ha
      exact rl.nat j sj e a ha
  sep := fun j k sj sk hjk ej ek => by
    rw [getS_set] at ej ek
    by_cases h : j = i
    · subst h
      rw [if_pos rfl] at ej
      rw [if_neg (Ne.symm hjk)] at ek
      rw [fset_same, fset_ne (Ne.symm hjk)]
      split at ej
      · cases ej
        exact (sep k sk (Ne.symm hjk) ek).2
      · cases ej
    · rw [if_neg h] at ej
      rw [fset_ne h]
      by_cases h2 : k = i
      · subst h2
        rw [fset_same]
        exact (sep j sj h ej).1
      · rw [if_neg h2] at ek
        rw [fset_ne h2]
        exact rl.sep j k sj sk hjk ej ek
  src := fun j sj e a ha => by
    rw [getS_set] at e
    by_cases h : j = i
    · subst h
      rw [fset_same] at ha
      exact src a ha
    · rw [if_neg h] at e
      rw [fset_ne h] at ha
      exact rl.src j sj e a ha
theorem SepS.p {d : D} {S T : List Addr} : SepS (.p d) S T := trivial
theorem SepS.sub {s : Slot} {S T U : List Addr} (h : SepS s S T) (hu : ∀ a ∈ U, a ∈ T) : SepS s S U := by
  cases s with
  | o d => exact fun a e m => h a e (hu a m)
  | oo d => exact fun a e m => h a e (hu a m)
  | _ => trivial
/-- what is bound to names may lie in no container held alone -/
def SepAll (ρ : Ev) (fp : Nat → List Addr) (S : List Addr) : Prop := ∀ j sj, getS ρ j = some sj → SepS sj (fp j) S
structure Bnd (ρ : Ev) (fp : Nat → List Addr) (ρ' : Ev) (fp' : Nat → List Addr) (vs : List Nat) (S : List Addr) : Prop where
  old : ∀ j, j ∉ vs → getS ρ' j = getS ρ j ∧ fp' j = fp j
  new : ∀ j ∈ vs, ∀ s, getS ρ' j = some s → ∃ d, s = .p d ∧ ∀ a ∈ fp' j, a ∈ S
theorem Bnd.trans {ρ1 ρ2 ρ3 : Ev} {f1 f2 f3 : Nat → List Addr} {us vs : List Nat} {S T U : List Addr} (a : Bnd ρ1 f1 ρ2 f2 us S) (b : Bnd ρ2 f2 ρ3 f3 vs T) (h1 : ∀ x ∈ S, x ∈ U) (h2 : ∀ x ∈ T, x ∈ U) : Bnd ρ1 f1 ρ3 f3 (us ++ vs) U where
  old := fun j h => by
    have h3 : j ∉ us := fun z => h (List.mem_append_left _ z)
    have h4 : j ∉ vs := fun z => h (List.mem_append_right _ z)
    exact ⟨(b.old j h4).1.trans (a.old j h3).1, (b.old j h4).2.trans (a.old j h3).2⟩
  new := fun j h s e => by
    by_cases h4 : j ∈ vs
    · obtain ⟨d, e1, q⟩ := b.new j h4 s e
      exact ⟨d, e1, fun x hx => h2 x (q x hx)⟩
    · have h3 : j ∈ us := (List.mem_append.mp h).resolve_right h4
      rw [(b.old j h4).1] at e
      obtain ⟨d, e1, q⟩ := a.new j h3 s e
      exact ⟨d, e1, fun x hx => h1 x (q x (by rw [(b.old j h4).2] at hx; exact hx))⟩
theorem Bnd.sepAll {ρ' : Ev} {fp' : Nat → List Addr} {vs : List Nat} {S T : List Addr} (b : Bnd ρ fp ρ' fp' vs S) (h : SepAll ρ fp T) : SepAll ρ' fp' T := fun j sj e => by
  by_cases hj : j ∈ vs
  · obtain ⟨d, e1, _⟩ := b.new j hj sj e
    subst e1
    trivial
  · obtain ⟨e1, e2⟩ := b.old j hj
    rw [e2]
    rw [e1] at e
    exact h j sj e
structure SBnd (σ σ' : L2.St) (vs : List Nat) : Prop where
  len : σ'.length = σ.length
  old : ∀ j, j ∉ vs → σ'[j]? = σ[j]?
theorem SBnd.trans {σ1 σ2 σ3 : L2.St} {us vs : List Nat} (a : SBnd σ1 σ2 us) (b : SBnd σ2 σ3 vs) : SBnd σ1 σ3 (us ++ vs) :=
  ⟨b.len.trans a.len, fun j h => (b.old j fun z => h (List.mem_append_right _ z)).trans (a.old j fun z => h (List.mem_append_left _ z))⟩
def tG (X : Cx) (t : Tg) : TG := fun v σ H Q => ∃ H0 A0 At n ρ fp d S, Rl X H0 A0 At n ρ fp σ H ∧ RepX X H v d S ∧ (∀ a ∈ S, At ≠ some a) ∧ (∀ a ∈ S, H0 a = none ∨ A0 a) ∧ SepAll ρ fp S ∧
  ∃ ρ', bindT t d ρ = some ρ' ∧ ∀ fp' σ', Rl X H0 A0 At n ρ' fp' σ' H → Bnd ρ fp ρ' fp' t.vars S → SBnd σ σ' t.vars → Q σ' H
def tGs (X : Cx) (ts : List Tg) : TGs := fun vs σ H Q => ∃ H0 A0 At n ρ fp ds S, Rl X H0 A0 At n ρ fp σ H ∧ RepLX X H vs ds S ∧ (∀ a ∈ S, At ≠ some a) ∧ (∀ a ∈ S, H0 a = none ∨ A0 a) ∧ SepAll ρ fp S ∧
  ∃ ρ', bindTs ts ds ρ = some ρ' ∧ ∀ fp' σ', Rl X H0 A0 At n ρ' fp' σ' H → Bnd ρ fp ρ' fp' (varsL ts) S → SBnd σ σ' (varsL ts) → Q σ' H
theorem _root_.L2.PG.weak {X : Cx} {x : Expr} {t t' : TG} (h : PG X x t) (hw : ∀ v σ H Q, t' v σ H Q → t v σ H Q) : PG X x t' := ⟨fun pins s σ H v u Q I r q => h.run pins s σ H v u Q I r (hw _ _ _ _ q)⟩
theorem _root_.L2.PGs.weak {X : Cx} {x : List Expr} {t t' : TGs} (h : PGs X x t) (hw : ∀ v σ H Q, t' v σ H Q → t v σ H Q) : PGs X x t' := ⟨fun pins s σ H v u Q I r q => h.run pins s σ H v u Q I r (hw _ _ _ _ q)⟩
theorem sg_nm {i : Nat} {x : Str} {pos : Pos} (hN : X.N.Nodup) (hi : X.N[i]? = some x) (hx : Loc X.env.scope x) (hf : X.fn x = true ∨ X.env.scope.names.lookup x = some .local) : PG X (.Name x pos) (tG X (.nm i)) := by
  refine (pg_name hN hi hx hf).weak fun v σ H Q h => ?_
  obtain ⟨H0, A0, At, n, ρ, fp, d, S, rl, r, nat, src, sep, ρ', e, h⟩ := h
  cases e
  refine h (fset fp i S) _ (rl.put (s := .p d) r nat src fun j sj _ e => ⟨sep j sj e, trivial⟩) ⟨fun j hj => ?_, fun j hj s e => ?_⟩ ⟨List.length_set .., fun j hj => ?_⟩
  · have hj : j ≠ i := by simpa [Tg.vars] using hj
    exact ⟨by rw [getS_set, if_neg hj], fset_ne hj⟩
  · have hj : j = i := by simpa [Tg.vars] using hj
    subst hj
    rw [getS_set, if_pos rfl] at e
    split at e
    · cases e
      exact ⟨d, rfl, fun a ha => by rw [fset_same] at ha; exact ha⟩
    · cases e
  · have hj : j ≠ i := by simpa [Tg.vars] using hj
    rw [List.getElem?_set_ne (Ne.symm hj)]
theorem sgs_nil : PGs X [] (tGs X []) := by
  refine pgs_nil.weak fun vs σ H Q h => ?_
  obtain ⟨H0, A0, At, n, ρ, fp, ds, S, rl, r, nat, src, sep, ρ', e, h⟩ := h
  cases r with
  | nil =>
    cases e
    exact ⟨rfl, h fp σ rl ⟨fun j _ => ⟨rfl, rfl⟩, fun j h => nomatch h⟩ ⟨rfl, fun _ _ => rfl⟩⟩
  | cons _ _ => cases e
theorem sgs_cons {e : Expr} {es : List Expr} {t : Tg} {ts : List Tg} (h1 : PG X e (tG X t)) (h2 : PGs X es (tGs X ts)) (hs : (assignEach (e :: es) X.env).map (·.2) = assign e X.env :: (assignEach es X.env).map (·.2)) : PGs X (e :: es) (tGs X (t :: ts)) := by
  refine (pgs_cons h1 h2 hs).weak fun vs σ H Q h => ?_
  obtain ⟨H0, A0, At, n, ρ, fp, ds, S, rl, r, nat, src, sep, ρ', e, h⟩ := h
  cases r with
  | nil => cases e
  | @cons v vs d ds S T r rr =>
    have e : (bindT t d ρ >>= fun x => bindTs ts ds x) = some ρ' := e
    cases q : bindT t d ρ with
    | none => rw [q] at e; cases e
    | some ρ1 =>
      rw [q] at e
      refine ⟨v, vs, rfl, H0, A0, At, n, ρ, fp, d, S, rl, r, fun a ha => nat a (List.mem_append_left _ ha), fun a ha => src a (List.mem_append_left _ ha), fun j sj e => (sep j sj e).sub fun a ha => List.mem_append_left _ ha, ρ1, q, fun fp1 σ1 rl1 b1 sb1 => ?_⟩
      refine ⟨H0, A0, At, n, ρ1, fp1, ds, T, rl1, rr, fun a ha => nat a (List.mem_append_right _ ha), fun a ha => src a (List.mem_append_right _ ha), fun j sj e => (b1.sepAll sep j sj e).sub fun a ha => List.mem_append_right _ ha, ρ', e, fun fp2 σ2 rl2 b2 sb2 => ?_⟩
      exact h fp2 σ2 rl2 (b1.trans b2 (fun a ha => List.mem_append_left _ ha) fun a ha => List.mem_append_right _ ha) (sb1.trans sb2)
theorem bindTs_length : ∀ {ts : List Tg} {ds : List D} {ρ ρ' : Ev}, bindTs ts ds ρ = some ρ' → ds.length = ts.length
  | [], [], _, _, _ => rfl
  | [], _ :: _, _, _, h => by cases h
  | _ :: _, [], _, _, h => by cases h
  | t :: ts, d :: ds, ρ, ρ', h => by
    have h : (bindT t d ρ >>= fun x => bindTs ts ds x) = some ρ' := h
    cases q : bindT t d ρ with
    | none => rw [q] at h; cases h
    | some ρ1 =>
      rw [q] at h
      have := bindTs_length (ts := ts) (ds := ds) h
      simp [this]
theorem sg_tup {es : List Expr} {k : Nat} {ts : List Tg} {pos : Pos} (hc : X.calm = true) (h : PGs X es (tGs X ts)) (hn : (assignEach es X.env).length = ts.length) (hst : (assignEach es X.env).findIdx? (·.1) = none) : PG X (.Tuple es k pos) (tG X (.tup ts)) := by
  refine (pg_tup hc h hn hst).weak fun v σ H Q h => ?_
  obtain ⟨H0, A0, At, n, ρ, fp, d, S, rl, r, nat, src, sep, ρ', e, h⟩ := h
  cases d with
  | tuple ds =>
    cases r with
    | tup hq rr => exact ⟨_, _, rfl, hq, by rw [rr.length]; exact bindTs_length e, H0, A0, At, n, ρ, fp, ds, S, rl, rr, nat, src, sep, ρ', e, h⟩
  | _ => cases e
end
end MP

/-! MPLc: list comprehensions. -/
namespace MP
open PySem PySem.Spec L2
open PyProof.Rows hiding St

theorem getS_frzE {ρ : Ev} {j : Nat} : getS (frzE ρ) j = (getS ρ j).map Slot.frz := by
  unfold getS frzE
  rw [List.getElem?_map]
  cases ρ[j]? with
  | none => rfl
  | some o => cases o <;> rfl
theorem wipeE_length {ρ : Ev} : ∀ {vs : List Nat}, (wipeE ρ vs).length = ρ.length
  | [] => rfl
  | v :: vs => by unfold wipeE; rw [List.length_set, wipeE_length]
theorem getS_wipe {ρ : Ev} {j : Nat} {s : Slot} : ∀ {vs : List Nat}, getS (wipeE ρ vs) j = some s → j ∉ vs ∧ getS ρ j = some s
  | [], h => ⟨by simp, h⟩
  | v :: vs, h => by
    unfold wipeE getS at h
    rw [List.getElem?_set] at h
    by_cases e : v = j
    · subst e
      rw [if_pos rfl] at h
      split at h <;> cases h
    · rw [if_neg e] at h
      obtain ⟨h1, h2⟩ := getS_wipe (vs := vs) (show getS (wipeE ρ vs) j = some s from h)
      exact ⟨by simp [Ne.symm e, h1], h2⟩
theorem frz_d {s : Slot} : s.frz.d = s.d := by cases s <;> rfl
section
variable {X : Cx} {H0 H : Hp} {A0 : Addr → Prop} {At : Option Addr} {n : Option Int} {ρ : Ev} {fp : Nat → List Addr} {σ : L2.St}
theorem SlotOk.frz {s : Slot} {v : V} {S : List Addr} (h : SlotOk X H0 At H s v S) : SlotOk X H0 At H s.frz v S := by
  cases s with
  | o d => exact h.1
  | oo d => exact h.1
  | _ => exact h
theorem SepS.frz {s : Slot} {S T : List Addr} : SepS s.frz S T := by
  cases s <;> exact trivial
theorem Rl.frzE (rl : Rl X H0 A0 At n ρ fp σ H) : Rl X H0 A0 At n (frzE ρ) fp σ H where
  pres := rl.pres
  len := by unfold MP.frzE; rw [List.length_map]; exact rl.len
  slot := fun i s e => by
    rw [getS_frzE] at e
    cases q : getS ρ i with
    | none => rw [q] at e; cases e
    | some s0 =>
      rw [q] at e
      cases e
      obtain ⟨v, e1, h⟩ := rl.slot i s0 q
      exact ⟨v, e1, h.frz⟩
  cell := rl.cell
  nat := fun i s e => by
    rw [getS_frzE] at e
    cases q : getS ρ i with
    | none => rw [q] at e; cases e
    | some s0 => exact rl.nat i s0 q
  sep := fun i j si sj _ e _ => by
    rw [getS_frzE] at e
    cases q : getS ρ i with
    | none => rw [q] at e; cases e
    | some s0 => rw [q] at e; cases e; exact SepS.frz
  src := fun i s e => by
    rw [getS_frzE] at e
    cases q : getS ρ i with
    | none => rw [q] at e; cases e
    | some s0 => exact rl.src i s0 q
theorem Rl.wipe (rl : Rl X H0 A0 At n ρ fp σ H) (vs : List Nat) : Rl X H0 A0 At n (wipeE ρ vs) fp (wipe σ vs) H where
  pres := rl.pres
  len := by rw [wipeE_length, wipe_length]; exact rl.len
  slot := fun i s e => by
    obtain ⟨h1, h2⟩ := getS_wipe e
    obtain ⟨v, e1, h⟩ := rl.slot i s h2
    exact ⟨v, by rw [wipe_out h1]; exact e1, h⟩
  cell := rl.cell
  nat := fun i s e => rl.nat i s (getS_wipe e).2
  sep := fun i j si sj h e e' => rl.sep i j si sj h (getS_wipe e).2 (getS_wipe e').2
  src := fun i s e => rl.src i s (getS_wipe e).2
theorem sep_frz {vs : List Nat} {S : List Addr} : SepAll (wipeE (MP.frzE ρ) vs) fp S := fun j sj e => by
  have e := (getS_wipe e).2
  rw [getS_frzE] at e
  cases q : getS ρ j with
  | none => rw [q] at e; cases e
  | some s0 => rw [q] at e; cases e; exact SepS.frz
/-- what lies in a thing made of names of the block lies in the source or in the frame's own -/
theorem reach_back {own vs es al : List Nat} {ρ' : Ev} {fp' : Nat → List Addr} {U : List Addr} (b : Bnd (wipeE (MP.frzE ρ) own) fp ρ' fp' vs U) {a : Addr} (h : Reach ρ' fp' es al a) :
    a ∈ U ∨ Reach ρ fp (es.filter fun i => !own.contains i) (al.filter fun i => !own.contains i) a := by
  obtain ⟨j, s, d, e, ed, m, ja, q⟩ := h
  by_cases hj : j ∈ vs
  · obtain ⟨d', _, sub⟩ := b.new j hj s e
    exact .inl (sub a m)
  · obtain ⟨e1, e2⟩ := b.old j hj
    rw [e1] at e
    obtain ⟨ho, e⟩ := getS_wipe e
    rw [getS_frzE] at e
    cases qs : getS ρ j with
    | none => rw [qs] at e; cases e
    | some s0 =>
      rw [qs] at e
      cases e
      rw [e2] at m q
      have mem : ∀ {l : List Nat}, j ∈ l → j ∈ l.filter fun i => !own.contains i := fun hl => List.mem_filter.mpr ⟨hl, by simp [ho]⟩
      exact .inr ⟨j, s0, d, qs, by rw [← frz_d]; exact ed, m, mem ja, q.imp mem id⟩
theorem ext_get {α : Type} {l1 l2 : List α} (h : ∀ j : Nat, l1[j]? = l2[j]?) : l1 = l2 := List.ext_getElem? h
theorem wipe_in {σ : L2.St} {i : Nat} : ∀ {vs : List Nat}, i ∈ vs → (wipe σ vs)[i]? = if i < σ.length then some none else none
  | v :: vs, h => by
    unfold L2.wipe
    rw [List.getElem?_set]
    by_cases e : v = i
    · subst e
      rw [if_pos rfl, wipe_length]
    · rw [if_neg e]
      exact wipe_in ((List.mem_cons.mp h).resolve_left (Ne.symm e))
theorem wipe_back {σ σ2 : L2.St} {own vs : List Nat} (b : SBnd (L2.wipe σ own) σ2 vs) (hs : ∀ i ∈ vs, i ∈ own) : L2.wipe σ2 own = L2.wipe σ own := by
  refine ext_get fun j => ?_
  have l : σ2.length = σ.length := b.len.trans (wipe_length _ _)
  by_cases h : j ∈ own
  · rw [wipe_in h, wipe_in h, l]
  · rw [wipe_out h, wipe_out h, b.old j fun z => h (hs j z), wipe_out h]
end
def tCond (X : Cx) (C : Cxt) (Z : ZT) (c : Option E) : TT := fun σ H Q => ∃ H0 A0 At n ρ fp, Rl X H0 A0 At n ρ fp σ H ∧ Out (evC C c ρ n) (fun b n' => ∀ H', Pres At H H' → CellOk At n' H' → Q b H') (Z At H)
theorem _root_.L2.PTs.weak {X : Cx} {x : List Expr} {t t' : TT} (h : PTs X x t) (hw : ∀ σ H Q, t' σ H Q → t σ H Q) : PTs X x t' := ⟨fun pins s σ H Q I q => h.run pins s σ H Q I (hw _ _ _ q)⟩
section
variable {X : Cx} {C : Cxt} {Z : ZT}
theorem sc_none : PTs X [] (tCond X C Z none) := by
  refine pts_nil.weak fun σ H Q h => ?_
  obtain ⟨H0, A0, At, n, ρ, fp, rl, h⟩ := h
  rw [evC] at h
  exact h H .refl rl.cell
theorem sc_some {x : Expr} {e : E} (h : PT X x (tEt X C Z e)) : PTs X [x] (tCond X C Z (some e)) := by
  refine (pts_one h).weak fun σ H Q h => ?_
  obtain ⟨H0, A0, At, n, ρ, fp, rl, h⟩ := h
  rw [evC, out_bind] at h
  exact ⟨H0, A0, At, n, ρ, fp, rl, h⟩
/-- names that are walked are locked -/
def tLE (X : Cx) (C : Cxt) (Z : ZT) (e : E) (l : List Nat) : TE := fun σ H Q => ∃ H0 A0 At n ρ fp, Rl X H0 A0 At n ρ fp σ H ∧ Lkd ρ fp H l ∧ Out (evE C e ρ n) (fun d n' => ∀ v H' S, Post X At ρ fp e H v d S H' n' → Q v H') (Z At H)
theorem Lkd.mono {ρ : Ev} {fp : Nat → List Addr} {H H' : Hp} {l : List Nat} {At : Option Addr} {n : Option Int} (h : Lkd ρ fp H l) (c : CellOk At n H) (p : Pres At H H') : Lkd ρ fp H' l := fun i hi kvs e a ha => by
  obtain ⟨o, u, q⟩ := h i hi kvs e a ha
  refine ⟨o, u, p.keep a _ q ?_⟩
  rintro rfl
  obtain ⟨xs, q2⟩ := c.at_some
  rw [q] at q2; cases q2
theorem src_of {H0 H H1 : Hp} {A0 : Addr → Prop} {At : Option Addr} {n : Option Int} {ρ : Ev} {fp : Nat → List Addr} {σ : L2.St} (rl : Rl X H0 A0 At n ρ fp σ H) {es al : List Nat} {a : Addr} (h : H a = none ∨ Reach ρ fp es al a) : H0 a = none ∨ A0 a := by
  rcases h with h | ⟨j, s, d, e, _, m, _⟩
  · exact .inl (rl.pres.trk a h)
  · exact rl.src j s e a m
theorem fp_trk {H0 H : Hp} {A0 : Addr → Prop} {At : Option Addr} {n : Option Int} {ρ : Ev} {fp : Nat → List Addr} {σ : L2.St} (rl : Rl X H0 A0 At n ρ fp σ H) {j : Nat} {s : Slot} (e : getS ρ j = some s) {a : Addr} (m : a ∈ fp j) : H a ≠ none := by
  obtain ⟨v, _, q⟩ := rl.slot j s e
  cases s with
  | p d => exact Rep.tracked q a m
  | o d => exact Rep.tracked q.1 a m
  | oo d => exact Rep.tracked q.1 a m
  | cell => rw [q.1] at m; cases m
  | err _ => rw [q.1] at m; cases m
theorem lc_tr {own : List (Str × Nat)} {e : E} {t : Tg} {it : It} {c : Option E} (hv : ∀ i ∈ t.vars, i ∈ own.map (·.2)) {σ : L2.St} {H : Hp} {Q : VK} (h : tLE X C Z (.lc e t it c (own.map (·.2))) it.lv σ H Q) :
    tLc (tI X C Z it) (tG X t) (tCond X C Z0 c) (tE X C Z0 e) (own.map (·.2)) σ H Q := by
  obtain ⟨H0, A0, At, n, ρ, fp, rl, lk, h⟩ := h
  rw [evE, out_bind] at h
  refine ⟨H0, A0, At, n, ρ, fp, rl, lk, h.imp (fun xs n1 h1 J H1 S T pI D hD => ?_) fun _ _ z => z⟩
  rw [out_bind, out_lft] at h1
  obtain ⟨xs', e0, h1⟩ := h1
  obtain ⟨e1, e2⟩ := lftIf_some e0
  subst e2
  rw [out_bind] at h1
  replace h1 := out_noX h1
  have fit := fits_le e1
  generalize hb : (fun x => (do
      let ρ' ← lft (bindT t x (wipeE (frzE ρ) (own.map (·.2))))
      let b ← evC C c ρ'
      if b then do let y ← evE C e ρ'; pure (some y) else pure none : M (Option MP.D))) = body at h1
  have av := rl.avoid pI.from_
  have nD : At ≠ some D := none_ne_at pI.cell hD
  have hDH : H D = none := pI.pres.trk D hD
  -- the source as it stands through the loop
  have W := pI.walk (fun b => if At = some b then none else H1 b) fun b o eb => by
    show (if At = some b then none else H1 b) = some o ∨ _
    by_cases z : At = some b
    · rw [if_pos z]
      refine .inr ⟨fun m => av b m z, ?_⟩
      subst z
      obtain ⟨ys, q⟩ := pI.cell.at_some
      rw [q] at eb; cases eb; trivial
    · rw [if_neg z]; exact .inl eb
  refine lc_it W (fun i Hc => ∃ n' done acc U, Out (forM' body (xs.drop i) n') (fun ys k => ∀ v H' S, Post X At ρ fp (.lc e t it c (own.map (·.2))) H v (.list (done ++ ys)) S H' k → Q v H') NoX ∧ Hc D = some (.lst acc) ∧ RepLX X Hc acc done U ∧
    (∀ a ∈ U, H a = none ∨ Reach ρ fp (E.lc e t it c (own.map (·.2))).esc (E.lc e t it c (own.map (·.2))).al a) ∧ D ∉ U ∧ Pres At H1 Hc ∧ CellOk At n' Hc ∧ acc.length ≤ i) ?_ ?_ ?_ ?_
  · refine ⟨n1, [], [], [], ?_, by rw [upd_same], .nil, (fun a h => by cases h), (fun h => by cases h), Pres.same (same_upd hD), pI.cell.same (same_upd hD), Nat.le_refl _⟩
    rw [List.drop_zero]
    exact h1.imp (fun ys k q => by rw [out_pure] at q; exact q) fun _ _ z => z
  · rintro i Hc _ ⟨n', done, acc, U, _, _, _, _, _, pr, _⟩
    intro b o eb
    have eb : (if At = some b then none else H1 b) = some o := eb
    by_cases z : At = some b
    · rw [if_pos z] at eb; cases eb
    · rw [if_neg z] at eb
      exact pr.keep b o eb z
  · rintro i x Hc Hc' hi ⟨n', done, acc, U, ho, hD1, rU, fU, dU, pr, cl, la⟩ ⟨sm, d, U', ed, rx, sub⟩
    have hdrop : xs.drop i = d :: xs.drop (i + 1) := by
      have hi' := lt_of_get ed
      rw [List.drop_eq_getElem_cons hi']
      congr 1
      have := List.getElem?_eq_getElem hi'
      rw [ed] at this
      exact (Option.some.inj this).symm
    rw [hdrop, forM', out_bind, ← hb] at ho
    simp only [out_bind, out_lft] at ho
    obtain ⟨ρ', eb, ho⟩ := ho
    have pH : Pres At H Hc' := pI.pres.trans (pr.trans (.same sm))
    have cH := cl.same sm
    have rw0 : Rl X H0 A0 At n' (wipeE (frzE ρ) (own.map (·.2))) fp (wipe σ (own.map (·.2))) Hc' := ((rl.frzE).wipe _).next pH cH
    have uT : ∀ a ∈ U', H a = none ∨ Reach ρ fp it.esc it.al a := fun a ha => pI.elem a (sub a ha)
    refine ⟨H0, A0, At, n', _, fp, d, U', rw0, rx, fun a ha => rl.avoid (fun b hb => pI.from_ b (pI.sub b (sub b hb))) a ha, fun a ha => src_of (H1 := H) rl (uT a ha), sep_frz, ρ', eb, fun fp' σ2 rl2 bnd sb => ⟨wipe_back sb hv, ?_⟩⟩
    refine ⟨H0, A0, At, n', ρ', fp', rl2, ho.imp (fun b n2 hb2 H3 p3 c3 => ?_) fun _ _ z => z⟩
    have hD3 : H3 D = some (.lst acc) := p3.keep D _ (sm D _ hD1) nD
    have pr3 : Pres At H1 H3 := pr.trans ((Pres.same sm).trans p3)
    have rU3 : RepLX X H3 acc done U := (RepL.same rU sm).step cH p3 fun a ha => rl.avoid fU a ha
    cases b with
    | false =>
      show (if false = true then _ else _)
      rw [if_neg Bool.false_ne_true] at hb2 ⊢
      rw [hb] at hb2
      rw [out_pure] at hb2
      exact ⟨n2, done, acc, U, by simpa only [out_bind, out_pure] using hb2, hD3, rU3, fU, dU, pr3, c3, Nat.le_succ_of_le la⟩
    | true =>
      show (if true = true then _ else _)
      rw [if_pos rfl] at hb2 ⊢
      rw [hb] at hb2
      rw [out_bind] at hb2
      refine ⟨H0, A0, At, n2, ρ', fp', rl2.next p3 c3, hb2.imp (fun dy n3 h3 v H4 Sy py => ?_) fun _ _ z => z⟩
      rw [out_pure] at h3
      have hD4 : H4 D = some (.lst acc) := py.pres.keep D _ hD3 nD
      have pr4 : Pres At H1 H4 := pr3.trans py.pres
      -- the new item's parts
      have fS : ∀ a ∈ Sy, H a = none ∨ Reach ρ fp (E.lc e t it c (own.map (·.2))).esc (E.lc e t it c (own.map (·.2))).al a := fun a ha => by
        rcases py.from_ a ha with q | q
        · exact .inl ((pH.trans p3).trk a q)
        · rcases reach_back bnd q with q | q
          · exact (uT a q).imp id fun q => q.mono (fun i hi => List.mem_append_right _ hi) fun i hi => List.mem_append_right _ hi
          · exact .inr (q.mono (fun i hi => List.mem_append_left _ hi) fun i hi => List.mem_append_left _ hi)
      have dS : D ∉ Sy := fun m => by
        rcases py.from_ D m with q | q
        · rw [hD3] at q; cases q
        · rcases reach_back bnd q with q | ⟨j, s, d', ej, _, mj, _⟩
          · exact pI.trk D (pI.sub D (sub D q)) hD
          · exact fp_trk rl ej mj hDH
      have up : ∀ b o, H4 b = some o → ¬ (b = D) → upd H4 D (.lst (acc ++ [v])) b = some o := fun b o eb nb => by rw [upd_ne nb]; exact eb
      have wD : ∀ b, b = D → WrO (H4 b) := fun b e => by rw [e, hD4]; trivial
      refine ⟨acc, hD4, Nat.lt_of_le_of_lt la (Nat.lt_of_lt_of_le hi fit), n3, done ++ [dy], acc ++ [v], U ++ (Sy ++ []), ?_, by rw [upd_same], ?_, fun a ha => ?_, fun m => ?_, ⟨fun b o eb nb => ?_, fun b eb => ?_⟩, ?_, by rw [List.length_append]; exact Nat.succ_le_succ la⟩
      · refine h3.imp (fun ys k q => ?_) fun _ _ z => z
        rw [out_pure] at q
        rw [List.append_assoc]
        exact q
      · exact RepL.mono (A := fun b => b = D) up wD ((rU3.step c3 py.pres fun a ha => rl.avoid fU a ha).append (.cons py.rep .nil)) fun a ha z => by
          subst z
          rcases List.mem_append.mp ha with q | q
          · exact dU q
          · exact dS (by simpa using q)
      · rcases List.mem_append.mp ha with q | q
        · exact fU a q
        · exact fS a (by simpa using q)
      · rcases List.mem_append.mp m with q | q
        · exact dU q
        · exact dS (by simpa using q)
      · rw [upd_ne (fun z => by rw [z, hD] at eb; cases eb)]
        exact pr4.keep b o eb nb
      · by_cases z : b = D
        · rw [z, upd_same] at eb; cases eb
        · rw [upd_ne z] at eb
          exact pr4.trk b eb
      · have q := py.cell
        unfold CellOk at q ⊢
        cases At with
        | none => cases n3 with
          | none => trivial
          | some k => exact q.elim
        | some b => cases n3 with
          | none => exact q
          | some k =>
            show upd H4 D _ b = _
            rw [upd_ne (fun z => nD (by rw [z]))]
            exact q
  · rintro Hc ⟨n', done, acc, U, ho, hD1, rU, fU, dU, pr, cl, la⟩
    rw [List.drop_length, forM', out_pure, List.append_nil] at ho
    refine ho _ _ (D :: U) (.mk' (.lst (.inl hD1) rU) (pI.pres.trans pr) cl rfl (fun a ha => ?_) fun _ _ => ⟨D, U, rfl, rfl, hDH, dU, .inl ⟨_, hD1⟩⟩)
    rcases List.mem_cons.mp ha with rfl | ha
    · exact .inl hDH
    · exact fU a ha
theorem se_lc {elt tg iter : Expr} {ifs : List Expr} {scope : Scope} {own : List (Str × Nat)} {pos : Pos} {e : E} {t : Tg} {it : It} {c : Option E} (hc : X.calm = true) (hN : X.N.Nodup) (hi : PI X tg iter (tI X C Z it)) (ok : BlkOk X.N X.env.scope scope own)
    (hg : ∀ (s : Shared) (H : Hp) (Ca : Addr) (cl : List (Str × Addr)) (fp : List Addr), PG (X.blk s H scope (compEnvC scope cl Ca X.env) fp) tg (tG X t)) (ht : ∀ (s : Shared) (H : Hp) (Ca : Addr) (cl : List (Str × Addr)) (fp : List Addr), PTs (X.blk s H scope (compEnvC scope cl Ca X.env) fp) ifs (tCond X C Z0 c))
    (he : ∀ (s : Shared) (H : Hp) (Ca : Addr) (cl : List (Str × Addr)) (fp : List Addr), PE (X.blk s H scope (compEnvC scope cl Ca X.env) fp) elt (tE X C Z0 e)) (hs : ∀ x, foldedSetIterable iter X.env x = pure x) (hv : ∀ i ∈ t.vars, i ∈ own.map (·.2)) :
    PE X (.ListComp elt [⟨tg, iter, ifs, 0⟩] scope pos) (tLE X C Z (.lc e t it c (own.map (·.2))) it.lv) := by
  exact (pe_lc hc hN hi ok hg ht he hs).weak fun σ H Q h => lc_tr hv h
end
end MP

/-! MPLk: a dict held by a name is locked while it is walked. -/
namespace MP
open PySem PySem.Spec L2
open PyProof.Rows hiding St

section
variable {X : Cx} {H0 H : Hp} {A0 : Addr → Prop} {At : Option Addr} {n : Option Int} {ρ : Ev} {fp : Nat → List Addr} {σ : L2.St}
theorem dict_ref {v : V} {kvs : List (D × D)} {S : List Addr} (r : RepX X H v (.dict kvs) S) : ∃ a T u, v = .ref a ∧ S = a :: T ∧ Rd H a u ∧ Mut (some u) ∧ NoF u ∧ ∀ xs, u ≠ .lst xs := by
  cases r with
  | dk h _ _ _ _ => exact ⟨_, _, _, rfl, rfl, h, trivial, nf_dk, fun _ z => nomatch z⟩
  | dt h _ _ _ _ _ _ _ _ => exact ⟨_, _, _, rfl, rfl, h, trivial, nf_ext, fun _ z => nomatch z⟩
def delA (H : Hp) (a : Addr) : Hp := fun b => if b = a then none else H b
theorem delA_some {a b : Addr} {o : HO} (h : delA H a b = some o) : b ≠ a ∧ H b = some o := by
  unfold delA at h
  split at h
  · cases h
  · exact ⟨by assumption, h⟩
theorem delA_none {a b : Addr} (h : H b = none) : delA H a b = none := by
  unfold delA
  split
  · rfl
  · exact h
theorem CellOk.upd {a : Addr} {o : HO} (c : CellOk At n H) (ha : At ≠ some a) : CellOk At n (upd H a o) := by
  unfold CellOk at *
  cases At with
  | none => cases n with
    | none => trivial
    | some k => exact c.elim
  | some b => cases n with
    | none => exact c
    | some k =>
      show L2.upd H a o b = _
      rw [upd_ne (fun z => ha (by rw [z]))]
      exact c
theorem WrF.lock {a b : Addr} {u : HO} {od : Obj} (h : WrF (H b)) : WrF (upd H a (.frz od u) b) := by
  by_cases e : b = a
  · subst e
    exact .inr ⟨od, u, by rw [upd_same]⟩
  · rw [upd_ne e]; exact h
theorem ErrOk.lock {a : Addr} {u : HO} {od : Obj} {e : Exn} {v : V} {S : List Addr} (hu : H a = some u) (nf : NoF u) (mu : Mut (some u)) (h : ErrOk X H e v S) : ErrOk X (upd H a (.frz od u)) e v S :=
  h.imp (fun dd fs q => by rw [upd_ne (fun z => by rw [z, hu] at q; cases q; exact mu)]; exact q) fun _ _ r => Rep.view (Vw.lock hu nf) r
theorem ErrOk.unlock {a : Addr} {u : HO} {od : Obj} {e : Exn} {v : V} {S : List Addr} (h1 : H a = some (.frz od u)) (h : ErrOk X H e v S) : ErrOk X (upd H a u) e v S :=
  h.imp (fun dd fs q => by rw [upd_ne (fun z => by rw [z, h1] at q; cases q)]; exact q) fun _ _ r => Rep.view (Vw.unlock h1) r
theorem lock_back {a : Addr} {u : HO} {od : Obj} (hu : H a = some u) (ha : At ≠ some a) (A : Option Addr) (H' : Hp) (k : AtOk (upd H a (.frz od u)) At A) (p : Pres A (upd H a (.frz od u)) H') (c : CellOk A n H') :
    H' a = some (.frz od u) ∧ AtOk H At A ∧ Pres A H (upd H' a u) ∧ CellOk A n (upd H' a u) := by
  have nA : A ≠ some a := fun z => by
    rcases k.2 a z with q | q
    · exact ha q
    · rw [upd_same] at q; cases q
  have h1 : H' a = some (.frz od u) := p.keep a _ (by rw [upd_same]) nA
  have back : ∀ b, upd H a (.frz od u) b = none → H b = none := fun b e => by
    by_cases z : b = a
    · rw [z, upd_same] at e; cases e
    · rw [upd_ne z] at e; exact e
  refine ⟨h1, ⟨k.1, fun b e => (k.2 b e).imp id (back b)⟩, ⟨fun b o e nb => ?_, fun b e => ?_⟩, c.upd nA⟩
  · by_cases z : b = a
    · rw [z] at e ⊢
      rw [hu] at e; cases e
      rw [upd_same]
    · rw [upd_ne z]
      exact p.keep b o (by rw [upd_ne z]; exact e) nb
  · by_cases z : b = a
    · rw [z, upd_same] at e; cases e
    · rw [upd_ne z] at e
      exact back b (p.trk b e)
theorem SlotOk.lock {a : Addr} {u : HO} {od : Obj} {s : Slot} {v : V} {S : List Addr} (hu : H a = some u) (nf : NoF u) (mu : Mut (some u)) (h : SlotOk X H0 At H s v S) : SlotOk X (delA H0 a) At (upd H a (.frz od u)) s v S := by
  cases s with
  | p d => exact Rep.view (Vw.lock hu nf) h
  | o d =>
    obtain ⟨r, i, b, T, e1, e2, e3, e4, e5⟩ := h
    exact ⟨Rep.view (Vw.lock hu nf) r, i, b, T, e1, e2, e3, delA_none e4, e5.lock⟩
  | oo d =>
    obtain ⟨r, i, q, nd, all⟩ := h
    exact ⟨Rep.view (Vw.lock hu nf) r, i, q, nd, fun b hb => ⟨delA_none (all b hb).1, (all b hb).2.lock⟩⟩
  | cell => exact h
  | err e => exact ErrOk.lock hu nf mu h
theorem Rl.lock (rl : Rl X H0 A0 At n ρ fp σ H) {a : Addr} {u : HO} {od : Obj} (hu : H a = some u) (nf : NoF u) (mu : Mut (some u)) (ha : At ≠ some a) : Rl X (delA H0 a) A0 At n ρ fp σ (upd H a (.frz od u)) where
  pres := ⟨fun b o e nb => by
    obtain ⟨h1, h2⟩ := delA_some e
    rw [upd_ne h1]
    exact rl.pres.keep b o h2 nb, fun b e => by
    by_cases z : b = a
    · rw [z, upd_same] at e; cases e
    · rw [upd_ne z] at e
      exact delA_none (rl.pres.trk b e)⟩
  len := rl.len
  slot := fun i s e => by
    obtain ⟨v, e1, q⟩ := rl.slot i s e
    exact ⟨v, e1, q.lock hu nf mu⟩
  cell := rl.cell.upd ha
  nat := rl.nat
  sep := rl.sep
  src := fun i s e b hb => (rl.src i s e b hb).imp delA_none id
theorem Post.unlock {a : Addr} {u : HO} {od : Obj} {e : E} {v : V} {d : D} {S : List Addr} {H1 : Hp} {n' : Option Int} (p : Post X At ρ fp e (upd H a (.frz od u)) v d S H1 n') (hu : H a = some u) (ha : At ≠ some a) :
    H1 a = some (.frz od u) ∧ Post X At ρ fp e H v d S (upd H1 a u) n' := by
  have h1 : H1 a = some (.frz od u) := p.pres.keep a _ (by rw [upd_same]) ha
  have back : ∀ b, upd H a (.frz od u) b = none → H b = none := fun b e => by
    by_cases z : b = a
    · rw [z, upd_same] at e; cases e
    · rw [upd_ne z] at e; exact e
  refine ⟨h1, Rep.view (Vw.unlock h1) p.rep, ⟨fun b o e nb => ?_, fun b e => ?_⟩, p.cell.upd ha, fun b hb => (p.from_ b hb).imp (back b) id, fun b hb => (p.elem b hb).imp (back b) id, fun h h' => ?_⟩
  · by_cases z : b = a
    · rw [z] at e ⊢
      rw [hu] at e; cases e
      rw [upd_same]
    · rw [upd_ne z]
      exact p.pres.keep b o (by rw [upd_ne z]; exact e) nb
  · by_cases z : b = a
    · rw [z, upd_same] at e; cases e
    · rw [upd_ne z] at e
      exact back b (p.pres.trk b e)
  · obtain ⟨b, T, e1, e2, e3, e4, e5⟩ := p.new h h'
    have z : b ≠ a := fun z => by rw [z, upd_same] at e3; cases e3
    exact ⟨b, T, e1, e2, back b e3, e4, by rw [upd_ne z]; exact e5⟩
theorem Lkd.nil : Lkd ρ fp H [] := fun i h => nomatch h
/-- a name's dict: as it is, or to be locked -/
theorem lk_case (rl : Rl X H0 A0 At n ρ fp σ H) (i : Nat) : Lkd ρ fp H [i] ∨ ∃ a u, H a = some u ∧ Mut (some u) ∧ NoF u ∧ At ≠ some a ∧ (∀ s, getS ρ i = some s → a ∈ fp i) ∧ (∃ kvs, getD ρ i = some (.dict kvs)) ∧ (fp i).head? = some a ∧ ∀ od, Lkd ρ fp (upd H a (.frz od u)) [i] := by
  cases q : getD ρ i with
  | none =>
    refine .inl fun j hj kvs e => ?_
    obtain rfl : j = i := by simpa using hj
    rw [q] at e; cases e
  | some d =>
    by_cases hd : ∃ kvs, d = .dict kvs
    · obtain ⟨kvs, rfl⟩ := hd
      obtain ⟨v, _, r, _, _⟩ := lk_slot rl q
      obtain ⟨a, T, u, ev, eS, hr, mu, nf, nl⟩ := dict_ref r
      have hs : ∃ s, getS ρ i = some s := by
        unfold getD at q
        cases z : getS ρ i with
        | none => rw [z] at q; cases q
        | some s => exact ⟨s, rfl⟩
      obtain ⟨s, hs⟩ := hs
      have ha : At ≠ some a := rl.nat i s hs a (by rw [eS]; exact List.mem_cons_self)
      rcases hr with hr | ⟨o, hr⟩
      · refine .inr ⟨a, u, hr, mu, nf, ha, fun _ _ => by rw [eS]; exact List.mem_cons_self, ⟨kvs, rfl⟩, by rw [eS]; rfl, fun od j hj kvs e b hb => ?_⟩
        obtain rfl : j = i := by simpa using hj
        rw [eS] at hb
        cases hb
        exact ⟨od, u, by rw [upd_same]⟩
      · refine .inl fun j hj kvs e b hb => ?_
        obtain rfl : j = i := by simpa using hj
        rw [eS] at hb
        cases hb
        exact ⟨o, u, hr⟩
    · refine .inl fun j hj kvs e => ?_
      obtain rfl : j = i := by simpa using hj
      rw [q] at e
      exact absurd ⟨kvs, Option.some.inj e⟩ hd
end
section
variable {X : Cx} {C : Cxt} {Z : ZT}
theorem se_lk0 {x : Expr} {e : E} (h : PE X x (tLE X C (ZX X) e [])) : PE X x (tE X C (ZX X) e) := h.weak fun σ H Q ⟨H0, A0, At, n, ρ, fp, rl, q⟩ => ⟨H0, A0, At, n, ρ, fp, rl, .nil, q⟩
theorem se_lk1 {x : Expr} {e : E} {i : Nat} (h : PE X x (tLE X C (ZX X) e [i])) : PE X x (tE X C (ZX X) e) := by
  refine ⟨fun pins s σ H Q I hq => ?_⟩
  obtain ⟨H0, A0, At, n, ρ, fp, rl, q⟩ := hq
  rcases lk_case rl i with l | ⟨a, u, hu, mu, nf, ha, _, _, _, lk⟩
  · exact h.run pins s σ H Q I ⟨H0, A0, At, n, ρ, fp, rl, l, q⟩
  · refine (pe_lock h).run pins s σ H Q I ⟨a, u, hu, mu, fun od => ⟨delA H0 a, A0, At, n, ρ, fp, rl.lock hu nf mu ha, lk od, q.imp (fun d n' hd v H1 S p => ?_) fun e k z => zx_lock z (I.nofrz hu mu) (fun H1 h1 v x r => Rep.view (Vw.unlock h1) r) fun A H1 => lock_back hu ha A H1⟩⟩
    obtain ⟨h1, p'⟩ := p.unlock hu ha
    exact ⟨h1, hd v _ S p'⟩
theorem se_lk {x : Expr} {e : E} {l : List Nat} (h : PE X x (tLE X C (ZX X) e l)) (hl : l.length ≤ 1) : PE X x (tE X C (ZX X) e) := by
  match l, hl with
  | [], _ => exact se_lk0 h
  | [i], _ => exact se_lk1 h
end
end MP

/-! MPS1: statements: what they promise; the plain ones; assignment. -/
namespace MP
open PySem PySem.Spec L2
open PyProof.Rows hiding St

/-- what is held alone may be written -/
def OwnW (s : Slot) (S : List Addr) (H : Hp) : Prop := match s with
  | .o _ => ∀ a, S.head? = some a → Wr (H a)
  | .oo _ => ∀ a ∈ S, Wr (H a)
  | _ => True
def UL (ρ : Ev) (fp : Nat → List Addr) (H : Hp) : Prop := ∀ i s, getS ρ i = some s → OwnW s (fp i) H
structure Sl (X : Cx) (H0 : Hp) (A0 : Addr → Prop) (At : Option Addr) (n : Option Int) (ρ : Ev) (fp : Nat → List Addr) (σ : L2.St) (H : Hp) : Prop where
  rl : Rl X H0 A0 At n ρ fp σ H
  ul : UL ρ fp H
/-- what a suite is to reach -/
def KD (X : Cx) (H0 : Hp) (A0 : Addr → Prop) (At : Option Addr) (D : Ends) (r : Ev × Fl) (n' : Option Int) : Prop := match r.2 with
  | .next => ∀ At' fp' σ' H', Sl X H0 A0 At' n' r.1 fp' σ' H' → AtOk H0 At At' → D.nx σ' H'
  | .brk => ∀ At' fp' σ' H', Sl X H0 A0 At' n' r.1 fp' σ' H' → AtOk H0 At At' → D.bk σ' H'
  | .cont => ∀ At' fp' σ' H', Sl X H0 A0 At' n' r.1 fp' σ' H' → AtOk H0 At At' → D.ct σ' H'
  | .ret d => ∀ At' v S H', RepX X H' v d S → Pres At' H0 H' → CellOk At' n' H' → AtOk H0 At At' → (∀ a ∈ S, H0 a = none ∨ A0 a) → (∀ a ∈ S, At' ≠ some a) → D.rt v H'
def tS (X : Cx) (C : Cxt) (s : S) : TS := fun D σ H => ∃ H0 A0 At n ρ fp, Sl X H0 A0 At n ρ fp σ H ∧ Out (evS C s ρ n) (KD X H0 A0 At D) (ZX X At H0)
def tSs (X : Cx) (C : Cxt) (ss : List S) : TS := fun D σ H => ∃ H0 A0 At n ρ fp, Sl X H0 A0 At n ρ fp σ H ∧ Out (evSs C ss ρ n) (KD X H0 A0 At D) (ZX X At H0)
theorem _root_.L2.PS.weak {X : Cx} {x : Stmt} {t t' : TS} (h : PS X x t) (hw : ∀ D σ H, t' D σ H → t D σ H) : PS X x t' := ⟨fun pins s σ H D I q => h.run pins s σ H D I (hw _ _ _ q)⟩
theorem _root_.L2.PSs.weak {X : Cx} {x : List Stmt} {t t' : TS} (h : PSs X x t) (hw : ∀ D σ H, t' D σ H → t D σ H) : PSs X x t' := ⟨fun pins s σ H D I q => h.run pins s σ H D I (hw _ _ _ q)⟩

section
variable {X : Cx} {H0 H H' : Hp} {A0 : Addr → Prop} {At : Option Addr} {n n' : Option Int} {ρ ρ' : Ev} {fp : Nat → List Addr} {σ : L2.St}
theorem UL.step (u : UL ρ fp H) (rl : Rl X H0 A0 At n ρ fp σ H) (p : Pres At H H') : UL ρ fp H' := fun i s e => by
  have q := u i s e
  cases s with
  | o d =>
    intro a ha
    exact (q a ha).step p (rl.nat i _ e a (List.mem_of_mem_head? ha))
  | oo d =>
    intro a ha
    exact (q a ha).step p (rl.nat i _ e a ha)
  | _ => trivial
theorem zx_sl {e : Exn} {k : Option Int} (s : Sl X H0 A0 At n ρ fp σ H) (z : ZX X At H0 e k) : ZX X At H e k := zx_mono _ _ _ _ _ s.rl.pres z
theorem zx_rl {e : Exn} {k : Option Int} (s : Rl X H0 A0 At n ρ fp σ H) (z : ZX X At H0 e k) : ZX X At H e k := zx_mono _ _ _ _ _ s.pres z
theorem out_rl {α : Type} {r : Rs α} {P : α → Option Int → Prop} (s : Rl X H0 A0 At n ρ fp σ H) (h : Out r P (ZX X At H0)) : Out r P (ZX X At H) := h.imp (fun _ _ q => q) fun _ _ z => zx_rl s z
theorem Sl.next (s : Sl X H0 A0 At n ρ fp σ H) (p : Pres At H H') (c : CellOk At n' H') : Sl X H0 A0 At n' ρ fp σ H' := ⟨s.rl.next p c, s.ul.step s.rl p⟩
/-- some slots frozen -/
def FrzS (ρ ρ' : Ev) : Prop := ρ'.length = ρ.length ∧ ∀ j, getS ρ' j = getS ρ j ∨ ∃ s, getS ρ j = some s ∧ getS ρ' j = some s.frz
theorem FrzS.refl : FrzS ρ ρ := ⟨rfl, fun _ => .inl rfl⟩
theorem frz_frz {s : Slot} : s.frz.frz = s.frz := by cases s <;> rfl
theorem FrzS.trans {ρ1 ρ2 ρ3 : Ev} (a : FrzS ρ1 ρ2) (b : FrzS ρ2 ρ3) : FrzS ρ1 ρ3 := by
  refine ⟨b.1.trans a.1, fun j => ?_⟩
  rcases b.2 j with e | ⟨s, e1, e2⟩
  · rw [e]; exact a.2 j
  · rcases a.2 j with e | ⟨s', e3, e4⟩
    · exact .inr ⟨s, by rw [← e]; exact e1, e2⟩
    · rw [e4] at e1
      cases e1
      exact .inr ⟨s', e3, by rw [e2, frz_frz]⟩
theorem frz_s (ρ : Ev) (i : Nat) : FrzS ρ (frz ρ i) := by
  unfold frz
  cases q : getS ρ i with
  | none => exact .refl
  | some s =>
    have go : FrzS ρ (ρ.set i (some s.frz)) := by
      refine ⟨List.length_set .., fun j => ?_⟩
      have h := getS_set (ρ := ρ) (i := i) (j := j) (s := s.frz)
      by_cases e : j = i
      · subst e
        rw [if_pos rfl, if_pos (getS_lt q)] at h
        exact .inr ⟨s, q, h⟩
      · rw [if_neg e] at h
        exact .inl h
    cases s with
    | o d => exact go
    | oo d => exact go
    | _ => exact .refl
theorem frz2_s (ρ : Ev) (i : Nat) : FrzS ρ (frz2 ρ i) := by
  unfold frz2
  cases q : getS ρ i with
  | none => exact .refl
  | some s =>
    cases s with
    | oo d =>
      refine ⟨List.length_set .., fun j => ?_⟩
      have h := getS_set (ρ := ρ) (i := i) (j := j) (s := .p d)
      by_cases e : j = i
      · subst e
        rw [if_pos rfl, if_pos (getS_lt q)] at h
        exact .inr ⟨_, q, h⟩
      · rw [if_neg e] at h
        exact .inl h
    | _ => exact .refl
theorem foldl_frz (l : List Nat) : ∀ ρ : Ev, FrzS ρ (l.foldl frz ρ) := by
  induction l with
  | nil => exact fun _ => .refl
  | cons i l ih => exact fun ρ => (frz_s ρ i).trans (ih _)
theorem foldl_frz2 (l : List Nat) : ∀ ρ : Ev, FrzS ρ (l.foldl frz2 ρ) := by
  induction l with
  | nil => exact fun _ => .refl
  | cons i l ih => exact fun ρ => (frz2_s ρ i).trans (ih _)
theorem frzAll_s (ρ : Ev) (es al : List Nat) : FrzS ρ (frzAll ρ es al) := (foldl_frz es ρ).trans (foldl_frz2 al _)
/-- once frozen, it stays -/
def NotO (ρ : Ev) (j : Nat) : Prop := ∀ d, getS ρ j ≠ some (.o d) ∧ getS ρ j ≠ some (.oo d)
def NotOo (ρ : Ev) (j : Nat) : Prop := ∀ d, getS ρ j ≠ some (.oo d)
theorem NotO.frz (h : NotO ρ i) (f : FrzS ρ ρ') : NotO ρ' i := fun d => by
  rcases f.2 i with e | ⟨s, e1, e2⟩
  · rw [e]; exact h d
  · rw [e2]
    cases s <;> simp [Slot.frz]
theorem NotOo.frz {i : Nat} (h : NotOo ρ i) (f : FrzS ρ ρ') : NotOo ρ' i := fun d => by
  rcases f.2 i with e | ⟨s, e1, e2⟩
  · rw [e]; exact h d
  · rw [e2]
    cases s <;> simp [Slot.frz]
theorem frz_not {i : Nat} : NotO (frz ρ i) i := fun d => by
  unfold MP.frz
  cases q : getS ρ i with
  | none => simp [q]
  | some s =>
    have h : ∀ s, getS (setS ρ i s) i = some s := fun s => by rw [getS_set, if_pos rfl, if_pos (getS_lt q)]
    cases s with
    | o d' => rw [show getS (ρ.set i (some (.p d'))) i = some (.p d') from h _]; simp
    | oo d' => rw [show getS (ρ.set i (some (.p d'))) i = some (.p d') from h _]; simp
    | _ => simp [q]
theorem frz2_not {i : Nat} : NotOo (frz2 ρ i) i := fun d => by
  unfold MP.frz2
  cases q : getS ρ i with
  | none => simp [q]
  | some s =>
    have h : ∀ s, getS (setS ρ i s) i = some s := fun s => by rw [getS_set, if_pos rfl, if_pos (getS_lt q)]
    cases s with
    | oo d' => rw [show getS (ρ.set i (some (.p d'))) i = some (.p d') from h _]; simp
    | _ => simp [q]
theorem foldl_not (l : List Nat) : ∀ (ρ : Ev) (i : Nat), i ∈ l → NotO (l.foldl frz ρ) i := by
  induction l with
  | nil => exact fun _ _ h => nomatch h
  | cons j l ih =>
    intro ρ i h
    rcases List.mem_cons.mp h with rfl | h
    · exact frz_not.frz (foldl_frz l _)
    · exact ih _ i h
theorem foldl2_not (l : List Nat) : ∀ (ρ : Ev) (i : Nat), i ∈ l → NotOo (l.foldl frz2 ρ) i := by
  induction l with
  | nil => exact fun _ _ h => nomatch h
  | cons j l ih =>
    intro ρ i h
    rcases List.mem_cons.mp h with rfl | h
    · exact frz2_not.frz (foldl_frz2 l _)
    · exact ih _ i h
theorem frzAll_o {es al : List Nat} {j : Nat} {d : D} (h : getS (frzAll ρ es al) j = some (.o d)) : j ∉ es := fun m => ((foldl_not es ρ j m).frz (foldl_frz2 al _) d).1 h
theorem frzAll_oo {es al : List Nat} {j : Nat} {d : D} (h : getS (frzAll ρ es al) j = some (.oo d)) : j ∉ al := fun m => foldl2_not al _ j m d h
theorem FrzS.get (f : FrzS ρ ρ') {j : Nat} {s : Slot} (e : getS ρ' j = some s) : ∃ s0, getS ρ j = some s0 ∧ (s = s0 ∨ s = s0.frz) := by
  rcases f.2 j with q | ⟨s0, q1, q2⟩
  · exact ⟨s, by rw [← q]; exact e, .inl rfl⟩
  · rw [e] at q2
    exact ⟨s0, q1, .inr (Option.some.inj q2)⟩
theorem Rl.frzS (rl : Rl X H0 A0 At n ρ fp σ H) (f : FrzS ρ ρ') : Rl X H0 A0 At n ρ' fp σ H where
  pres := rl.pres
  len := by rw [f.1]; exact rl.len
  slot := fun i s e => by
    obtain ⟨s0, q, h⟩ := f.get e
    obtain ⟨v, e1, ok⟩ := rl.slot i s0 q
    rcases h with rfl | rfl
    · exact ⟨v, e1, ok⟩
    · exact ⟨v, e1, ok.frz⟩
  cell := rl.cell
  nat := fun i s e => by
    obtain ⟨s0, q, h⟩ := f.get e
    exact rl.nat i s0 q
  sep := fun i j si sj hij e e' => by
    obtain ⟨s0, q, h⟩ := f.get e
    obtain ⟨s1, q1, _⟩ := f.get e'
    rcases h with rfl | rfl
    · exact rl.sep i j _ s1 hij q q1
    · exact SepS.frz
  src := fun i s e => by
    obtain ⟨s0, q, h⟩ := f.get e
    exact rl.src i s0 q
theorem UL.frzS (u : UL ρ fp H) (f : FrzS ρ ρ') : UL ρ' fp H := fun i s e => by
  obtain ⟨s0, q, h⟩ := f.get e
  rcases h with rfl | rfl
  · exact u i _ q
  · cases s0 <;> first | trivial | exact u i _ q
theorem Sl.frzS (s : Sl X H0 A0 At n ρ fp σ H) (f : FrzS ρ ρ') : Sl X H0 A0 At n ρ' fp σ H := ⟨s.rl.frzS f, s.ul.frzS f⟩
/-- what an expression has given lies apart from what is still held alone -/
theorem sep_frzAll (rl : Rl X H0 A0 At n ρ fp σ H) {es al : List Nat} {S : List Addr} (h : ∀ a ∈ S, H a = none ∨ Reach ρ fp es al a) : SepAll (frzAll ρ es al) fp S := fun j sj e => by
  obtain ⟨s0, q, hs⟩ := (frzAll_s ρ es al).get e
  cases sj with
  | o d =>
    have hq : s0 = .o d := by rcases hs with z | z; exact z.symm; cases s0 <;> cases z
    subst hq
    intro a ha hm
    obtain ⟨v, _, _, ic, b, T, _, eS, nT, _⟩ := rl.slot j _ q
    rw [eS] at ha
    obtain rfl : b = a := Option.some.inj ha
    rcases h b hm with z | ⟨k, sk, dk, ek, edk, mk, ka, z⟩
    · exact fp_trk rl q (by rw [eS]; exact List.mem_cons_self) z
    · by_cases hk : j = k
      · subst hk
        rw [q] at ek
        cases ek
        cases edk
        rcases z with z | z
        · exact frzAll_o e z
        · unfold elems at z
          rw [ic, if_pos rfl, eS] at z
          exact nT z
      · exact rl.sep j k _ sk hk q ek b (by rw [eS]; rfl) mk
  | oo d =>
    have hq : s0 = .oo d := by rcases hs with z | z; exact z.symm; cases s0 <;> cases z
    subst hq
    intro a ha hm
    rcases h a hm with z | ⟨k, sk, dk, ek, edk, mk, ka, z⟩
    · exact fp_trk rl q ha z
    · by_cases hk : j = k
      · subst hk
        exact frzAll_oo e ka
      · exact rl.sep j k _ sk hk q ek a ha mk
  | _ => trivial
theorem Bnd.ul {fp' : Nat → List Addr} {vs : List Nat} {S : List Addr} (b : Bnd ρ fp ρ' fp' vs S) (u : UL ρ fp H) : UL ρ' fp' H := fun j s e => by
  by_cases hj : j ∈ vs
  · obtain ⟨d, e1, _⟩ := b.new j hj s e
    subst e1
    trivial
  · obtain ⟨e1, e2⟩ := b.old j hj
    rw [e2]
    rw [e1] at e
    exact u j s e
theorem repl_nil {vs : List V} {ds : List D} {S : List Addr} (r : RepLX X H vs ds S) (h : ds = []) : S = [] := by
  cases r with
  | nil => rfl
  | cons _ _ => cases h
/-- a name gets what an expression has given -/
theorem Sl.asg {e : E} {v : V} {d : D} {S : List Addr} (s : Sl X H0 A0 At n ρ fp σ H) (p : Post X At ρ fp e H v d S H' n') (dp : Bool) (i : Nat) :
    Sl X H0 A0 At n' (setS (frzAll ρ e.esc e.al) i (slotOf dp e.fresh d)) (fset fp i S) (σ.set i (some v)) H' := by
  have s1 : Sl X H0 A0 At n' (frzAll ρ e.esc e.al) fp σ H' := (s.next p.pres p.cell).frzS (frzAll_s _ _ _)
  have sp := sep_frzAll s.rl p.from_
  have nat := s.rl.avoid p.from_
  have src : ∀ a ∈ S, H0 a = none ∨ A0 a := fun a ha => src_of (H1 := H) s.rl (p.from_ a ha)
  have nw : ∀ (a : Addr), H a = none → ∀ j sj, getS (frzAll ρ e.esc e.al) j = some sj → a ∉ fp j := fun a ha j sj ej m => by
    obtain ⟨s0, q, _⟩ := (frzAll_s ρ e.esc e.al).get ej
    exact fp_trk s.rl q m ha
  have ulp : ∀ sl, OwnW sl S H' → UL (setS (frzAll ρ e.esc e.al) i sl) (fset fp i S) H' := fun sl ho j sj ej => by
    rw [getS_set] at ej
    by_cases h : j = i
    · subst h
      rw [if_pos rfl] at ej
      rw [fset_same]
      split at ej
      · cases ej; exact ho
      · cases ej
    · rw [if_neg h] at ej
      rw [fset_ne h]
      exact s1.ul j sj ej
  have plain : Sl X H0 A0 At n' (setS (frzAll ρ e.esc e.al) i (.p d)) (fset fp i S) (σ.set i (some v)) H' :=
    ⟨s1.rl.put (s := .p d) p.rep nat src fun j sj _ ej => ⟨sp j sj ej, trivial⟩, ulp _ trivial⟩
  unfold slotOf
  by_cases hf : (e.fresh && isCont d) = true
  · rw [if_pos hf]
    rw [Bool.and_eq_true] at hf
    obtain ⟨a, T, e1, e2, e3, e4, e5⟩ := p.new hf.1 hf.2
    have h0 : H0 a = none := s.rl.pres.trk a e3
    by_cases hd : (dp && isEmp d) = true
    · rw [if_pos hd]
      rw [Bool.and_eq_true] at hd
      have hT : T = [] := by
        have go : ∀ {v : V} {d : D} {S : List Addr}, RepX X H' v d S → isEmp d = true → ∀ a T, S = a :: T → T = [] := by
          intro v d S r he a T eS
          cases r with
          | lst _ r =>
            cases r with
            | nil => cases eS; rfl
            | cons _ _ => cases he
          | @dk _ _ kvs _ _ _ _ _ r =>
            cases kvs with
            | nil => have q := repl_nil r rfl; subst q; cases eS; rfl
            | cons _ _ => cases he
          | @dt _ _ _ kvs _ _ _ _ _ _ _ _ _ r =>
            cases kvs with
            | nil => have q := repl_nil r rfl; subst q; cases eS; rfl
            | cons _ _ => cases he
          | _ => cases he
        exact go p.rep hd.2 a T e2
      subst hT
      refine ⟨s1.rl.put (s := .oo d) ⟨p.rep, hf.2, ⟨a, [], e1, e2⟩, by rw [e2]; simp, fun b hb => ?_⟩ nat src fun j sj _ ej => ⟨sp j sj ej, fun b hb => ?_⟩, ulp _ fun b hb => ?_⟩
      · obtain rfl : b = a := by rw [e2] at hb; simpa using hb
        exact ⟨h0, .inl e5⟩
      · obtain rfl : b = a := by rw [e2] at hb; simpa using hb
        exact nw b e3 j sj ej
      · obtain rfl : b = a := by rw [e2] at hb; simpa using hb
        exact e5
    · rw [if_neg hd]
      refine ⟨s1.rl.put (s := .o d) ⟨p.rep, hf.2, a, T, e1, e2, e4, h0, .inl e5⟩ nat src fun j sj _ ej => ⟨sp j sj ej, fun b hb => ?_⟩, ulp _ fun b hb => ?_⟩
      · rw [e2] at hb
        obtain rfl : a = b := Option.some.inj hb
        exact nw a e3 j sj ej
      · rw [e2] at hb
        obtain rfl : a = b := Option.some.inj hb
        exact e5
  · rw [if_neg hf]
    exact plain
end
end MP

/-! MPS2: suites, tests, loops. -/
namespace MP
open PySem PySem.Spec L2
open PyProof.Rows hiding St

section
variable {X : Cx} {C : Cxt}
theorem KD.mono {H0 : Hp} {A0 : Addr → Prop} {At At' : Option Addr} {D : Ends} {r : Ev × Fl} {n : Option Int} (h : KD X H0 A0 At D r n) (k : AtOk H0 At At') : KD X H0 A0 At' D r n := by
  obtain ⟨ρ, f⟩ := r
  cases f with
  | next => exact fun A fp σ H s a => h A fp σ H s (k.trans a)
  | brk => exact fun A fp σ H s a => h A fp σ H s (k.trans a)
  | cont => exact fun A fp σ H s a => h A fp σ H s (k.trans a)
  | ret d => exact fun A v S H r p c a => h A v S H r p c (k.trans a)
theorem out_kd {H0 : Hp} {A0 : Addr → Prop} {At At' : Option Addr} {D : Ends} {m : Rs (Ev × Fl)} (h : Out m (KD X H0 A0 At D) (ZX X At H0)) (k : AtOk H0 At At') : Out m (KD X H0 A0 At' D) (ZX X At' H0) := h.imp (fun r n q => q.mono k) fun _ _ z => zx_at z k
theorem xs_nil : PSs X [] (tSs X C []) := by
  refine pss_nil.weak fun D σ H h => ?_
  obtain ⟨H0, A0, At, n, ρ, fp, s, h⟩ := h
  rw [evSs] at h
  exact h At fp σ H s .refl
theorem xs_cons {st : Stmt} {sts : List Stmt} {s : S} {ss : List S} (h1 : PS X st (tS X C s)) (h2 : PSs X sts (tSs X C ss)) : PSs X (st :: sts) (tSs X C (s :: ss)) := by
  refine (pss_cons h1 h2).weak fun D σ H h => ?_
  obtain ⟨H0, A0, At, n, ρ, fp, sl, h⟩ := h
  rw [evSs, out_bind] at h
  refine ⟨H0, A0, At, n, ρ, fp, sl, h.imp (fun r n1 q => ?_) fun _ _ z => z⟩
  obtain ⟨ρ1, f⟩ := r
  cases f with
  | next => exact fun A fp1 σ1 H1 s1 a => ⟨H0, A0, A, n1, ρ1, fp1, s1, out_kd q a⟩
  | brk => exact q
  | cont => exact q
  | ret d => exact q
/-- a suite of one statement -/
theorem x_pass {pos : Pos} : PS X (.Pass pos) (tS X C .pass) := by
  refine ps_pass.weak fun D σ H h => ?_
  obtain ⟨H0, A0, At, n, ρ, fp, s, h⟩ := h
  rw [evS] at h
  exact h At fp σ H s .refl
theorem x_brk {pos : Pos} : PS X (.Break pos) (tS X C .brk) := by
  refine ps_break.weak fun D σ H h => ?_
  obtain ⟨H0, A0, At, n, ρ, fp, s, h⟩ := h
  rw [evS] at h
  exact h At fp σ H s .refl
theorem x_cont {pos : Pos} : PS X (.Continue pos) (tS X C .cont) := by
  refine ps_continue.weak fun D σ H h => ?_
  obtain ⟨H0, A0, At, n, ρ, fp, s, h⟩ := h
  rw [evS] at h
  exact h At fp σ H s .refl
theorem x_retN {pos : Pos} : PS X (.Return none pos) (tS X C .retN) := by
  refine ps_retN.weak fun D σ H h => ?_
  obtain ⟨H0, A0, At, n, ρ, fp, s, h⟩ := h
  rw [evS] at h
  exact h At .non [] H .non s.rl.pres s.rl.cell .refl (fun _ h => nomatch h) fun _ h => nomatch h
theorem x_ret {xe : Expr} {e : E} {pos : Pos} (he : PE X xe (tE X C (ZX X) e)) : PS X (.Return (some xe) pos) (tS X C (.ret e)) := by
  refine (ps_ret he).weak fun D σ H h => ?_
  obtain ⟨H0, A0, At, n, ρ, fp, s, h⟩ := h
  rw [evS, out_bind] at h
  refine ⟨H0, A0, At, n, ρ, fp, s.rl, h.imp (fun d n1 q v H1 S p => ?_) fun _ _ z => zx_sl s z⟩
  rw [out_pure] at q
  exact q At v S H1 p.rep (s.rl.pres.trans p.pres) p.cell .refl (fun a ha => src_of (H1 := H) s.rl (p.from_ a ha)) (s.rl.avoid p.from_)
theorem x_ex {xe : Expr} {e : E} {pos : Pos} (he : PE X xe (tE X C (ZX X) e)) (hs : swapsWith xe none pos.line X.env = pure false) : PS X (.Expr xe pos) (tS X C (.ex e)) := by
  refine (ps_expr he hs).weak fun D σ H h => ?_
  obtain ⟨H0, A0, At, n, ρ, fp, s, h⟩ := h
  rw [evS, out_bind] at h
  refine ⟨H0, A0, At, n, ρ, fp, s.rl, h.imp (fun d n1 q v H1 S p => ?_) fun _ _ z => zx_sl s z⟩
  rw [out_pure] at q
  exact q At fp σ H1 ((s.next p.pres p.cell).frzS (frzAll_s _ _ _)) .refl
theorem x_ife {c : Expr} {a b : List Stmt} {t : E} {sa sb : List S} {pos : Pos} (hc : PT X c (tEt X C (ZX X) t)) (ha : PSs X a (tSs X C sa)) (hb : PSs X b (tSs X C sb)) : PS X (.If c a b pos) (tS X C (.ife t sa sb)) := by
  refine (ps_if hc ha hb).weak fun D σ H h => ?_
  obtain ⟨H0, A0, At, n, ρ, fp, s, h⟩ := h
  rw [evS, out_bind] at h
  refine ⟨H0, A0, At, n, ρ, fp, s.rl, h.imp (fun d n1 q H1 p c => ?_) fun _ _ z => zx_sl s z⟩
  rw [out_ite] at q
  have s1 := s.next p c
  cases hd : tru d with
  | true =>
    rw [hd, if_pos rfl] at q
    exact ⟨H0, A0, At, n1, ρ, fp, s1, q⟩
  | false =>
    rw [hd, if_neg Bool.false_ne_true] at q
    exact ⟨H0, A0, At, n1, ρ, fp, s1, q⟩
theorem x_asg {i : Nat} {x : Str} {xe : Expr} {e : E} {dp : Bool} {pos pos' : Pos} (hN : X.N.Nodup) (hi : X.N[i]? = some x) (hx : Loc X.env.scope x) (he : PE X xe (tE X C (ZX X) e)) (hs : swapsWith xe (some (.Name x pos')) pos.line X.env = pure false) (hf : X.fn x = true ∨ X.env.scope.names.lookup x = some .local) :
    PS X (.Assign [.Name x pos'] xe pos) (tS X C (.asg dp i e)) := by
  refine (ps_set hN hi hx he hs hf).weak fun D σ H h => ?_
  obtain ⟨H0, A0, At, n, ρ, fp, s, h⟩ := h
  rw [evS, out_bind] at h
  refine ⟨H0, A0, At, n, ρ, fp, s.rl, h.imp (fun d n1 q v H1 S p => ?_) fun _ _ z => zx_sl s z⟩
  rw [out_pure] at q
  exact q At _ _ H1 (s.asg p dp i) .refl
theorem x_asgT {xt xe : Expr} {t : Tg} {e : E} {pos : Pos} (he : PE X xe (tE X C (ZX X) e)) (hg : PG X xt (tG X t)) (hs : swapsWithSole [xt] xe pos.line X.env = pure false) (hw : swappedStores [xt] xe X.env = pure none) (h1 : (assignEach [xt] X.env).map (·.2) = [assign xt X.env]) :
    PS X (.Assign [xt] xe pos) (tS X C (.asgT t e)) := by
  refine (ps_asg he hg hs hw h1).weak fun D σ H h => ?_
  obtain ⟨H0, A0, At, n, ρ, fp, s, h⟩ := h
  rw [evS, out_bind] at h
  refine ⟨H0, A0, At, n, ρ, fp, s.rl, h.imp (fun d n1 q v H1 S p => ?_) fun _ _ z => zx_sl s z⟩
  rw [out_bind, out_lft] at q
  obtain ⟨ρ', eb, q⟩ := q
  have s1 : Sl X H0 A0 At n1 (frzAll ρ e.esc e.al) fp σ H1 := (s.next p.pres p.cell).frzS (frzAll_s _ _ _)
  exact ⟨H0, A0, At, n1, _, fp, d, S, s1.rl, p.rep, s.rl.avoid p.from_, fun a ha => src_of (H1 := H) s.rl (p.from_ a ha), sep_frzAll s.rl p.from_, ρ', eb, fun fp' σ' rl' b _ => q At fp' σ' H1 ⟨rl', b.ul s1.ul⟩ .refl⟩
theorem x_while {c : Expr} {body : List Stmt} {t : E} {sb : List S} {pos : Pos} (hp : PassesOwn (model X.prog X.w) X.A X.env X.xe) (hc : PT X c (tEt X C (ZX X) t)) (hb : PSs X body (tSs X C sb)) : PS X (.While c body [] pos) (tS X C (.while t sb)) := by
  refine (ps_while hp hc hb).weak fun D σ H h => ?_
  obtain ⟨H0, A0, At, n, ρ, fp, s, h⟩ := h
  rw [evS] at h
  refine ⟨fun m σ H => ∃ A n ρ fp, Sl X H0 A0 A n ρ fp σ H ∧ AtOk H0 At A ∧ Out (whileN (fun ρ => do let x ← evE C t ρ; pure (tru x)) (fun ρ => evSs C sb ρ) m ρ n) (KD X H0 A0 At D) (ZX X At H0), ⟨_, At, n, ρ, fp, s, .refl, h⟩, ?_⟩
  rintro m σ H ⟨A, n, ρ, fp, s, a, h⟩
  cases m with
  | zero => exact h.elim
  | succ m =>
    rw [whileN, out_bind, out_bind] at h
    refine ⟨H0, A0, A, n, ρ, fp, s.rl, h.imp (fun d n1 q H1 p c => ?_) fun _ _ z => zx_sl s (zx_at z a)⟩
    rw [out_pure, out_ite] at q
    have s1 := s.next p c
    cases hd : tru d with
    | false =>
      rw [hd, if_neg Bool.false_ne_true] at q
      rw [if_neg Bool.false_ne_true]
      exact q A fp σ H1 s1 a
    | true =>
      rw [hd, if_pos rfl, out_bind] at q
      rw [if_pos rfl]
      refine ⟨_, fun σ' H' w => ⟨m, Nat.lt_succ_self m, w⟩, H0, A0, A, n1, ρ, fp, s1, q.imp (fun r n2 k => ?_) fun _ _ z => zx_at z a⟩
      obtain ⟨ρ2, f⟩ := r
      cases f with
      | next => exact fun B fp2 σ2 H2 s2 b => ⟨B, n2, ρ2, fp2, s2, a.trans b, k⟩
      | cont => exact fun B fp2 σ2 H2 s2 b => ⟨B, n2, ρ2, fp2, s2, a.trans b, k⟩
      | brk => exact fun B fp2 σ2 H2 s2 b => k B fp2 σ2 H2 s2 (a.trans b)
      | ret d => exact fun B v S H2 r p c b => k B v S H2 r p c (a.trans b)

/-! ### for: the source stands while what is held alone changes -/
def OwnsA (s : Slot) (S : List Addr) (a : Addr) : Prop := match s with
  | .o _ => S.head? = some a
  | .oo _ => a ∈ S
  | _ => False
def Owned (ρ : Ev) (fp : Nat → List Addr) (a : Addr) : Prop := ∃ j s, getS ρ j = some s ∧ OwnsA s (fp j) a
open Classical in
noncomputable def hpB (At : Option Addr) (ρ : Ev) (fp : Nat → List Addr) (H : Hp) : Hp := fun b => if Owned ρ fp b ∨ At = some b then none else H b
section
variable {H0 H1 H' : Hp} {A0 : Addr → Prop} {At At' : Option Addr} {n n' : Option Int} {ρ ρ' : Ev} {fp fp' : Nat → List Addr} {σ σ' : L2.St}
theorem hpB_some {a : Addr} {o : HO} (h : hpB At ρ fp H1 a = some o) : ¬ Owned ρ fp a ∧ At ≠ some a ∧ H1 a = some o := by
  unfold hpB at h
  split at h
  · cases h
  · rename_i q
    exact ⟨fun z => q (.inl z), fun z => q (.inr z), h⟩
theorem hpB_none {a : Addr} (h : hpB At ρ fp H1 a = none) : Owned ρ fp a ∨ At = some a ∨ H1 a = none := by
  unfold hpB at h
  split at h
  · rename_i q
    exact q.imp id .inl
  · exact .inr (.inr h)
theorem owned_none {a : Addr} (h : Owned ρ fp a) : hpB At ρ fp H1 a = none := by
  unfold hpB
  rw [if_pos (.inl h)]
theorem owned_H0 (rl : Rl X H0 A0 At n ρ fp σ H1) {a : Addr} (h : Owned ρ fp a) : H0 a = none := by
  obtain ⟨j, s, e, q⟩ := h
  obtain ⟨v, _, ok⟩ := rl.slot j s e
  cases s with
  | o d =>
    obtain ⟨_, _, b, T, _, eS, _, h0, _⟩ := ok
    have q : (fp j).head? = some a := q
    rw [eS] at q
    cases q
    exact h0
  | oo d => exact (ok.2.2.2.2 a q).1
  | _ => exact q.elim
theorem Rl.rebase (rl : Rl X H0 A0 At n ρ fp σ H1) : Rl X (hpB At ρ fp H1) (fun a => H0 a = none ∨ A0 a) At n ρ fp σ H1 where
  pres := ⟨fun b o e _ => (hpB_some e).2.2, fun b e => by unfold hpB; split <;> first | rfl | exact e⟩
  len := rl.len
  slot := fun i s e => by
    obtain ⟨v, e1, ok⟩ := rl.slot i s e
    refine ⟨v, e1, ?_⟩
    cases s with
    | p d => exact ok
    | o d =>
      obtain ⟨r, ic, a, T, ev, eS, nT, h0, w⟩ := ok
      exact ⟨r, ic, a, T, ev, eS, nT, owned_none ⟨i, _, e, by show (fp i).head? = some a; rw [eS]; rfl⟩, w⟩
    | oo d =>
      obtain ⟨r, ic, q, nd, all⟩ := ok
      exact ⟨r, ic, q, nd, fun a ha => ⟨owned_none ⟨i, _, e, ha⟩, (all a ha).2⟩⟩
    | cell => exact ok
    | err _ => exact ok
  cell := rl.cell
  nat := rl.nat
  sep := rl.sep
  src := fun i s e a ha => .inr (rl.src i s e a ha)
theorem ub_none (rl : Rl X H0 A0 At n ρ fp σ H1) (k : AtOk (hpB At ρ fp H1) At At') {a : Addr} (h : hpB At ρ fp H1 a = none) (hn : At' ≠ some a) : H0 a = none := by
  rcases hpB_none h with q | q | q
  · exact owned_H0 rl q
  · exact absurd ((k.1 (by rw [q]; simp)).trans q) hn
  · exact rl.pres.trk a q
theorem ub_pres (rl : Rl X H0 A0 At n ρ fp σ H1) (k : AtOk (hpB At ρ fp H1) At At') (p : Pres At' (hpB At ρ fp H1) H') (c : CellOk At' n' H') : Pres At' H0 H' := by
  refine ⟨fun b o e nb => ?_, fun b e => ?_⟩
  · have nA : At ≠ some b := fun z => nb ((k.1 (by rw [z]; simp)).trans z)
    have h1 := rl.pres.keep b o e nA
    refine p.keep b o ?_ nb
    unfold hpB
    rw [if_neg]
    · exact h1
    · rintro (q | q)
      · rw [owned_H0 rl q] at e; cases e
      · exact nA q
  · exact ub_none rl k (p.trk b e) (fun z => by
      subst z
      obtain ⟨xs, q⟩ := c.at_some
      rw [e] at q; cases q)
theorem ub_at (rl : Rl X H0 A0 At n ρ fp σ H1) (k : AtOk (hpB At ρ fp H1) At At') : AtOk H0 At At' := by
  refine ⟨k.1, fun a e => ?_⟩
  rcases k.2 a e with q | q
  · exact .inl q
  · rcases hpB_none q with z | z | z
    · exact .inr (owned_H0 rl z)
    · exact .inl z
    · exact .inr (rl.pres.trk a z)
theorem Rl.unbase (rl : Rl X H0 A0 At n ρ fp σ H1) (k : AtOk (hpB At ρ fp H1) At At') (r : Rl X (hpB At ρ fp H1) (fun a => H0 a = none ∨ A0 a) At' n' ρ' fp' σ' H') : Rl X H0 A0 At' n' ρ' fp' σ' H' where
  pres := ub_pres rl k r.pres r.cell
  len := r.len
  slot := fun i s e => by
    obtain ⟨v, e1, ok⟩ := r.slot i s e
    refine ⟨v, e1, ?_⟩
    cases s with
    | p d => exact ok
    | o d =>
      obtain ⟨rr, ic, a, T, ev, eS, nT, h0, w⟩ := ok
      exact ⟨rr, ic, a, T, ev, eS, nT, ub_none rl k h0 (r.nat i _ e a (by rw [eS]; exact List.mem_cons_self)), w⟩
    | oo d =>
      obtain ⟨rr, ic, q, nd, all⟩ := ok
      exact ⟨rr, ic, q, nd, fun a ha => ⟨ub_none rl k (all a ha).1 (r.nat i _ e a ha), (all a ha).2⟩⟩
    | cell => exact ok
    | err _ => exact ok
  cell := r.cell
  nat := r.nat
  sep := r.sep
  src := fun i s e a ha => by
    rcases r.src i s e a ha with q | q
    · exact .inl (ub_none rl k q (r.nat i s e a ha))
    · exact q
theorem wr_o {o : HO} (h : Wr (some o)) : WrO (some o) := by
  rcases h with ⟨_, q⟩ | ⟨_, q⟩ | ⟨_, q⟩ <;> (cases q; trivial)
theorem ul_wr (u : UL ρ fp H1) {a : Addr} (h : Owned ρ fp a) : Wr (H1 a) := by
  obtain ⟨j, s, e, q⟩ := h
  cases s with
  | o d => exact u j _ e a q
  | oo d => exact u j _ e a q
  | _ => exact q.elim
end
/-- names that are walked are locked -/
def tLS (X : Cx) (C : Cxt) (s : S) (l : List Nat) : TS := fun D σ H => ∃ H0 A0 At n ρ fp, Sl X H0 A0 At n ρ fp σ H ∧ Lkd ρ fp H l ∧ Out (evS C s ρ n) (KD X H0 A0 At D) (ZX X At H0)
theorem x_for {xt iter : Expr} {body : List Stmt} {t : Tg} {it : It} {sb : List S} {pos : Pos} (hp : PassesOwn (model X.prog X.w) X.A X.env X.xe) (hc : X.calm = true) (hi : PI X xt iter (tI X C (ZX X) it)) (hg : PG X xt (tG X t)) (hb : PSs X body (tSs X C sb)) (hs : ∀ x, foldedSetIterable iter X.env x = pure x) :
    PS X (.For xt iter body [] pos) (tLS X C (.for t it sb) it.lv) := by
  refine (ps_for hp hc hi hg hb hs).weak fun D σ H h => ?_
  obtain ⟨H0, A0, At, n, ρ, fp, s, lk, h⟩ := h
  rw [evS, out_bind] at h
  refine ⟨H0, A0, At, n, ρ, fp, s.rl, lk, h.imp (fun xs n1 h1 J H1 S T pI => ?_) fun _ _ z => zx_sl s z⟩
  have s1 : Sl X H0 A0 At n1 (frzAll ρ it.escF it.al) fp σ H1 := (s.next pI.pres pI.cell).frzS (frzAll_s _ _ _)
  have sp := sep_frzAll s.rl pI.from_
  have av := s.rl.avoid pI.from_
  have rl1 := s1.rl
  generalize hρ : frzAll ρ it.escF it.al = ρF at s1 sp h1 rl1
  have W := pI.walk (hpB At ρF fp H1) fun b o eb => by
    by_cases z : Owned ρF fp b ∨ At = some b
    · refine .inr ⟨fun m => ?_, ?_⟩
      · rcases z with ⟨j, sj, ej, q⟩ | z
        · have q2 := sp j sj ej
          cases sj with
          | o d => exact q2 b q m
          | oo d => exact q2 b q m
          | _ => exact q.elim
        · exact av b m z
      · rcases z with z | z
        · have q := ul_wr s1.ul z
          rw [eb] at q
          exact wr_o q
        · subst z
          obtain ⟨ys, q⟩ := pI.cell.at_some
          rw [q] at eb; cases eb; trivial
    · left
      unfold hpB
      rw [if_neg z]
      exact eb
  generalize hB : hpB At ρF fp H1 = HB at W
  generalize hA : (fun a => H0 a = none ∨ A0 a) = A1
  refine for_it W (fun i σ Hc => ∃ A n' ρ' fp', Sl X HB A1 A n' ρ' fp' σ Hc ∧ AtOk HB At A ∧ Out (forS (fun x ρ => do let ρ' ← lft (bindT t x ρ); evSs C sb ρ') (xs.drop i) ρ' n') (KD X H0 A0 At D) (ZX X At H0)) ?_ ?_ ?_ ?_
  · refine ⟨At, n1, ρF, fp, ⟨?_, s1.ul⟩, .refl, by rw [List.drop_zero]; exact h1⟩
    rw [← hB, ← hA]
    exact rl1.rebase
  · rintro i σ Hc _ ⟨A, n', ρ', fp', sl, k, _⟩ b o eb
    refine sl.rl.pres.keep b o eb fun z => ?_
    rcases k.2 b z with q | q
    · rw [← hB] at eb
      exact (hpB_some eb).2.1 q
    · rw [eb] at q; cases q
  · rintro i x σ Hc Hc' hi' ⟨A, n', ρ', fp', sl, k, h2⟩ ⟨sm, d, U', ed, rx, sub⟩
    have hdrop : xs.drop i = d :: xs.drop (i + 1) := by
      have hi' := lt_of_get ed
      rw [List.drop_eq_getElem_cons hi']
      congr 1
      have := List.getElem?_eq_getElem hi'
      rw [ed] at this
      exact (Option.some.inj this).symm
    rw [hdrop, forS, out_bind, out_bind, out_lft] at h2
    obtain ⟨ρ2, eb, h2⟩ := h2
    have sl' : Sl X HB A1 A n' ρ' fp' σ Hc' := sl.next (.same sm) (sl.rl.cell.same sm)
    -- the source's parts are known to the base
    have uB : ∀ a ∈ U', ∃ o, HB a = some o := fun a ha => by
      have m := sub a ha
      have q1 := pI.trk a (pI.sub a m)
      have q2 : ¬ Owned ρF fp a := by
        rintro ⟨j, sj, ej, q⟩
        have q2 := sp j sj ej
        cases sj with
        | o d => exact q2 a q (pI.sub a m)
        | oo d => exact q2 a q (pI.sub a m)
        | _ => exact q.elim
      cases z : H1 a with
      | none => exact absurd z q1
      | some o =>
        refine ⟨o, ?_⟩
        rw [← hB]
        unfold hpB
        rw [if_neg (fun z => z.elim q2 (av a (pI.sub a m)))]
        exact z
    refine ⟨HB, A1, A, n', ρ', fp', d, U', sl'.rl, rx, fun a ha z => ?_, fun a ha => ?_, fun j sj ej => ?_, ρ2, eb, fun fp2 σ2 rl2 bnd _ => ⟨HB, A1, A, n', ρ2, fp2, ⟨rl2, bnd.ul sl'.ul⟩, h2.imp (fun r n2 q => ?_) fun _ _ z => by subst hB; exact zx_go z fun A2 H2 k2 p c => ⟨ub_at rl1 (k.trans k2), ub_pres rl1 (k.trans k2) p c⟩⟩⟩
    · obtain ⟨o, q⟩ := uB a ha
      rcases k.2 a z with w | w
      · exact av a (pI.sub a (sub a ha)) w
      · rw [q] at w; cases w
    · rw [← hA]
      exact .inr (src_of (H1 := H) s.rl (pI.from_ a (pI.sub a (sub a ha))))
    · obtain ⟨v, _, ok⟩ := sl'.rl.slot j sj ej
      cases sj with
      | o d' =>
        obtain ⟨_, _, a, T', _, eS, _, h0, _⟩ := ok
        intro b hb hm
        rw [eS] at hb
        obtain rfl : a = b := Option.some.inj hb
        obtain ⟨o, q⟩ := uB a hm
        rw [q] at h0; cases h0
      | oo d' =>
        intro b hb hm
        obtain ⟨o, q⟩ := uB b hm
        rw [(ok.2.2.2.2 b hb).1] at q; cases q
      | _ => trivial
    · obtain ⟨ρ3, f⟩ := r
      cases f with
      | next => exact fun B fp3 σ3 H3 s3 b => ⟨B, n2, ρ3, fp3, s3, k.trans b, q⟩
      | cont => exact fun B fp3 σ3 H3 s3 b => ⟨B, n2, ρ3, fp3, s3, k.trans b, q⟩
      | brk =>
        intro B fp3 σ3 H3 s3 b
        have kb := k.trans b
        subst hB hA
        exact q B fp3 σ3 H3 ⟨rl1.unbase kb s3.rl, s3.ul⟩ (ub_at rl1 kb)
      | ret d' =>
        intro B v S' H3 r p c b hs' hn'
        have kb := k.trans b
        subst hB hA
        exact q B v S' H3 r (ub_pres rl1 kb p c) c (ub_at rl1 kb) (fun a ha => (hs' a ha).elim (fun z => .inl (ub_none rl1 kb z (hn' a ha))) id) hn'
  · rintro σ Hc ⟨A, n', ρ', fp', sl, k, h2⟩
    rw [List.drop_length, forS, out_pure] at h2
    subst hB hA
    exact h2 A fp' σ Hc ⟨rl1.unbase k sl.rl, sl.ul⟩ (ub_at rl1 k)
end
end MP

/-! MPW: what is held alone is written. -/
namespace MP
open PySem PySem.Spec L2
open PyProof.Rows hiding St

section
variable {X : Cx} {H0 H H' : Hp} {A0 : Addr → Prop} {At : Option Addr} {n n' : Option Int} {ρ ρ' : Ev} {fp : Nat → List Addr} {σ : L2.St}
theorem chg_some {i : Nat} {f : D → Option D} (h : chg ρ i f = some ρ') : ∃ d d', getS ρ i = some (.o d) ∧ f d = some d' ∧ ρ' = setS ρ i (.o d') := by
  unfold chg at h
  cases q : getS ρ i with
  | none => rw [q] at h; cases h
  | some s =>
    rw [q] at h
    cases s with
    | o d =>
      cases q2 : f d with
      | none =>
        have h : (f d >>= fun x => some (setS ρ i (.o x))) = some ρ' := h
        rw [q2] at h; cases h
      | some d' =>
        have h : (f d >>= fun x => some (setS ρ i (.o x))) = some ρ' := h
        rw [q2] at h
        cases h
        exact ⟨d, d', rfl, q2, rfl⟩
    | _ => cases h
structure Own (X : Cx) (H0 : Hp) (At : Option Addr) (fp : Nat → List Addr) (σ : L2.St) (H : Hp) (i : Nat) (d : D) (a : Addr) (T : List Addr) : Prop where
  val : σ[i]? = some (some (.ref a))
  fpi : fp i = a :: T
  nin : a ∉ T
  h0 : H0 a = none
  rep : RepX X H (.ref a) d (a :: T)
  wr : Wr (H a)
  nat : At ≠ some a
theorem Sl.own (s : Sl X H0 A0 At n ρ fp σ H) {i : Nat} {d : D} (e : getS ρ i = some (.o d)) : ∃ a T, Own X H0 At fp σ H i d a T := by
  obtain ⟨v, e1, r, ic, a, T, ev, eS, nT, h0, w⟩ := s.rl.slot i _ e
  subst ev
  refine ⟨a, T, e1, eS, nT, h0, by rw [← eS]; exact r, s.ul i _ e a (by rw [eS]; rfl), s.rl.nat i _ e a (by rw [eS]; exact List.mem_cons_self)⟩
theorem own_lst {i : Nat} {ds : List D} {a : Addr} {T : List Addr} (o : Own X H0 At fp σ H i (.list ds) a T) : ∃ vs, H a = some (.lst vs) ∧ RepLX X H vs ds T := by
  cases o.rep with
  | lst h r =>
    rcases h with h | ⟨ob, h⟩
    · exact ⟨_, h, r⟩
    · rcases o.wr with ⟨_, q⟩ | ⟨_, q⟩ | ⟨_, q⟩ <;> (rw [h] at q; cases q)
theorem Wr.upd {a b : Addr} {o : HO} (h : Wr (H b)) (e : b ≠ a) : Wr (upd H a o b) := by rw [upd_ne e]; exact h
/-- the container of slot i is written -/
theorem Sl.write (s : Sl X H0 A0 At n ρ fp σ H) {i : Nat} {d d' : D} {a : Addr} {T T' S : List Addr} {ob : HO} (e : getS ρ i = some (.o d)) (o : Own X H0 At fp σ H i d a T) (r : RepX X (upd H a ob) (.ref a) d' (a :: T')) (ic : isCont d' = true) (w : Wr (some ob))
    (sub : ∀ c ∈ T', c ∈ T ∨ c ∈ S) (nat : ∀ c ∈ S, At ≠ some c) (src : ∀ c ∈ S, H0 c = none ∨ A0 c) (sp : SepAll ρ fp S) : Sl X H0 A0 At n (setS ρ i (.o d')) (fset fp i (a :: T')) σ (upd H a ob) := by
  have nS : a ∉ S := sp i _ e a (by rw [o.fpi]; rfl)
  have nT' : a ∉ T' := fun m => (sub a m).elim o.nin nS
  have oth : ∀ j sj, j ≠ i → getS ρ j = some sj → a ∉ fp j := fun j sj hj ej m => s.rl.sep i j _ sj (Ne.symm hj) e ej a (by rw [o.fpi]; rfl) m
  have up : ∀ b u, H b = some u → ¬ (b = a) → upd H a ob b = some u := fun b u eb nb => by rw [upd_ne nb]; exact eb
  have wA : ∀ b, b = a → WrO (H b) := fun b eb => by
    rw [eb]
    rcases o.wr with ⟨_, q⟩ | ⟨_, q⟩ | ⟨_, q⟩ <;> (rw [q]; trivial)
  have rp : ∀ {v : V} {d : D} {U : List Addr}, RepX X H v d U → a ∉ U → RepX X (upd H a ob) v d U := fun r nU => Rep.mono (A := fun b => b = a) up wA r fun b hb z => nU (z ▸ hb)
  have ti : ∀ c ∈ a :: T', At ≠ some c := fun c hc => by
    rcases List.mem_cons.mp hc with rfl | hc
    · exact o.nat
    · exact (sub c hc).elim (fun z => s.rl.nat i _ e c (by rw [o.fpi]; exact List.mem_cons_of_mem _ z)) (nat c)
  have hlt : i < ρ.length := getS_lt e
  refine ⟨⟨⟨fun b u eb nb => ?_, fun b eb => ?_⟩, by rw [setS_length]; exact s.rl.len, fun j sj ej => ?_, s.rl.cell.upd o.nat, fun j sj ej c hc => ?_, fun j k sj sk hjk ej ek => ?_, fun j sj ej c hc => ?_⟩, fun j sj ej => ?_⟩
  · rw [upd_ne (fun z => by rw [z, o.h0] at eb; cases eb)]
    exact s.rl.pres.keep b u eb nb
  · by_cases z : b = a
    · rw [z, upd_same] at eb; cases eb
    · rw [upd_ne z] at eb
      exact s.rl.pres.trk b eb
  · rw [getS_set] at ej
    by_cases h : j = i
    · subst h
      rw [if_pos rfl, if_pos hlt] at ej
      cases ej
      rw [fset_same]
      exact ⟨.ref a, o.val, r, ic, a, T', rfl, rfl, nT', o.h0, .inl (by rw [upd_same]; exact w)⟩
    · rw [if_neg h] at ej
      rw [fset_ne h]
      obtain ⟨v, e1, ok⟩ := s.rl.slot j sj ej
      have nj := oth j sj h ej
      refine ⟨v, e1, ?_⟩
      cases sj with
      | p d => exact rp ok nj
      | o d =>
        obtain ⟨rr, ic2, b, U, ev, eS, nU, h0, ww⟩ := ok
        refine ⟨rp rr nj, ic2, b, U, ev, eS, nU, h0, ?_⟩
        rw [upd_ne (fun z => nj (by rw [eS, ← z]; exact List.mem_cons_self))]
        exact ww
      | oo d =>
        obtain ⟨rr, ic2, q, nd, all⟩ := ok
        refine ⟨rp rr nj, ic2, q, nd, fun b hb => ⟨(all b hb).1, ?_⟩⟩
        rw [upd_ne (fun z => nj (by rw [← z]; exact hb))]
        exact (all b hb).2
      | cell => exact ok
      | err _ => exact ErrOk.imp ok (fun dd fs q => by rw [upd_ne (fun z => by have w := o.wr; rw [← z, q] at w; rcases w with ⟨_, w⟩ | ⟨_, w⟩ | ⟨_, w⟩ <;> cases w)]; exact q) fun _ _ r => rp r (fun z => nomatch z)
  · rw [getS_set] at ej
    by_cases h : j = i
    · subst h
      rw [fset_same] at hc
      exact ti c hc
    · rw [if_neg h] at ej
      rw [fset_ne h] at hc
      exact s.rl.nat j sj ej c hc
  · rw [getS_set] at ej ek
    by_cases h : j = i
    · subst h
      rw [if_pos rfl, if_pos hlt] at ej
      rw [if_neg (Ne.symm hjk)] at ek
      cases ej
      rw [fset_same, fset_ne (Ne.symm hjk)]
      intro b hb
      obtain rfl : a = b := Option.some.inj hb
      exact oth k sk (Ne.symm hjk) ek
    · rw [if_neg h] at ej
      rw [fset_ne h]
      by_cases h2 : k = i
      · subst h2
        rw [fset_same]
        have nj := oth j sj h ej
        have q1 := s.rl.sep j k sj _ hjk ej e
        have q2 := sp j sj ej
        rw [o.fpi] at q1
        cases sj with
        | o d =>
          intro b hb hm
          rcases List.mem_cons.mp hm with rfl | hm
          · exact nj (List.mem_of_mem_head? hb)
          · exact (sub b hm).elim (fun z => q1 b hb (List.mem_cons_of_mem _ z)) fun z => q2 b hb z
        | oo d =>
          intro b hb hm
          rcases List.mem_cons.mp hm with rfl | hm
          · exact nj hb
          · exact (sub b hm).elim (fun z => q1 b hb (List.mem_cons_of_mem _ z)) fun z => q2 b hb z
        | _ => trivial
      · rw [if_neg h2] at ek
        rw [fset_ne h2]
        exact s.rl.sep j k sj sk hjk ej ek
  · rw [getS_set] at ej
    by_cases h : j = i
    · subst h
      rw [fset_same] at hc
      rcases List.mem_cons.mp hc with rfl | hc
      · exact .inl o.h0
      · exact (sub c hc).elim (fun z => s.rl.src j _ e c (by rw [o.fpi]; exact List.mem_cons_of_mem _ z)) (src c)
    · rw [if_neg h] at ej
      rw [fset_ne h] at hc
      exact s.rl.src j sj ej c hc
  · rw [getS_set] at ej
    by_cases h : j = i
    · subst h
      rw [if_pos rfl, if_pos hlt] at ej
      cases ej
      rw [fset_same]
      intro b hb
      obtain rfl : a = b := Option.some.inj hb
      rw [upd_same]
      exact w
    · rw [if_neg h] at ej
      rw [fset_ne h]
      have q := s.ul j sj ej
      have nj := oth j sj h ej
      cases sj with
      | o d =>
        intro b hb
        exact (q b hb).upd fun z => nj (by rw [← z]; exact List.mem_of_mem_head? hb)
      | oo d =>
        intro b hb
        exact (q b hb).upd fun z => nj (by rw [← z]; exact hb)
      | _ => trivial
/-- after the write the parts of the container stand as before -/
theorem own_upd (o : Own X H0 At fp σ H i d a T) {ob : HO} {vs : List V} {ds : List D} {U : List Addr} (r : RepLX X H vs ds U) (nU : a ∉ U) : RepLX X (upd H a ob) vs ds U :=
  RepL.mono (A := fun b => b = a) (fun b u eb nb => by rw [upd_ne nb]; exact eb) (fun b eb => by
    rw [eb]
    rcases o.wr with ⟨_, q⟩ | ⟨_, q⟩ | ⟨_, q⟩ <;> (rw [q]; trivial)) r fun b hb z => nU (z ▸ hb)
end
theorem out_ok {α : Type} {a : α} {n : Option Int} {P : α → Option Int → Prop} {Z : Exn → Option Int → Prop} (h : Out (Rs.ok a n) P Z) : P a n := h
section
variable {X : Cx} {C : Cxt}
/-- what the store of a name's container is to do -/
theorem own_back {H0 H H1 : Hp} {A0 : Addr → Prop} {At : Option Addr} {n n1 : Option Int} {ρ : Ev} {fp : Nat → List Addr} {σ : L2.St} (s : Sl X H0 A0 At n ρ fp σ H) {e : E} {v : V} {d dc : D} {S : List Addr} {i : Nat} (p : Post X At ρ fp e H v d S H1 n1) (hg : getS (frzAll ρ e.esc e.al) i = some (.o dc)) :
    Sl X H0 A0 At n1 (frzAll ρ e.esc e.al) fp σ H1 ∧ SepAll (frzAll ρ e.esc e.al) fp S ∧ (∀ c ∈ S, At ≠ some c) ∧ ∀ c ∈ S, H0 c = none ∨ A0 c :=
  ⟨(s.next p.pres p.cell).frzS (frzAll_s _ _ _), sep_frzAll s.rl p.from_, s.rl.avoid p.from_, fun a ha => src_of (H1 := H) s.rl (p.from_ a ha)⟩
theorem frz_o {ρ : Ev} {es al : List Nat} {i : Nat} {d : D} (h : getS (frzAll ρ es al) i = some (.o d)) : getS ρ i = some (.o d) := by
  obtain ⟨s0, q, z⟩ := (frzAll_s ρ es al).get h
  rcases z with z | z
  · rw [q, ← z]
  · cases s0 <;> cases z
/-- the receiver is a name -/
theorem x_app {i : Nat} {x : Str} {xe : Expr} {e : E} {p apos cpos pos : Pos} (hN : X.N[i]? = some x) (hv : Vis X.env.scope x) (hd : (x == ("__debug__" : Str)) = false) (hcd : (x == ("__classdict__" : Str)) = false) (he : PE X xe (tE X C (ZX X) e)) (m : M1 X (.Name x p) "append" apos xe cpos)
    (hs : swapsWith (.Call (.Attribute (.Name x p) "append" apos) [xe] [] cpos) none pos.line X.env = pure false) : PS X (.Expr (.Call (.Attribute (.Name x p) "append" apos) [xe] [] cpos) pos) (tS X C (.app i e)) := by
  have pe : PE X (.Call (.Attribute (.Name x p) "append" apos) [xe] [] cpos) (fun σ H Q => ∃ a vs, σ[i]? = some (some (.ref a)) ∧ H a = some (.lst vs) ∧ tE X C (ZX X) e σ H fun v H2 => ∃ vs', H2 a = some (.lst vs') ∧ vs'.length < sizeLine ∧ Q .non (upd H2 a (.lst (vs' ++ [v])))) := by
    refine ⟨fun pins s σ H Q I h => ?_⟩
    obtain ⟨a, vs, e1, e2, h⟩ := h
    refine wpAny_Call_method m.base m.few m.line PySem.F.plainAttrs_list PySem.F.slot_list_append PySem.F.type_list_append (thn ((pe_var hN hv hd hcd).run pins s σ H (fun y H1 => H1 = H ∧ y = .ref a) I ⟨_, e1, rfl, rfl⟩) fun u s1 ⟨y, H1, I1, ry, eH, ey⟩ => ?_)
    subst eH ey
    obtain rfl : u = Value.ref a := ry
    obtain ⟨z, its, k, rv, hl, eo⟩ := I1.lstM e2
    refine ⟨⟨_, eo, rfl⟩, fun b eb => by cases eb; exact ⟨_, eo, rfl⟩, ?_⟩
    rw [m.trees]
    refine Calls.callWith_builtin rfl (Calls.evalArgs_plain (Calls.spliced_cons (thn (he.run pins s1 σ _ _ I1 h) fun w s2 ⟨y, H2, I2, ry, vs', e3, hz, q⟩ => Calls.spliced_nil ?_)))
    exact mt_append pins s2 σ H2 (.ref a) [y] _ _ Q I2 rfl (.cons ry .nil) ⟨a, vs', y, rfl, rfl, e3, hz, q⟩
  refine (ps_expr pe hs).weak fun D σ H h => ?_
  obtain ⟨H0, A0, At, n, ρ, fp, s, h⟩ := h
  rw [evS, out_bind, out_lft] at h
  obtain ⟨_, hl, h⟩ := h
  rw [out_bind] at h
  have hq : ∃ ds, getS ρ i = some (.o (.list ds)) := by
    unfold lstO at hl
    split at hl
    · rename_i ds e
      exact ⟨ds, e⟩
    · cases hl
  obtain ⟨ds, hds⟩ := hq
  obtain ⟨a, T, o⟩ := s.own hds
  obtain ⟨vs, hvs, _⟩ := own_lst o
  refine ⟨a, vs, o.val, hvs, H0, A0, At, n, ρ, fp, s.rl, h.imp (fun d n1 q v H1 S p => ?_) fun _ _ z => zx_sl s z⟩
  rw [out_bind, out_lft] at q
  obtain ⟨ρ', hc, q⟩ := q
  obtain ⟨d1, d2, g, f, eρ⟩ := chg_some hc
  obtain ⟨s1, sp, nat, src⟩ := own_back s p g
  obtain ⟨a1, T1, o1⟩ := s1.own g
  have ea : a1 = a := by
    have z := o1.val
    rw [o.val] at z
    cases z; rfl
  subst ea
  have hd1 : d1 = .list ds := by
    have z := frz_o g
    rw [hds] at z
    cases z; rfl
  subst hd1
  obtain ⟨vs1, hvs1, r1⟩ := own_lst o1
  obtain ⟨f1, f2⟩ := lftIf_some f
  have fl := fits_le f1
  refine ⟨vs1, hvs1, by rw [r1.length]; exact fl, ?_⟩
  rw [out_pure] at q
  rw [eρ, ← f2] at q
  have nS : a1 ∉ S := sp i _ g a1 (by rw [o1.fpi]; rfl)
  refine q At _ σ _ (s1.write (S := S) g o1 (T' := T1 ++ (S ++ [])) (.lst (.inl (by rw [upd_same])) (own_upd o1 (r1.append (.cons p.rep .nil)) ?_)) rfl (.inl ⟨_, rfl⟩) (fun c hc => ?_) nat src sp) .refl
  · intro m
    rcases List.mem_append.mp m with m | m
    · exact o1.nin m
    · exact nS (by simpa using m)
  · rcases List.mem_append.mp hc with m | m
    · exact .inl m
    · exact .inr (by simpa using m)
end
end MP

/-! MPDW: d[k] = v. -/
namespace MP
open PySem PySem.Spec L2
open PyProof.Rows hiding St

def repD (k d : D) (kv : D × D) : D × D := if PyData.eqv kv.1 k then (kv.1, d) else kv
theorem dSet_old {kvs : List (D × D)} {k d : D} (h : dHas kvs k = true) : dSet kvs k d = kvs.map (repD k d) := by
  unfold dSet
  rw [if_pos h]; rfl
theorem dSet_new {kvs : List (D × D)} {k d : D} (h : dHas kvs k = false) : dSet kvs k d = kvs ++ [(k, d)] := by
  unfold dSet
  rw [if_neg (by rw [h]; exact Bool.false_ne_true)]
theorem dSet_ne {kvs : List (D × D)} {k d : D} : dSet kvs k d ≠ [] := fun z => by
  cases h : dHas kvs k with
  | true => rw [dSet_old h] at z; rw [List.map_eq_nil_iff] at z; rw [z] at h; cases h
  | false => rw [dSet_new h] at z; simp at z
theorem repD_fst {k d : D} {kvs : List (D × D)} : (kvs.map (repD k d)).map (·.1) = kvs.map (·.1) := by
  rw [List.map_map]
  refine List.map_congr_left fun kv _ => ?_
  show (repD k d kv).1 = kv.1
  unfold repD
  split <;> rfl
theorem map_of_fst {α : Type} {f : D → α} {k d : D} {kvs : List (D × D)} : (kvs.map (repD k d)).map (fun kv => f kv.1) = kvs.map (fun kv => f kv.1) := by
  have h := congrArg (List.map f) (repD_fst (k := k) (d := d) (kvs := kvs))
  simpa [List.map_map, Function.comp] using h
section
variable {P : Program} {w : World} {K : PySem.W.Frag} {H : Hp}
theorem putL {k : D} {kk : Key} (hk : lkey k = some kk) {v : V} {d : D} {U : List Addr} (rv : Rep P w K H v d U) : ∀ {kvs : List (D × D)} {es : List (Key × V)} {S : List Addr}, kvs.map (fun kv => lkey kv.1) = es.map (fun e => some e.1) → RepL P w K H (es.map (·.2)) (kvs.map (·.2)) S →
    (es.any fun e => decide (e.1 = kk)) = dHas kvs k ∧ ∃ T, RepL P w K H ((es.map fun e => if e.1 = kk then (e.1, v) else e).map (·.2)) ((kvs.map (repD k d)).map (·.2)) T ∧ ∀ a ∈ T, a ∈ S ∨ a ∈ U
  | [], [], _, _, r => ⟨rfl, _, r, fun a ha => .inl ha⟩
  | [], _ :: _, _, h, _ => by simp at h
  | _ :: _, [], _, h, _ => by simp at h
  | kv :: kvs, e :: es, S, h, r => by
    simp only [List.map_cons, List.cons.injEq] at h
    cases r with
    | @cons _ _ _ _ S1 S2 r1 r2 =>
      obtain ⟨i1, T, r3, sub⟩ := putL hk rv h.2 r2
      have q := lkey_key h.1 hk
      refine ⟨?_, ?_⟩
      · unfold dHas at *
        rw [List.any_cons, List.any_cons, i1, q]
      · by_cases c : e.1 = kk
        · refine ⟨U ++ T, ?_, fun a ha => ?_⟩
          · rw [List.map_cons, List.map_cons, List.map_cons, List.map_cons, if_pos c, show repD k d kv = (kv.1, d) by unfold repD; rw [q, decide_eq_true c]; rfl]
            exact .cons rv r3
          · rcases List.mem_append.mp ha with m | m
            · exact .inr m
            · exact (sub a m).imp (List.mem_append_right _) id
        · refine ⟨S1 ++ T, ?_, fun a ha => ?_⟩
          · rw [List.map_cons, List.map_cons, List.map_cons, List.map_cons, if_neg c, show repD k d kv = kv by unfold repD; rw [q, decide_eq_false c]; rfl]
            exact .cons r1 r3
          · rcases List.mem_append.mp ha with m | m
            · exact .inl (List.mem_append_left _ m)
            · exact (sub a m).imp (List.mem_append_right _) id
theorem putT {k : D} (hk : isHash k = true) {v : V} {r : Value} {d : D} {U : List Addr} (rr : RelV v r) (rv : Rep P w K H v d U) : ∀ {kvs : List (D × D)} {xs : List (NestedKey × Addr × Value)} {vs : List V} {S : List Addr}, xs.map (·.1) = kvs.map (fun kv => keyOf kv.1) → (∀ kv ∈ kvs, isHash kv.1 = true ∧ isTup kv.1 = true ∧ kv.1.depth ≤ 8) →
    Vals vs (xs.map (·.2.2)) → RepL P w K H vs (kvs.map (·.2)) S → (atKey xs (keyOf k)).isSome = dHas kvs k ∧ ∃ vs' T, Vals vs' ((xs.map (putAt (keyOf k) r)).map (·.2.2)) ∧ RepL P w K H vs' ((kvs.map (repD k d)).map (·.2)) T ∧ ∀ a ∈ T, a ∈ S ∨ a ∈ U
  | [], [], _, _, _, _, rl, r => ⟨rfl, _, _, rl, r, fun a ha => .inl ha⟩
  | [], _ :: _, _, _, h, _, _, _ => by simp at h
  | _ :: _, [], _, _, h, _, _, _ => by simp at h
  | kv :: kvs, x :: xs, _, S, h, hq, rl, rep => by
    simp only [List.map_cons, List.cons.injEq] at h
    cases rl with
    | @cons v1 _ vs _ rv1 rv2 =>
      cases rep with
      | @cons _ _ _ _ S1 S2 r1 r2 =>
        obtain ⟨i1, vs', T, h1, h2, sub⟩ := putT hk rr rv h.2 (fun kv hm => hq kv (List.mem_cons_of_mem _ hm)) rv2 r2
        have q := eqv_key (hq kv List.mem_cons_self).1 hk
        refine ⟨?_, ?_⟩
        · unfold dHas atKey at *
          rw [List.any_cons, List.find?_cons, h.1, q]
          by_cases c : keyOf kv.1 = keyOf k
          · rw [decide_eq_true c]; rfl
          · rw [decide_eq_false c]; simpa using i1
        · by_cases c : keyOf kv.1 = keyOf k
          · refine ⟨v :: vs', U ++ T, ?_, ?_, fun a ha => ?_⟩
            · rw [List.map_cons, List.map_cons, show putAt (keyOf k) r x = (x.1, x.2.1, r) by unfold putAt; rw [if_pos (h.1.trans c)]]
              exact .cons rr h1
            · rw [List.map_cons, List.map_cons, show repD k d kv = (kv.1, d) by unfold repD; rw [q, decide_eq_true c]; rfl]
              exact .cons rv h2
            · rcases List.mem_append.mp ha with m | m
              · exact .inr m
              · exact (sub a m).imp (List.mem_append_right _) id
          · refine ⟨v1 :: vs', S1 ++ T, ?_, ?_, fun a ha => ?_⟩
            · rw [List.map_cons, List.map_cons, show putAt (keyOf k) r x = x by unfold putAt; rw [if_neg (fun z => c (h.1.symm.trans z))]]
              exact .cons rv1 h1
            · rw [List.map_cons, List.map_cons, show repD k d kv = kv by unfold repD; rw [q, decide_eq_false c]; rfl]
              exact .cons r1 h2
            · rcases List.mem_append.mp ha with m | m
              · exact .inl (List.mem_append_left _ m)
              · exact (sub a m).imp (List.mem_append_right _) id
end
theorem vals_app {xs ys : List V} {us ws : List Value} (a : Vals xs us) (b : Vals ys ws) : Vals (xs ++ ys) (us ++ ws) := a.append b
theorem nodup_snoc {α : Type} {l : List α} {a : α} (h : l.Nodup) (n : a ∉ l) : (l ++ [a]).Nodup := by
  rw [List.nodup_append]
  exact ⟨h, by simp, fun x hx y hy => by
    obtain rfl : y = a := by simpa using hy
    exact fun e => n (e ▸ hx)⟩
section
variable {X : Cx} {pins : List (Addr × Obj)} {σ : L2.St} {H : Hp} {s : Shared} {A : Around} {E : Value → Shared → Prop}
/-- the store into a dict that is held alone -/
theorem dict_put' (hu : A.units + 100 < cLine) (I : Inv X pins σ H s) {a : Addr} {kvs : List (D × D)} {k d : D} {y v : V} {u r : Value} {S T U : List Addr} (wr : Wr (H a)) (rep : RepX X H (.ref a) (.dict kvs) S) (na : a ∉ S.tail) (ho : keyOk kvs k = true) (hl : kvs.length < 1000000) (rk : RepX X H y k T) (ru : RelV y u)
    (rv : RepX X H v d U) (rr : RelV v r) (nU : a ∉ U) : ∃ ob T', Wr (some ob) ∧ RepX X (upd H a ob) (.ref a) (.dict (dSet kvs k d)) (a :: T') ∧ (∀ c ∈ T', c ∈ S.tail ∨ c ∈ U) ∧
      (∀ Q : Unit → Shared → Prop, (∀ s', Inv X pins σ (upd H a ob) s' → Q () s') → wpAny (model X.prog X.w) A (setItem (.ref a) u r) Q E s) ∧ (∀ Q : Unit → Shared → Prop, (∀ s', Inv X pins σ (upd H a ob) s' → Q () s') → wpAny (model X.prog X.w) A (dictSet a u r) Q E s) ∧ (dHas kvs k = false → T' = S.tail ++ U ∧ (∀ (H' : Hp) (Ab : Addr → Prop) (d' : D), (∀ c o, upd H a ob c = some o → ¬ Ab c → H' c = some o) → (∀ c, Ab c → WrO (upd H a ob c)) → (∀ c ∈ a :: T', Ab c → c ∈ U) → (∀ c ∈ U, c ∉ S) → RepX X H' v d' U → RepX X H' (.ref a) (.dict (dSet kvs k d')) (a :: T')) ∧ ∀ Q : Value → Shared → Prop, (∀ s', Inv X pins σ (upd H a ob) s' → Q r s') → wpAny (model X.prog X.w) A (call (.builtin "dict.setdefault") [.ref a, u, r]) Q E s) := by
  have mu : Mut (H a) := by rcases wr with ⟨_, q⟩ | ⟨_, q⟩ | ⟨_, q⟩ <;> (rw [q]; trivial)
  have wO : ∀ b, b = a → WrO (H b) := fun b e => by rw [e]; rcases wr with ⟨_, q⟩ | ⟨_, q⟩ | ⟨_, q⟩ <;> (rw [q]; trivial)
  have up : ∀ {ob : HO} {vs : List V} {ds : List D} {W : List Addr}, RepLX X H vs ds W → a ∉ W → RepLX X (upd H a ob) vs ds W := fun r n =>
    RepL.mono (A := fun b => b = a) (fun b o e nb => by rw [upd_ne nb]; exact e) wO r fun b hb z => n (z ▸ hb)
  have line : (1000000 : Nat) < sizeLine := by decide
  rcases keyFit_cases (keyOk_fit ho) with ⟨kk, hk⟩ | ⟨ht, hd⟩
  · obtain ⟨hs, es, vs, T0, eS, kv, dd, e, q, le⟩ := view_l I rep ho hk
    rw [eS] at na
    have na : a ∉ T0 := na
    obtain ⟨an, T1, r1, sub1⟩ := putL hk rv e q
    have hlen : es.length = kvs.length := by have := congrArg List.length e; simpa using this.symm
    have hz : vs.length ≤ sizeLine := by rw [← (show es.length = vs.length from Paired.length kv)]; exact le
    have ne : (es.map (·.1)).Nodup := by
      have h := dd
      obtain ⟨_, _, _, _, _, _, _, _, hn⟩ := h
      have e : es.map (·.1) = vs.map (·.1) := by
        have go : ∀ {es : List (Key × V)} {vs : List (Key × Value)}, KV es vs → es.map (·.1) = vs.map (·.1) := by
          intro es vs r
          induction r with
          | nil => rfl
          | cons r _ ih => rw [List.map_cons, List.map_cons, ih, r.1]
        exact go kv
      rw [e]; exact hn
    have fin : ∀ (T' : List Addr), (∀ c ∈ T', c ∈ T0 ∨ c ∈ U) → (dSet kvs k d).map (fun kv => lkey kv.1) = (putK es kk v).map (fun e => some e.1) → ((putK es kk v).map (·.1)).Nodup → (∀ kv ∈ dSet kvs k d, ∀ x, kv.1 = .str x → TxtOk x) → RepLX X H ((putK es kk v).map (·.2)) ((dSet kvs k d).map (·.2)) T' → (dHas kvs k = false → T' = S.tail ++ U ∧ (∀ (H' : Hp) (Ab : Addr → Prop) (d' : D), (∀ c o, upd H a (.dK (putK es kk v)) c = some o → ¬ Ab c → H' c = some o) → (∀ c, Ab c → WrO (upd H a (.dK (putK es kk v)) c)) → (∀ c ∈ a :: T', Ab c → c ∈ U) → (∀ c ∈ U, c ∉ S) → RepX X H' v d' U → RepX X H' (.ref a) (.dict (dSet kvs k d')) (a :: T'))) →
        ∃ ob T', Wr (some ob) ∧ RepX X (upd H a ob) (.ref a) (.dict (dSet kvs k d)) (a :: T') ∧ (∀ c ∈ T', c ∈ S.tail ∨ c ∈ U) ∧
          (∀ Q : Unit → Shared → Prop, (∀ s', Inv X pins σ (upd H a ob) s' → Q () s') → wpAny (model X.prog X.w) A (setItem (.ref a) u r) Q E s) ∧ (∀ Q : Unit → Shared → Prop, (∀ s', Inv X pins σ (upd H a ob) s' → Q () s') → wpAny (model X.prog X.w) A (dictSet a u r) Q E s) ∧ (dHas kvs k = false → T' = S.tail ++ U ∧ (∀ (H' : Hp) (Ab : Addr → Prop) (d' : D), (∀ c o, upd H a ob c = some o → ¬ Ab c → H' c = some o) → (∀ c, Ab c → WrO (upd H a ob c)) → (∀ c ∈ a :: T', Ab c → c ∈ U) → (∀ c ∈ U, c ∉ S) → RepX X H' v d' U → RepX X H' (.ref a) (.dict (dSet kvs k d')) (a :: T')) ∧ ∀ Q : Value → Shared → Prop, (∀ s', Inv X pins σ (upd H a ob) s' → Q r s') → wpAny (model X.prog X.w) A (call (.builtin "dict.setdefault") [.ref a, u, r]) Q E s) := by
      intro T' sub e1 n1 t1 r1 sw
      refine ⟨.dK (putK es kk v), T', .inr (.inl ⟨_, rfl⟩), .dk (.inl (by rw [upd_same])) e1 t1 n1 (up r1 fun m => (sub a m).elim na nU), fun c hc => by rw [eS]; exact sub c hc, fun Q hQ => ?_, fun Q hQ => ?_, fun nh => ⟨(sw nh).1, (sw nh).2, fun Q hQ => ?_⟩⟩
      · have hl2 : (putK es kk v).length ≤ sizeLine := by have := length_putK es kk v; omega
        refine wpAny_setItem_pairs (hsz := hz) (kV_is (key_rel hk rk ru)) dd fun h' dd' hs' => hQ _ ?_
        have he : ∃ q, h'.get? a = some q := let ⟨q, _, _, hq, _⟩ := dd'; ⟨q, hq⟩
        exact d_write I mu hs' he (dk_new hl2 hs (kv.put kk rr) dd')
      · have hl2 : (putK es kk v).length ≤ sizeLine := by have := length_putK es kk v; omega
        refine wpAny_dictSet_pairs (hsz := hz) (kV_is (key_rel hk rk ru)) dd fun h' dd' hs' => hQ _ ?_
        have he : ∃ q, h'.get? a = some q := let ⟨q, _, _, hq, _⟩ := dd'; ⟨q, hq⟩
        exact d_write I mu hs' he (dk_new hl2 hs (kv.put kk rr) dd')
      · have hl2 : (putK es kk v).length ≤ sizeLine := by have := length_putK es kk v; omega
        have gn : dGet kvs k = none := by
          rw [dHas_get] at nh
          cases z : dGet kvs k with
          | none => rfl
          | some _ => rw [z] at nh; cases nh
        have kvv := kv.val kk
        rw [(lookL hk e q).1 gn] at kvv
        refine call_meetsIn PySem.F.slot_dict_setdefault dd.typeIs PySem.F.entry_dict_setdefault (PySem.F.args_dict_setdefault_3 _ _ _) (kt_meets_setdefault (mixKind X.prog X.w) a (kV_is (key_rel hk rk ru)) hs r) ⟨vs, dd, hz, fun w9 hv => ?_, fun hn h' dd' hs' => hQ _ ?_⟩
        · rw [hv] at kvv; exact (show False from kvv).elim
        · have he : ∃ q, h'.get? a = some q := let ⟨q, _, _, hq, _⟩ := dd'; ⟨q, hq⟩
          exact d_write I mu hs' he (dk_new hl2 hs (kv.put kk rr) dd')
    -- the texts among the keys
    have tx : ∀ kv ∈ kvs, ∀ x, kv.1 = .str x → TxtOk x := by
      cases rep with
      | dk _ _ tx _ _ => exact tx
      | dt _ _ _ _ _ _ q _ _ =>
        intro kv hm x ex
        have := (q kv hm).2.1
        rw [ex] at this; cases this
    have txk : ∀ x, k = .str x → TxtOk x := fun x ex => by
      subst ex
      cases rk with
      | str _ h => exact h
    rcases Bool.eq_false_or_eq_true (dHas kvs k) with hh | hh
    · skip
      rw [hh] at an
      have ep : putK es kk v = es.map fun e => if e.1 = kk then (e.1, v) else e := by unfold putK; rw [if_pos an]
      refine fin T1 sub1 ?_ ?_ ?_ ?_ (fun nh => by rw [hh] at nh; cases nh)
      · rw [dSet_old hh, ep, map_of_fst (f := lkey), e, List.map_map]
        refine List.map_congr_left fun x _ => ?_
        show some x.1 = some (if x.1 = kk then (x.1, v) else x).1
        split <;> rfl
      · rw [ep, List.map_map, show ((fun x : Key × V => x.1) ∘ fun e : Key × V => if e.1 = kk then (e.1, v) else e) = fun x => x.1 by funext x; show (if x.1 = kk then (x.1, v) else x).1 = x.1; split <;> rfl]
        exact ne
      · rw [dSet_old hh]
        intro kv hm x ex
        obtain ⟨kv0, hm0, rfl⟩ := List.mem_map.mp hm
        refine tx kv0 hm0 x ?_
        rw [← ex]
        unfold repD
        split <;> rfl
      · rw [dSet_old hh, ep]; exact r1
    · skip
      rw [hh] at an
      have ep : putK es kk v = es ++ [(kk, v)] := by unfold putK; rw [if_neg (by rw [an]; exact Bool.false_ne_true)]
      have E1 : ∀ d'', (dSet kvs k d'').map (fun kv => lkey kv.1) = (putK es kk v).map (fun e => some e.1) := fun d'' => by
        rw [dSet_new hh, ep, List.map_append, List.map_append, e]
        simp [hk]
      have N1 : ((putK es kk v).map (·.1)).Nodup := by
        rw [ep, List.map_append]
        refine nodup_snoc ne fun m => ?_
        obtain ⟨x, hx, ex⟩ := List.mem_map.mp m
        rw [List.any_eq_false] at an
        exact an x hx (by simpa using ex)
      have TX : ∀ d'', ∀ kv ∈ dSet kvs k d'', ∀ x, kv.1 = .str x → TxtOk x := fun d'' => by
        rw [dSet_new hh]
        intro kv hm x ex
        rcases List.mem_append.mp hm with m | m
        · exact tx kv m x ex
        · obtain rfl : kv = (k, d'') := by simpa using m
          exact txk x ex
      refine fin (T0 ++ (U ++ [])) (fun c hc => by simpa using hc) (E1 d) N1 (TX d) ?_ fun _ => ⟨by rw [eS]; simp, fun H' Ab d' k1 k2 k3 k4 rv' => ?_⟩
      · rw [dSet_new hh, ep, List.map_append, List.map_append]
        exact q.append (.cons rv .nil)
      · have off : ∀ c ∈ T0, ¬ Ab c := fun c hc z => k4 c (k3 c (List.mem_cons_of_mem _ (List.mem_append_left _ hc)) z) (by rw [eS]; exact List.mem_cons_of_mem _ hc)
        have nb : ¬ Ab a := fun z => nU (k3 a List.mem_cons_self z)
        refine .dk (.inl (k1 a _ (by rw [upd_same]) nb)) (E1 d') (TX d') N1 ?_
        rw [dSet_new hh, ep, List.map_append, List.map_append]
        exact (RepL.mono k1 k2 (up q na) off).append (.cons rv' .nil)
  · obtain ⟨hs, lz, xs, vs, T0, eS, dd, e, hq, rv0, q, rk0⟩ := view_t I rep ho ht
    rw [eS] at na
    have na : a ∉ T0 := na
    obtain ⟨b, rfl, rfl, hb⟩ := key_heap I (keyOk_fit ho) ht rk ru
    have kh := keyFit_hash (keyOk_fit ho)
    obtain ⟨an, vs1, T1, h1, h2, sub1⟩ := putT kh rr rv e hq rv0 q
    have nd : (xs.map (·.1)).Nodup := let ⟨_, _, _, _, _, _, _, _, hn⟩ := dd; hn
    have xl : xs.length = kvs.length := by have := congrArg List.length e; simpa using this
    have nT := rk.hash_nil kh
    subst nT
    have fin : ∀ (vs' : List V) (T' : List Addr), (∀ c ∈ T', c ∈ T0 ∨ c ∈ U) → RepLX X H ((storedH xs (keyOf k) b r).map fun x => V.ref x.2.1) ((dSet kvs k d).map (·.1)) [] → (storedH xs (keyOf k) b r).map (·.1) = (dSet kvs k d).map (fun kv => keyOf kv.1) → ((storedH xs (keyOf k) b r).map (·.1)).Nodup →
        (∀ kv ∈ dSet kvs k d, isHash kv.1 = true ∧ isTup kv.1 = true ∧ kv.1.depth ≤ 8) → Vals vs' ((storedH xs (keyOf k) b r).map (·.2.2)) → RepLX X H vs' ((dSet kvs k d).map (·.2)) T' → (dSet kvs k d).length ≤ kvs.length + 1 → (dHas kvs k = false → T' = S.tail ++ U ∧ (∀ (H' : Hp) (Ab : Addr → Prop) (d' : D), (∀ c o, upd H a (.ext (DTup X.prog X.w a (storedH xs (keyOf k) b r))) c = some o → ¬ Ab c → H' c = some o) → (∀ c, Ab c → WrO (upd H a (.ext (DTup X.prog X.w a (storedH xs (keyOf k) b r))) c)) → (∀ c ∈ a :: T', Ab c → c ∈ U) → (∀ c ∈ U, c ∉ S) → RepX X H' v d' U → RepX X H' (.ref a) (.dict (dSet kvs k d')) (a :: T'))) →
        ∃ ob T', Wr (some ob) ∧ RepX X (upd H a ob) (.ref a) (.dict (dSet kvs k d)) (a :: T') ∧ (∀ c ∈ T', c ∈ S.tail ∨ c ∈ U) ∧
          (∀ Q : Unit → Shared → Prop, (∀ s', Inv X pins σ (upd H a ob) s' → Q () s') → wpAny (model X.prog X.w) A (setItem (.ref a) (.ref b) r) Q E s) ∧ (∀ Q : Unit → Shared → Prop, (∀ s', Inv X pins σ (upd H a ob) s' → Q () s') → wpAny (model X.prog X.w) A (dictSet a (.ref b) r) Q E s) ∧ (dHas kvs k = false → T' = S.tail ++ U ∧ (∀ (H' : Hp) (Ab : Addr → Prop) (d' : D), (∀ c o, upd H a ob c = some o → ¬ Ab c → H' c = some o) → (∀ c, Ab c → WrO (upd H a ob c)) → (∀ c ∈ a :: T', Ab c → c ∈ U) → (∀ c ∈ U, c ∉ S) → RepX X H' v d' U → RepX X H' (.ref a) (.dict (dSet kvs k d')) (a :: T')) ∧ ∀ Q : Value → Shared → Prop, (∀ s', Inv X pins σ (upd H a ob) s' → Q r s') → wpAny (model X.prog X.w) A (call (.builtin "dict.setdefault") [.ref a, .ref b, r]) Q E s) := by
      intro vs' T' sub rk1 e1 n1 q1 v1 r1 l1 sw
      refine ⟨.ext (DTup X.prog X.w a (storedH xs (keyOf k) b r)), T', .inr (.inr ⟨_, rfl⟩), .dt (.inl (by rw [upd_same])) hs ⟨dSet_ne, by omega⟩ (up rk1 fun m => nomatch m) e1 n1 q1 v1 (up r1 fun m => (sub a m).elim na nU), fun c hc => by rw [eS]; exact sub c hc, fun Q hQ => ?_, fun Q hQ => ?_, fun nh => ⟨(sw nh).1, (sw nh).2, fun Q hQ => ?_⟩⟩
      · refine wpAny_setItem_heap (hsz := by omega) (show A.units + 1 + 8 < cLine by omega) hb dd fun h' dd' hs' => hQ _ ?_
        obtain ⟨o, es, ep, h1, h2, h3, h4, _, _⟩ := dd'
        exact d_write I mu hs' ⟨o, h1⟩ ⟨⟨o, es, ep, h1, h2, h3, h4⟩, ⟨o, h1⟩, fun g1 g2 ⟨o, es, ep, z1, z2⟩ kp => ⟨o, es, ep, kp o z1, z2⟩⟩
      · refine wpAny_dictSet_heap (hsz := by omega) (show A.units + 8 < cLine by omega) hb dd fun h' dd' hs' => hQ _ ?_
        obtain ⟨o, es, ep, h1, h2, h3, h4, _, _⟩ := dd'
        exact d_write I mu hs' ⟨o, h1⟩ ⟨⟨o, es, ep, h1, h2, h3, h4⟩, ⟨o, h1⟩, fun g1 g2 ⟨o, es, ep, z1, z2⟩ kp => ⟨o, es, ep, kp o z1, z2⟩⟩
      · refine call_setdefault_heap (hsz := by omega) (show A.units + 1 + 8 < cLine by omega) hb hs dd (fun p hp => ?_) fun hn h' dd' hs' => hQ _ ?_
        · have gn : dGet kvs k = none := by
            rw [dHas_get] at nh
            cases z : dGet kvs k with
            | none => rfl
            | some _ => rw [z] at nh; cases nh
          rw [(lookT kh e hq rv0 q).1 gn] at hp; cases hp
        · obtain ⟨o, es, ep, h1, h2, h3, h4, _, _⟩ := dd'
          exact d_write I mu hs' ⟨o, h1⟩ ⟨⟨o, es, ep, h1, h2, h3, h4⟩, ⟨o, h1⟩, fun g1 g2 ⟨o, es, ep, z1, z2⟩ kp => ⟨o, es, ep, kp o z1, z2⟩⟩
    rcases Bool.eq_false_or_eq_true (dHas kvs k) with hh | hh
    · skip
      rw [hh] at an
      have ep : storedH xs (keyOf k) b r = xs.map (putAt (keyOf k) r) := by unfold storedH; rw [if_pos an]
      have k1 : (xs.map (putAt (keyOf k) r)).map (·.1) = xs.map (·.1) := by
        rw [List.map_map]
        refine List.map_congr_left fun x _ => ?_
        show (putAt (keyOf k) r x).1 = x.1
        unfold putAt; split <;> rfl
      have k2 : (xs.map (putAt (keyOf k) r)).map (fun x => V.ref x.2.1) = xs.map (fun x => V.ref x.2.1) := by
        rw [List.map_map]
        refine List.map_congr_left fun x _ => ?_
        show V.ref (putAt (keyOf k) r x).2.1 = V.ref x.2.1
        unfold putAt; split <;> rfl
      refine fin vs1 T1 sub1 ?_ ?_ ?_ ?_ ?_ ?_ ?_ (fun nh => by rw [hh] at nh; cases nh)
      · rw [ep, k2, dSet_old hh, repD_fst]; exact rk0
      · rw [ep, k1, dSet_old hh, map_of_fst (f := keyOf)]; exact e
      · rw [ep, k1]; exact nd
      · rw [dSet_old hh]
        intro kv hm
        obtain ⟨kv0, hm0, rfl⟩ := List.mem_map.mp hm
        have z := hq kv0 hm0
        have e0 : (repD k d kv0).1 = kv0.1 := by unfold repD; split <;> rfl
        rw [e0]; exact z
      · rw [ep]; exact h1
      · rw [dSet_old hh]; exact h2
      · rw [dSet_old hh, List.length_map]; omega
    · skip
      rw [hh] at an
      have ep : storedH xs (keyOf k) b r = xs ++ [(keyOf k, b, r)] := by unfold storedH; rw [if_neg (by rw [an]; exact Bool.false_ne_true)]
      have RK : ∀ d'', RepLX X H ((storedH xs (keyOf k) b r).map fun x => V.ref x.2.1) ((dSet kvs k d'').map (·.1)) [] := fun d'' => by
        rw [ep, dSet_new hh, List.map_append, List.map_append]
        have z := rk0.append (.cons rk .nil)
        exact z
      have E1 : ∀ d'', (storedH xs (keyOf k) b r).map (·.1) = (dSet kvs k d'').map (fun kv => keyOf kv.1) := fun d'' => by
        rw [ep, dSet_new hh, List.map_append, List.map_append, e]; rfl
      have N1 : ((storedH xs (keyOf k) b r).map (·.1)).Nodup := by
        rw [ep, List.map_append]
        refine nodup_snoc nd fun m => ?_
        obtain ⟨x, hx, ex⟩ := List.mem_map.mp m
        have z : atKey xs (keyOf k) = none := by
          cases g : atKey xs (keyOf k) with
          | none => rfl
          | some _ => rw [g] at an; cases an
        unfold atKey at z
        have z := Option.map_eq_none_iff.mp z
        rw [List.find?_eq_none] at z
        exact z x hx (by simpa using ex)
      have Q1 : ∀ d'', ∀ kv ∈ dSet kvs k d'', isHash kv.1 = true ∧ isTup kv.1 = true ∧ kv.1.depth ≤ 8 := fun d'' => by
        rw [dSet_new hh]
        intro kv hm
        rcases List.mem_append.mp hm with m | m
        · exact hq kv m
        · obtain rfl : kv = (k, d'') := by simpa using m
          exact ⟨kh, ht, hd⟩
      have V1 : Vals (vs ++ [v]) ((storedH xs (keyOf k) b r).map (·.2.2)) := by
        rw [ep, List.map_append]
        exact vals_app rv0 (.cons rr .nil)
      have L1 : ∀ d'', (dSet kvs k d'').length ≤ kvs.length + 1 := fun d'' => by rw [dSet_new hh, List.length_append]; exact Nat.le_refl _
      refine fin (vs ++ [v]) (T0 ++ (U ++ [])) (fun c hc => by simpa using hc) (RK d) (E1 d) N1 (Q1 d) V1 ?_ (L1 d) fun _ => ⟨by rw [eS]; simp, fun H' Ab d' k1 k2 k3 k4 rv' => ?_⟩
      · rw [dSet_new hh, List.map_append]; exact q.append (.cons rv .nil)
      · have off : ∀ c ∈ T0, ¬ Ab c := fun c hc z => k4 c (k3 c (List.mem_cons_of_mem _ (List.mem_append_left _ hc)) z) (by rw [eS]; exact List.mem_cons_of_mem _ hc)
        have nb : ¬ Ab a := fun z => nU (k3 a List.mem_cons_self z)
        refine .dt (.inl (k1 a _ (by rw [upd_same]) nb)) hs ⟨dSet_ne, by have := L1 d'; omega⟩ (RepL.mono k1 k2 (up (RK d') fun m => nomatch m) fun _ h => nomatch h) (E1 d') N1 (Q1 d') V1 ?_
        rw [dSet_new hh, List.map_append]
        exact (RepL.mono k1 k2 (up q na) off).append (.cons rv' .nil)
theorem dict_put (hu : A.units + 200 < cLine) (I : Inv X pins σ H s) {a : Addr} {kvs : List (D × D)} {k d : D} {y v : V} {u r : Value} {S T U : List Addr} (wr : Wr (H a)) (rep : RepX X H (.ref a) (.dict kvs) S) (na : a ∉ S.tail) (ho : keyOk kvs k = true) (hl : kvs.length < 1000000) (rk : RepX X H y k T) (ru : RelV y u)
    (rv : RepX X H v d U) (rr : RelV v r) (nU : a ∉ U) : ∃ ob T', Wr (some ob) ∧ RepX X (upd H a ob) (.ref a) (.dict (dSet kvs k d)) (a :: T') ∧ (∀ c ∈ T', c ∈ S.tail ∨ c ∈ U) ∧
      (∀ Q : Unit → Shared → Prop, (∀ s', Inv X pins σ (upd H a ob) s' → Q () s') → wpAny (model X.prog X.w) A (setItem (.ref a) u r) Q E s) ∧ ∀ Q : Unit → Shared → Prop, (∀ s', Inv X pins σ (upd H a ob) s' → Q () s') → wpAny (model X.prog X.w) A (dictSet a u r) Q E s :=
  let ⟨ob, T', h1, h2, h3, h4, h5, _⟩ := dict_put' (A := A) (E := E) (by omega) I wr rep na ho hl rk ru rv rr nU
  ⟨ob, T', h1, h2, h3, h4, h5⟩
end
end MP

/-! MPW2: x[k] = e, the counter, x op= e, two names at once. -/
namespace MP
open PySem PySem.Spec L2
open PyProof.Rows hiding St

theorem RepL.set_at {X : Cx} {H : Hp} {vs : List V} {ds : List D} {S : List Addr} {v : V} {d : D} {T : List Addr} (i : Nat) (r : RepLX X H vs ds S) (rd : RepX X H v d T) : ∃ U, RepLX X H (vs.set i v) (ds.set i d) U ∧ ∀ a ∈ U, a ∈ S ∨ a ∈ T := RepL.set i r rd
section
variable {X : Cx} {C : Cxt}
theorem x_setIx {i : Nat} {x : Str} {xk xe : Expr} {k e : E} {p pos' pos : Pos} (hu : X.A.units + 200 < cLine) (hN : X.N[i]? = some x) (hv : Vis X.env.scope x) (hd : (x == ("__debug__" : Str)) = false) (hcd : (x == ("__classdict__" : Str)) = false) (he : PE X xe (tE X C (ZX X) e)) (hk : PE X xk (tE X C (ZX X) k))
    (hs : swapsWith xe (some (.Subscript (.Name x p) xk pos')) pos.line X.env = pure false) : PS X (.Assign [.Subscript (.Name x p) xk pos'] xe pos) (tS X C (.setIx i k e)) := by
  refine ⟨fun pins s σ H D I h => ?_⟩
  obtain ⟨H0, A0, At, n, ρ, fp, sl, h⟩ := h
  rw [evS, out_bind, out_lft] at h
  obtain ⟨_, hl, h⟩ := h
  rw [out_bind] at h
  have hq : ∃ d1, getS ρ i = some (.o d1) := by
    unfold ownO at hl
    split at hl
    · rename_i d1 e
      exact ⟨d1, e⟩
    · cases hl
  obtain ⟨d1, hd1⟩ := hq
  obtain ⟨a, T0, o0⟩ := sl.own hd1
  refine wpAny_Assign_Subscript (un1 he I sl.rl (out_rl sl.rl h) fun r s1 v d S H1 n1 I1 rv one q => thn ((pe_var hN hv hd hcd).run pins s1 σ H1 (fun y H2 => H2 = H1 ∧ y = .ref a) I1 ⟨_, o0.val, rfl, rfl⟩) fun u s2 ⟨y0, H2, I2, ry0, eH, ey⟩ => ?_) hs
  subst eH ey
  obtain rfl : u = Value.ref a := ry0
  rw [out_bind] at q
  refine un1 (Z := ZX X) hk I2 one.rl (out_rl one.rl q) fun iv s3 y dy T H3 n3 I3 ry one2 q => ?_
  rw [out_bind, out_lft] at q
  obtain ⟨ρ', hc, q⟩ := q
  rw [out_pure] at q
  obtain ⟨d1', d2, g, f, eρ⟩ := chg_some hc
  obtain rfl : d1' = d1 := by have z := frz_o g; rw [hd1] at z; cases z; rfl
  have s1' : Sl X H0 A0 At n3 (frzAll ρ e.esc e.al) fp σ H3 := ((sl.next one.p.pres one.p.cell).next one2.p.pres one2.p.cell).frzS (frzAll_s _ _ _)
  have sp := sep_frzAll sl.rl one.p.from_
  have nat := sl.rl.avoid one.p.from_
  have src : ∀ c ∈ S, H0 c = none ∨ A0 c := fun c hc => src_of (H1 := H) sl.rl (one.p.from_ c hc)
  obtain ⟨a1, T1, o1⟩ := s1'.own g
  obtain rfl : a1 = a := by have z := o1.val; rw [o0.val] at z; cases z; rfl
  have rv3 : RepX X H3 v d S := Rep.step one.p.rep one.p.cell one2.p.pres nat
  have nS : a1 ∉ S := sp i _ g a1 (by rw [o1.fpi]; rfl)
  cases d1' with
  | list ds =>
    cases dy with
    | int j =>
      have f : (do let j ← MP.ixN ds.length j; some (.list (ds.set j d))) = some d2 := f
      cases hj : MP.ixN ds.length j with
      | none => rw [hj] at f; cases f
      | some jj =>
        rw [hj] at f
        have f : some (PyData.list (ds.set jj d)) = some d2 := f
        obtain ⟨vs, hvs, r1⟩ := own_lst o1
        have hy : y = .int j := by cases one2.p.rep; rfl
        subst hy
        obtain ⟨U, r2, sub⟩ := RepL.set_at jj r1 rv3
        have hj2 : L2.ixN vs.length j = some jj := by rw [r1.length]; exact hj
        refine set_list pins s3 σ H3 (.ref a1) (.int j) v _ _ _ _ I3 rfl ry rv ⟨a1, vs, j, jj, rfl, rfl, hvs, hj2, ?_⟩ |> fun z => thn z fun _ s4 ⟨H4, I4, q4⟩ => ⟨σ, H4, I4, q4⟩
        rw [eρ, ← Option.some.inj f] at q
        refine q At _ σ _ (s1'.write (S := S) g o1 (T' := U) (.lst (.inl (by rw [upd_same])) (own_upd o1 r2 fun m => (sub a1 m).elim o1.nin nS)) rfl (.inl ⟨_, rfl⟩) sub nat src sp) .refl
    | _ => cases f
  | dict kvs =>
    have f : (do let r ← dSet? kvs dy d; some (.dict r)) = some d2 := f
    cases hj : dSet? kvs dy d with
    | none => rw [hj] at f; cases f
    | some r' =>
      rw [hj] at f
      have f : some (PyData.dict r') = some d2 := f
      obtain ⟨g1, g2⟩ := lftIf_some hj
      rw [Bool.and_eq_true, decide_eq_true_eq] at g1
      obtain ⟨ob, T', w, rep, sub, run, _⟩ := dict_put (A := X.A) (E := X.xe) hu I3 o1.wr o1.rep o1.nin g1.1 g1.2 one2.p.rep ry rv3 rv nS
      refine run _ fun s4 I4 => ⟨σ, _, I4, ?_⟩
      rw [eρ, ← Option.some.inj f, ← g2] at q
      exact q At _ σ _ (s1'.write (S := S) g o1 (T' := T') rep rfl w sub nat src sp) .refl
  | _ => cases dy <;> cases f
/-! ### the counter -/
theorem se_cget {Z : ZT} {i : Nat} {x : Str} {p pos : Pos} {xi : Expr} (hN : X.N[i]? = some x) (hv : Vis X.env.scope x) (hd : (x == ("__debug__" : Str)) = false) (hcd : (x == ("__classdict__" : Str)) = false) (hi : PE X xi (tC (.int 0))) (hs : PlainIx xi) : PE X (.Subscript (.Name x p) xi pos) (tE X C Z (.cget i)) := by
  refine (pe_ix ix_list (pe_var hN hv hd hcd) hi hs).weak fun σ H Q h => ?_
  obtain ⟨H0, A0, At, n, ρ, fp, rl, h⟩ := h
  rw [evE] at h
  cases hs : getS ρ i with
  | none => rw [hs] at h; exact h.elim
  | some s =>
    rw [hs] at h
    cases s with
    | cell =>
      cases n with
      | none => exact h.elim
      | some k =>
        obtain ⟨v, e1, _, a, ea, ev⟩ := rl.slot i _ hs
        have c := rl.cell
        rw [ea] at c
        have c : H a = some (.lst [.int k]) := c
        exact ⟨v, e1, a, [.int k], 0, .int k, ev, rfl, .inl (.inl c), rfl, h _ H [] (.flat (.int k) .refl rl.cell fun z => by cases z)⟩
    | _ => exact h.elim
theorem x_cset {i : Nat} {x : Str} {xi xe : Expr} {e : E} {p pos' pos : Pos} (hN : X.N[i]? = some x) (hv : Vis X.env.scope x) (hd : (x == ("__debug__" : Str)) = false) (hcd : (x == ("__classdict__" : Str)) = false) (he : PE X xe (tE X C (ZX X) e)) (hi : PE X xi (tC (.int 0)))
    (hs : swapsWith xe (some (.Subscript (.Name x p) xi pos')) pos.line X.env = pure false) : PS X (.Assign [.Subscript (.Name x p) xi pos'] xe pos) (tS X C (.cset i e)) := by
  refine ⟨fun pins s σ H D I h => ?_⟩
  obtain ⟨H0, A0, At, n, ρ, fp, sl, h⟩ := h
  rw [evS, out_bind, out_lft] at h
  obtain ⟨_, hl, h⟩ := h
  rw [out_bind] at h
  have hq : getS ρ i = some .cell := by
    unfold celO at hl
    split at hl
    · assumption
    · cases hl
  obtain ⟨v0, e1, _, a, ea, ev⟩ := sl.rl.slot i _ hq
  subst ev
  refine wpAny_Assign_Subscript (un1 he I sl.rl (out_rl sl.rl h) fun r s1 v d S H1 n1 I1 rv one q => thn ((pe_var hN hv hd hcd).run pins s1 σ H1 (fun y H2 => H2 = H1 ∧ y = .ref a) I1 ⟨_, e1, rfl, rfl⟩) fun u s2 ⟨y0, H2, I2, ry0, eH, ey⟩ => ?_) hs
  subst eH ey
  obtain rfl : u = Value.ref a := ry0
  refine thn (hi.run pins s2 σ H2 (fun y H3 => H3 = H2 ∧ y = .int 0) I2 ⟨rfl, rfl⟩) fun iv s3 ⟨y, H3, I3, ry, eH, ey⟩ => ?_
  subst eH ey
  rw [hq] at q
  cases d with
  | int k =>
    cases n1 with
    | none => exact q.elim
    | some k0 =>
      have hv' : v = .int k := by cases one.p.rep; rfl
      subst hv'
      have c := one.rl.cell
      rw [ea] at c
      have c : H3 a = some (.lst [.int k0]) := c
      refine set_list pins s3 σ H3 (.ref a) (.int 0) (.int k) _ _ _ _ I3 rfl ry rv ⟨a, [.int k0], 0, 0, rfl, rfl, c, rfl, ?_⟩ |> fun z => thn z fun _ s4 ⟨H4, I4, q4⟩ => ⟨σ, H4, I4, q4⟩
      have s1' := sl.next one.p.pres one.p.cell
      refine q At fp σ _ (s1'.next ⟨fun b o eb nb => ?_, fun b eb => ?_⟩ ?_) .refl
      · rw [upd_ne (fun z => nb (by rw [ea, z]))]; exact eb
      · by_cases z : b = a
        · rw [z, upd_same] at eb; cases eb
        · rw [upd_ne z] at eb; exact eb
      · rw [ea]
        show upd H3 a _ a = _
        rw [upd_same]; rfl
  | _ => exact q.elim
theorem Sl.mkCell {H0 H : Hp} {A0 : Addr → Prop} {n : Option Int} {ρ : Ev} {fp : Nat → List Addr} {σ : L2.St} (s : Sl X H0 A0 none n ρ fp σ H) {i : Nat} {a : Addr} (ha : H a = none) :
    Sl X H0 A0 (some a) (some 0) (setS ρ i .cell) (fset fp i []) (σ.set i (some (.ref a))) (upd H a (.lst [.int 0])) := by
  have sm := same_upd (o := .lst [.int 0]) ha
  have p0 : Pres none H (upd H a (.lst [.int 0])) := .same sm
  have nf : ∀ j sj, getS ρ j = some sj → ∀ b ∈ fp j, (some a : Option Addr) ≠ some b := fun j sj ej b hb z => by
    cases z
    exact fp_trk s.rl ej hb ha
  have r1 : Rl X H0 A0 (some a) (some 0) ρ fp σ (upd H a (.lst [.int 0])) := by
    refine ⟨⟨fun b o e nb => sm b o (s.rl.pres.keep b o e (by simp)), fun b e => s.rl.pres.trk b (p0.trk b e)⟩, s.rl.len, fun j sj ej => ?_, by show upd H a _ a = _; rw [upd_same], nf, s.rl.sep, s.rl.src⟩
    obtain ⟨v, e1, ok⟩ := s.rl.slot j sj ej
    refine ⟨v, e1, ?_⟩
    have st := ok.step s.rl.cell p0 (fun b _ => by simp)
    cases sj with
    | cell =>
      obtain ⟨_, b, eb, _⟩ := ok
      cases eb
    | p d => exact st
    | o d => exact st
    | oo d => exact st
    | err _ => exact st
  refine ⟨r1.put (s := .cell) ⟨rfl, a, rfl, rfl⟩ (fun _ h => nomatch h) (fun _ h => nomatch h) fun j sj _ ej => ⟨?_, trivial⟩, fun j sj ej => ?_⟩
  · cases sj with
    | o d => exact fun _ _ h => nomatch h
    | oo d => exact fun _ _ h => nomatch h
    | _ => trivial
  · rw [getS_set] at ej
    by_cases h : j = i
    · rw [if_pos h] at ej
      split at ej
      · cases ej; trivial
      · cases ej
    · rw [if_neg h] at ej
      rw [fset_ne h]
      exact s.ul.step s.rl p0 j sj ej
theorem x_mkCell {i : Nat} {x : Str} {xe : Expr} {pos pos' : Pos} (hN : X.N.Nodup) (hi : X.N[i]? = some x) (hx : Loc X.env.scope x) (he : PA X [xe] (tCons (tC (.int 0)) tNil)) {lpos : Pos} (hs : swapsWith (.List [xe] lpos) (some (.Name x pos')) pos.line X.env = pure false) (hf : X.fn x = true ∨ X.env.scope.names.lookup x = some .local) :
    PS X (.Assign [.Name x pos'] (.List [xe] lpos) pos) (tS X C (.mkCell i)) := by
  refine (ps_set hN hi hx (pe_lst he) hs hf).weak fun D σ H h => ?_
  obtain ⟨H0, A0, At, n, ρ, fp, s, h⟩ := h
  rw [evS] at h
  cases n with
  | some k => exact h.elim
  | none =>
    have c := s.rl.cell
    cases At with
    | some a => exact c.elim
    | none =>
      refine ⟨by show 1 ≤ sizeLine; decide, fun q hq => ?_⟩
      exact h (some q) _ _ _ (s.mkCell hq) ⟨fun z => absurd rfl z, fun a e => by cases e; exact .inr (s.rl.pres.trk q hq)⟩
end
end MP

/-! MPW3: x op= e; two names at once. -/
namespace MP
open PySem PySem.Spec L2
open PyProof.Rows hiding St

def rExt' : R2 := fun x y H Q => ∃ l b xs zs, x = .ref l ∧ y = .ref b ∧ H l = some (.lst xs) ∧ Rd H b (.lst zs) ∧ xs.length + zs.length ≤ sizeLine ∧ Q (.ref l) (upd H l (.lst (xs ++ zs)))
section
variable {X : Cx}
theorem iop_ext' : OpR X (inplaceOp .Add) rExt' := by
  intro pins s σ H x y v u Q I rx ry h
  obtain ⟨l, b, xs, zs, rfl, rfl, hH, hB, hz, q⟩ := h
  cases rx
  cases ry
  obtain ⟨z, its, n, r, hl, e⟩ := I.lstM hH
  obtain ⟨z2, its2, n2, r2, e2⟩ := hB.ok I.hok
  have hl2 := r2.length
  have hsz : its.toArray.size + its2.toArray.size ≤ sizeLine := by rw [List.size_toArray, List.size_toArray]; omega
  have hlong : ¬ (!its.toArray.isEmpty && Builtin.List.listTooLong (its.toArray.size + its2.toArray.size)) = true := by
    rw [notLongL hsz, Bool.and_false]
    exact Bool.false_ne_true
  refine iadd_road ⟨_, e, rfl⟩ ⟨_, e2, rfl⟩ (call_meets PySem.F.slot_list_iadd ⟨_, e, rfl⟩ PySem.F.entry_list_iadd (PySem.F.args_list_iadd_2 _ _)
    (AutoSeq1.list___iadd___list_list_0 l its.toArray n b its2.toArray n2 hlong (by rw [List.size_toArray]; omega) (by omega)) ⟨e, e2, ?_⟩)
  refine ⟨.ref l, _, I.lset (its' := its ++ its2) (t' := s.toks) hH e (by simp) (r.append r2) ?_, rfl, q⟩
  rw [List.length_append]
  omega
theorem ip_or {op : Operator} {r1 r2 : TIp} (h1 : PIp X op r1) (h2 : PIp X op r2) : PIp X op (fun x y H Q => r1 x y H Q ∨ r2 x y H Q) := by
  intro pins s σ H x y v u Q I rx ry h
  rcases h with h | h
  · exact h1 pins s σ H x y v u Q I rx ry h
  · exact h2 pins s σ H x y v u Q I rx ry h
end
section
variable {X : Cx} {H0 H H' : Hp} {A0 : Addr → Prop} {At : Option Addr} {n n' : Option Int} {ρ ρ' : Ev} {fp : Nat → List Addr} {σ : L2.St}
theorem Sl.flatP (s : Sl X H0 A0 At n ρ fp σ H) {i : Nat} {v : V} {d : D} (r : RepX X H v d []) : Sl X H0 A0 At n (setS ρ i (.p d)) (fset fp i []) (σ.set i (some v)) H := by
  refine ⟨s.rl.put (s := .p d) r (fun _ h => nomatch h) (fun _ h => nomatch h) fun j sj _ ej => ⟨?_, trivial⟩, fun j sj ej => ?_⟩
  · cases sj with
    | o d => exact fun _ _ h => nomatch h
    | oo d => exact fun _ _ h => nomatch h
    | _ => trivial
  · rw [getS_set] at ej
    by_cases h : j = i
    · rw [if_pos h] at ej
      split at ej
      · cases ej; trivial
      · cases ej
    · rw [if_neg h] at ej
      rw [fset_ne h]
      exact s.ul j sj ej
theorem rep_int {v : V} {d : D} {S : List Addr} {a : Int} (r : RepX X H v d S) (h : d = .int a) : v = .int a := by
  cases r <;> first | (cases h; rfl) | cases h
theorem set_same {σ : L2.St} {i : Nat} {v : V} (h : σ[i]? = some (some v)) : σ.set i (some v) = σ := by
  refine List.ext_getElem? fun j => ?_
  rw [List.getElem?_set]
  by_cases e : i = j
  · subst e
    rw [if_pos rfl, h]
    split
    · rfl
    · rename_i q
      rw [List.getElem?_eq_none (Nat.le_of_not_lt q)] at h; cases h
  · rw [if_neg e]
/-- a new thing for a name -/
theorem Sl.put (s : Sl X H0 A0 At n ρ fp σ H) {i : Nat} {v : V} {d : D} {S : List Addr} {fr : Bool} (r : RepX X H v d S) (nat : ∀ a ∈ S, At ≠ some a) (src : ∀ a ∈ S, H0 a = none ∨ A0 a) (sp : SepAll ρ fp S)
    (nw : fr = true → isCont d = true → ∃ a T, v = .ref a ∧ S = a :: T ∧ a ∉ T ∧ H0 a = none ∧ Wr (H a) ∧ ∀ j sj, getS ρ j = some sj → a ∉ fp j) : Sl X H0 A0 At n (setS ρ i (slotOf false fr d)) (fset fp i S) (σ.set i (some v)) H := by
  have ulp : ∀ sl, OwnW sl S H → UL (setS ρ i sl) (fset fp i S) H := fun sl ho j sj ej => by
    rw [getS_set] at ej
    by_cases h : j = i
    · subst h
      rw [if_pos rfl] at ej
      rw [fset_same]
      split at ej
      · cases ej; exact ho
      · cases ej
    · rw [if_neg h] at ej
      rw [fset_ne h]
      exact s.ul j sj ej
  unfold slotOf
  by_cases hf : (fr && isCont d) = true
  · rw [if_pos hf, if_neg (by simp)]
    rw [Bool.and_eq_true] at hf
    obtain ⟨a, T, e1, e2, e4, h0, e5, nf⟩ := nw hf.1 hf.2
    refine ⟨s.rl.put (s := .o d) ⟨r, hf.2, a, T, e1, e2, e4, h0, .inl e5⟩ nat src fun j sj _ ej => ⟨sp j sj ej, fun b hb => ?_⟩, ulp _ fun b hb => ?_⟩
    · rw [e2] at hb
      obtain rfl : a = b := Option.some.inj hb
      exact nf j sj ej
    · rw [e2] at hb
      obtain rfl : a = b := Option.some.inj hb
      exact e5
  · rw [if_neg hf]
    exact ⟨s.rl.put (s := .p d) r nat src fun j sj _ ej => ⟨sp j sj ej, trivial⟩, ulp _ trivial⟩
end
section
variable {X : Cx} {C : Cxt}
theorem x_augAdd {i : Nat} {x : Str} {xe : Expr} {e : E} {pos pos' : Pos} (hN : X.N.Nodup) (hi : X.N[i]? = some x) (hx : Loc X.env.scope x) (he : PE X xe (tE X C (ZX X) e)) (hf : X.fn x = true ∨ X.env.scope.names.lookup x = some .local) : PS X (.AugAssign (.Name x pos') .Add xe pos) (tS X C (.aug i .add e)) := by
  refine (ps_aug hN hi hx he (ip_or ip_add (fun pins s σ H x y v u Q I rx ry h => iop_ext' pins s σ H x y v u Q I rx ry h)) hf).weak fun D σ H h => ?_
  obtain ⟨H0, A0, At, n, ρ, fp, sl, h⟩ := h
  rw [evS, out_bind, out_lft] at h
  obtain ⟨s0, hs0, h⟩ := h
  rw [out_bind] at h
  obtain ⟨v0, e1, ok⟩ := sl.rl.slot i _ hs0
  cases s0 with
  | p d0 =>
    refine ⟨v0, e1, H0, A0, At, n, ρ, fp, sl.rl, h.imp (fun d n1 q v H1 S p => ?_) fun _ _ z => zx_sl sl z⟩
    replace q : Out ((lft (augE .add d0 d) >>= fun z => pure (setS ρ i (.p z), Fl.next)) n1) (KD X H0 A0 At D) (ZX X At H0) := q
    rw [out_bind, out_lft] at q
    obtain ⟨z, ez, q⟩ := q
    rw [out_pure] at q
    have s1 := sl.next p.pres p.cell
    cases d0 with
    | int a0 =>
      cases d with
      | int b0 =>
        cases ez
        have hv0 : v0 = .int a0 := rep_int ok rfl
        have hv : v = .int b0 := by cases p.rep; rfl
        subst hv0 hv
        exact .inl ⟨a0, b0, rfl, rfl, q At _ _ H1 (s1.flatP (.int _)) .refl⟩
      | _ => cases ez
    | _ => cases ez
  | o d0 =>
    refine ⟨v0, e1, H0, A0, At, n, ρ, fp, sl.rl, h.imp (fun d n1 q v H1 S p => ?_) fun _ _ z => zx_sl sl z⟩
    replace q : Out ((lft (chg (frzAll ρ e.esc e.al) i (extE d)) >>= fun ρ' => pure (ρ', Fl.next)) n1) (KD X H0 A0 At D) (ZX X At H0) := q
    rw [out_bind, out_lft] at q
    obtain ⟨ρ', hc, q⟩ := q
    rw [out_pure] at q
    obtain ⟨d1, d2, g, f, eρ⟩ := chg_some hc
    obtain rfl : d1 = d0 := by have z := frz_o g; rw [hs0] at z; cases z; rfl
    obtain ⟨s1, sp, nat, src⟩ := own_back sl p g
    obtain ⟨a1, T1, o1⟩ := s1.own g
    have hv0 : v0 = .ref a1 := by have z := o1.val; rw [e1] at z; cases z; rfl
    subst hv0
    have nS : a1 ∉ S := sp i _ g a1 (by rw [o1.fpi]; rfl)
    cases d1 with
    | list ds =>
      cases d with
      | list ys =>
        obtain ⟨f1, f2⟩ := lftIf_some f
        have fl := fits_le f1
        obtain ⟨vs1, hvs1, r1⟩ := own_lst o1
        have go : ∀ {S : List Addr}, RepX X H1 v (.list ys) S → ∃ b zs T, v = .ref b ∧ S = b :: T ∧ Rd H1 b (.lst zs) ∧ RepLX X H1 zs ys T := by
          intro S r
          cases r with
          | lst h r => exact ⟨_, _, _, rfl, rfl, h, r⟩
        obtain ⟨b, zs, T, ev, eS, hb, rz⟩ := go p.rep
        subst ev
        refine .inr ⟨a1, b, vs1, zs, rfl, rfl, hvs1, hb, by rw [r1.length, rz.length]; exact fl, ?_⟩
        show D.nx (σ.set i (some (V.ref a1))) _
        rw [set_same e1]
        rw [eρ, ← f2] at q
        refine q At _ σ _ (s1.write (S := S) g o1 (T' := T1 ++ T) (.lst (.inl (by rw [upd_same])) (own_upd o1 (r1.append rz) fun m => ?_)) rfl (.inl ⟨_, rfl⟩) (fun c hc => ?_) nat src sp) .refl
        · rcases List.mem_append.mp m with m | m
          · exact o1.nin m
          · exact nS (by rw [eS]; exact List.mem_cons_of_mem _ m)
        · rcases List.mem_append.mp hc with m | m
          · exact .inl m
          · exact .inr (by rw [eS]; exact List.mem_cons_of_mem _ m)
      | _ => cases f
    | _ => cases f
  | oo d0 =>
    refine ⟨v0, e1, H0, A0, At, n, ρ, fp, sl.rl, h.imp (fun d n1 q v H1 S p => ?_) fun _ _ z => zx_sl sl z⟩
    replace q : Out ((lft (chg (frzAll ρ e.esc e.al) i (extE d)) >>= fun ρ' => pure (ρ', Fl.next)) n1) (KD X H0 A0 At D) (ZX X At H0) := q
    rw [out_bind, out_lft] at q
    obtain ⟨ρ', hc, q⟩ := q
    obtain ⟨d1, d2, g, f, eρ⟩ := chg_some hc
    have z := frz_o g
    rw [hs0] at z; cases z
  | cell =>
    refine ⟨v0, e1, H0, A0, At, n, ρ, fp, sl.rl, h.imp (fun d n1 q v H1 S p => ?_) fun _ _ z => zx_sl sl z⟩
    replace q : Out ((lft (chg (frzAll ρ e.esc e.al) i (extE d)) >>= fun ρ' => pure (ρ', Fl.next)) n1) (KD X H0 A0 At D) (ZX X At H0) := q
    rw [out_bind, out_lft] at q
    obtain ⟨ρ', hc, q⟩ := q
    obtain ⟨d1, d2, g, f, eρ⟩ := chg_some hc
    have z := frz_o g
    rw [hs0] at z; cases z
  | err _ =>
    refine ⟨v0, e1, H0, A0, At, n, ρ, fp, sl.rl, h.imp (fun d n1 q v H1 S p => ?_) fun _ _ z => zx_sl sl z⟩
    replace q : Out ((lft (chg (frzAll ρ e.esc e.al) i (extE d)) >>= fun ρ' => pure (ρ', Fl.next)) n1) (KD X H0 A0 At D) (ZX X At H0) := q
    rw [out_bind, out_lft] at q
    obtain ⟨ρ', hc, q⟩ := q
    obtain ⟨d1, d2, g, f, eρ⟩ := chg_some hc
    have z := frz_o g
    rw [hs0] at z; cases z
/-- a, b = x, y -/
theorem x_par2 {i j : Nat} {x y : Str} {xa xb : Expr} {a b : E} {px py pt pos : Pos} {kt k2 pt2} (hc : X.calm = true) (hN : X.N.Nodup) (hi : X.N[i]? = some x) (hj : X.N[j]? = some y) (hij : i ≠ j) (hx : X.env.scope.names.lookup x = some .local) (hy : X.env.scope.names.lookup y = some .local)
    (ha : PE X xa (tE X C (ZX X) a)) (hb : PE X xb (tE X C (ZX X) b)) (h1 : starEach [xa, xb] X.env = (false, eval xa X.env) :: starEach [xb] X.env) (h2 : starEach [xb] X.env = (false, eval xb X.env) :: starEach [] X.env)
    (hw : swappedStores [.Tuple [.Name x px, .Name y py] kt pt] (.Tuple [xa, xb] k2 pt2) X.env = pure (some [x, y])) (hs : swapsWithSole [.Tuple [.Name x px, .Name y py] kt pt] (.Tuple [xa, xb] k2 pt2) pos.line X.env = pure false) :
    PS X (.Assign [.Tuple [.Name x px, .Name y py] kt pt] (.Tuple [xa, xb] k2 pt2) pos) (tS X C (.par [i, j] [a, b])) := by
  refine (ps_par hc hN hi hj hij hx hy (pa_cons ha (pa_cons hb pa_nil h2) h1) hw hs).weak fun D σ H h => ?_
  obtain ⟨H0, A0, At, n, ρ, fp, sl, h⟩ := h
  rw [evS, out_bind, evEs, out_bind] at h
  refine ⟨H0, A0, At, n, ρ, fp, sl.rl, h.imp (fun d1 n1 q v1 H1 S1 p1 => ?_) fun _ _ z => zx_sl sl z⟩
  rw [out_bind, evEs, out_bind] at q
  refine ⟨H0, A0, At, n1, ρ, fp, sl.rl.next p1.pres p1.cell, q.imp (fun d2 n2 q v2 H2 S2 p2 => ?_) fun _ _ z => zx_rl (sl.rl.next p1.pres p1.cell) z⟩
  rw [out_bind, evEs] at q
  replace q : Out ((lft (setAll false [i, j] [a, b] [d1, d2] (frzAll ρ (escL [a, b]) (alL [a, b]))) >>= fun ρ' => pure (ρ', Fl.next)) n2) (KD X H0 A0 At D) (ZX X At H0) := q
  rw [out_bind, out_lft] at q
  obtain ⟨ρ', e, q⟩ := q
  cases e
  rw [out_pure] at q
  refine ⟨v1, v2, rfl, ?_⟩
  have s2 := (sl.next p1.pres p1.cell).next p2.pres p2.cell
  have sF := s2.frzS (frzAll_s ρ (escL [a, b]) (alL [a, b]))
  have f1 : ∀ c ∈ S1, H c = none ∨ Reach ρ fp (escL [a, b]) (alL [a, b]) c := fun c hc => (p1.from_ c hc).imp id fun z => z.mono (fun k hk => List.mem_append_left _ hk) fun k hk => List.mem_append_left _ hk
  have f2 : ∀ c ∈ S2, H1 c = none ∨ Reach ρ fp (escL [a, b]) (alL [a, b]) c := fun c hc => (p2.from_ c hc).imp id fun z => z.mono (fun k hk => List.mem_append_right _ (List.mem_append_left _ hk)) fun k hk => List.mem_append_right _ (List.mem_append_left _ hk)
  have f2' : ∀ c ∈ S2, H c = none ∨ Reach ρ fp (escL [a, b]) (alL [a, b]) c := fun c hc => (f2 c hc).imp (p1.pres.trk c) id
  have n1' := sl.rl.avoid f1
  have n2' := sl.rl.avoid f2'
  have r1 : RepX X H2 v1 d1 S1 := Rep.step p1.rep p1.cell p2.pres n1'
  have old : ∀ c, H c = none → ∀ j sj, getS (frzAll ρ (escL [a, b]) (alL [a, b])) j = some sj → c ∉ fp j := fun c hc j sj ej m => by
    obtain ⟨s0, e0, _⟩ := (frzAll_s ρ (escL [a, b]) (alL [a, b])).get ej
    exact fp_trk sl.rl e0 m hc
  have new1 : a.fresh = true → isCont d1 = true → ∃ c T, v1 = .ref c ∧ S1 = c :: T ∧ c ∉ T ∧ H0 c = none ∧ Wr (H2 c) ∧ ∀ j sj, getS (frzAll ρ (escL [a, b]) (alL [a, b])) j = some sj → c ∉ fp j := fun h h' => by
    obtain ⟨c, T, e1, e2, e3, e4, e5⟩ := p1.new h h'
    exact ⟨c, T, e1, e2, e4, sl.rl.pres.trk c e3, e5.step p2.pres (n1' c (by rw [e2]; exact List.mem_cons_self)), old c e3⟩
  have sA := sF.put (i := i) (fr := a.fresh) r1 n1' (fun c hc => src_of (H1 := H) sl.rl (f1 c hc)) (sep_frzAll sl.rl f1) new1
  have sp2 : SepAll (setS (frzAll ρ (escL [a, b]) (alL [a, b])) i (slotOf false a.fresh d1)) (fset fp i S1) S2 := fun k sk ek => by
    rw [getS_set] at ek
    by_cases h : k = i
    · subst h
      rw [if_pos rfl] at ek
      rw [fset_same]
      split at ek
      · cases ek
        unfold slotOf
        by_cases hf : (a.fresh && isCont d1) = true
        · rw [if_pos hf, if_neg (by simp)]
          rw [Bool.and_eq_true] at hf
          obtain ⟨c, T, e1, e2, e3, e4, e5⟩ := p1.new hf.1 hf.2
          intro c' hc' hm
          rw [e2] at hc'
          obtain rfl : c = c' := Option.some.inj hc'
          rcases f2 c hm with z | ⟨j', s', d', ej', _, mj, _⟩
          · have w := p1.rep.tracked c (by rw [e2]; exact List.mem_cons_self)
            exact w z
          · exact fp_trk sl.rl ej' mj e3
        · rw [if_neg hf]; trivial
      · cases ek
    · rw [if_neg h] at ek
      rw [fset_ne h]
      exact sep_frzAll sl.rl f2' k sk ek
  have new2 : b.fresh = true → isCont d2 = true → ∃ c T, v2 = .ref c ∧ S2 = c :: T ∧ c ∉ T ∧ H0 c = none ∧ Wr (H2 c) ∧ ∀ k sk, getS (setS (frzAll ρ (escL [a, b]) (alL [a, b])) i (slotOf false a.fresh d1)) k = some sk → c ∉ fset fp i S1 k := fun h h' => by
    obtain ⟨c, T, e1, e2, e3, e4, e5⟩ := p2.new h h'
    refine ⟨c, T, e1, e2, e4, sl.rl.pres.trk c (p1.pres.trk c e3), e5, fun k sk ek m => ?_⟩
    rw [getS_set] at ek
    by_cases hk : k = i
    · rw [hk, fset_same] at m
      exact p1.rep.tracked c m e3
    · rw [if_neg hk] at ek
      rw [fset_ne hk] at m
      exact old c (p1.pres.trk c e3) k sk ek m
  exact q At _ _ H2 (sA.put (i := j) (fr := b.fresh) p2.rep n2' (fun c hc => src_of (H1 := H) sl.rl (f2' c hc)) sp2 new2) .refl
end
end MP

/-! MPB: built-in functions of one thing. -/
namespace MP
open PySem PySem.Spec L2
open PyProof.Rows hiding St

def rV1 (X : Cx) (g : D → Option D) : List V → Hp → VK → Prop := fun xs H Q => ∃ x dx d S, xs = [x] ∧ RepX X H x dx S ∧ g dx = some d ∧
  ∀ z H' U, Same H H' → RepX X H' z d U → (∀ a ∈ U, H a = none ∨ a ∈ elems dx S) → (isCont d = true → ∃ a T, z = .ref a ∧ U = a :: T ∧ H a = none ∧ a ∉ T ∧ Wr (H' a)) → Q z H'
theorem same_refl {H : Hp} : Same H H := fun _ _ e => e
section
variable {X : Cx} {C : Cxt} {Z : ZT}
theorem se_b0 {f : Value} {xa xc : Expr} {e : E} {b : B0} (hc : ∀ r t, CallR X f r → PA X [xa] t → PE X xc (tCB r t)) (hv : CallR X f (rV1 X (b0E b))) (hh : ∀ dx d, b0E b dx = some d → isHash d = true) (he : PE X xa (tE X C Z e)) (hs : starEach [xa] X.env = (false, eval xa X.env) :: starEach [] X.env) :
    PE X xc (tE X C Z (.b0 b e)) := by
  refine (hc _ _ hv (pa_cons he pa_nil hs)).weak fun σ H Q h => ?_
  obtain ⟨H0, A0, At, n, ρ, fp, rl, h⟩ := h
  rw [evE, out_bind] at h
  refine ⟨H0, A0, At, n, ρ, fp, rl, h.imp (fun dx n1 q x H1 S p => ?_) fun _ _ z => z⟩
  rw [out_lft] at q
  obtain ⟨d, ed, q⟩ := q
  refine ⟨x, dx, d, S, rfl, p.rep, ed, fun z H' U sm r _ _ => ?_⟩
  have hU := r.hash_nil (hh dx d ed)
  subst hU
  exact q z H' [] (.flat r (p.pres.trans (.same sm)) (p.cell.same sm) fun z => by cases z)
theorem se_b1 {f : Value} {xa xc : Expr} {e : E} {b : B1} (hc : ∀ r t, CallR X f r → PA X [xa] t → PE X xc (tCB r t)) (hv : CallR X f (rV1 X (b1S b e))) (he : PE X xa (tE X C Z e)) (hs : starEach [xa] X.env = (false, eval xa X.env) :: starEach [] X.env) :
    PE X xc (tE X C Z (.b1 b (.of e))) := by
  refine (hc _ _ hv (pa_cons he pa_nil hs)).weak fun σ H Q h => ?_
  obtain ⟨H0, A0, At, n, ρ, fp, rl, h⟩ := h
  rw [evE] at h
  rw [out_bind] at h
  refine ⟨H0, A0, At, n, ρ, fp, rl, h.imp (fun dx n1 q x H1 S p => ?_) fun _ _ z => z⟩
  rw [out_lft] at q
  obtain ⟨d, ed, q⟩ := q
  refine ⟨x, dx, d, S, rfl, p.rep, ed, fun z H' U sm r sub nw => ?_⟩
  refine q z H' U (.mk' r (p.pres.trans (.same sm)) (p.cell.same sm) rfl (fun c hc => ?_) fun _ ic => ?_)
  · rcases sub c hc with w | w
    · exact .inl (p.pres.trk c w)
    · exact p.elem c w
  · obtain ⟨a, T, e1, e2, e3, e4, e5⟩ := nw ic
    exact ⟨a, T, e1, e2, p.pres.trk a e3, e4, e5⟩

theorem v_len : CallR X (.builtin "len") (rV1 X (b0E .len)) := by
  intro pins s σ H xs us Q I r h
  obtain ⟨x, dx, d, S, rfl, rep, e, q⟩ := h
  have fin : ∀ n : Int, d = .int n → Q (.int n) H := fun n en => q _ H [] same_refl (by rw [en]; exact .int n) (fun _ h => nomatch h) (by rw [en]; exact fun z => by cases z)
  cases rep with
  | str y hy => cases e; exact call_len_str pins s σ H _ us Q I r ⟨y, rfl, hy.1, fin _ rfl⟩
  | lst h rr => cases e; exact call_len_seq pins s σ H _ us Q I r ⟨_, _, rfl, .inl (.inl h), by rw [rr.length]; exact fin _ rfl⟩
  | tup h rr => cases e; exact call_len_seq pins s σ H _ us Q I r ⟨_, _, rfl, .inr h, by rw [rr.length]; exact fin _ rfl⟩
  | @dk a es kvs T h e1 tx n1 q1 =>
    cases e
    have rep : RepX X H (.ref a) (.dict kvs) (a :: T) := .dk h e1 tx n1 q1
    obtain ⟨hs, l, es', ep, ks, vs, T', eS, raw, sz, _⟩ := rep.raw I
    rw [Vals.ref1 r]
    refine Calls.call_function_entry kind_len plain_len entry_len (args_len1 _) (len_body_raw hs raw (by rw [sz]; exact l) fun t s' e => ?_)
    obtain ⟨n', rfl⟩ := e
    exact ⟨.int _, H, I.tok n', ⟨t, by rw [sz]⟩, fin _ rfl⟩
  | @dt a xs vs kvs T h z l rk e1 n1 q1 rv rr =>
    cases e
    have rep : RepX X H (.ref a) (.dict kvs) (a :: T) := .dt h z l rk e1 n1 q1 rv rr
    obtain ⟨hs, l, es', ep, ks, vs, T', eS, raw, sz, _⟩ := rep.raw I
    rw [Vals.ref1 r]
    refine Calls.call_function_entry kind_len plain_len entry_len (args_len1 _) (len_body_raw hs raw (by rw [sz]; exact l) fun t s' e => ?_)
    obtain ⟨n', rfl⟩ := e
    exact ⟨.int _, H, I.tok n', ⟨t, by rw [sz]⟩, fin _ rfl⟩
  | _ => cases e
theorem v_abs : CallR X (.builtin "abs") (rV1 X (b0E .abs)) := by
  intro pins s σ H xs us Q I r h
  obtain ⟨x, dx, d, S, rfl, rep, e, q⟩ := h
  cases rep with
  | int i => cases e; exact call_abs pins s σ H _ us Q I r ⟨i, rfl, q _ H [] same_refl (.int _) (fun _ h => nomatch h) fun z => by cases z⟩
  | _ => cases e
theorem v_int : CallR X (.type "int") (rV1 X (b0E .int)) := by
  intro pins s σ H xs us Q I r h
  obtain ⟨x, dx, d, S, rfl, rep, e, q⟩ := h
  cases rep with
  | int i => cases e; exact call_int1 pins s σ H _ us Q I r (.inl ⟨i, rfl, q _ H [] same_refl (.int _) (fun _ h => nomatch h) fun z => by cases z⟩)
  | bl b => cases e; exact call_int1 pins s σ H _ us Q I r (.inr ⟨b, rfl, q _ H [] same_refl (.int _) (fun _ h => nomatch h) fun z => by cases z⟩)
  | _ => cases e
theorem hh_len {dx d : D} (h : b0E .len dx = some d) : isHash d = true := by cases dx <;> cases h <;> rfl
theorem hh_abs {dx d : D} (h : b0E .abs dx = some d) : isHash d = true := by cases dx <;> cases h <;> rfl
theorem hh_int {dx d : D} (h : b0E .int dx = some d) : isHash d = true := by cases dx <;> cases h <;> rfl
theorem b1S_some {b : B1} {e : E} {x d : D} (h : b1S b e x = some d) : srcOk b x = true ∧ ∃ xs, itemsE x = some xs ∧ b1E b xs = some d := by
  unfold b1S at h
  split at h
  · rename_i q
    cases z : itemsE x with
    | none => rw [z] at h; cases h
    | some xs => rw [z] at h; exact ⟨q, xs, rfl, h⟩
  · cases h
theorem v_list {e : E} : CallR X (.type "list") (rV1 X (b1S .list e)) := by
  intro pins s σ H xs us Q I r h
  obtain ⟨x, dx, d, S, rfl, rep, h, q⟩ := h
  obtain ⟨so, ys, e1, e2⟩ := b1S_some h
  obtain ⟨e3, e4⟩ := lftIf_some e2
  cases rep with
  | @lst a vs ds T hr rr =>
    cases e1; cases e4
    refine call_list_of pins s σ H _ us Q I r ⟨a, vs, rfl, .inl (.inl hr), fun l hl => ?_⟩
    exact q _ _ (l :: T) (same_upd hl) (.lst (.inl (by rw [upd_same])) (rr.same (same_upd hl))) (fun c hc => (List.mem_cons.mp hc).elim (fun z => .inl (by rw [z]; exact hl)) .inr) fun _ => ⟨l, T, rfl, rfl, hl, fun m => RepL.tracked rr l m hl, .inl ⟨_, by rw [upd_same]⟩⟩
  | @tup a vs ds T hr rr =>
    cases e1; cases e4
    refine call_list_of pins s σ H _ us Q I r ⟨a, vs, rfl, .inr hr, fun l hl => ?_⟩
    exact q _ _ (l :: S) (same_upd hl) (.lst (.inl (by rw [upd_same])) (rr.same (same_upd hl))) (fun c hc => (List.mem_cons.mp hc).elim (fun z => .inl (by rw [z]; exact hl)) .inr) fun _ => ⟨l, S, rfl, rfl, hl, fun m => RepL.tracked rr l m hl, .inl ⟨_, by rw [upd_same]⟩⟩
  | _ => cases so
theorem v_tuple {e : E} : CallR X (.type "tuple") (rV1 X (b1S .tuple e)) := by
  intro pins s σ H xs us Q I r h
  obtain ⟨x, dx, d, S, rfl, rep, h, q⟩ := h
  obtain ⟨so, ys, e1, e2⟩ := b1S_some h
  obtain ⟨e3, e4⟩ := lftIf_some e2
  cases rep with
  | @lst a vs ds T hr rr =>
    cases e1; cases e4
    refine call_tuple_of pins s σ H _ us Q I r ⟨a, vs, rfl, .inl ⟨.inl hr, fun l hl => ?_⟩⟩
    exact q _ _ T (same_upd hl) (.tup (.inl (.inl (by rw [upd_same]))) (rr.same (same_upd hl))) (fun c hc => .inr hc) fun z => by cases z
  | @tup a vs ds T hr rr =>
    cases e1; cases e4
    exact call_tuple_of pins s σ H _ us Q I r ⟨a, vs, rfl,   .inr ⟨hr, q _ H S same_refl (.tup hr rr) (fun c hc => .inr hc) fun z => by cases z⟩⟩
  | _ => cases so
theorem bools_of {H : Hp} : ∀ {vs : List V} {ds : List D} {S : List Addr} {bs : List Bool}, RepLX X H vs ds S → asBools ds = some bs → vs = bs.map V.bl
  | _, _, _, _, .nil, h => by cases h; rfl
  | _, _, _, bs, .cons (d := d) (ds := ds) r rs, h => by
    cases r with
    | bl b =>
      have h : (asBools ds >>= fun r => some (b :: r)) = some bs := h
      cases q : asBools ds with
      | none => rw [q] at h; cases h
      | some cs =>
        rw [q] at h
        cases h
        rw [bools_of rs q]; rfl
    | _ => cases h
theorem nums_of {H : Hp} : ∀ {vs : List V} {ds : List D} {S : List Addr} {bs : List Int}, RepLX X H vs ds S → asInts ds = some bs → vs = bs.map V.int
  | _, _, _, _, .nil, h => by cases h; rfl
  | _, _, _, bs, .cons (d := d) (ds := ds) r rs, h => by
    cases r with
    | int b =>
      have h : (asInts ds >>= fun r => some (b :: r)) = some bs := h
      cases q : asInts ds with
      | none => rw [q] at h; cases h
      | some cs =>
        rw [q] at h
        cases h
        rw [nums_of rs q]; rfl
    | _ => cases h
theorem bind_some {α β : Type} {o : Option α} {f : α → Option β} {b : β} (h : (o >>= f) = some b) : ∃ a, o = some a ∧ f a = some b := by
  cases o with
  | none => cases h
  | some a => exact ⟨a, rfl, h⟩
theorem v_all {e : E} (hc : X.calm = true) : CallR X (.builtin "all") (rV1 X (b1S .all e)) := by
  intro pins s σ H xs us Q I r h
  obtain ⟨x, dx, d, S, rfl, rep, h, q⟩ := h
  obtain ⟨so, ys, e1, e2⟩ := b1S_some h
  cases rep with
  | @lst a vs ds T hr rr =>
    cases e1
    obtain ⟨bs, e3, e4⟩ := bind_some (show (asBools ys >>= fun bs => some (.bool (bs.all id))) = some d from e2)
    cases e4
    have ev := bools_of rr e3
    subst ev
    exact cr_all hc pins s σ H _ us Q I r ⟨a, bs, rfl, .inl hr, q _ H [] same_refl (.bl _) (fun _ h => nomatch h) fun z => by cases z⟩
  | _ => cases so
theorem v_any {e : E} (hc : X.calm = true) : CallR X (.builtin "any") (rV1 X (b1S .any e)) := by
  intro pins s σ H xs us Q I r h
  obtain ⟨x, dx, d, S, rfl, rep, h, q⟩ := h
  obtain ⟨so, ys, e1, e2⟩ := b1S_some h
  cases rep with
  | @lst a vs ds T hr rr =>
    cases e1
    obtain ⟨bs, e3, e4⟩ := bind_some (show (asBools ys >>= fun bs => some (.bool (bs.any id))) = some d from e2)
    cases e4
    have ev := bools_of rr e3
    subst ev
    exact cr_any hc pins s σ H _ us Q I r ⟨a, bs, rfl, .inl hr, q _ H [] same_refl (.bl _) (fun _ h => nomatch h) fun z => by cases z⟩
  | _ => cases so
theorem v_sum {e : E} (hc : X.calm = true) : CallR X (.builtin "sum") (rV1 X (b1S .sum e)) := by
  intro pins s σ H xs us Q I r h
  obtain ⟨x, dx, d, S, rfl, rep, h, q⟩ := h
  obtain ⟨so, ys, e1, e2⟩ := b1S_some h
  cases rep with
  | @lst a vs ds T hr rr =>
    cases e1
    obtain ⟨bs, e3, e4⟩ := bind_some (show (asInts ys >>= fun bs => some (.int bs.sum)) = some d from e2)
    cases e4
    have ev := nums_of rr e3
    subst ev
    exact cr_sum hc pins s σ H _ us Q I r ⟨a, bs, rfl, .inl hr, q _ H [] same_refl (.int _) (fun _ h => nomatch h) fun z => by cases z⟩
  | _ => cases so
end
end MP

/-! MPB2: isinstance. -/
namespace MP
open PySem PySem.Spec L2
open PyProof.Rows hiding St

def tyN : Ty → String
  | .int => "int"
  | .bool => "bool"
  | .str => "str"
  | .tuple => "tuple"
  | .list => "list"
  | .dict => "dict"
def dTy : D → String
  | .none => "NoneType"
  | .bool _ => "bool"
  | .int _ => "int"
  | .str _ => "str"
  | .list _ => "list"
  | .tuple _ => "tuple"
  | .dict _ => "dict"
section
variable {X : Cx} {C : Cxt} {Z : ZT}
theorem kit_rep {pins : List (Addr × Obj)} {s : Shared} {σ : L2.St} {H : Hp} {x : V} {u : Value} {d : D} {S : List Addr} (I : Inv X pins σ H s) (rx : RelV x u) (r : RepX X H x d S) : ∃ P : Heap → Prop, PySem.W.KitX X.K u (.type (dTy d)) P ∧ P s.heap ∧ u ≠ .builtin "__main__.__loader__#opaque" := by
  cases r with
  | non => cases (show u = Value.none from rx); exact ⟨_, PySem.W.kitx_none, True.intro, fun z => nomatch z⟩
  | bl y => cases (show u = Value.bool y from rx); exact ⟨_, PySem.W.kitx_bool, True.intro, fun z => nomatch z⟩
  | int i => obtain ⟨t, q⟩ := (show ∃ t, u = Value.int i t from rx); cases q; exact ⟨_, PySem.W.kitx_int, True.intro, fun z => nomatch z⟩
  | str y _ => obtain ⟨t, q⟩ := (show ∃ t, u = Value.str y t from rx); cases q; exact ⟨_, PySem.W.kitx_str, True.intro, fun z => nomatch z⟩
  | @lst a xs ds T h rr =>
    cases (show u = Value.ref a from rx)
    obtain ⟨_, _, n, _, h1⟩ := (show ObjOk X.prog X.w H s.heap a (.lst xs) from h.ok I.hok)
    exact ⟨_, PySem.W.kitx_list, ⟨_, h1, rfl⟩, fun z => nomatch z⟩
  | @tup a xs ds T h rr =>
    cases (show u = Value.ref a from rx)
    obtain ⟨its, rv, ⟨o, h1, h2, _⟩, _⟩ := I.tuple h
    exact ⟨_, PySem.W.kitx_tuple, ⟨o, h1, h2⟩, fun z => nomatch z⟩
  | @dk a es kvs T h e1 tx n1 q1 =>
    cases (show u = Value.ref a from rx)
    have rep : RepX X H (.ref a) (.dict kvs) (a :: T) := .dk h e1 tx n1 q1
    obtain ⟨hs, l, es', ep, ks, vs, T', eS, ⟨o, h1, h2, _⟩, _⟩ := rep.raw I
    exact ⟨_, PySem.W.kitx_dict, ⟨o, h1, h2.1⟩, fun z => nomatch z⟩
  | @dt a xs vs kvs T h z l rk e1 n1 q1 rv rr =>
    cases (show u = Value.ref a from rx)
    have rep : RepX X H (.ref a) (.dict kvs) (a :: T) := .dt h z l rk e1 n1 q1 rv rr
    obtain ⟨hs, l, es', ep, ks, vs, T', eS, ⟨o, h1, h2, _⟩, _⟩ := rep.raw I
    exact ⟨_, PySem.W.kitx_dict, ⟨o, h1, h2.1⟩, fun z => nomatch z⟩
theorem kit_one {K : PySem.W.Frag} (t : Ty) (d : D) : PySem.W.kitOne K (.type (dTy d)) (.type (tyN t)) = some (isiE t d) := by
  cases t <;> cases d <;> first | rfl | (unfold PySem.W.kitOne; decide +kernel) | (unfold PySem.W.kitOne; rfl)
def rIs (X : Cx) (t : Ty) : List V → Hp → VK → Prop := fun xs H Q => ∃ x dx S, xs = [x, .ty (tyN t)] ∧ RepX X H x dx S ∧ Q (.bl (isiE t dx)) H
theorem v_isi (t : Ty) : CallR X (.builtin "isinstance") (rIs X t) := by
  intro pins s σ H xs us Q I r h
  obtain ⟨x, dx, S, rfl, rep, q⟩ := h
  obtain ⟨u1, u2, rfl, r1, r2⟩ := vals2 r
  cases (show u2 = Value.type (tyN t) from r2)
  obtain ⟨P, Z, p, hx⟩ := kit_rep I r1 rep
  exact PySem.W.kia_one Z I.kIn p (kit_one t dx) hx fun tk => ⟨.bl _, H, I.tok tk, rfl, q⟩
theorem se_isi {x y : Str} {xa : Expr} {e : E} {t : Ty} {p p2 pos : Pos} (hx : x = ("isinstance" : Str)) (hg : Gl X x) (hm : X.mg x = none) (hg2 : Gl X y) (hm2 : X.mg y = none) (hv2 : bootBuiltins y = some (.type (tyN t))) (hn2 : y ≠ "__name__") (hd2 : (y == ("__debug__" : Str)) = false) (he : PE X xa (tE X C Z e))
    (h1 : starEach [xa, .Name y p2] X.env = (false, eval xa X.env) :: starEach [.Name y p2] X.env) (h2 : starEach [.Name y p2] X.env = (false, eval (.Name y p2) X.env) :: starEach [] X.env) (hpl : (backTo pos (starEach [.Name y p2] X.env)).any (·.1) = false) :
    PE X (.Call (.Name x p) [xa, .Name y p2] [] pos) (tE X C Z (.isi e t)) := by
  subst hx
  refine (pe_callB (v_isi t) hg hm PyProof.Rows.boot_isinstance (pa_cons he (pa_cons (pe_bltn hg2 hm2 hv2 (show L2.RelV (V.ty (tyN t)) (Value.type (tyN t)) from rfl) hn2 hd2) pa_nil h2) h1) (by decide) (by decide) h1 hpl).weak fun σ H Q h => ?_
  obtain ⟨H0, A0, At, n, ρ, fp, rl, h⟩ := h
  rw [evE, out_bind] at h
  refine ⟨H0, A0, At, n, ρ, fp, rl, h.imp (fun dx n1 q v H1 S p => ?_) fun _ _ z => z⟩
  rw [out_pure] at q
  exact ⟨v, dx, S, rfl, p.rep, q _ H1 [] (.flat (.bl _) p.pres p.cell fun z => by cases z)⟩

/-! ### times -/
def rRep' : R2 := fun x y H Q => ∃ l k xs, x = .ref l ∧ y = .int k ∧ Rd H l (.lst xs) ∧ -(2 ^ 63) ≤ k ∧ k < 2 ^ 63 ∧ xs.length * k.toNat ≤ sizeLine ∧
  ∀ p, H p = none → Q (.ref p) (upd H p (.lst (List.replicate k.toNat xs).flatten))
theorem op_rep' : OpR X (binaryOp .Mult) rRep' := by
  intro pins s σ H x y v u Q I rx ry h
  obtain ⟨l, k, xs, rfl, rfl, hH, h1, h2, hz, q⟩ := h
  cases rx
  obtain ⟨t, rfl⟩ := ry
  obtain ⟨z, its, n, r, e⟩ := hH.ok I.hok
  have hl := r.length
  have hlen : its.toArray.size * k.toNat ≤ sizeLine := by rw [List.size_toArray, ← hl]; exact hz
  have hcap : ¬ its.toArray.size * k.toNat > (2 ^ 63 - 1) / 8 := by
    have : (sizeLine : Nat) ≤ (2 ^ 63 - 1) / 8 := by decide
    omega
  have hfit : ¬ (!Builtin.List.listFitsIndex k) = true := by
    rw [fitsIndex_both h1 h2]
    exact Bool.false_ne_true
  have hlong : ¬ Builtin.List.listTooLong (its.toArray.size * k.toNat) = true := by
    rw [notLongL hlen]
    exact Bool.false_ne_true
  have hnew : List.foldl (fun x1 x2 => x1 ++ x2) #[] (List.replicate (if its.toArray.isEmpty = true then 0 else k.toNat) its.toArray) = (List.replicate k.toNat its).flatten.toArray := by
    have f0 : ∀ m : Nat, List.foldl (fun x1 x2 => x1 ++ x2) #[] (List.replicate m its.toArray) = (List.replicate m its).flatten.toArray := fun m => by
      have := foldl_rep its m []
      rw [List.nil_append] at this
      exact this
    rw [f0]
    cases its with
    | nil => simp
    | cons a r' => rw [if_neg (by simp)]
  refine wpAny_binaryOp_repeat_ref (T := "list") (U := "int") (by decide) ⟨_, e, rfl⟩ (fun s' => typeIs_int s' k t) noFill_list_mul PySem.F.fills_int_mul PySem.F.slot_int_rmul repeat_list PySem.F.slot_int_index.lookup
    (call_meets PySem.F.slot_int_rmul (typeIs_int s k t) PySem.F.entry_int_rmul (PySem.F.args_int_rmul_2 _ _) (int___rmul___int_list k t l its.toArray n)
      ⟨e, rfl, ⟨_, e, rfl⟩, call_meets PySem.F.slot_list_mul ⟨_, e, rfl⟩ PySem.F.entry_list_mul (PySem.F.args_list_mul_2 _ _) (AutoListH.list___mul___list_int_3 l its.toArray n k t hfit hcap hlong) ⟨e, ?_⟩⟩)
  rw [hnew]
  exact ⟨.ref _, _, I.lnew (t' := s.toks) (r.rep k.toNat) (by rw [PyProof.Rows.lm_len_rep_flat, Nat.mul_comm]; exact hz), rfl, q _ I.fresh⟩
theorem v_mul : VOp X (binaryOp .Mult) (opE .mul) := by
  intro pins s σ H x y v u dx dy d S T Q I rx ry r1 r2 hg q
  cases r1 with
  | int i =>
    cases r2 with
    | int j => exact v_mul_int op_mul I rx ry hg fun z H' U sm r sub => q z H' U sm r fun a ha => sub a ha
    | _ => cases hg
  | @lst a vs ds T1 h rr =>
    cases r2 with
    | int j =>
      obtain ⟨g1, g2⟩ := lftIf_some hg
      rw [Bool.and_eq_true, decide_eq_true_eq] at g1
      subst g2
      have fl := fits_le g1.2
      refine op_rep' pins s σ H _ _ v u Q I rx ry ⟨a, j, vs, rfl, rfl, h, by omega, by omega, by rw [rr.length]; exact fl, fun p hp => ?_⟩
      obtain ⟨U, r3, sub⟩ := rr.replicate j.toNat
      refine q _ _ (p :: U) (same_upd hp) (.lst (.inl (by rw [upd_same])) (r3.same (same_upd hp))) fun c hc => ?_
      rcases List.mem_cons.mp hc with e | m
      · exact .inl (by rw [e]; exact hp)
      · exact .inr (.inl (sub c m))
    | _ => cases hg
  | @tup a vs ds T1 h rr =>
    cases r2 with
    | int j =>
      obtain ⟨g1, g2⟩ := lftIf_some hg
      rw [Bool.and_eq_true, decide_eq_true_eq, decide_eq_true_eq] at g1
      subst g2
      obtain ⟨U, r3, sub⟩ := rr.replicate j.toNat
      refine op_repT' pins s σ H _ _ v u Q I rx ry ⟨a, j, vs, rfl, rfl, h, g1.1.1, g1.1.2, by rw [rr.length]; exact g1.2, fun z => ?_, fun p hp => ?_⟩
      · have e : MP.rep ds j = ds := by
          rcases z with z | z
          · subst z
            cases rr
            exact rep_nil j
          · subst z
            exact rep_1 ds
        rw [e] at q
        exact q _ H _ (Same.refl _) (.tup h rr) fun c hc => .inr (.inl hc)
      · exact q _ _ U (same_upd hp) (.tup (.inl (.inl (by rw [upd_same]; rfl))) (r3.same (same_upd hp))) fun c hc => .inr (.inl (sub c hc))
    | _ => cases hg
  | str z hz =>
    cases r2 with
    | int j =>
      obtain ⟨g1, g2⟩ := lftIf_some hg
      rw [Bool.and_eq_true, decide_eq_true_eq, decide_eq_true_eq] at g1
      subst g2
      exact op_repS pins s σ H _ _ v u Q I rx ry ⟨z, j, rfl, rfl, g1.1.1, g1.1.2, g1.2, q _ H [] (Same.refl _) (.str _ (txt_rep hz g1.1.2 g1.2)) fun _ h => nomatch h⟩
    | _ => cases hg
  | _ => cases dy <;> cases hg
end
end MP

/-! MPFn: a def by its body. -/
namespace MP
open PySem PySem.Spec L2
open PyProof.Rows hiding St

section
variable {X : Cx} {C : Cxt}
theorem start_get {N : List Str} {vs : List V} {i : Nat} {v : V} (h : vs[i]? = some v) : (L2.start N vs)[i]? = some (some v) := by
  unfold L2.start
  have hi := lt_of_get h
  rw [List.getElem?_append_left (by rw [List.length_map]; exact hi), List.getElem?_map, h]; rfl
theorem args_fp {At : Option Addr} {H : Hp} {vs : List V} {ss : List Slot} {S : List Addr} (r : ArgL X.prog X.w X.K At H vs ss S) : ∃ fp : Nat → List Addr, ∀ (i : Nat) s, ss[i]? = some s → ∃ v, vs[i]? = some v ∧ (∀ a ∈ fp i, a ∈ S) ∧
    ((∃ d, s = Slot.p d ∧ RepX X H v d (fp i)) ∨ (s = Slot.cell ∧ fp i = [] ∧ ∃ a, At = some a ∧ v = .ref a)) := by
  have ch : ∀ i : Nat, ∃ F : List Addr, ∀ s, ss[i]? = some s → ∃ v, vs[i]? = some v ∧ (∀ a ∈ F, a ∈ S) ∧ ((∃ d, s = Slot.p d ∧ RepX X H v d F) ∨ (s = Slot.cell ∧ F = [] ∧ ∃ a, At = some a ∧ v = .ref a)) := fun i => by
    cases q : ss[i]? with
    | none => exact ⟨[], fun s e => by cases e⟩
    | some s =>
      obtain ⟨v, T, e, sub, o⟩ := r.get q
      exact ⟨T, fun s' e' => by cases e'; exact ⟨v, e, sub, o⟩⟩
  exact ⟨fun i => (ch i).choose, fun i => (ch i).choose_spec⟩
theorem def_start {At : Option Addr} {n : Option Int} {H : Hp} {vs : List V} {ss : List Slot} {S : List Addr} {N : List Str} {m : Nat} (r : ArgL X.prog X.w X.K At H vs ss S) (c : CellOk At n H) (av : ∀ a ∈ S, At ≠ some a) (hN : N.length = ss.length + m) :
    ∃ fp, Sl X H (fun a => a ∈ S) At n (ss.map some ++ List.replicate m none) fp (L2.start N vs) H := by
  obtain ⟨fp, hf⟩ := args_fp r
  have get : ∀ i s, getS (ss.map some ++ List.replicate m none) i = some s → ss[i]? = some s := fun i s e => by
    unfold getS at e
    by_cases hi : i < ss.length
    · rw [List.getElem?_append_left (by rw [List.length_map]; exact hi), List.getElem?_map] at e
      cases q : ss[i]? with
      | none => rw [q] at e; cases e
      | some s' => rw [q] at e; exact e
    · rw [List.getElem?_append_right (by rw [List.length_map]; exact Nat.le_of_not_lt hi), List.getElem?_replicate] at e
      split at e <;> cases e
  refine ⟨fp, ⟨.refl, ?_, fun i s e => ?_, c, fun i s e a ha => ?_, fun i j si sj _ ei ej => ?_, fun i s e a ha => ?_⟩, fun i s e => ?_⟩
  · unfold L2.start
    rw [List.length_append, List.length_append, List.length_map, List.length_map, List.length_replicate, List.length_replicate, r.length, hN]
    omega
  · obtain ⟨v, e1, sub, o⟩ := hf i s (get i s e)
    refine ⟨v, start_get e1, ?_⟩
    rcases o with ⟨d, rfl, rr⟩ | ⟨rfl, e2, a, ea, ev⟩
    · exact rr
    · exact ⟨e2, a, ea, ev⟩
  · obtain ⟨v, e1, sub, o⟩ := hf i s (get i s e)
    exact av a (sub a ha)
  · obtain ⟨v, e1, sub, o⟩ := hf i si (get i si ei)
    rcases o with ⟨d, rfl, rr⟩ | ⟨rfl, _⟩ <;> trivial
  · obtain ⟨v, e1, sub, o⟩ := hf i s (get i s e)
    exact .inr (sub a ha)
  · obtain ⟨v, e1, sub, o⟩ := hf i s (get i s e)
    rcases o with ⟨d, rfl, rr⟩ | ⟨rfl, _⟩ <;> trivial
/-- what a def promises, its body gives -/
theorem def_body {d : Def} {N : List Str} {vs : List V} {H : Hp} {Q : VK} {E : XK} (hN : N.length = d.slots) (hs : d.np ≤ d.slots) (h : spF X.prog X.w X.K X.mg d.np (runDef C d) vs H Q E) (hE : ∀ cls d H', E cls d H' → WXX X cls d H') :
    tSs X C d.body { nx := fun _ H' => Q .non H', rt := Q } (L2.start N vs) H := by
  obtain ⟨ss, S, At, n, hl, r, c, av, h⟩ := h
  have hst : d.start ss = some (ss.map some ++ List.replicate (d.slots - d.np) none) := by
    unfold Def.start
    rw [if_pos ⟨by omega, by omega⟩, hl]
    have : d.np + d.dflts.length - d.np = d.dflts.length := by omega
    rw [this, List.drop_length, List.map_nil, List.append_nil]
  obtain ⟨fp, sl⟩ := def_start (N := N) (m := d.slots - d.np) r c av (by omega)
  have hb : Out (bodyDef C d ss n) (fun x n' => n'.isSome = n.isSome ∧ ∀ v H' T, RepX X H' v x T → Pres At H H' → CellOk At n' H' → (∀ a ∈ T, H a = none ∨ a ∈ S) → Q v H') (fun e n' => n'.isSome = n.isSome ∧ ∀ cls dd H', ExX X H' e cls dd → Pres At H H' → CellOk At n' H' → E cls dd H') := by
    unfold runDef at h
    cases q : bodyDef C d ss n with
    | ok x n' =>
      rw [q] at h
      by_cases z : (n'.isSome == n.isSome) = true
      · have h := (show Out (if (n'.isSome == n.isSome) = true then Rs.ok x n' else Rs.bad) _ _ from h)
        rw [if_pos z] at h
        exact ⟨by simpa using z, h⟩
      · have h := (show Out (if (n'.isSome == n.isSome) = true then Rs.ok x n' else Rs.bad) _ _ from h)
        rw [if_neg z] at h
        exact h.elim
    | exc e n' =>
      rw [q] at h
      by_cases z : (n'.isSome == n.isSome) = true
      · have h := (show Out (if (n'.isSome == n.isSome) = true then (Rs.exc e n' : Rs MP.D) else Rs.bad) _ _ from h)
        rw [if_pos z] at h
        exact ⟨by simpa using z, h⟩
      · have h := (show Out (if (n'.isSome == n.isSome) = true then (Rs.exc e n' : Rs MP.D) else Rs.bad) _ _ from h)
        rw [if_neg z] at h
        exact h.elim
    | bad => rw [q] at h; exact h
  unfold bodyDef at hb
  rw [out_bind, out_lft] at hb
  obtain ⟨ρ, e1, hb⟩ := hb
  rw [hst] at e1
  cases e1
  rw [out_bind] at hb
  have at_eq : ∀ {At' : Option Addr} {n' : Option Int} {H' : Hp}, n'.isSome = n.isSome → CellOk At' n' H' → AtOk H At At' → At' = At := fun {At' n' H'} hn c' k => by
    cases At with
    | some a => exact k.1 (by simp)
    | none =>
      cases n with
      | some _ => exact c.elim
      | none =>
        cases n' with
        | some _ => cases hn
        | none =>
          cases At' with
          | none => rfl
          | some a => exact c'.elim
  refine ⟨H, fun a => a ∈ S, At, n, _, fp, sl, hb.imp (fun r n' q => ?_) fun e k z A cls dd H' ka ex p c' => ?_⟩
  rotate_left
  · have e := at_eq z.1 c' ka
    subst e
    exact hE cls dd H' (z.2 cls dd H' ex p c')
  obtain ⟨ρ', f⟩ := r
  cases f with
  | next =>
    have q : Out ((pure .none : M MP.D) n') _ _ := q
    rw [out_pure] at q
    intro At' fp' σ' H' s' k
    have e := at_eq q.1 s'.rl.cell k
    subst e
    exact q.2 .non H' [] .non s'.rl.pres s'.rl.cell fun _ h => nomatch h
  | ret x =>
    have q : Out ((pure x : M MP.D) n') _ _ := q
    rw [out_pure] at q
    intro At' v T H' rr p c' k sub nT
    have e := at_eq q.1 c' k
    subst e
    exact q.2 v H' T rr p c' sub
  | brk => exact q.elim
  | cont => exact q.elim
/-- the law itself: it may make the counter -/
theorem top_body {d : Def} {N : List Str} {vs : List V} {ss : List Slot} {S : List Addr} {H : Hp} {Q : VK} (hN : N.length = d.slots) (hs : d.np ≤ d.slots) (hl : ss.length = d.np) (r : ArgL X.prog X.w X.K none H vs ss S)
    (h : Out (bodyDef C d ss none) (fun x _ => ∀ v H' T, RepX X H' v x T → Q v H') NoX) : tSs X C d.body { nx := fun _ H' => Q .non H', rt := Q } (L2.start N vs) H := by
  have hst : d.start ss = some (ss.map some ++ List.replicate (d.slots - d.np) none) := by
    unfold Def.start
    rw [if_pos ⟨by omega, by omega⟩, hl]
    have : d.np + d.dflts.length - d.np = d.dflts.length := by omega
    rw [this, List.drop_length, List.map_nil, List.append_nil]
  obtain ⟨fp, sl⟩ := def_start (N := N) (m := d.slots - d.np) (n := none) r trivial (fun _ _ => by simp) (by omega)
  unfold bodyDef at h
  rw [out_bind, out_lft] at h
  obtain ⟨ρ, e1, h⟩ := h
  rw [hst] at e1
  cases e1
  rw [out_bind] at h
  refine ⟨H, fun a => a ∈ S, none, none, _, fp, sl, h.imp (fun r n' q => ?_) fun _ _ z => z.elim⟩
  obtain ⟨ρ', f⟩ := r
  cases f with
  | next =>
    have q : Out ((pure .none : M MP.D) n') _ _ := q
    rw [out_pure] at q
    intro At' fp' σ' H' s' k
    exact q .non H' [] .non
  | ret x =>
    have q : Out ((pure x : M MP.D) n') _ _ := q
    rw [out_pure] at q
    intro At' v T H' rr p c' k sub nT
    exact q v H' T rr
  | brk => exact q.elim
  | cont => exact q.elim
end
end MP
namespace MP
open PySem PySem.Spec L2
open PyProof.Rows hiding St
theorem room_u {k : Nat} {A : Around} (r : RoomG k A) : A.units + 200 < cLine := by have := r.r.un; omega
/-- a def of the text: its promise at every fuel -/
theorem fn_ok {P : Program} {w : World} {K : PySem.W.Frag} {mg : Str → Option Value} {base : Heap} {x qual : Str} {params : Arguments} {body : List Stmt} {scope : Scope} {dvs : List V} {kws : List (Str × V)} {f : Addr} {fd : FuncData} {N ps : List Str} {k i : Nat} {defs : List Def} {flds : List XRow} {wf : Nat} {d : Def}
    (F : FunD K x qual params body scope dvs kws f fd) (S : FnScope N ps scope) (hd : defs[i]? = some d) (hN : N.length = d.slots) (hs : d.np ≤ d.slots) (hp : ps.length = d.np)
    (hb : ∀ m cdv A outer s H E, RoomG k (A.deeper (envOfC qual scope s.heap.objs.size f cdv)) → PSs (cxOf (CX P w) P w K mg base N qual scope f cdv A outer s H E) body (tSs (cxOf (CX P w) P w K mg base N qual scope f cdv A outer s H E) ⟨callN defs flds wf m, wf, flds⟩ d.body)) :
    ∀ m, FnG P w K mg base (k + 1) f fd ps (spF P w K mg d.np (callN defs flds wf m i)) := by
  intro m
  refine F.okG S (fun vs H Q E h => ?_) fun cdv A outer s H vs Q E hr h => ?_
  · obtain ⟨ss, T, At, n, hl, r, _⟩ := h
    rw [r.length, hl, hp]
  · cases m with
    | zero =>
      obtain ⟨ss, T, At, n, hl, r, c, av, h⟩ := h
      exact h.elim
    | succ m =>
      have e : callN defs flds wf (m + 1) i = runDef ⟨callN defs flds wf m, wf, flds⟩ d := by
        funext ss
        show (match defs[i]? with | some d => runDef ⟨callN defs flds wf m, wf, flds⟩ d ss | none => fail) = _
        rw [hd]
      rw [e] at h
      exact ⟨tSs (cxOf (CX P w) P w K mg base N qual scope f cdv A outer s H E) ⟨callN defs flds wf m, wf, flds⟩ d.body, hb m cdv A outer s H E hr, def_body (X := cxOf (CX P w) P w K mg base N qual scope f cdv A outer s H E) hN hs h fun cls d H' q => WXX.of (takes_of (X := cxOf (CX P w) P w K mg base N qual scope f cdv A outer s H E) (E := E) rfl rfl rfl rfl) fun _ _ => q⟩
theorem hp_of {P : Program} {w : World} {K : PySem.W.Frag} {mg : Str → Option Value} {base : Heap} {N : List Str} {qual : Str} {scope : Scope} {f : Addr} {cdv : Value} {A : Around} {outer : List Env} {s : Shared} {H : Hp} {E : XK} :
    PassesOwn (model P w) (cxOf (CX P w) P w K mg base N qual scope f cdv A outer s H E).A (cxOf (CX P w) P w K mg base N qual scope f cdv A outer s H E).env (cxOf (CX P w) P w K mg base N qual scope f cdv A outer s H E).xe := passes_of (X := cxOf (CX P w) P w K mg base N qual scope f cdv A outer s H E) rfl
end MP

/-! MPTop: the law itself is called: no guard stands around. -/
namespace MP
open PySem PySem.Spec L2
open PyProof.Rows hiding St

/-- the state at the law's call, seen from an abstract heap that tracks nothing but the script -/
theorem env_top {P : Program} {w : World} {K : PySem.W.Frag} {mg mb : Str → Option Value} {a : Addr} {t : Shared} {vs : List Value} {H : Hp} (kin : K.In t.heap) (glob : t.heap.Ns mainGlobals mg) (blt : t.heap.Ns builtinsNs mb) (same : ∀ x : Str, x ≠ "__name__" → mb x = bootBuiltins x)
    (unlim : t.heap.NoLimit) (gens : t.gens = #[]) (ha : t.heap.get? a = some { cls := .type "list", data := .seq vs.toArray }) (hok : HOk P w H t.heap) (only : ∀ b, H b ≠ none → b = a) (own : H a ≠ none → K.lookup a = none) :
    K.In (hidT t.heap H) ∧ (hidT t.heap H).Ns mainGlobals mg ∧ Env0 P w K mg (hidT t.heap H) callerA [] t H := by
  have none_of : ∀ {b : Addr} {o : Obj}, t.heap.get? b = some o → (b = a → False) ∨ H b = none → H b = none := fun {b o} e h => by
    rcases h with h | h
    · exact Classical.byContradiction fun z => h (only b z)
    · exact h
  have stays : ∀ {b : Addr} {m : Str → Option Value}, t.heap.Ns b m → (hidT t.heap H).Ns b m := by
    rintro b m ⟨o, es, ep, e, d, r⟩
    refine ⟨o, es, ep, hidT_get e (none_of e (.inl fun z => ?_)), d, r⟩
    rw [z, ha] at e
    cases e
    cases d
  have kin2 : K.In (hidT t.heap H) := by
    intro b o e
    refine hidT_get (kin b o e) (Classical.byContradiction fun z => ?_)
    have eb := only b z
    rw [eb, own (eb ▸ z)] at e
    cases e
  obtain ⟨ml, l1, l2⟩ := unlim
  refine ⟨kin2, stays glob, ⟨rfl, ⟨kin2, stays glob, ⟨mb, stays blt, same⟩, ⟨ml, stays l1, l2⟩⟩, fun b o e => of_hidT e, Nat.le_of_eq (hidT_size _ _), trivial, ?_, hok, .of_eq gens⟩⟩
  intro b hb
  cases hb
/-- K without the object at a -/
def cutK (K : PySem.W.Frag) (a : Addr) : PySem.W.Frag := K.filter fun p => !(a == p.1)
theorem cutK_look {K : PySem.W.Frag} {a : Addr} : ∀ b, (cutK K a).lookup b = if b = a then none else K.lookup b := by
  intro b
  unfold cutK
  induction K with
  | nil => by_cases h : b = a <;> simp [h]
  | cons p K ih =>
    obtain ⟨c, o⟩ := p
    by_cases hc : a = c
    · subst hc
      rw [List.filter_cons_of_neg (by simp), ih]
      by_cases h : b = a
      · rw [if_pos h, if_pos h]
      · rw [if_neg h, if_neg h, List.lookup_cons, show (b == a) = false from beq_eq_false_iff_ne.mpr h]
    · rw [List.filter_cons_of_pos (by simp [hc]), List.lookup_cons, List.lookup_cons]
      by_cases h2 : b = c
      · subst h2
        rw [if_neg (Ne.symm hc)]
        simp
      · rw [show (b == c) = false from beq_eq_false_iff_ne.mpr h2]
        exact ih
theorem cutK_in {K : PySem.W.Frag} {a : Addr} {h : Heap} (X : K.In h) : (cutK K a).In h := fun b o e => by
  rw [cutK_look] at e
  by_cases h : b = a
  · rw [if_pos h] at e; cases e
  · rw [if_neg h] at e; exact X b o e
theorem funD_cut {K : PySem.W.Frag} {x qual : Str} {params : Arguments} {body : List Stmt} {scope : Scope} {dvs : List V} {f a : Addr} {fd : FuncData} {vs : List Value} {ns : List Int} (F : FunD K x qual params body scope dvs [] f fd)
    (hl : ∀ o, K.lookup a = some o → o = { cls := .type "list", data := .seq vs.toArray }) (are : IntsAre vs ns) (nd : dvs = [] ∨ ∃ z, dvs.head? = some (.str z)) : FunD (cutK K a) x qual params body scope dvs [] f fd := by
  obtain ⟨oc, od, dV, kV, doc, pm, an, cdv, ct, osl, e, lk, cd, dv, kw⟩ := F.ex
  have fa : f ≠ a := fun z => by
    have q := hl _ (z ▸ lk)
    cases q
  have lk2 : (cutK K a).lookup f = K.lookup f := by rw [cutK_look, if_neg fa]
  refine ⟨⟨oc, od, dV, kV, doc, pm, an, cdv, ct, osl, e, by rw [lk2]; exact lk, ?_, ?_, .inl rfl⟩, ?_⟩
  · unfold PySem.W.codeIn at cd ⊢
    split at cd
    · rename_i c
      have ca : c ≠ a := fun z => by
        subst z
        split at cd
        · rename_i o q
          cases hl _ q
        · cases cd
      show (match (cutK K a).lookup c with | some ⟨_, _, .fields vs, _⟩ => (match vs.toList with | _ :: .str n _ :: _ => n == qual | _ => false) | _ => false) = true
      rw [cutK_look, if_neg ca]
      exact cd
    · cases cd
  · rcases dv with ⟨e1, e2⟩ | ⟨e1, T, o, its, n, e2, e3, e4, e5⟩
    · exact .inl ⟨e1, e2⟩
    · refine .inr ⟨e1, T, o, its, n, e2, ?_, e4, e5⟩
      have Ta : T ≠ a := fun z => by
        subst z
        have q := hl _ e3
        subst q
        have q : Data.seq vs.toArray = Data.seq its.toArray n := e4
        have ev : vs = its := by
          injection q with q1 _
          have := congrArg Array.toList q1
          simpa using this
        subst ev
        rcases nd with z | ⟨z, hz⟩
        · exact e1 z
        · cases e5 with
          | nil => cases hz
          | @cons v _ u _ r _ =>
            have hz : v = .str z := Option.some.inj hz
            subst hz
            cases are with
            | @cons _ j _ h1 _ =>
              obtain ⟨t1, e9⟩ := r
              cases e9
      rw [cutK_look, if_neg Ta]
      exact e3
  · have kp := F.kp
    unfold PySem.W.keepIn at kp ⊢
    show (match (cutK K a).lookup f with | some ⟨_, _, .func _, _⟩ => true | some ⟨_, _, .cls _, _⟩ => PySem.W.specialIn (cutK K a) (.ref f) "__call__" == some (some (.builtin "type.__call__")) | _ => false) = true
    rw [lk2, lk]
theorem law_callG {P : Program} {w : World} {K : PySem.W.Frag} {mg mb : Str → Option Value} {k : Nat} {fa a : Addr} {fd : FuncData} {x : Str} {sp : Sp} {t : Shared} {vs : List Value} {ns : List Int} (kin : K.In t.heap) (inK : K.lookup a = none) (glob : t.heap.Ns mainGlobals mg) (blt : t.heap.Ns builtinsNs mb) (same : ∀ x : Str, x ≠ "__name__" → mb x = bootBuiltins x)
    (unlim : t.heap.NoLimit) (gens : t.gens = #[]) (ha : t.heap.get? a = some { cls := .type "list", data := .seq vs.toArray }) (are : IntsAre vs ns) (short : ns.length ≤ sizeLine) (room : Room k callerA)
    (F : ∀ base : Heap, K.In base → base.Ns mainGlobals mg → FnG P w K mg base k fa fd [x] sp) (bind : ∀ (s : Shared) (u : Value), BindsTo s fd ⟨[u], []⟩ [(x, u)])
    (want : ∀ H : Hp, Only H → Rd H a (.lst (ns.map V.int)) → sp [.ref a] H (fun v _ => v = .bl true) fun _ _ _ => False) :
    codeAny (model P w) callerA (.call (.ref fa) ⟨[.ref a], []⟩) (fun r s' => r = .ok (.ret (.bool true)) ∧ OldK t.heap s'.heap ∧ s'.os = t.os ∧ AllBare s'.gens) t := by
  have run : ∀ H : Hp, Only H → Rd H a (.lst (ns.map V.int)) → HOk P w H t.heap → (∀ b, H b ≠ none → b = a) → (H a ≠ none → K.lookup a = none) →
      codeAny (model P w) callerA (.call (.ref fa) ⟨[.ref a], []⟩) (fun r s' => r = .ok (.ret (.bool true)) ∧ OldK t.heap s'.heap ∧ s'.os = t.os ∧ AllBare s'.gens) t := by
    intro H onl sq hok only own
    obtain ⟨k2, g2, en⟩ := env_top kin glob blt same unlim gens ha hok only own
    refine codeAny_mono ((F _ k2 g2).runs callerA [] t H ⟨[.ref a], []⟩ [.ref a] [.ref a] _ _ ⟨room, rfl⟩ en (bind t (.ref a)) (.cons rfl .nil) (want H onl sq)) fun r s' out => ?_
    match r, out with
    | .error e, out =>
      obtain ⟨_, _, _, _, _, _, _, _, z⟩ := out
      exact False.elim (by simpa using z)
    | .ok .next, out => exact out.elim
    | .ok .brk, out => exact out.elim
    | .ok .cont, out => exact out.elim
    | .ok (.ret u), out =>
      obtain ⟨v, H', os, bare, un, hok', rel, q⟩ := out
      have ev : v = .bl true := q
      rw [ev] at rel
      have eu : u = Value.bool true := rel
      refine ⟨by rw [eu], OldK.of_keep fun b o e => ?_, os, bare⟩
      rcases onl b with z | ⟨ob, xs, z⟩
      · exact un.keep b o e z (by intro m; cases m) (by intro m; cases m)
      · have eo : o = ob := by
          have := (hok b _ z).1
          rw [e] at this
          exact Option.some.inj this
        rw [eo]
        exact (hok' b _ (un.frzs b ob _ z)).1
  have at_a : ∀ b, b = a → (fun b => if b = a then some (HO.frz { cls := .type "list", data := .seq vs.toArray } (.lst (ns.map V.int))) else none : Hp) b = some (.frz { cls := .type "list", data := .seq vs.toArray } (.lst (ns.map V.int))) := fun b e => if_pos e
  have off_a : ∀ b, ¬ b = a → (fun b => if b = a then some (HO.frz { cls := .type "list", data := .seq vs.toArray } (.lst (ns.map V.int))) else none : Hp) b = none := fun b e => if_neg e
  refine run _ (fun b => ?_) (.inr ⟨_, at_a a rfl⟩) (fun b u z => ?_) (fun b z => Classical.byContradiction fun h => z (off_a b h)) fun _ => inK
  · by_cases h : b = a
    · exact .inr ⟨_, _, at_a b h⟩
    · exact .inl (off_a b h)
  · by_cases h : b = a
    · obtain rfl := Option.some.inj ((at_a b h).symm.trans z)
      rw [h]
      exact ⟨ha, by rw [List.length_map]; exact short, vs, _, vals_ints are, ha⟩
    · cases (off_a b h).symm.trans z
/-- a law: F gives the written part, the function object, the promise over every base -/
theorem walk_G {l : PySem.W.OpenLaw} {n k : Nat} {q : Program} {loose : List Str} {XP : (Str → Option Value) → Heap → Prop} {YP : World → Heap → Prop} {d : DefRec} {x : Str} (hn : l.most = some n) (hn2 : n ≤ sizeLine) (hdf : d.params.defaults = []) (room : Room k callerA)
    (F : ∀ (w : World) (mg : Str → Option Value) (fa a : Addr) (h : Heap) (vs : List Value) (ns : List Int), YP w h → h.Ns mainGlobals mg → mg d.name = some (.ref fa) → h.get? a = some { cls := .type "list", data := .seq vs.toArray } → IntsAre vs ns → ns.length ≤ n →
      ∃ (K : PySem.W.Frag) (fd : FuncData) (sp : Sp), K.lookup a = none ∧ K.In h ∧ (∀ (s : Shared) (u : Value), BindsTo s fd ⟨[u], []⟩ [(x, u)]) ∧
        (∀ H : Hp, Only H → Rd H a (.lst (ns.map V.int)) → sp [.ref a] H (fun v _ => v = .bl true) fun _ _ _ => False) ∧ ∀ base : Heap, K.In base → base.Ns mainGlobals mg → FnG l.prog w K mg base k fa fd [x] sp) :
    PySem.W.WalkO q loose XP YP l.row.toRowW d [] (fun f vs => PySem.call f vs) := by
  refine Att.attach_call hn hdf fun w s₀ t mg mb fa o pm cd doc a vs ns G Y ho hd hcd hmg hobj hints hlen hg => ?_
  obtain ⟨K, fd, sp, nk, kin, bind, want, prom⟩ := F w mg fa a _ vs ns Y G.T.g hmg hobj hints hlen
  exact law_callG kin nk G.T.g G.T.b G.T.builtins G.T.nolimit hg hobj hints (Nat.le_trans hlen hn2) room prom bind want
/-- what the law itself promises -/
def spTop (P : Program) (w : World) (K : PySem.W.Frag) (C : Cxt) (d : MP.Def) : Sp := fun vs H Q _ => ∃ (ss : List Slot) (S : List Addr), ss.length = d.np ∧ ArgL P w K none H vs ss S ∧ Out (bodyDef C d ss none) (fun x _ => ∀ v H' T, Rep P w K H' v x T → Q v H') NoX
theorem top_fn {P : Program} {w : World} {K : PySem.W.Frag} {mg : Str → Option Value} {base : Heap} {x qual : Str} {params : Arguments} {body : List Stmt} {scope : Scope} {dvs : List V} {kws : List (Str × V)} {f : Addr} {fd : FuncData} {N ps : List Str} {k : Nat} {C : Cxt} {d : MP.Def}
    (F : FunD K x qual params body scope dvs kws f fd) (S : FnScope N ps scope) (hN : N.length = d.slots) (hs : d.np ≤ d.slots) (hp : ps.length = d.np)
    (hb : ∀ cdv A outer s H E, RoomG k (A.deeper (envOfC qual scope s.heap.objs.size f cdv)) → PSs (cxOf (CX P w) P w K mg base N qual scope f cdv A outer s H E).nox body (tSs (cxOf (CX P w) P w K mg base N qual scope f cdv A outer s H E).nox C d.body)) : FnG P w K mg base (k + 1) f fd ps (spTop P w K C d) := by
  refine F.okG S (fun vs H Q E h => ?_) fun cdv A outer s H vs Q E hr h => ?_
  · obtain ⟨ss, T, hl, r, _⟩ := h
    rw [r.length, hl, hp]
  · obtain ⟨ss, T, hl, r, h⟩ := h
    exact ⟨tSs (cxOf (CX P w) P w K mg base N qual scope f cdv A outer s H E).nox C d.body, (hb cdv A outer s H E hr).nox, top_body (X := (cxOf (CX P w) P w K mg base N qual scope f cdv A outer s H E).nox) hN hs hl r h⟩
end MP

/-! MPR: the rules in short, as the printed proofs use them. -/
namespace MP
open PySem PySem.Spec L2
open PyProof.Rows hiding St
section
variable {X : Cx} {C : Cxt}
theorem rvar (i : Nat) {x : Str} {pos : Pos} (hN : X.N[i]? = some x := by rfl) (hv : Vis X.env.scope x := by first | exact .inl rfl | exact .inr (.inl rfl) | exact .inr (.inr rfl)) (hd : (x == ("__debug__" : Str)) = false := by rfl) (hcd : (x == ("__classdict__" : Str)) = false := by rfl) : PE X (.Name x pos) (tE X C (ZX X) (.var i)) := se_var hN hv hd hcd
theorem rint {j : Nat} {n : Int} {pos : Pos} : PE X (.Constant (.int n) j pos) (tE X C (ZX X) (.cst (.int n))) := se_cst pe_int (fun _ => .int _) rfl
theorem rstr {j : Nat} {x : Str} {pos : Pos} (h : TxtOk x := by exact ⟨by decide +kernel, by decide +kernel⟩) : PE X (.Constant (.str x) j pos) (tE X C (ZX X) (.cst (.str x))) := se_cst pe_str (fun _ => .str _ h) rfl
theorem rbin {o : Op} {op : Operator} {xa xb : Expr} {a b : E} {pos : Pos} (ho : VOp X (binaryOp op) (opE o)) (ha : PE X xa (tE X C (ZX X) a)) (hb : PE X xb (tE X C (ZX X) b)) : PE X (.BinOp xa op xb pos) (tE X C (ZX X) (.bin o a b)) := se_bin zx_mono ho ha hb
theorem risi {t : Ty} {x y : Str} {xa : Expr} {e : E} {p p2 pos : Pos} (hv2 : bootBuiltins y = some (.type (tyN t))) (he : PE X xa (tE X C (ZX X) e)) (hm : X.mg x = none) (hm2 : X.mg y = none) (hx : x = ("isinstance" : Str) := by rfl) (hg : Gl X x := by rfl) (hg2 : Gl X y := by rfl) (hn2 : y ≠ "__name__" := by decide) (hd2 : (y == ("__debug__" : Str)) = false := by rfl)
    (h1 : starEach [xa, .Name y p2] X.env = (false, eval xa X.env) :: starEach [.Name y p2] X.env := by rfl) (h2 : starEach [.Name y p2] X.env = (false, eval (.Name y p2) X.env) :: starEach [] X.env := by rfl) (hpl : (backTo pos (starEach [.Name y p2] X.env)).any (·.1) = false := by rfl) :
    PE X (.Call (.Name x p) [xa, .Name y p2] [] pos) (tE X C (ZX X) (.isi e t)) := se_isi hx hg hm hg2 hm2 hv2 hn2 hd2 he h1 h2 hpl
theorem rand {xa xb : Expr} {rest : List Expr} {a b : E} {pos : Pos} (ha : PE X xa (tE X C (ZX X) a)) (hb : PE X (.BoolOp .And (xb :: rest) pos) (tE X C (ZX X) b)) : PE X (.BoolOp .And (xa :: xb :: rest) pos) (tE X C (ZX X) (.and a b)) := se_and zx_mono ha hb
theorem ror {xa xb : Expr} {rest : List Expr} {a b : E} {pos : Pos} (ha : PE X xa (tE X C (ZX X) a)) (hb : PE X (.BoolOp .Or (xb :: rest) pos) (tE X C (ZX X) b)) : PE X (.BoolOp .Or (xa :: xb :: rest) pos) (tE X C (ZX X) (.or a b)) := se_or zx_mono ha hb
theorem rcmp2 {o1 o2 : Cp} {op1 op2 : CmpOp} {xa xb xc : Expr} {a b c : E} {pos : Pos} (h1 : VCp X (compareOp op1) (cpE o1)) (h2 : VCp X (compareOp op2) (cpE o2)) (ha : PE X xa (tE X C (ZX X) a)) (hb : PE X xb (tE X C (ZX X) b)) (hc : PE X xc (tE X C (ZX X) c)) (hm : lastMarks [op1, op2] [xb, xc] = false := by rfl) :
    PE X (.Compare xa [op1, op2] [xb, xc] pos) (tE X C (ZX X) (.cmp2 o1 o2 a b c)) := se_cmp2 zx_mono h1 h2 ha hb hc hm
theorem rcmp {o : Cp} {op : CmpOp} {xa xb : Expr} {a b : E} {pos : Pos} (ho : VCp X (compareOp op) (cpE o)) (ha : PE X xa (tE X C (ZX X) a)) (hb : PE X xb (tE X C (ZX X) b)) (hm : behindInMarks op xb = false := by rfl) : PE X (.Compare xa [op] [xb] pos) (tE X C (ZX X) (.cmp o a b)) := se_cmp zx_mono ho ha hb hm
theorem tcmp {o : Cp} {op : CmpOp} {xa xb : Expr} {a b : E} {pos : Pos} (ho : VCp X (compareOp op) (cpE o)) (ha : PE X xa (tE X C (ZX X) a)) (hb : PE X xb (tE X C (ZX X) b)) (hm : behindInMarks op xb = false := by rfl) : PT X (.Compare xa [op] [xb] pos) (tEt X C (ZX X) (.cmp o a b)) := st_cmp zx_mono ho ha hb hm
theorem rlen {xa : Expr} {e : E} {p pos : Pos} (he : PE X xa (tE X C (ZX X) e)) (hm : X.mg "len" = none) (hg : Gl X "len" := by rfl) (hs : starEach [xa] X.env = (false, eval xa X.env) :: starEach [] X.env := by rfl) (hpl : (backTo pos (starEach [] X.env)).any (·.1) = false := by rfl) :
    PE X (.Call (.Name "len" p) [xa] [] pos) (tE X C (ZX X) (.b0 .len e)) := se_b0 (fun r t h ha => pe_callB h hg hm boot_len ha (he := hs) (hpl := hpl)) v_len (fun _ _ => hh_len) he hs
theorem rintc {xa : Expr} {e : E} {p pos : Pos} (he : PE X xa (tE X C (ZX X) e)) (hm : X.mg "int" = none) (hg : Gl X "int" := by rfl) (hs : starEach [xa] X.env = (false, eval xa X.env) :: starEach [] X.env := by rfl) (hpl : (backTo pos (starEach [] X.env)).any (·.1) = false := by rfl) :
    PE X (.Call (.Name "int" p) [xa] [] pos) (tE X C (ZX X) (.b0 .int e)) := se_b0 (fun r t h ha => pe_callTy h hg hm boot_int ha (he := hs) (hpl := hpl)) v_int (fun _ _ => hh_int) he hs
theorem rife {xt xa xb : Expr} {t a b : E} {pos : Pos} (ht : PT X xt (tEt X C (ZX X) t)) (ha : PE X xa (tE X C (ZX X) a)) (hb : PE X xb (tE X C (ZX X) b)) : PE X (.IfExp xt xa xb pos) (tE X C (ZX X) (.ife t a b)) := se_ife zx_mono ht ha hb
theorem rix {xa xb : Expr} {a b : E} {pos : Pos} (hu : X.A.units + 200 < cLine) (ha : PE X xa (tE X C (ZX X) a)) (hb : PE X xb (tE X C (ZX X) b)) (hs : PlainIx xb := by intro _ _; rfl) : PE X (.Subscript xa xb pos) (tE X C (ZX X) (.ix a b)) := se_ix hu zx_mono ha hb hs
theorem rcget (i : Nat) {x : Str} {p pos : Pos} {xi : Expr} (hi : PE X xi (tC (.int 0))) (hN : X.N[i]? = some x := by rfl) (hv : Vis X.env.scope x := by first | exact .inl rfl | exact .inr (.inl rfl)) (hd : (x == ("__debug__" : Str)) = false := by rfl) (hcd : (x == ("__classdict__" : Str)) = false := by rfl) (hs : PlainIx xi := by intro _ _; rfl) :
    PE X (.Subscript (.Name x p) xi pos) (tE X C (ZX X) (.cget i)) := se_cget hN hv hd hcd hi hs
theorem rasg (i : Nat) {x : Str} {xe : Expr} {e : E} {dp : Bool} {pos pos' : Pos} (hN : X.N.Nodup) (he : PE X xe (tE X C (ZX X) e)) (hi : X.N[i]? = some x := by rfl) (hx : Loc X.env.scope x := by first | exact .inl rfl | exact .inr rfl) (hs : swapsWith xe (some (.Name x pos')) pos.line X.env = pure false := by rfl) (hf : X.fn x = true ∨ X.env.scope.names.lookup x = some .local := by first | exact .inr rfl | exact .inl rfl) :
    PS X (.Assign [.Name x pos'] xe pos) (tS X C (.asg dp i e)) := x_asg hN hi hx he hs hf
theorem rcset (i : Nat) {x : Str} {xi xe : Expr} {e : E} {p pos' pos : Pos} (he : PE X xe (tE X C (ZX X) e)) (hi : PE X xi (tC (.int 0))) (hN : X.N[i]? = some x := by rfl) (hv : Vis X.env.scope x := by first | exact .inl rfl | exact .inr (.inl rfl)) (hd : (x == ("__debug__" : Str)) = false := by rfl) (hcd : (x == ("__classdict__" : Str)) = false := by rfl)
    (hs : swapsWith xe (some (.Subscript (.Name x p) xi pos')) pos.line X.env = pure false := by rfl) : PS X (.Assign [.Subscript (.Name x p) xi pos'] xe pos) (tS X C (.cset i e)) := x_cset hN hv hd hcd he hi hs

theorem rnone {j : Nat} {pos : Pos} : PE X (.Constant .none j pos) (tE X C (ZX X) (.cst .none)) := se_cst pe_non (fun _ => .non) rfl
theorem rbool {j : Nat} {b : Bool} {pos : Pos} : PE X (.Constant (.bool b) j pos) (tE X C (ZX X) (.cst (.bool b))) := se_cst pe_bl (fun _ => .bl _) rfl
theorem rgint {x : Str} {n : Int} {t : Tok} {pos : Pos} (hm : X.mg x = some (.int n t)) (hg : Gl X x := by rfl) (hd : (x == ("__debug__" : Str)) = false := by rfl) : PE X (.Name x pos) (tE X C (ZX X) (.cst (.int n))) := se_cst (pe_glob (v := .int n) hg hm ⟨t, rfl⟩ hd) (fun _ => .int _) rfl
theorem rneg {xa : Expr} {a : E} {pos : Pos} (ha : PE X xa (tE X C (ZX X) a)) : PE X (.UnaryOp .USub xa pos) (tE X C (ZX X) (.neg a)) := se_neg ha
theorem rtruth {xa : Expr} {a : E} (ha : PE X xa (tE X C (ZX X) a)) (he : ∀ whole, isTrue xa X.env whole = (do let v ← whole; standAt xa.pos; holding [v] (truthy v)) := by intro _; rfl) : PT X xa (tEt X C (ZX X) a) := st_truth ha he
theorem tand {xa xb : Expr} {rest : List Expr} {a b : E} {pos : Pos} (ha : PT X xa (tEt X C (ZX X) a)) (hb : PW X (.BoolOp .And (xb :: rest) pos) (tEt X C (ZX X) b)) : PW X (.BoolOp .And (xa :: xb :: rest) pos) (tEt X C (ZX X) (.and a b)) := sw_and zx_mono ha hb
theorem tor {xa xb : Expr} {rest : List Expr} {a b : E} {pos : Pos} (ha : PT X xa (tEt X C (ZX X) a)) (hb : PW X (.BoolOp .Or (xb :: rest) pos) (tEt X C (ZX X) b)) : PW X (.BoolOp .Or (xa :: xb :: rest) pos) (tEt X C (ZX X) (.or a b)) := sw_or zx_mono ha hb
theorem tisN {xa : Expr} {a : E} {pos pos' : Pos} {j : Nat} (ha : PE X xa (tE X C (ZX X) a)) : PT X (.Compare xa [.Is] [.Constant .none j pos'] pos) (tEt X C (ZX X) (.cmp .isN a (.cst .none))) := by
  refine (pt_cmp (pc_isN ha)).weak fun σ H Q h => ?_
  obtain ⟨H0, A0, At, n, ρ, fp, rl, h⟩ := h
  rw [evE, out_bind] at h
  refine ⟨H0, A0, At, n, ρ, fp, rl, h.imp (fun d n1 h1 v H1 S p => ?_) fun _ _ z => z⟩
  have h1 : ∀ H', Pres At H H' → CellOk At n1 H' → Q (isNn d) H' := h1
  have e : decide (v = .non) = isNn d := by
    have r := p.rep
    cases r <;> first | rfl | exact decide_eq_false (fun z => nomatch z)
  show ∃ c, V.bl (decide (v = .non)) = V.bl c ∧ Q c H1
  rw [e]
  exact ⟨_, rfl, h1 H1 p.pres p.cell⟩
theorem tnotN {xa : Expr} {a : E} {pos pos' : Pos} {j : Nat} (ha : PE X xa (tE X C (ZX X) a)) : PT X (.Compare xa [.IsNot] [.Constant .none j pos'] pos) (tEt X C (ZX X) (.cmp .notN a (.cst .none))) := by
  refine (pt_cmp (pc_notN ha)).weak fun σ H Q h => ?_
  obtain ⟨H0, A0, At, n, ρ, fp, rl, h⟩ := h
  rw [evE, out_bind] at h
  refine ⟨H0, A0, At, n, ρ, fp, rl, h.imp (fun d n1 h1 v H1 S p => ?_) fun _ _ z => z⟩
  have h1 : ∀ H', Pres At H H' → CellOk At n1 H' → Q (!isNn d) H' := h1
  have e : (!decide (v = .non)) = !isNn d := by
    have r := p.rep
    cases r <;> first | rfl | (rw [decide_eq_false (fun z => nomatch z)]; rfl)
  show ∃ c, V.bl (!decide (v = .non)) = V.bl c ∧ Q c H1
  rw [e]
  exact ⟨_, rfl, h1 H1 p.pres p.cell⟩
theorem rcons {x : Expr} {xs : List Expr} {e : E} {es : List E} (hx : PE X x (tE X C (ZX X) e)) (hs : PA X xs (tEs X C (ZX X) es)) (hst : starEach (x :: xs) X.env = (false, eval x X.env) :: starEach xs X.env := by rfl) : PA X (x :: xs) (tEs X C (ZX X) (e :: es)) := ss_cons zx_mono hx hs hst
theorem rtup {xs : List Expr} {es : List E} {k : Nat} {pos : Pos} (h : PA X xs (tEs X C (ZX X) es)) (hl : es.length ≤ 1000 := by decide) : PE X (.Tuple xs k pos) (tE X C (ZX X) (.tup es)) := se_tup h hl
theorem rlst {xs : List Expr} {es : List E} {pos : Pos} (h : PA X xs (tEs X C (ZX X) es)) (hl : es.length ≤ 1000 := by decide) : PE X (.List xs pos) (tE X C (ZX X) (.lst es)) := se_lst h hl
theorem rsl {xa : Expr} {a : E} {lo hi : Option Expr} {l h : Option E} {pos p2 : Pos} (ha : PE X xa (tE X C (ZX X) a)) (hl : PO X lo (tEo X C (ZX X) l)) (hh : PO X hi (tEo X C (ZX X) h)) : PE X (.Subscript xa (.Slice lo hi none p2) pos) (tE X C (ZX X) (.sl a l h)) := se_sl zx_mono ha hl hh
theorem racons {x : Expr} {xs : List Expr} {e : E} {es : List E} (hx : PE X x (tE X C (ZX X) e)) (hs : PA X xs (tAs X C (ZX X) es)) (he : isCellv e = false := by rfl) (hst : starEach (x :: xs) X.env = (false, eval x X.env) :: starEach xs X.env := by rfl) : PA X (x :: xs) (tAs X C (ZX X) (e :: es)) := sa_cons zx_mono hx he hs hst
theorem racell (i : Nat) {x : Str} {p : Pos} {xs : List Expr} {es : List E} (hs : PA X xs (tAs X C (ZX X) es)) (hN : X.N[i]? = some x := by rfl) (hv : Vis X.env.scope x := by first | exact .inl rfl | exact .inr (.inl rfl)) (hd : (x == ("__debug__" : Str)) = false := by rfl) (hcd : (x == ("__classdict__" : Str)) = false := by rfl)
    (hst : starEach (.Name x p :: xs) X.env = (false, eval (.Name x p) X.env) :: starEach xs X.env := by rfl) : PA X (.Name x p :: xs) (tAs X C (ZX X) (.cellv i :: es)) := sa_cell hN hv hd hcd hs hst
theorem rabs {xa : Expr} {e : E} {p pos : Pos} (he : PE X xa (tE X C (ZX X) e)) (hm : X.mg "abs" = none) (hg : Gl X "abs" := by rfl) (hs : starEach [xa] X.env = (false, eval xa X.env) :: starEach [] X.env := by rfl) (hpl : (backTo pos (starEach [] X.env)).any (·.1) = false := by rfl) :
    PE X (.Call (.Name "abs" p) [xa] [] pos) (tE X C (ZX X) (.b0 .abs e)) := se_b0 (fun r t h ha => pe_callB h hg hm PyProof.Rows.boot_abs ha (he := hs) (hpl := hpl)) v_abs (fun _ _ => hh_abs) he hs
theorem rtuple {xa : Expr} {e : E} {p pos : Pos} (he : PE X xa (tE X C (ZX X) e)) (hm : X.mg "tuple" = none) (hg : Gl X "tuple" := by rfl) (hs : starEach [xa] X.env = (false, eval xa X.env) :: starEach [] X.env := by rfl) (hpl : (backTo pos (starEach [] X.env)).any (·.1) = false := by rfl) :
    PE X (.Call (.Name "tuple" p) [xa] [] pos) (tE X C (ZX X) (.b1 .tuple (.of e))) := se_b1 (fun r t h ha => pe_callTy h hg hm PyProof.Rows.boot_tuple ha (he := hs) (hpl := hpl)) v_tuple he hs
theorem rlist {xa : Expr} {e : E} {p pos : Pos} (he : PE X xa (tE X C (ZX X) e)) (hm : X.mg "list" = none) (hv : bootBuiltins "list" = some (.type "list")) (hg : Gl X "list" := by rfl) (hs : starEach [xa] X.env = (false, eval xa X.env) :: starEach [] X.env := by rfl) (hpl : (backTo pos (starEach [] X.env)).any (·.1) = false := by rfl) :
    PE X (.Call (.Name "list" p) [xa] [] pos) (tE X C (ZX X) (.b1 .list (.of e))) := se_b1 (fun r t h ha => pe_callTy h hg hm hv ha (he := hs) (hpl := hpl)) v_list he hs
theorem rall {xa : Expr} {e : E} {p pos : Pos} (hc : X.calm = true) (hv : bootBuiltins "all" = some (.builtin "all")) (he : PE X xa (tE X C (ZX X) e)) (hm : X.mg "all" = none) (hg : Gl X "all" := by rfl) (hs : starEach [xa] X.env = (false, eval xa X.env) :: starEach [] X.env := by rfl) (hpl : (backTo pos (starEach [] X.env)).any (·.1) = false := by rfl) :
    PE X (.Call (.Name "all" p) [xa] [] pos) (tE X C (ZX X) (.b1 .all (.of e))) := se_b1 (fun r t h ha => pe_callB h hg hm hv ha (he := hs) (hpl := hpl)) (v_all hc) he hs
/-! statements -/
theorem rife' {c : Expr} {a b : List Stmt} {t : E} {sa sb : List S} {pos : Pos} (hc : PT X c (tEt X C (ZX X) t)) (ha : PSs X a (tSs X C sa)) (hb : PSs X b (tSs X C sb)) : PS X (.If c a b pos) (tS X C (.ife t sa sb)) := x_ife hc ha hb
theorem rex {xe : Expr} {e : E} {pos : Pos} (he : PE X xe (tE X C (ZX X) e)) (hs : swapsWith xe none pos.line X.env = pure false := by rfl) : PS X (.Expr xe pos) (tS X C (.ex e)) := x_ex he hs
theorem rasgT {xt xe : Expr} {t : Tg} {e : E} {pos : Pos} (he : PE X xe (tE X C (ZX X) e)) (hg : PG X xt (tG X t)) (hs : swapsWithSole [xt] xe pos.line X.env = pure false := by rfl) (hw : swappedStores [xt] xe X.env = pure none := by rfl) (h1 : (assignEach [xt] X.env).map (·.2) = [assign xt X.env] := by rfl) : PS X (.Assign [xt] xe pos) (tS X C (.asgT t e)) := x_asgT he hg hs hw h1
theorem gnm (i : Nat) {x : Str} {pos : Pos} (hN : X.N.Nodup) (hi : X.N[i]? = some x := by rfl) (hx : Loc X.env.scope x := by first | exact .inl rfl | exact .inr rfl) (hf : X.fn x = true ∨ X.env.scope.names.lookup x = some .local := by first | exact .inr rfl | exact .inl rfl) : PG X (.Name x pos) (tG X (.nm i)) := sg_nm hN hi hx hf
theorem gcons {e : Expr} {es : List Expr} {t : Tg} {ts : List Tg} (h1 : PG X e (tG X t)) (h2 : PGs X es (tGs X ts)) (hs : (assignEach (e :: es) X.env).map (·.2) = assign e X.env :: (assignEach es X.env).map (·.2) := by rfl) : PGs X (e :: es) (tGs X (t :: ts)) := sgs_cons h1 h2 hs
theorem gtup {es : List Expr} {k : Nat} {ts : List Tg} {pos : Pos} (hc : X.calm = true) (h : PGs X es (tGs X ts)) (hn : (assignEach es X.env).length = ts.length := by rfl) (hst : (assignEach es X.env).findIdx? (·.1) = none := by rfl) : PG X (.Tuple es k pos) (tG X (.tup ts)) := sg_tup hc h hn hst
/-- no class of errors is told: the raise is never reached -/
theorem rraise {st : Stmt} {c : Nat} {es : List E} (hf : C.flds[c]? = none := by rfl) : PS X st (tS X C (.raise c es)) := by
  refine ps_never.weak fun D σ H h => ?_
  obtain ⟨H0, A0, At, n, ρ, fp, s, h⟩ := h
  rw [evS, out_bind, out_lft, hf] at h
  obtain ⟨r, z, _⟩ := h
  cases z
theorem rwhile {c : Expr} {body : List Stmt} {t : E} {sb : List S} {pos : Pos} (hp : PassesOwn (model X.prog X.w) X.A X.env X.xe) (hc : PT X c (tEt X C (ZX X) t)) (hb : PSs X body (tSs X C sb)) : PS X (.While c body [] pos) (tS X C (.while t sb)) := x_while hp hc hb
theorem rfor0 {xt iter : Expr} {body : List Stmt} {t : Tg} {it : It} {sb : List S} {pos : Pos} (hl : it.lv = []) (hp : PassesOwn (model X.prog X.w) X.A X.env X.xe) (hc : X.calm = true) (hi : PI X xt iter (tI X C (ZX X) it)) (hg : PG X xt (tG X t)) (hb : PSs X body (tSs X C sb)) (hs : ∀ x, foldedSetIterable iter X.env x = pure x := by intro _; rfl) :
    PS X (.For xt iter body [] pos) (tS X C (.for t it sb)) := (x_for hp hc hi hg hb hs).weak fun D σ H ⟨H0, A0, At, n, ρ, fp, s, h⟩ => ⟨H0, A0, At, n, ρ, fp, s, by rw [hl]; exact .nil, h⟩
theorem rapp (i : Nat) {x : Str} {xe : Expr} {e : E} {p apos cpos pos : Pos} (he : PE X xe (tE X C (ZX X) e)) (m : M1 X (.Name x p) "append" apos xe cpos := by exact ⟨rfl, rfl, rfl, rfl⟩) (hN : X.N[i]? = some x := by rfl) (hv : Vis X.env.scope x := by first | exact .inl rfl | exact .inr (.inl rfl)) (hd : (x == ("__debug__" : Str)) = false := by rfl) (hcd : (x == ("__classdict__" : Str)) = false := by rfl)
    (hs : swapsWith (.Call (.Attribute (.Name x p) "append" apos) [xe] [] cpos) none pos.line X.env = pure false := by rfl) : PS X (.Expr (.Call (.Attribute (.Name x p) "append" apos) [xe] [] cpos) pos) (tS X C (.app i e)) := x_app hN hv hd hcd he m hs
theorem rsetIx (i : Nat) {x : Str} {xk xe : Expr} {k e : E} {p pos' pos : Pos} (hu : X.A.units + 200 < cLine) (he : PE X xe (tE X C (ZX X) e)) (hk : PE X xk (tE X C (ZX X) k)) (hN : X.N[i]? = some x := by rfl) (hv : Vis X.env.scope x := by first | exact .inl rfl | exact .inr (.inl rfl)) (hd : (x == ("__debug__" : Str)) = false := by rfl) (hcd : (x == ("__classdict__" : Str)) = false := by rfl)
    (hs : swapsWith xe (some (.Subscript (.Name x p) xk pos')) pos.line X.env = pure false := by rfl) : PS X (.Assign [.Subscript (.Name x p) xk pos'] xe pos) (tS X C (.setIx i k e)) := x_setIx hu hN hv hd hcd he hk hs
theorem raug (i : Nat) {x : Str} {xe : Expr} {e : E} {pos pos' : Pos} (hN : X.N.Nodup) (he : PE X xe (tE X C (ZX X) e)) (hi : X.N[i]? = some x := by rfl) (hx : Loc X.env.scope x := by first | exact .inl rfl | exact .inr rfl) (hf : X.fn x = true ∨ X.env.scope.names.lookup x = some .local := by first | exact .inr rfl | exact .inl rfl) : PS X (.AugAssign (.Name x pos') .Add xe pos) (tS X C (.aug i .add e)) := x_augAdd hN hi hx he hf
theorem rmkCell (i : Nat) {x : Str} {xe : Expr} {pos pos' lpos : Pos} (hN : X.N.Nodup) (he : PA X [xe] (tCons (tC (.int 0)) tNil)) (hi : X.N[i]? = some x := by rfl) (hx : Loc X.env.scope x := by first | exact .inl rfl | exact .inr rfl) (hs : swapsWith (.List [xe] lpos) (some (.Name x pos')) pos.line X.env = pure false := by rfl) (hf : X.fn x = true ∨ X.env.scope.names.lookup x = some .local := by first | exact .inr rfl | exact .inl rfl) :
    PS X (.Assign [.Name x pos'] (.List [xe] lpos) pos) (tS X C (.mkCell i)) := x_mkCell hN hi hx he hs hf
end
/-- a def of the program, as its callers see it -/
structure DefOk (P : Program) (w : World) (K : PySem.W.Frag) (mg : Str → Option Value) (base : Heap) (defs : List Def) (flds : List XRow) (wf : Nat) (x : Str) (i np kl : Nat) : Prop where
  ex : ∃ f fd ps, (∀ m, FnG P w K mg base kl f fd ps (spF P w K mg np (callN defs flds wf m i))) ∧ mg x = some (.ref f) ∧ PySem.W.keepIn K (.ref f) = true ∧ Binds K fd ps []
theorem rcall {X : Cx} {defs : List Def} {flds : List XRow} {wf m i np kl : Nat} {x : Str} {p pos : Pos} {xe : Expr} {xes : List Expr} {e : E} {es : List E} (G : DefOk X.prog X.w X.K X.mg X.base defs flds wf x i np kl) (hr : RoomG kl X.A) (ha : PA X (xe :: xes) (tAs X ⟨callN defs flds wf m, wf, flds⟩ (ZX X) (e :: es)))
    (hlen : (e :: es).length = np := by rfl) (hg : Gl X x := by rfl) (hdb : (x == ("__debug__" : Str)) = false := by rfl) (he : starEach (xe :: xes) X.env = (false, eval xe X.env) :: starEach xes X.env := by rfl) (hpl : (backTo pos (starEach xes X.env)).any (·.1) = false := by rfl) :
    PE X (.Call (.Name x p) (xe :: xes) [] pos) (tE X ⟨callN defs flds wf m, wf, flds⟩ (ZX X) (.call i (e :: es))) := by
  obtain ⟨f, fd, ps, F, hm, hk, hb⟩ := G.ex
  exact se_call (C := ⟨callN defs flds wf m, wf, flds⟩) (dvs := []) (dl := []) (F m) hr hg hm hk hb .nil (fun H => .nil) (fun ss n _ => by rw [List.map_nil, List.append_nil]) hlen ha hdb he hpl
end MP
namespace MP
open PySem PySem.Spec L2
theorem bt_int : bootBuiltins "int" = some (.type (tyN .int)) := by decide +kernel
theorem bt_bool : bootBuiltins "bool" = some (.type (tyN .bool)) := by decide +kernel
theorem bt_str : bootBuiltins "str" = some (.type (tyN .str)) := by decide +kernel
theorem bt_tuple : bootBuiltins "tuple" = some (.type (tyN .tuple)) := by decide +kernel
theorem bt_dict : bootBuiltins "dict" = some (.type (tyN .dict)) := by decide +kernel
theorem bt_list : bootBuiltins "list" = some (.type (tyN .list)) := by decide +kernel
theorem bt_all : bootBuiltins "all" = some (.builtin "all") := by decide +kernel
theorem bt_any : bootBuiltins "any" = some (.builtin "any") := by decide +kernel
theorem bt_sum : bootBuiltins "sum" = some (.builtin "sum") := by decide +kernel
end MP

/-! MPLb: a comprehension's block; the printed forms. -/
namespace MP
open PySem PySem.Spec L2
open PyProof.Rows hiding St
section
variable {X : Cx} {C : Cxt} {Z : ZT} {s : Shared} {Hb : Hp} {sc : Scope} {ce : Env} {fpb : List Addr} {H0 H : Hp} {A0 : Addr → Prop} {At : Option Addr} {n : Option Int} {ρ : Ev} {fp : Nat → List Addr} {σ : L2.St}
theorem slot_blk {sl : Slot} {v : V} {S : List Addr} (hc : X.calm = true) (h : SlotOk X H0 At H sl v S) : SlotOk (X.blk s Hb sc ce fpb) H0 At H sl v S := by
  cases sl with
  | err e => exact ⟨h.1, fun z => absurd (hc.symm.trans z) (by simp)⟩
  | _ => exact h
theorem slot_unblk {sl : Slot} {v : V} {S : List Addr} (hc : X.calm = true) (h : SlotOk (X.blk s Hb sc ce fpb) H0 At H sl v S) : SlotOk X H0 At H sl v S := by
  cases sl with
  | err e => exact ⟨h.1, fun z => absurd (hc.symm.trans z) (by simp)⟩
  | _ => exact h
theorem Rl.blk (hc : X.calm = true) (r : Rl X H0 A0 At n ρ fp σ H) : Rl (X.blk s Hb sc ce fpb) H0 A0 At n ρ fp σ H := ⟨r.pres, r.len, fun i sl e => by
  obtain ⟨v, e1, q⟩ := r.slot i sl e
  exact ⟨v, e1, slot_blk hc q⟩, r.cell, r.nat, r.sep, r.src⟩
theorem Rl.unblk (hc : X.calm = true) (r : Rl (X.blk s Hb sc ce fpb) H0 A0 At n ρ fp σ H) : Rl X H0 A0 At n ρ fp σ H := ⟨r.pres, r.len, fun i sl e => by
  obtain ⟨v, e1, q⟩ := r.slot i sl e
  exact ⟨v, e1, slot_unblk hc q⟩, r.cell, r.nat, r.sep, r.src⟩
theorem Post.unblk {e : E} {v : V} {d : D} {S : List Addr} {H' : Hp} {n' : Option Int} (p : Post (X.blk s Hb sc ce fpb) At ρ fp e H v d S H' n') : Post X At ρ fp e H v d S H' n' := ⟨p.rep, p.pres, p.cell, p.from_, p.elem, p.new⟩
theorem tE_blk (hc : X.calm = true) {e : E} {Q : VK} (h : tE X C Z0 e σ H Q) : tE (X.blk s Hb sc ce fpb) C Z e σ H Q := by
  obtain ⟨H0, A0, At, n, ρ, fp, rl, h⟩ := h
  exact ⟨H0, A0, At, n, ρ, fp, rl.blk hc, h.imp (fun d n1 q v H' S p => q v H' S p.unblk) fun _ _ z => z.elim⟩
theorem tC_blk (hc : X.calm = true) {c : Option E} {Q : Bool → Hp → Prop} (h : tCond X C Z0 c σ H Q) : tCond (X.blk s Hb sc ce fpb) C Z c σ H Q := by
  obtain ⟨H0, A0, At, n, ρ, fp, rl, h⟩ := h
  exact ⟨H0, A0, At, n, ρ, fp, rl.blk hc, h.imp (fun b n1 q => q) fun _ _ z => z.elim⟩
theorem tG_blk (hc : X.calm = true) {t : Tg} {v : V} {Q : L2.St → Hp → Prop} (h : tG X t v σ H Q) : tG (X.blk s Hb sc ce fpb) t v σ H Q := by
  obtain ⟨H0, A0, At, n, ρ, fp, d, S, rl, r, nat, src, sp, ρ', e, h⟩ := h
  exact ⟨H0, A0, At, n, ρ, fp, d, S, rl.blk hc, r, nat, src, sp, ρ', e, fun fp' σ' rl' b sb => h fp' σ' (rl'.unblk hc) b sb⟩
end
section
variable {X : Cx} {C : Cxt}
theorem rlc (own : List (Str × Nat)) {elt tg iter : Expr} {ifs : List Expr} {scope : Scope} {pos : Pos} {e : E} {t : Tg} {it : It} {c : Option E} (hc : X.calm = true) (hN : X.N.Nodup) (hi : PI X tg iter (tI X C (ZX X) it))
    (hg : ∀ (s : Shared) (H : Hp) (Ca : Addr) (cl : List (Str × Addr)) (fp : List Addr), PG (X.blk s H scope (compEnvC scope cl Ca X.env) fp) tg (tG (X.blk s H scope (compEnvC scope cl Ca X.env) fp) t))
    (ht : ∀ (s : Shared) (H : Hp) (Ca : Addr) (cl : List (Str × Addr)) (fp : List Addr), PTs (X.blk s H scope (compEnvC scope cl Ca X.env) fp) ifs (tCond (X.blk s H scope (compEnvC scope cl Ca X.env) fp) C (ZX (X.blk s H scope (compEnvC scope cl Ca X.env) fp)) c))
    (he : ∀ (s : Shared) (H : Hp) (Ca : Addr) (cl : List (Str × Addr)) (fp : List Addr), PE (X.blk s H scope (compEnvC scope cl Ca X.env) fp) elt (tE (X.blk s H scope (compEnvC scope cl Ca X.env) fp) C (ZX (X.blk s H scope (compEnvC scope cl Ca X.env) fp)) e))
    (ok : BlkOk X.N X.env.scope scope own := by exact blkOk_by (by kernel_rfl)) (hs : ∀ x, foldedSetIterable iter X.env x = pure x := by intro _; rfl) (hv : ∀ i ∈ t.vars, i ∈ own.map (·.2) := by decide) (hl : it.lv.length ≤ 1 := by decide) :
    PE X (.ListComp elt [⟨tg, iter, ifs, 0⟩] scope pos) (tE X C (ZX X) (.lc e t it c (own.map (·.2)))) :=
  se_lk (se_lc hc hN hi ok (fun s H Ca cl fp => (hg s H Ca cl fp).weak fun v σ H Q h => tG_blk hc h) (fun s H Ca cl fp => (ht s H Ca cl fp).weak fun σ H Q h => tC_blk hc h) (fun s H Ca cl fp => (he s H Ca cl fp).weak fun σ H Q h => tE_blk hc h) hs hv) hl
/-- name = [..] -/
theorem rasgLc (i : Nat) (own : List (Str × Nat)) {y : Str} {py : Pos} {elt tg iter : Expr} {ifs : List Expr} {scope : Scope} {pos spos : Pos} {dp : Bool} {e : E} {t : Tg} {it : It} {c : Option E} (hc : X.calm = true) (hN : X.N.Nodup) (hi : PI X tg iter (tI X C (ZX X) it))
    (hg : ∀ (s : Shared) (H : Hp) (Ca : Addr) (cl : List (Str × Addr)) (fp : List Addr), PG (X.blk s H scope (compEnvC scope cl Ca X.env) fp) tg (tG (X.blk s H scope (compEnvC scope cl Ca X.env) fp) t))
    (ht : ∀ (s : Shared) (H : Hp) (Ca : Addr) (cl : List (Str × Addr)) (fp : List Addr), PTs (X.blk s H scope (compEnvC scope cl Ca X.env) fp) ifs (tCond (X.blk s H scope (compEnvC scope cl Ca X.env) fp) C (ZX (X.blk s H scope (compEnvC scope cl Ca X.env) fp)) c))
    (he : ∀ (s : Shared) (H : Hp) (Ca : Addr) (cl : List (Str × Addr)) (fp : List Addr), PE (X.blk s H scope (compEnvC scope cl Ca X.env) fp) elt (tE (X.blk s H scope (compEnvC scope cl Ca X.env) fp) C (ZX (X.blk s H scope (compEnvC scope cl Ca X.env) fp)) e))
    (hy : X.N[i]? = some y := by rfl) (hyl : X.env.scope.names.lookup y = some .local := by rfl) (hsw : swapsWith (.ListComp elt [⟨tg, iter, ifs, 0⟩] scope pos) (some (.Name y py)) spos.line X.env = pure true := by exact sw_true rfl rfl rfl rfl)
    (ok : BlkOk X.N X.env.scope scope own := by exact blkOk_by (by kernel_rfl)) (hs : ∀ x, foldedSetIterable iter X.env x = pure x := by intro _; rfl) (hv : ∀ i ∈ t.vars, i ∈ own.map (·.2) := by decide) (hl : it.lv.length ≤ 1 := by decide) :
    PS X (.Assign [.Name y py] (.ListComp elt [⟨tg, iter, ifs, 0⟩] scope pos) spos) (tS X C (.asg dp i (.lc e t it c (own.map (·.2))))) := by
  have core : PS X (.Assign [.Name y py] (.ListComp elt [⟨tg, iter, ifs, 0⟩] scope pos) spos) (fun D σ H => tLE X C (ZX X) (.lc e t it c (own.map (·.2))) it.lv σ H fun x H1 => gName i x σ H1 D.nx) :=
    (ps_setLc hc hN hy hyl hsw hi ok (fun s H Ca cl fp => (hg s H Ca cl fp).weak fun v σ H Q h => tG_blk hc h) (fun s H Ca cl fp => (ht s H Ca cl fp).weak fun σ H Q h => tC_blk hc h) (fun s H Ca cl fp => (he s H Ca cl fp).weak fun σ H Q h => tE_blk hc h) hs).weak fun D σ H h => lc_tr hv h
  refine ⟨fun pins s σ H D I h => ?_⟩
  obtain ⟨H0, A0, At, n, ρ, fp, sl, h⟩ := h
  rw [evS, out_bind] at h
  have fin : ∀ d n1 v H1 S, Post X At ρ fp (.lc e t it c (own.map (·.2))) H v d S H1 n1 → Out ((pure (setS (frzAll ρ (E.lc e t it c (own.map (·.2))).esc (E.lc e t it c (own.map (·.2))).al) i (slotOf dp (E.lc e t it c (own.map (·.2))).fresh d), Fl.next) : M (Ev × Fl)) n1) (KD X H0 A0 At D) (ZX X At H0) → D.nx (σ.set i (some v)) H1 := fun d n1 v H1 S p q => by
    rw [out_pure] at q
    exact q At _ _ H1 (sl.asg p dp i) .refl
  have lkc : Lkd ρ fp H it.lv ∨ ∃ a u, H a = some u ∧ Mut (some u) ∧ At ≠ some a ∧ NoF u ∧ ∀ od, Lkd ρ fp (upd H a (.frz od u)) it.lv := by
    match hq : it.lv, hl with
    | [], _ => exact .inl .nil
    | [j], _ =>
      rcases lk_case sl.rl j with l | ⟨a, u, hu, mu, nf, ha, _, _, _, lk⟩
      · exact .inl l
      · exact .inr ⟨a, u, hu, mu, ha, nf, lk⟩
  rcases lkc with l | ⟨a, u, hu, mu, ha, nf, lk⟩
  · exact core.run pins s σ H D I ⟨H0, A0, At, n, ρ, fp, sl.rl, l, h.imp (fun d n1 q v H1 S p => fin d n1 v H1 S p q) fun _ _ z => zx_sl sl z⟩
  · refine (ps_lock core).run pins s σ H D I ⟨a, u, hu, mu, fun od => ⟨delA H0 a, A0, At, n, ρ, fp, sl.rl.lock hu nf mu ha, lk od, h.imp (fun d n1 q v H1 S p => ?_) fun _ _ z => zx_lock (zx_sl sl z) (I.nofrz hu mu) (fun H1 h1 v x r => Rep.view (Vw.unlock h1) r) fun A H1 => lock_back hu ha A H1⟩⟩
    obtain ⟨h1, p'⟩ := p.unlock hu ha
    exact ⟨h1, fin d n1 v _ S p' q⟩
end
end MP

/-! MPF1: for over a name. -/
namespace MP
open PySem PySem.Spec L2
open PyProof.Rows hiding St

def putA (H : Hp) (a : Addr) (o : HO) : Hp := fun b => if b = a then some o else H b
theorem putA_same {H : Hp} {a : Addr} {o : HO} : putA H a o a = some o := by simp [putA]
theorem putA_ne {H : Hp} {a b : Addr} {o : HO} (h : b ≠ a) : putA H a o b = H b := by simp [putA, h]
theorem putA_none {H : Hp} {a b : Addr} {o : HO} (h : putA H a o b = none) : b ≠ a ∧ H b = none := by
  by_cases e : b = a
  · rw [e, putA_same] at h; cases h
  · rw [putA_ne e] at h; exact ⟨e, h⟩
theorem frz_get {ρ : Ev} {i j : Nat} : getD (frz ρ i) j = getD ρ j := by
  unfold getD
  rcases (frz_s ρ i).2 j with e | ⟨s, e1, e2⟩
  · rw [e]
  · rw [e1, e2]
    show (some s.frz >>= fun x => x.d) = (some s >>= fun x => x.d)
    exact frz_d
theorem frz_idem {ρ : Ev} {i : Nat} : frz (frz ρ i) i = frz ρ i := by
  have h := frz_not (ρ := ρ) (i := i)
  generalize frz ρ i = ρ1 at h
  unfold MP.frz
  cases q : getS ρ1 i with
  | none => rfl
  | some s =>
    cases s with
    | o d => exact absurd q (h d).1
    | oo d => exact absurd q (h d).2
    | _ => rfl
section
variable {X : Cx} {H0 H H' : Hp} {A0 : Addr → Prop} {At At' : Option Addr} {n n' : Option Int} {ρ ρ' : Ev} {fp fp' : Nat → List Addr} {σ σ' : L2.St}
theorem Sl.lockS (s : Sl X H0 A0 At n ρ fp σ H) {i : Nat} {a : Addr} {u : HO} {od : Obj} (no : NotO ρ i) (hi : ∃ s, getS ρ i = some s) (ai : a ∈ fp i) (hu : H a = some u) (nf : NoF u) (mu : Mut (some u)) (ha : At ≠ some a) :
    Sl X (putA H0 a (.frz od u)) (fun b => A0 b ∨ H0 b = none) At n ρ fp σ (upd H a (.frz od u)) := by
  obtain ⟨si, hsi⟩ := hi
  have nj : ∀ j sj, getS ρ j = some sj → (∀ d, sj = .o d → ∀ b, (fp j).head? = some b → b ≠ a) ∧ ∀ d, sj = .oo d → ∀ b ∈ fp j, b ≠ a := fun j sj ej => by
    refine ⟨fun d e b hb z => ?_, fun d e b hb z => ?_⟩
    · subst e
      by_cases h : j = i
      · subst h; exact (no d).1 ej
      · exact s.rl.sep j i _ si h ej hsi b hb (z ▸ ai)
    · subst e
      by_cases h : j = i
      · subst h; exact (no d).2 ej
      · exact s.rl.sep j i _ si h ej hsi b hb (z ▸ ai)
  refine ⟨⟨⟨fun b o e nb => ?_, fun b e => ?_⟩, s.rl.len, fun j sj ej => ?_, s.rl.cell.upd ha, s.rl.nat, s.rl.sep, fun j sj ej b hb => .inr ((s.rl.src j sj ej b hb).symm)⟩, fun j sj ej => ?_⟩
  · by_cases z : b = a
    · rw [z, putA_same] at e
      rw [z, upd_same]; exact e
    · rw [putA_ne z] at e
      rw [upd_ne z]; exact s.rl.pres.keep b o e nb
  · by_cases z : b = a
    · rw [z, upd_same] at e; cases e
    · rw [upd_ne z] at e
      rw [putA_ne z]; exact s.rl.pres.trk b e
  · obtain ⟨v, e1, ok⟩ := s.rl.slot j sj ej
    refine ⟨v, e1, ?_⟩
    have ok2 := ok.lock (od := od) hu nf mu
    cases sj with
    | p d => exact ok2
    | o d =>
      obtain ⟨r, ic, b, T, ev, eS, nT, h0, w⟩ := ok
      obtain ⟨r2, _⟩ := ok2
      have nb := (nj j _ ej).1 d rfl b (by rw [eS]; rfl)
      exact ⟨r2, ic, b, T, ev, eS, nT, by rw [putA_ne nb]; exact h0, by rw [upd_ne nb]; exact w⟩
    | oo d =>
      obtain ⟨r, ic, q, nd, all⟩ := ok
      obtain ⟨r2, _⟩ := ok2
      refine ⟨r2, ic, q, nd, fun b hb => ?_⟩
      have nb := (nj j _ ej).2 d rfl b hb
      exact ⟨by rw [putA_ne nb]; exact (all b hb).1, by rw [upd_ne nb]; exact (all b hb).2⟩
    | cell => exact ok2
    | err _ => exact ok2
  · have q := s.ul j sj ej
    cases sj with
    | o d => exact fun b hb => (q b hb).upd ((nj j _ ej).1 d rfl b hb)
    | oo d => exact fun b hb => (q b hb).upd ((nj j _ ej).2 d rfl b hb)
    | _ => trivial
theorem lk_at {a : Addr} {u : HO} {od : Obj} (k : AtOk (putA H0 a (.frz od u)) At At') (ha : At ≠ some a) : At' ≠ some a := fun z => by
  rcases k.2 a z with q | q
  · exact ha q
  · rw [putA_same] at q; cases q
theorem lk_atok {a : Addr} {u : HO} {od : Obj} (k : AtOk (putA H0 a (.frz od u)) At At') : AtOk H0 At At' := ⟨k.1, fun b e => (k.2 b e).imp id fun z => (putA_none z).2⟩
theorem lk_pres {a : Addr} {u : HO} {od : Obj} (rl : Rl X H0 A0 At n ρ fp σ H) (hu : H a = some u) (ha : At ≠ some a) (p : Pres At' (putA H0 a (.frz od u)) H') : Pres At' H0 (upd H' a u) := by
  refine ⟨fun b o e nb => ?_, fun b e => ?_⟩
  · by_cases z : b = a
    · subst z
      have q := rl.pres.keep b o e ha
      rw [hu] at q; cases q
      rw [upd_same]
    · rw [upd_ne z]
      exact p.keep b o (by rw [putA_ne z]; exact e) nb
  · by_cases z : b = a
    · rw [z, upd_same] at e; cases e
    · rw [upd_ne z] at e
      exact (putA_none (p.trk b e)).2
theorem Sl.unlockS {a : Addr} {u : HO} {od : Obj} (rl : Rl X H0 A0 At n ρ fp σ H) (hu : H a = some u) (ha : At ≠ some a) (k : AtOk (putA H0 a (.frz od u)) At At') (s : Sl X (putA H0 a (.frz od u)) (fun b => A0 b ∨ H0 b = none) At' n' ρ' fp' σ' H') :
    H' a = some (.frz od u) ∧ Sl X H0 A0 At' n' ρ' fp' σ' (upd H' a u) := by
  have h1 : H' a = some (.frz od u) := s.rl.pres.keep a _ putA_same (lk_at k ha)
  have vw := Vw.unlock h1
  refine ⟨h1, ⟨lk_pres rl hu ha s.rl.pres, s.rl.len, fun j sj ej => ?_, s.rl.cell.upd (lk_at k ha), s.rl.nat, s.rl.sep, fun j sj ej b hb => ?_⟩, fun j sj ej => ?_⟩
  · obtain ⟨v, e1, ok⟩ := s.rl.slot j sj ej
    refine ⟨v, e1, ?_⟩
    cases sj with
    | p d => exact Rep.view vw ok
    | o d =>
      obtain ⟨r, ic, b, T, ev, eS, nT, h0, w⟩ := ok
      obtain ⟨nb, h0⟩ := putA_none h0
      exact ⟨Rep.view vw r, ic, b, T, ev, eS, nT, h0, by rw [upd_ne nb]; exact w⟩
    | oo d =>
      obtain ⟨r, ic, q, nd, all⟩ := ok
      refine ⟨Rep.view vw r, ic, q, nd, fun b hb => ?_⟩
      obtain ⟨nb, h0⟩ := putA_none (all b hb).1
      exact ⟨h0, by rw [upd_ne nb]; exact (all b hb).2⟩
    | cell => exact ok
    | err _ => exact ErrOk.unlock h1 ok
  · rcases s.rl.src j sj ej b hb with q | q | q
    · exact .inl (putA_none q).2
    · exact .inr q
    · exact .inl q
  · have q := s.ul j sj ej
    obtain ⟨v, e1, ok⟩ := s.rl.slot j sj ej
    cases sj with
    | o d =>
      obtain ⟨r, ic, b, T, ev, eS, nT, h0, w⟩ := ok
      intro c hc
      rw [eS] at hc
      obtain rfl : b = c := Option.some.inj hc
      exact (q b (by rw [eS]; rfl)).upd (putA_none h0).1
    | oo d => exact fun b hb => (q b hb).upd (putA_none (ok.2.2.2.2 b hb).1).1
    | _ => trivial
end
section
variable {X : Cx} {C : Cxt}
/-- what a walked name's lock leaves of the evaluation -/
def lkIt (i : Nat) : It → Bool
  | .of (.var j) => j == i
  | .items (.var j) => j == i
  | .vals (.var j) => j == i
  | _ => false
theorem for_frz {t : Tg} {it : It} {sb : List S} {i : Nat} {ρ : Ev} (h : lkIt i it = true) : evS C (.for t it sb) (frz ρ i) = evS C (.for t it sb) ρ := by
  have e1 : ∀ j, j = i → evE C (.var j) (frz ρ i) = evE C (.var j) ρ := fun j _ => by rw [evE, evE, frz_get]
  have e2 : frzAll (frz ρ i) [i] [i] = frzAll ρ [i] [i] := by
    show frz2 (frz (frz ρ i) i) i = frz2 (frz ρ i) i
    rw [frz_idem]
  cases it with
  | of e =>
    cases e with
    | var j =>
      have h : j = i := by simpa [lkIt] using h
      subst h
      rw [evS, evS, evIt, evIt, e1 j rfl, show It.escF (.of (.var j)) = [j] from rfl, show It.al (.of (.var j)) = [j] from rfl, e2]
    | _ => cases h
  | items e =>
    cases e with
    | var j =>
      have h : j = i := by simpa [lkIt] using h
      subst h
      rw [evS, evS, evIt, evIt, e1 j rfl, show It.escF (.items (.var j)) = [j] from rfl, show It.al (.items (.var j)) = [j] from rfl, e2]
    | _ => cases h
  | vals e =>
    cases e with
    | var j =>
      have h : j = i := by simpa [lkIt] using h
      subst h
      rw [evS, evS, evIt, evIt, e1 j rfl, show It.escF (.vals (.var j)) = [j] from rfl, show It.al (.vals (.var j)) = [j] from rfl, e2]
    | _ => cases h
  | _ => cases h
theorem rfor1 (i : Nat) {xt iter : Expr} {body : List Stmt} {t : Tg} {it : It} {sb : List S} {pos : Pos} (hk : lkIt i it = true) (hp : PassesOwn (model X.prog X.w) X.A X.env X.xe) (hc : X.calm = true) (hi : PI X xt iter (tI X C (ZX X) it)) (hg : PG X xt (tG X t)) (hb : PSs X body (tSs X C sb)) (hl : it.lv = [i] := by rfl) (hs : ∀ x, foldedSetIterable iter X.env x = pure x := by intro _; rfl) :
    PS X (.For xt iter body [] pos) (tS X C (.for t it sb)) := by
  have core := x_for (pos := pos) hp hc hi hg hb hs
  rw [hl] at core
  refine ⟨fun pins s σ H D I h => ?_⟩
  obtain ⟨H0, A0, At, n, ρ, fp, sl, h⟩ := h
  rcases lk_case sl.rl i with l | ⟨a, u, hu, mu, nf, ha, hin, ⟨kvs, hd⟩, hh, lk⟩
  · exact core.run pins s σ H D I ⟨H0, A0, At, n, ρ, fp, sl, l, h⟩
  · have sF : Sl X H0 A0 At n (frz ρ i) fp σ H := sl.frzS (frz_s ρ i)
    have hsi : ∃ s, getS (frz ρ i) i = some s := by
      have q : getD (frz ρ i) i = some (.dict kvs) := by rw [frz_get]; exact hd
      unfold getD at q
      cases z : getS (frz ρ i) i with
      | none => rw [z] at q; cases q
      | some s => exact ⟨s, rfl⟩
    obtain ⟨si, esi⟩ := hsi
    have ai : a ∈ fp i := List.mem_of_mem_head? hh
    rw [← for_frz hk] at h
    refine (ps_lock core).run pins s σ H D I ⟨a, u, hu, mu, fun od => ⟨_, _, At, n, frz ρ i, fp, sF.lockS frz_not ⟨si, esi⟩ ai hu nf mu ha, fun j hj kvs' e b hb' => ?_, h.imp (fun r n' q => ?_) fun _ _ z => zx_lock z (I.nofrz hu mu) (fun H1 h1 v x r => Rep.view (Vw.unlock h1) r) fun A H1 k p c => ⟨p.keep a _ putA_same (lk_at k ha), lk_atok k, lk_pres sF.rl hu ha p, c.upd (lk_at k ha)⟩⟩⟩
    · exact lk od j hj kvs' (by rw [frz_get] at e; exact e) b hb'
    · obtain ⟨ρ', f⟩ := r
      cases f with
      | next =>
        intro At' fp' σ' H' s' k
        obtain ⟨h1, s2⟩ := s'.unlockS sF.rl hu ha k
        exact ⟨h1, q At' fp' σ' _ s2 (lk_atok k)⟩
      | brk =>
        intro At' fp' σ' H' s' k
        obtain ⟨h1, s2⟩ := s'.unlockS sF.rl hu ha k
        exact ⟨h1, q At' fp' σ' _ s2 (lk_atok k)⟩
      | cont =>
        intro At' fp' σ' H' s' k
        obtain ⟨h1, s2⟩ := s'.unlockS sF.rl hu ha k
        exact ⟨h1, q At' fp' σ' _ s2 (lk_atok k)⟩
      | ret d =>
        intro At' v S H' r p c k sub nT
        have h1 : H' a = some (.frz od u) := p.keep a _ putA_same (lk_at k ha)
        refine ⟨h1, q At' v S _ (Rep.view (Vw.unlock h1) r) (lk_pres sF.rl hu ha p) (c.upd (lk_at k ha)) (lk_atok k) (fun b hb' => ?_) nT⟩
        rcases sub b hb' with w | w | w
        · exact .inl (putA_none w).2
        · exact .inr w
        · exact .inl w
end
end MP

/-! MPX: more expressions. -/
namespace MP
open PySem PySem.Spec L2
open PyProof.Rows hiding St
section
variable {X : Cx} {C : Cxt}
theorem two_tr {a b : E} {E' : E} {g : D → D → Option D} (hev : ∀ ρ : Ev, evE C E' ρ = (evE C a ρ >>= fun x => evE C b ρ >>= fun y => lft (g x y))) {σ : L2.St} {H : Hp} {Q : VK} {R : List V → Hp → VK → Prop} (h : tE X C (ZX X) E' σ H Q)
    (k : ∀ At ρ fp H v1 v2 d1 d2 S1 S2 H2 n2 d, RepX X H2 v1 d1 S1 → RepX X H2 v2 d2 S2 → g d1 d2 = some d → Pres At H H2 → CellOk At n2 H2 → (∀ v H' S, Post X At ρ fp E' H v d S H' n2 → Q v H') → R [v1, v2] H2 Q) :
    tCB R (tCons (tE X C (ZX X) a) (tCons (tE X C (ZX X) b) tNil)) σ H Q := by
  obtain ⟨H0, A0, At, n, ρ, fp, rl, h⟩ := h
  rw [hev, out_bind] at h
  refine ⟨H0, A0, At, n, ρ, fp, rl, h.imp (fun d1 n1 q v1 H1 S1 p1 => ?_) fun _ _ z => z⟩
  rw [out_bind] at q
  refine ⟨H0, A0, At, n1, ρ, fp, rl.next p1.pres p1.cell, q.imp (fun d2 n2 q v2 H2 S2 p2 => ?_) fun _ _ z => zx_mono _ _ _ _ _ p1.pres z⟩
  rw [out_lft] at q
  obtain ⟨d, ed, q⟩ := q
  exact k At ρ fp H v1 v2 d1 d2 S1 S2 H2 n2 d (Rep.step p1.rep p1.cell p2.pres (rl.avoid p1.from_)) p2.rep ed (p1.pres.trans p2.pres) p2.cell q
theorem rmin2 {xa xb : Expr} {a b : E} {p pos : Pos} (hc : X.calm = true) (ha : PE X xa (tE X C (ZX X) a)) (hb : PE X xb (tE X C (ZX X) b)) (hm : X.mg "min" = none) (hg : Gl X "min" := by rfl) (h1 : starEach [xa, xb] X.env = (false, eval xa X.env) :: starEach [xb] X.env := by rfl) (h2 : starEach [xb] X.env = (false, eval xb X.env) :: starEach [] X.env := by rfl) (hpl : (backTo pos (starEach [xb] X.env)).any (·.1) = false := by rfl) :
    PE X (.Call (.Name "min" p) [xa, xb] [] pos) (tE X C (ZX X) (.mm2 false a b)) := by
  refine (pe_callB (call_min2 hc) hg hm PyProof.Rows.boot_min (pa_cons ha (pa_cons hb pa_nil h2) h1) (he := h1) (hpl := hpl)).weak fun σ H Q h => ?_
  refine two_tr (g := mm2E false) (fun ρ => by rw [evE]) h fun At ρ fp H v1 v2 d1 d2 S1 S2 H2 n2 d r1 r2 ed pr cl q => ?_
  cases r1 with
  | int i => cases r2 with
    | int j => cases ed; exact ⟨i, j, rfl, q _ H2 [] (.flat (.int _) pr cl fun z => by cases z)⟩
    | _ => cases ed
  | _ => cases d2 <;> cases ed
theorem rmax2 {xa xb : Expr} {a b : E} {p pos : Pos} (hc : X.calm = true) (ha : PE X xa (tE X C (ZX X) a)) (hb : PE X xb (tE X C (ZX X) b)) (hm : X.mg "max" = none) (hg : Gl X "max" := by rfl) (h1 : starEach [xa, xb] X.env = (false, eval xa X.env) :: starEach [xb] X.env := by rfl) (h2 : starEach [xb] X.env = (false, eval xb X.env) :: starEach [] X.env := by rfl) (hpl : (backTo pos (starEach [xb] X.env)).any (·.1) = false := by rfl) :
    PE X (.Call (.Name "max" p) [xa, xb] [] pos) (tE X C (ZX X) (.mm2 true a b)) := by
  refine (pe_callB (call_max2 hc) hg hm PyProof.Rows.boot_max (pa_cons ha (pa_cons hb pa_nil h2) h1) (he := h1) (hpl := hpl)).weak fun σ H Q h => ?_
  refine two_tr (g := mm2E true) (fun ρ => by rw [evE]) h fun At ρ fp H v1 v2 d1 d2 S1 S2 H2 n2 d r1 r2 ed pr cl q => ?_
  cases r1 with
  | int i => cases r2 with
    | int j => cases ed; exact ⟨i, j, rfl, q _ H2 [] (.flat (.int _) pr cl fun z => by cases z)⟩
    | _ => cases ed
  | _ => cases d2 <;> cases ed
/-- xs[::-1] -/
theorem rrev {xa : Expr} {a : E} {k : Nat} {p1 p2 p3 pos : Pos} (ha : PE X xa (tE X C (ZX X) a)) : PE X (.Subscript xa (.Slice none none (some (.UnaryOp .USub (.Constant (.int 1) k p1) p2)) p3) pos) (tE X C (ZX X) (.rev a)) := by
  refine (pe_revA' ha).weak fun σ H Q h => ?_
  obtain ⟨H0, A0, At, n, ρ, fp, rl, h⟩ := h
  rw [evE, out_bind] at h
  refine ⟨H0, A0, At, n, ρ, fp, rl, h.imp (fun d1 n1 q v1 H1 S1 p => ?_) fun _ _ z => z⟩
  rw [out_lft] at q
  obtain ⟨d, ed, q⟩ := q
  cases d1 with
  | list ds =>
    cases ed
    have go : ∀ {S : List Addr}, RepX X H1 v1 (.list ds) S → ∃ a vs T, v1 = .ref a ∧ S = a :: T ∧ Rd H1 a (.lst vs) ∧ RepLX X H1 vs ds T := by
      intro S r
      cases r with
      | lst h r => exact ⟨_, _, _, rfl, rfl, h, r⟩
    obtain ⟨c, vs, T, ev, eS, hr, rr⟩ := go p.rep
    refine .inl ⟨c, vs, ev, .inl hr, fun l hl => ?_⟩
    obtain ⟨U, r2, sub⟩ := rr.reverse
    have sm := same_upd (o := .lst vs.reverse) hl
    refine q _ _ (l :: U) (.mk' (.lst (.inl (by rw [upd_same])) (RepL.same r2 sm)) (p.pres.trans (.same sm)) (p.cell.same sm) rfl (fun b hb => ?_) fun z => by cases z)
    rcases List.mem_cons.mp hb with e | m
    · exact .inl (p.pres.trk b (by rw [e]; exact hl))
    · exact p.elem b (by rw [eS]; exact sub b m)
  | tuple ds =>
    cases ed
    have go : ∀ {S : List Addr}, RepX X H1 v1 (.tuple ds) S → ∃ a vs, v1 = .ref a ∧ SqT X.K H1 a vs ∧ RepLX X H1 vs ds S := by
      intro S r
      cases r with
      | tup h r => exact ⟨_, _, rfl, h, r⟩
    obtain ⟨c, vs, ev, hr, rr⟩ := go p.rep
    refine .inr (.inl ⟨c, vs, ev, hr, fun l hl => ?_⟩)
    obtain ⟨U, r2, sub⟩ := rr.reverse
    have sm := same_upd (o := .tup vs.reverse) hl
    exact q _ _ U (.mk' (.tup (.inl (.inl (by rw [upd_same]))) (RepL.same r2 sm)) (p.pres.trans (.same sm)) (p.cell.same sm) rfl (fun b hb => p.elem b (sub b hb)) fun z => by cases z)
  | str z =>
    cases ed
    have go : ∀ {S : List Addr}, RepX X H1 v1 (.str z) S → v1 = .str z ∧ TxtOk z := by
      intro S r
      cases r with
      | str _ h => exact ⟨rfl, h⟩
    obtain ⟨ev, hz⟩ := go p.rep
    exact .inr (.inr ⟨z, ev, hz.1, q _ H1 [] (.flat (.str _ (txt_rev hz)) p.pres p.cell fun z => by cases z)⟩)
  | _ => cases ed
/-- {} -/
theorem rdct0 {pos : Pos} : PE X (.Dict [] [] pos) (tE X C (ZX X) (.dct [])) := by
  refine pe_dnewK.weak fun σ H Q h => ?_
  obtain ⟨H0, A0, At, n, ρ, fp, rl, h⟩ := h
  rw [evE, out_bind] at h
  replace h := out_noX h
  rw [evEs, out_pure, out_lft] at h
  obtain ⟨d, ed, q⟩ := h
  cases ed
  intro l hl
  have sm := same_upd (o := .dK []) hl
  have r0 : RepX X (upd H l (.dK [])) (.ref l) (.dict []) [l] := Rep.dk (es := []) (kvs := []) (.inl (by rw [upd_same])) rfl (fun kv h => by cases h) (by simp) .nil
  have w0 : Wr (upd H l (.dK []) l) := .inr (.inl ⟨[], by rw [upd_same]⟩)
  refine q _ _ [l] (.mk' r0 (.same sm) (rl.cell.same sm) rfl (fun b hb => ?_) fun _ _ => ⟨l, [], rfl, rfl, hl, (fun h => by cases h), w0⟩)
  rcases List.mem_cons.mp hb with e | m
  · exact .inl (by rw [e]; exact hl)
  · cases m
theorem rpar2 (i j : Nat) {x y : Str} {xa xb : Expr} {a b : E} {px py pt pos : Pos} {kt k2 pt2} (hc : X.calm = true) (hN : X.N.Nodup) (ha : PE X xa (tE X C (ZX X) a)) (hb : PE X xb (tE X C (ZX X) b)) (hi : X.N[i]? = some x := by rfl) (hj : X.N[j]? = some y := by rfl) (hij : i ≠ j := by decide) (hx : X.env.scope.names.lookup x = some .local := by rfl) (hy : X.env.scope.names.lookup y = some .local := by rfl)
    (h1 : starEach [xa, xb] X.env = (false, eval xa X.env) :: starEach [xb] X.env := by rfl) (h2 : starEach [xb] X.env = (false, eval xb X.env) :: starEach [] X.env := by rfl)
    (hw : swappedStores [.Tuple [.Name x px, .Name y py] kt pt] (.Tuple [xa, xb] k2 pt2) X.env = pure (some [x, y]) := by rfl) (hs : swapsWithSole [.Tuple [.Name x px, .Name y py] kt pt] (.Tuple [xa, xb] k2 pt2) pos.line X.env = pure false := by rfl) :
    PS X (.Assign [.Tuple [.Name x px, .Name y py] kt pt] (.Tuple [xa, xb] k2 pt2) pos) (tS X C (.par [i, j] [a, b])) := x_par2 hc hN hi hj hij hx hy ha hb h1 h2 hw hs
theorem rany {xa : Expr} {e : E} {p pos : Pos} (hc : X.calm = true) (hv : bootBuiltins "any" = some (.builtin "any")) (he : PE X xa (tE X C (ZX X) e)) (hm : X.mg "any" = none) (hg : Gl X "any" := by rfl) (hs : starEach [xa] X.env = (false, eval xa X.env) :: starEach [] X.env := by rfl) (hpl : (backTo pos (starEach [] X.env)).any (·.1) = false := by rfl) :
    PE X (.Call (.Name "any" p) [xa] [] pos) (tE X C (ZX X) (.b1 .any (.of e))) := se_b1 (fun r t h ha => pe_callB h hg hm hv ha (he := hs) (hpl := hpl)) (v_any hc) he hs
theorem rsum {xa : Expr} {e : E} {p pos : Pos} (hc : X.calm = true) (hv : bootBuiltins "sum" = some (.builtin "sum")) (he : PE X xa (tE X C (ZX X) e)) (hm : X.mg "sum" = none) (hg : Gl X "sum" := by rfl) (hs : starEach [xa] X.env = (false, eval xa X.env) :: starEach [] X.env := by rfl) (hpl : (backTo pos (starEach [] X.env)).any (·.1) = false := by rfl) :
    PE X (.Call (.Name "sum" p) [xa] [] pos) (tE X C (ZX X) (.b1 .sum (.of e))) := se_b1 (fun r t h ha => pe_callB h hg hm hv ha (he := hs) (hpl := hpl)) (v_sum hc) he hs
end
end MP

/-! MPX2: join, dict displays. -/
namespace MP
open PySem PySem.Spec L2
open PyProof.Rows hiding St
section
variable {X : Cx} {C : Cxt}
theorem strs_of {H : Hp} : ∀ {vs : List V} {ds : List D} {S : List Addr} {bs : List Str}, RepLX X H vs ds S → asStrs ds = some bs → vs = bs.map V.str
  | _, _, _, _, .nil, h => by cases h; rfl
  | _, _, _, bs, .cons (d := d) (ds := ds) r rs, h => by
    cases r with
    | str b _ =>
      have h : (asStrs ds >>= fun r => some (b :: r)) = some bs := h
      cases q : asStrs ds with
      | none => rw [q] at h; cases h
      | some cs =>
        rw [q] at h
        cases h
        rw [strs_of rs q]; rfl
    | _ => cases h
theorem rjoin {o xa : Expr} {r a : E} {apos pos : Pos} (ho : PE X o (tE X C (ZX X) r)) (ha : PE X xa (tE X C (ZX X) a)) (hs : starEach [xa] X.env = [(false, eval xa X.env)] := by rfl) (hbase : attributeBase o "join" X.env (eval o X.env) = eval o X.env := by rfl) (hline : (apos.endLine == pos.line) = true := by rfl) :
    PE X (.Call (.Attribute o "join" apos) [xa] [] pos) (tE X C (ZX X) (.me1 .join r a)) := by
  refine (pe_join ho ha hs hbase hline).weak fun σ H Q h => ?_
  obtain ⟨H0, A0, At, n, ρ, fp, rl, h⟩ := h
  rw [evE, out_bind] at h
  refine ⟨H0, A0, At, n, ρ, fp, rl, h.imp (fun d1 n1 q x H1 S1 p1 => ?_) fun _ _ z => z⟩
  rw [out_bind] at q
  replace q := out_noX q
  have hx : ∃ s, d1 = .str s := out_exists q fun d2 n2 q2 => by
    rw [out_lft] at q2
    obtain ⟨d, e, _⟩ := q2
    cases d1 with
    | str s => exact ⟨s, rfl⟩
    | _ => cases d2 <;> cases e
  obtain ⟨s0, rfl⟩ := hx
  have ex : x = .str s0 := by cases p1.rep; rfl
  refine ⟨⟨s0, ex⟩, H0, A0, At, n1, ρ, fp, rl.next p1.pres p1.cell, q.imp (fun d2 n2 q2 y H2 S2 p2 => ?_) fun _ _ z => z.elim⟩
  rw [out_lft] at q2
  obtain ⟨d, e, q2⟩ := q2
  have fin : ∀ ts : List Str, joinE s0 ts = some d → (ts.map (·.length)).sum + ts.length * s0.length ≤ 16777216 ∧ Q (.str (Txt.join s0 ts)) H2 := fun ts e => by
    obtain ⟨e1, e2⟩ := lftIf_some e
    rw [Bool.and_eq_true, Bool.and_eq_true] at e1
    obtain ⟨⟨f1, f2⟩, f3⟩ := e1
    have f1 := fits_le f1
    have f2 := fits_le f2
    rw [sizeLine_eq] at f1
    refine ⟨by omega, ?_⟩
    rw [TL.join_eq]
    rw [← e2] at q2
    exact q2 _ H2 [] (.flat (.str _ ⟨f2, f3⟩) (p1.pres.trans p2.pres) p2.cell fun z => by cases z)
  cases d2 with
  | list ds =>
    have e : (asStrs ds >>= fun ts => joinE s0 ts) = some d := e
    obtain ⟨ts, e1, e2⟩ := bind_some e
    have go : ∀ {S : List Addr}, RepX X H2 y (.list ds) S → ∃ c, y = .ref c ∧ SqL X.K H2 c (ts.map V.str) := by
      intro S r
      cases r with
      | lst h r => exact ⟨_, rfl, by rw [← strs_of r e1]; exact .inl h⟩
    obtain ⟨c, ey, hq⟩ := go p2.rep
    obtain ⟨f1, f2⟩ := fin ts e2
    exact ⟨s0, c, ts, ex, by rw [ey], .inl hq, f1, f2⟩
  | tuple ds =>
    have e : (asStrs ds >>= fun ts => joinE s0 ts) = some d := e
    obtain ⟨ts, e1, e2⟩ := bind_some e
    have go : ∀ {S : List Addr}, RepX X H2 y (.tuple ds) S → ∃ c, y = .ref c ∧ SqT X.K H2 c (ts.map V.str) := by
      intro S r
      cases r with
      | tup h r => exact ⟨_, rfl, by rw [← strs_of r e1]; exact h⟩
    obtain ⟨c, ey, hq⟩ := go p2.rep
    obtain ⟨f1, f2⟩ := fin ts e2
    exact ⟨s0, c, ts, ex, by rw [ey], .inr hq, f1, f2⟩
  | _ => cases e
/-- a constant of the module that is a tuple: the head tells it -/
theorem rgdat {x : Str} {d : D} {pos : Pos} (h : ∃ a, X.mg x = some (.ref a) ∧ ∀ H, RepX X H (.ref a) d []) (hc : isCont d = false := by rfl) (hg : Gl X x := by rfl) (hd : (x == ("__debug__" : Str)) = false := by rfl) : PE X (.Name x pos) (tE X C (ZX X) (.cst d)) := by
  obtain ⟨a, hm, r⟩ := h
  exact se_cst (pe_glob (v := .ref a) hg hm rfl hd) r hc
end
end MP

/-! MPDct: dict displays. -/
namespace MP
open PySem PySem.Spec L2
open PyProof.Rows hiding St
section
variable {X : Cx} {C : Cxt}
/-- pairs that are to be stored in the dict at a -/
inductive PrsR (X : Cx) (H : Hp) (a : Addr) (F : Addr → Prop) : List (Value × Value) → List (D × D) → Prop
  | nil : PrsR X H a F [] []
  | cons {y v : V} {u r : Value} {k d : D} {T U : List Addr} {vs : List (Value × Value)} {ps : List (D × D)} : RelV y u → RelV v r → RepX X H y k T → RepX X H v d U → a ∉ T → a ∉ U → (∀ c ∈ U, F c) → PrsR X H a F vs ps → PrsR X H a F ((u, r) :: vs) ((k, d) :: ps)
theorem PrsR.mono {H H' : Hp} {a : Addr} {F : Addr → Prop} (k : ∀ b o, H b = some o → ¬ (b = a) → H' b = some o) (w : WrO (H a)) {vs : List (Value × Value)} {ps : List (D × D)} (h : PrsR X H a F vs ps) : PrsR X H' a F vs ps := by
  induction h with
  | nil => exact .nil
  | cons r1 r2 r3 r4 n1 n2 f _ ih => exact .cons r1 r2 (Rep.mono (A := fun b => b = a) k (fun b e => e ▸ w) r3 fun b hb z => n1 (z ▸ hb)) (Rep.mono (A := fun b => b = a) k (fun b e => e ▸ w) r4 fun b hb z => n2 (z ▸ hb)) n1 n2 f ih
theorem dPut_cons {acc : List (D × D)} {k d : D} {more r : List (D × D)} (h : dPut acc ((k, d) :: more) = some r) : ∃ acc', dSet? acc k d = some acc' ∧ dPut acc' more = some r := by
  have h : (dSet? acc k d >>= fun x => dPut x more) = some r := h
  exact bind_some h
theorem store_all {A : Around} {E : Value → Shared → Prop} (hu : A.units + 200 < cLine) {pins : List (Addr × Obj)} {σ : L2.St} {a : Addr} {F : Addr → Prop} : ∀ {vs : List (Value × Value)} {more : List (D × D)} {acc r : List (D × D)} {T : List Addr} {s : Shared} {H : Hp} {Q : PUnit → Shared → Prop}, Inv X pins σ H s → Wr (H a) → RepX X H (.ref a) (.dict acc) (a :: T) → a ∉ T → (∀ c ∈ T, F c) → PrsR X H a F vs more → dPut acc more = some r →
    (∀ s' H' T', Inv X pins σ H' s' → (∀ b, b ≠ a → H' b = H b) → Wr (H' a) → RepX X H' (.ref a) (.dict r) (a :: T') → a ∉ T' → (∀ c ∈ T', F c) → Q PUnit.unit s') →
    wpAny (model X.prog X.w) A (forIn vs PUnit.unit fun (x : Value × Value) (_ : PUnit) => (do dictSet a x.1 x.2; pure (ForInStep.yield PUnit.unit) : Sem (ForInStep PUnit))) Q E s
  | [], _, acc, r, T, s, H, Q, I, w, rep, nT, fT, .nil, e, hQ => by
    rw [List.forIn_nil]
    cases e
    exact wpAny_pure (hQ s H T I (fun _ _ => rfl) w rep nT fT)
  | _ :: vs, _, acc, r, T, s, H, Q, I, w, rep, nT, fT, .cons (y := y) (v := v) (u := u) (r := q) (k := k) (d := d) (T := Tk) (U := U) (ps := ps) r1 r2 r3 r4 n1 n2 fU rest, e, hQ => by
    obtain ⟨acc', e1, e2⟩ := dPut_cons e
    obtain ⟨g1, g2⟩ := lftIf_some e1
    rw [Bool.and_eq_true, decide_eq_true_eq] at g1
    subst g2
    obtain ⟨ob, T', w', rep', sub, _, run⟩ := dict_put (A := A) (E := E) hu I w rep nT g1.1 g1.2 r3 r1 r4 r2 n2
    rw [List.forIn_cons]
    refine wpAny_bind (wpAny_bind (run _ fun s1 I1 => wpAny_pure ?_))
    have wO : WrO (H a) := by rcases w with ⟨_, q⟩ | ⟨_, q⟩ | ⟨_, q⟩ <;> (rw [q]; trivial)
    refine store_all hu I1 (by rw [upd_same]; exact w') rep' (fun m => (sub a m).elim nT n2) (fun c hc => (sub c hc).elim (fT c) (fU c)) (rest.mono (fun b o eb nb => by rw [upd_ne nb]; exact eb) wO) e2 fun s' H' T2 I2 same w2 rep2 nT2 fT2 => ?_
    exact hQ s' H' T2 I2 (fun b nb => by rw [same b nb, upd_ne nb]) w2 rep2 nT2 fT2
/-- the trees of a display's pairs -/
inductive PPs (X : Cx) (C : Cxt) : List (Option Expr) → List Expr → List E → Prop
  | nil : PPs X C [] [] []
  | cons {xk xv : Expr} {ek ev : E} {ks : List (Option Expr)} {xs : List Expr} {es : List E} : PE X xk (tE X C (ZX X) ek) → PE X xv (tE X C (ZX X) ev) → PPs X C ks xs es → PPs X C (some xk :: ks) (xv :: xs) (ek :: ev :: es)
theorem PPs.shape {ks : List (Option Expr)} {xs : List Expr} {es : List E} (h : PPs X C ks xs es) : ks.all (·.isSome) = true ∧ ks.length = xs.length ∧ es.length = 2 * ks.length := by
  induction h with
  | nil => exact ⟨rfl, rfl, rfl⟩
  | cons _ _ _ ih => exact ⟨by rw [List.all_cons, ih.1]; rfl, by rw [List.length_cons, List.length_cons, ih.2.1], by rw [List.length_cons, List.length_cons, List.length_cons, ih.2.2]; omega⟩
theorem pairs_run {pos : Pos} {a : Addr} {F : Addr → Prop} (hA : ∀ c, F c → c ≠ a) {ks : List (Option Expr)} {xs : List Expr} {es : List E} (pp : PPs X C ks xs es) : ∀ {pins : List (Addr × Obj)} {σ : L2.St} {s : Shared} {H H0 : Hp} {A0 : Addr → Prop} {At : Option Addr} {n : Option Int} {ρ : Ev} {fp : Nat → List Addr} {R : List D → Option Int → Prop} {Q : List (Value × Value) → Shared → Prop},
    Inv X pins σ H s → Rl X H0 A0 At n ρ fp σ H → Out (evEs C es ρ n) R NoX → (∀ c, H c = none ∨ Reach ρ fp (escL es) (alL es) c → F c) →
    (∀ vs s' H' n' ds kvs, Inv X pins σ H' s' → Pres At H H' → CellOk At n' H' → R ds n' → pairUp ds = some kvs → PrsR X H' a F vs kvs → Q vs s') → wpAny (model X.prog X.w) X.A (evalPairs (pairTrees ks xs X.env pos)) Q X.xe s := by
  induction pp with
  | nil =>
    intro pins σ s H H0 A0 At n ρ fp R Q I rl h hF hQ
    rw [evEs] at h
    exact evalPairs_nil (hQ [] s H n [] [] I .refl rl.cell h rfl .nil)
  | @cons xk xv ek ev ks xs es hk hv _ ih =>
    intro pins σ s H H0 A0 At n ρ fp R Q I rl h hF hQ
    rw [evEs, out_bind] at h
    refine evalPairs_cons (un1 (Z := ZX X) hk I rl (out_no h) fun u s1 y k T H1 n1 I1 ry one q => ?_)
    rw [out_bind, evEs, out_bind] at q
    refine wpAny_bind (un1 (Z := ZX X) hv I1 one.rl (out_no q) fun r s2 v d U H2 n2 I2 rv one2 q2 => wpAny_bind (wpAny_standAt (wpAny_pure ?_)))
    rw [out_bind] at q2
    have e1 : ∀ c ∈ T, F c := fun c hc => hF c ((one.p.from_ c hc).imp id fun z => z.mono (fun i hi => List.mem_append_left _ hi) fun i hi => List.mem_append_left _ hi)
    have e2 : ∀ c ∈ U, F c := fun c hc => hF c ((one2.p.from_ c hc).imp (one.p.pres.trk c) fun z => z.mono (fun i hi => List.mem_append_right _ (List.mem_append_left _ hi)) fun i hi => List.mem_append_right _ (List.mem_append_left _ hi))
    have q2' : Out (evEs C es ρ n2) (fun ds n' => R (k :: d :: ds) n') NoX := q2.imp (fun ds n' w => by rw [out_pure, out_pure] at w; exact w) fun _ _ z => z
    refine ih I2 one2.rl q2' (fun c hc => hF c ?_) fun vs s' H' n' ds kvs I3 pr c3 w pu rr => ?_
    · rcases hc with z | z
      · exact .inl (one.p.pres.trk c (one2.p.pres.trk c z))
      · exact .inr (z.mono (fun i hi => List.mem_append_right _ (List.mem_append_right _ hi)) fun i hi => List.mem_append_right _ (List.mem_append_right _ hi))
    · have rk : RepX X H' y k T := Rep.step (Rep.step one.p.rep one.p.cell one2.p.pres (rl.avoid one.p.from_)) one2.p.cell pr (rl.avoid one.p.from_)
      have rd : RepX X H' v d U := Rep.step one2.p.rep one2.p.cell pr (one.rl.avoid one2.p.from_)
      refine hQ _ s' H' n' _ ((k, d) :: kvs) I3 (one.p.pres.trans (one2.p.pres.trans pr)) c3 w ?_ (.cons ry rv rk rd (fun m => hA a (e1 a m) rfl) (fun m => hA a (e2 a m) rfl) e2 rr)
      show (pairUp ds >>= fun s => some ((k, d) :: s)) = _
      rw [pu]; rfl
/-- {k: v, ..} -/
theorem rdct {keys : List (Option Expr)} {values : List Expr} {pos : Pos} {es : List E} (hu : X.A.units + 200 < cLine) (pp : PPs X C keys values es) (he0 : es.isEmpty = false := by rfl) (hle : decide (es.length ≤ 30) = true := by rfl) : PE X (.Dict keys values pos) (tE X C (ZX X) (.dct es)) := by
  obtain ⟨l1, l2, l3⟩ := pp.shape
  have hle := of_decide_eq_true hle
  have hn := pairTrees_length keys values X.env pos l1 l2
  have hlen : (pairTrees keys values X.env pos).length ≤ 15 := by omega
  have h0 : pairTrees keys values X.env pos ≠ [] := fun z => by
    rw [z] at hn
    cases es with
    | nil => cases he0
    | cons _ _ => simp at l3; simp at hn; omega
  have hshape := zip_pairTrees keys values X.env pos l1 l2
  generalize hps : pairTrees keys values X.env pos = ps at hlen h0 hshape
  refine ⟨fun pins s σ H Q I h => ?_⟩
  obtain ⟨H0, A0, At, n, ρ, fp, rl, h⟩ := h
  rw [evE, out_bind] at h
  rw [arm_eval_Dict, hshape, dictDisplay_pairs ps h0 (by omega)]
  refine wpAny_bind (wpAny_standAt (wpAny_bind ?_))
  unfold subDict
  refine wpAny_bind (wpAny_alloc ?_)
  refine wpAny_bind (wpAny_holding ?_)
  rw [if_pos hlen]
  have hn : H s.heap.objs.size = none := I.hok.fresh (Nat.le_refl _)
  have I1 : Inv X pins σ (upd H s.heap.objs.size (.dK [])) { s with heap := s.heap.push { cls := .type "dict", data := .dict #[] } } :=
    I.laid (a := s.heap.objs.size) (o := .dK []) (t' := s.toks) (fun _ _ q => Heap.get?_push_of_some _ q) (Nat.le_refl _) (dk_empty s.heap I.big)
  generalize s.heap.objs.size = a at hn I1 ⊢
  have sm := same_upd (o := .dK []) hn
  have rl1 := rl.next (.same sm) (rl.cell.same sm)
  have hA : ∀ c, (H c = none ∧ c ≠ a) ∨ Reach ρ fp (escL es) (alL es) c → c ≠ a := fun c hc e => by
    subst e
    rcases hc with ⟨_, z⟩ | ⟨j, sj, dj, ej, _, mj, _⟩
    · exact z rfl
    · exact fp_trk rl ej mj hn
  rw [← hps]
  refine wpAny_bind (pairs_run (pos := pos) (R := fun ds n' => Out (lft (do let ps ← pairUp ds; let r ← dPut [] ps; some (.dict r)) n') (fun d n' => ∀ v H' S, Post X At ρ fp (.dct es) H v d S H' n' → Q v H') (ZX X At H)) hA pp I1 rl1 (out_noX h) (fun c hc => ?_) fun vs s1 H1 n1 ds kvs I2 pr cl q pu rr => ?_)
  · rcases hc with z | z
    · by_cases e : c = a
      · rw [e, upd_same] at z; cases z
      · rw [upd_ne e] at z; exact .inl ⟨z, e⟩
    · exact .inr z
  rw [out_lft] at q
  obtain ⟨d, e, q⟩ := q
  rw [pu] at e
  have e : (dPut [] kvs >>= fun r => some (PyData.dict r)) = some d := e
  obtain ⟨r, e1, e2⟩ := bind_some e
  cases e2
  have na : At ≠ some a := none_ne_at rl.cell hn
  have h1 : H1 a = some (.dK []) := pr.keep a _ (by rw [upd_same]) na
  have r0 : RepX X H1 (.ref a) (.dict []) [a] := Rep.dk (es := []) (kvs := []) (.inl h1) rfl (fun kv h => by cases h) (by simp) .nil
  refine wpAny_holding ?_
  refine wpAny_bind (store_all hu I2 (.inr (.inl ⟨_, h1⟩)) r0 (fun h => by cases h) (fun c h => by cases h) rr e1 fun s2 H2 T I3 same w2 rep nT fT => wpAny_pure (wpAny_pure (wpAny_pure ?_)))
  have prH : Pres At H H2 := by
    have p1 : Pres At H H1 := (Pres.same sm).trans pr
    refine ⟨fun b o eb nb => ?_, fun b eb => ?_⟩
    · have ne : b ≠ a := fun z => by rw [z, hn] at eb; cases eb
      rw [same b ne]; exact p1.keep b o eb nb
    · by_cases z : b = a
      · rw [z]; exact hn
      · rw [same b z] at eb; exact p1.trk b eb
  have c2 : CellOk At n1 H2 := by
    unfold CellOk at cl ⊢
    cases At with
    | none => cases n1 with
      | none => trivial
      | some _ => exact cl.elim
    | some b => cases n1 with
      | none => exact cl
      | some k =>
        show H2 b = _
        rw [same b (fun z => na (by rw [z]))]; exact cl
  refine ⟨.ref a, H2, I3, rfl, q (.ref a) H2 (a :: T) (.mk' rep prH c2 rfl (fun c hc => ?_) fun _ _ => ⟨a, T, rfl, rfl, hn, nT, w2⟩)⟩
  rcases List.mem_cons.mp hc with e | m
  · exact .inl (by rw [e]; exact hn)
  · rcases fT c m with z | z
    · exact .inl z.1
    · exact .inr z
end
end MP

/-! MPSort: sorted of a list. -/
namespace MP
open PySem PySem.Spec L2
open PyProof.Rows hiding St
theorem allAlike_all : ∀ {xs : List D}, allAlike xs = true → PySem.W.AllAlike xs ∧ ∀ d ∈ xs, dNoDict d = true
  | [], _ => ⟨(fun d h => by cases h), (fun d h => by cases h)⟩
  | x :: xs, h => by
    simp only [allAlike, Bool.and_eq_true, List.all_eq_true] at h
    obtain ⟨⟨⟨h1, h2⟩, h3⟩, h4⟩ := h
    obtain ⟨i1, i2⟩ := allAlike_all h4
    refine ⟨fun d hd d' hd' => ?_, fun d hd => ?_⟩
    · rcases List.mem_cons.mp hd with e1 | m1
      · rcases List.mem_cons.mp hd' with e2 | m2
        · rw [e1, e2]; exact h1
        · rw [e1]; exact h2 d' m2
      · rcases List.mem_cons.mp hd' with e2 | m2
        · rw [e2, PySem.W.alike_comm]; exact h2 d m1
        · exact i1 d m1 d' m2
    · rcases List.mem_cons.mp hd with e1 | m1
      · rw [e1]; exact h3
      · exact i2 d m1
theorem sortOk_all {xs : List D} (h : sortOk xs = true) : PySem.W.AllAlike xs ∧ (∀ d ∈ xs, dNoDict d = true) ∧ PySem.W.Sortable xs := by
  unfold sortOk at h
  rw [Bool.and_eq_true, Bool.or_eq_true, List.all_eq_true, List.all_eq_true] at h
  obtain ⟨i1, i2⟩ := allAlike_all h.1
  refine ⟨i1, i2, h.2.imp (fun q d hd => ?_) fun q d hd => ?_⟩
  · have z := q d hd
    split at z
    · exact ⟨_, _, rfl⟩
    · cases z
  · have z := q d hd
    refine ⟨fun w => ?_, fun ys w => ?_⟩
    · subst w; cases z
    · subst w; cases z
section
variable {X : Cx} {C : Cxt}
theorem each_of {H : Hp} {h : Heap} {F : Addr → Prop} (rd : ∀ {v : V} {d : D} {S : List Addr} {u : Value}, RepX X H v d S → RelV v u → Reads h u d S) : ∀ {vs : List V} {ds : List D} {S : List Addr} {us : List Value}, RepLX X H vs ds S → Vals vs us → (∀ c ∈ S, F c) →
    PySem.W.EachIs (fun u d => ∃ y T, RelV y u ∧ RepX X H y d T ∧ ∀ c ∈ T, F c) us ds ∧ PySem.W.EachIs (fun v b => ∃ as, Reads h v b as) us ds
  | _, _, _, _, .nil, .nil, _ => ⟨.nil, .nil⟩
  | _, _, _, _, .cons r rs, .cons q qs, hF => by
    obtain ⟨i1, i2⟩ := each_of rd rs qs fun c hc => hF c (List.mem_append_right _ hc)
    exact ⟨.cons ⟨_, _, q, r, fun c hc => hF c (List.mem_append_left _ hc)⟩ i1, .cons ⟨_, rd r q⟩ i2⟩
theorem of_each {H : Hp} {F : Addr → Prop} {us : List Value} {ds : List D} (h : PySem.W.EachIs (fun u d => ∃ y T, RelV y u ∧ RepX X H y d T ∧ ∀ c ∈ T, F c) us ds) : ∃ ys T, Vals ys us ∧ RepLX X H ys ds T ∧ ∀ c ∈ T, F c := by
  induction h with
  | nil => exact ⟨[], [], .nil, .nil, fun _ h => nomatch h⟩
  | cons r _ ih =>
    obtain ⟨y, T, q, rr, f⟩ := r
    obtain ⟨ys, U, qs, rs, fs⟩ := ih
    exact ⟨y :: ys, T ++ U, .cons q qs, .cons rr rs, fun c hc => (List.mem_append.mp hc).elim (f c) (fs c)⟩
theorem ints_keys : ∀ {kvs : List (D × D)}, (kvs.all fun kv => isIntD kv.1) = true → ∃ ks : List Int, kvs.map (·.1) = ks.map PyData.int ∧ kvs.map (fun kv => lkey kv.1) = ks.map (fun i => some (Sum.inl i)) ∧ ks.length = kvs.length
  | [], _ => ⟨[], rfl, rfl, rfl⟩
  | kv :: kvs, h => by
    rw [List.all_cons, Bool.and_eq_true] at h
    obtain ⟨ks, e1, e2, e3⟩ := ints_keys h.2
    obtain ⟨k, v⟩ := kv
    cases k with
    | int i => exact ⟨i :: ks, by rw [List.map_cons, List.map_cons, e1], by rw [List.map_cons, List.map_cons, e2]; rfl, by rw [List.length_cons, List.length_cons, e3]⟩
    | _ => cases h.1
theorem lt_int {i j : Int} (h : i < j) : PySem.W.dataLt (.int i) (.int j) = true := by
  unfold PySem.W.dataLt
  simp only [PySem.W.keyToks, PyProof.Rows.lexLt]
  rw [show PyProof.Rows.itemLt (Sum.inl i) (Sum.inl j) = true from decide_eq_true h]; rfl
theorem ints_strict {ys : List Int} (h : ys.Pairwise (· ≤ ·)) (n : ys.Nodup) : (ys.map PyData.int).Pairwise fun a b => PySem.W.dataLt a b = true := by
  rw [List.pairwise_map]
  exact (h.and n).imp fun ⟨a, b⟩ => lt_int (by omega)
theorem repl_ints {H : Hp} : ∀ ys : List Int, RepLX X H (ys.map V.int) (ys.map PyData.int) []
  | [] => .nil
  | y :: ys => .cons (S := []) (T := []) (.int y) (repl_ints ys)
theorem strs_keys : ∀ {kvs : List (D × D)}, (kvs.all fun kv => isStrD kv.1) = true → ∃ ks : List Str, kvs.map (·.1) = ks.map PyData.str ∧ kvs.map (fun kv => lkey kv.1) = ks.map (fun i => some (Sum.inr i)) ∧ ks.length = kvs.length
  | [], _ => ⟨[], rfl, rfl, rfl⟩
  | kv :: kvs, h => by
    rw [List.all_cons, Bool.and_eq_true] at h
    obtain ⟨ks, e1, e2, e3⟩ := strs_keys h.2
    obtain ⟨k, v⟩ := kv
    cases k with
    | str i => exact ⟨i :: ks, by rw [List.map_cons, List.map_cons, e1], by rw [List.map_cons, List.map_cons, e2]; rfl, by rw [List.length_cons, List.length_cons, e3]⟩
    | _ => cases h.1
theorem rising_pw : ∀ (l : List Str) (p : Str), risingS p l = true → (p :: l).Pairwise fun a b => ¬ b.cps.toList < a.cps.toList
  | [], p, _ => by simp
  | x :: r, p, h => by
    have h : (!PySem.Spec.ltCps x.cps.toList p.cps.toList && risingS x r) = true := h
    rw [Bool.and_eq_true, ltCps_eq] at h
    have ih := rising_pw r x h.2
    have h1 : ¬ x.cps.toList < p.cps.toList := by simpa using h.1
    refine List.pairwise_cons.mpr ⟨fun b hb => ?_, ih⟩
    rcases List.mem_cons.mp hb with rfl | hb
    · exact h1
    · have h2 := (List.pairwise_cons.mp ih).1 b hb
      intro z
      have e1 : p.cps.toList ≤ x.cps.toList := List.not_lt.mp h1
      have e2 : x.cps.toList ≤ b.cps.toList := List.not_lt.mp h2
      exact (List.not_lt.mpr (List.le_trans e1 e2)) z
theorem lt_str {a b : Str} (h : a.cps.toList < b.cps.toList) : PySem.W.dataLt (.str a) (.str b) = true := by
  unfold PySem.W.dataLt
  simp only [PySem.W.keyToks, PyProof.Rows.lexLt]
  rw [show PyProof.Rows.itemLt (Sum.inr a.cps.toList) (Sum.inr b.cps.toList) = true from decide_eq_true h]; rfl
theorem strs_strict {ys : List Str} (h : sortedS ys = true) (n : ys.Nodup) : (ys.map PyData.str).Pairwise fun a b => PySem.W.dataLt a b = true := by
  cases ys with
  | nil => exact .nil
  | cons x r =>
    have h := rising_pw r x h
    rw [List.pairwise_map]
    refine (h.and n).imp fun {a b} ⟨q, ne⟩ => lt_str ?_
    have e1 : a.cps.toList ≤ b.cps.toList := List.not_lt.mp q
    rcases Classical.em (a.cps.toList < b.cps.toList) with z | z
    · exact z
    · have e2 : b.cps.toList ≤ a.cps.toList := List.not_lt.mp z
      refine absurd ?_ ne
      have e := List.le_antisymm e1 e2
      obtain ⟨⟨a⟩⟩ := a
      obtain ⟨⟨b⟩⟩ := b
      have e : a = b := e
      rw [e]
theorem repl_strD {H : Hp} : ∀ ys : List Str, (∀ y ∈ ys, TxtOk y) → RepLX X H (ys.map V.str) (ys.map PyData.str) []
  | [], _ => .nil
  | y :: ys, h => .cons (S := []) (T := []) (.str y (h y List.mem_cons_self)) (repl_strD ys fun z hz => h z (List.mem_cons_of_mem _ hz))
theorem v_sorted {e : E} (hc : X.calm = true) (hu : X.A.units + 200 < cLine) : CallR X (.builtin "sorted") (rV1 X (b1S .sorted e)) := by
  intro pins s σ H xs us Q I r h
  obtain ⟨x, dx, d, S, rfl, rep, h, q⟩ := h
  obtain ⟨so, ys, e1, e2⟩ := b1S_some h
  obtain ⟨e3, e4⟩ := lftIf_some e2
  rw [Bool.and_eq_true] at e3
  obtain ⟨al, nd, sb⟩ := sortOk_all e3.1
  have fl := fits_le e3.2
  cases rep with
  | @lst a vs ds T hr rr =>
    cases e1; cases e4
    obtain ⟨its, rv, hl, hz⟩ := I.list (.inl hr)
    rw [Vals.ref1 r]
    obtain ⟨E1, E2⟩ := each_of (X := X) (F := fun c => c ∈ T) (fun {v d S u} rr ru => Rep.reads I rr ru) rr rv fun c hc => hc
    refine PySem.W.sorted_data (bs := ys) (enc := fun d => d) hl.isList E1 E2 (by rw [List.map_id']; exact al) (by rw [List.map_id']; exact sb) fl (fun b hb => ?_) fun out ho eo => ?_
    · have z := nd b hb
      simp only [dNoDict, Bool.and_eq_true, decide_eq_true_eq] at z
      omega
    · obtain ⟨zs, U, rz, rrz, fz⟩ := of_each eo
      obtain ⟨ep, he'⟩ := PyProof.Rows.sortedAll_at s.heap its out.toArray
      have hlen : zs.length ≤ sizeLine := by rw [rz.length, ho]; exact fl
      have hn : H (s.heap.objs.size + 1) = none := I.hok.fresh (Nat.le_succ _)
      have sm := same_upd (o := .lst zs) hn
      refine ⟨.ref _, upd H (s.heap.objs.size + 1) (.lst zs), I.laid (t' := s.toks) (fun _ _ => PyProof.Rows.sortedAll_old) (Nat.le_succ _) ⟨hlen, out, ep, rz, he'⟩, rfl, ?_⟩
      refine q _ _ ((s.heap.objs.size + 1) :: U) sm (.lst (.inl (by rw [upd_same])) (RepL.same rrz sm)) (fun c hc => ?_) fun _ => ⟨_, U, rfl, rfl, hn, fun m => RepL.tracked rrz _ m hn, .inl ⟨_, by rw [upd_same]⟩⟩
      rcases List.mem_cons.mp hc with e | m
      · exact .inl (by rw [e]; exact hn)
      · exact .inr (fz c m)
  | @dk a es kvs T hd ek tx nde rr =>
    have so : (decide (kvs.length < 64) && ((kvs.all fun kv => isIntD kv.1) || (kvs.all fun kv => isStrD kv.1))) = true := so
    rw [Bool.and_eq_true, decide_eq_true_eq, Bool.or_eq_true] at so
    cases e1; cases e4
    rcases so with ⟨so1, so2 | so2⟩
    · obtain ⟨ks, k1, k2, k3⟩ := ints_keys so2
      have hk : es.map (·.1) = ks.map Sum.inl := by
        have h := ek.symm.trans k2
        have h : (es.map (·.1)).map some = (ks.map (Sum.inl : Int → Key)).map some := by rw [List.map_map, List.map_map]; exact h
        exact List.map_inj_right (fun _ _ h => Option.some.inj h) |>.mp h
      have kn : ks.Nodup := by
        rw [hk] at nde
        exact List.Pairwise.of_map _ (fun a b h z => h (congrArg _ z)) nde
      refine call_sortedDI hc pins s σ H _ us Q I r ⟨a, es, ks, rfl, hd, hk, by omega, fun ys p hp pw hn => ?_⟩
      have es' : ((kvs.map (·.1)).mergeSort (PySem.W.dataLe false fun d => d)) = ys.map PyData.int := by
        rw [k1]
        exact sort_eq (hp.symm.map _) (ints_strict pw (hp.symm.nodup kn))
      rw [es'] at q
      refine q _ _ [p] (same_upd hn) (.lst (.inl (by rw [upd_same])) (repl_ints ys)) (fun c hc => ?_) fun _ => ⟨_, [], rfl, rfl, hn, (fun h => nomatch h), .inl ⟨_, by rw [upd_same]⟩⟩
      rw [List.mem_singleton.mp hc]; exact .inl hn
    · obtain ⟨ks, k1, k2, k3⟩ := strs_keys so2
      have hk : es.map (·.1) = ks.map Sum.inr := by
        have h := ek.symm.trans k2
        have h : (es.map (·.1)).map some = (ks.map (Sum.inr : Str → Key)).map some := by rw [List.map_map, List.map_map]; exact h
        exact List.map_inj_right (fun _ _ h => Option.some.inj h) |>.mp h
      have kn : ks.Nodup := by
        rw [hk] at nde
        exact List.Pairwise.of_map _ (fun a b h z => h (congrArg _ z)) nde
      have kt : ∀ y ∈ ks, TxtOk y := fun y hy => by
        have m : PyData.str y ∈ kvs.map (·.1) := by rw [k1]; exact List.mem_map.mpr ⟨y, hy, rfl⟩
        obtain ⟨kv, h1, h2⟩ := List.mem_map.mp m
        exact tx kv h1 y h2
      refine call_sortedD hc pins s σ H _ us Q I r ⟨a, es, ks, rfl, hd, hk, by omega, fun ys p hp pw hn => ?_⟩
      have es' : ((kvs.map (·.1)).mergeSort (PySem.W.dataLe false fun d => d)) = ys.map PyData.str := by
        rw [k1]
        exact sort_eq (hp.symm.map _) (strs_strict pw (hp.symm.nodup kn))
      rw [es'] at q
      refine q _ _ [p] (same_upd hn) (.lst (.inl (by rw [upd_same])) (repl_strD ys fun y hy => kt y (hp.mem_iff.mp hy))) (fun c hc => ?_) fun _ => ⟨_, [], rfl, rfl, hn, (fun h => nomatch h), .inl ⟨_, by rw [upd_same]⟩⟩
      rw [List.mem_singleton.mp hc]; exact .inl hn
  | @dt a xs vs kvs T h9 z9 l9 rk9 e9 n9 q9 rv9 rr9 =>
    have so : (decide (kvs.length < 64) && ((kvs.all fun kv => isIntD kv.1) || (kvs.all fun kv => isStrD kv.1))) = true := so
    rw [Bool.and_eq_true, Bool.or_eq_true] at so
    cases kvs with
    | nil => exact absurd rfl l9.1
    | cons kv kvs =>
      have h1 := (q9 kv List.mem_cons_self).2.1
      have h2 : (isIntD kv.1 || isStrD kv.1) = true := by
        rcases so.2 with z | z
        · rw [List.all_cons, Bool.and_eq_true] at z; rw [z.1, Bool.true_or]
        · rw [List.all_cons, Bool.and_eq_true] at z; rw [z.1, Bool.or_true]
      obtain ⟨k, v⟩ := kv
      cases k <;> first | exact (Bool.false_ne_true h1).elim | exact (Bool.false_ne_true h2).elim
  | _ => cases so
theorem rsorted {xa : Expr} {e : E} {p pos : Pos} (hc : X.calm = true) (hu : X.A.units + 200 < cLine) (he : PE X xa (tE X C (ZX X) e)) (hm : X.mg "sorted" = none) (hg : Gl X "sorted" := by rfl) (hs : starEach [xa] X.env = (false, eval xa X.env) :: starEach [] X.env := by rfl) (hpl : (backTo pos (starEach [] X.env)).any (·.1) = false := by rfl) :
    PE X (.Call (.Name "sorted" p) [xa] [] pos) (tE X C (ZX X) (.b1 .sorted (.of e))) := se_b1 (fun r t h ha => pe_callB h hg hm PyProof.Rows.boot_sorted ha (he := hs) (hpl := hpl)) (v_sorted hc hu) he hs
end
end MP

/-! MPPop: t = xs.pop(). -/
namespace MP
open PySem PySem.Spec L2
open PyProof.Rows hiding St
/-- o.m() of a built-in: what must be seen of the text -/
structure M0 (X : Cx) (o : Expr) (m : Str) (apos : Pos) (cpos : Pos) : Prop where
  base : attributeBase o m X.env (eval o X.env) = eval o X.env
  few : ((backTo cpos (starEach [] X.env)).all (fun x => !x.1) && (backToKw cpos (keywordEach [] X.env)).all (fun x => x.1.isSome)
    && decide (([] : List Expr).length + ([] : List Keyword).length + (if ([] : List Keyword).isEmpty then 0 else 1) < 30)) = true
  line : (apos.endLine == cpos.line) = true
section
variable {X : Cx} {C : Cxt}
theorem pe_pop {i : Nat} {x : Str} {p apos cpos : Pos} (hN : X.N[i]? = some x) (hv : Vis X.env.scope x) (hd : (x == ("__debug__" : Str)) = false) (hcd : (x == ("__classdict__" : Str)) = false) (m : M0 X (.Name x p) "pop" apos cpos) :
    PE X (.Call (.Attribute (.Name x p) "pop" apos) [] [] cpos) (fun σ H Q => ∃ a vs v, σ[i]? = some (some (.ref a)) ∧ H a = some (.lst vs) ∧ vs[vs.length - 1]? = some v ∧ Q v (upd H a (.lst vs.dropLast))) := by
  refine ⟨fun pins s σ H Q I h => ?_⟩
  obtain ⟨a, vs, v, e1, e2, e3, q⟩ := h
  refine wpAny_Call_method m.base m.few m.line PySem.F.plainAttrs_list PySem.F.slot_list_pop PySem.F.type_list_pop (thn ((pe_var hN hv hd hcd).run pins s σ H (fun y H1 => H1 = H ∧ y = .ref a) I ⟨_, e1, rfl, rfl⟩) fun u s1 ⟨y, H1, I1, ry, eH, ey⟩ => ?_)
  subst eH ey
  obtain rfl : u = Value.ref a := ry
  obtain ⟨z, its, k, rv, hl, eo⟩ := I1.lstM e2
  refine ⟨⟨_, eo, rfl⟩, fun b eb => by cases eb; exact ⟨_, eo, rfl⟩, ?_⟩
  refine PyProof.Rows.callWith_method0 ?_
  exact mt_pop pins s1 σ H1 (.ref a) [] _ _ Q I1 rfl .nil ⟨a, vs, v, rfl, rfl, e2, e3, q⟩
theorem RepL.dropLast {H : Hp} {vs : List V} {ds : List D} {S : List Addr} (r : RepLX X H vs ds S) : ∃ T, RepLX X H vs.dropLast ds.dropLast T ∧ ∀ a ∈ T, a ∈ S := by
  rw [List.dropLast_eq_take, List.dropLast_eq_take, r.length]
  exact RepL.take (ds.length - 1) r
theorem rpop (i : Nat) {x : Str} {xt : Expr} {t : Tg} {p apos cpos pos : Pos} (hg : PG X xt (tG X t)) (m : M0 X (.Name x p) "pop" apos cpos := by exact ⟨rfl, rfl, rfl⟩) (hN : X.N[i]? = some x := by rfl) (hv : Vis X.env.scope x := by first | exact .inl rfl | exact .inr (.inl rfl)) (hd : (x == ("__debug__" : Str)) = false := by rfl) (hcd : (x == ("__classdict__" : Str)) = false := by rfl)
    (hs : swapsWithSole [xt] (.Call (.Attribute (.Name x p) "pop" apos) [] [] cpos) pos.line X.env = pure false := by rfl) (hw : swappedStores [xt] (.Call (.Attribute (.Name x p) "pop" apos) [] [] cpos) X.env = pure none := by rfl) (h1 : (assignEach [xt] X.env).map (·.2) = [assign xt X.env] := by rfl) :
    PS X (.Assign [xt] (.Call (.Attribute (.Name x p) "pop" apos) [] [] cpos) pos) (tS X C (.pop t i)) := by
  refine (ps_asg (pe_pop hN hv hd hcd m) hg hs hw h1).weak fun D σ H h => ?_
  obtain ⟨H0, A0, At, n, ρ, fp, sl, h⟩ := h
  rw [evS, out_bind, out_lft] at h
  obtain ⟨d0, e0, h⟩ := h
  rw [out_bind, out_lft] at h
  obtain ⟨r, er, h⟩ := h
  rw [out_bind, out_lft] at h
  obtain ⟨ρ', hc, h⟩ := h
  rw [out_bind, out_lft] at h
  obtain ⟨ρ2, eb, h⟩ := h
  rw [out_pure] at h
  obtain ⟨d1, d2, g, f, eρ⟩ := chg_some hc
  cases f
  have ed : d1 = d0 := by
    unfold getD at e0
    rw [g] at e0
    exact Option.some.inj e0
  subst ed
  obtain ⟨a, T, o⟩ := sl.own g
  cases d1 with
  | list ds =>
    obtain ⟨y, ey, er⟩ := bind_some (show (ds.getLast? >>= fun y => some (y, PyData.list ds.dropLast)) = some r from er)
    cases er
    obtain ⟨vs, hvs, rr⟩ := own_lst o
    rw [List.getLast?_eq_getElem?] at ey
    obtain ⟨v, U, ev, rv, sub⟩ := rr.get ey
    obtain ⟨T', rd, sd⟩ := RepL.dropLast rr
    rw [← rr.length] at ev
    refine ⟨a, vs, v, o.val, hvs, ev, ?_⟩
    have sw := sl.write (S := []) (T' := T') (ob := .lst vs.dropLast) g o (.lst (.inl (by rw [upd_same])) (own_upd o rd fun m => o.nin (sd a m))) rfl (.inl ⟨_, rfl⟩) (fun c hc => .inl (sd c hc)) (fun _ h => nomatch h) (fun _ h => nomatch h) (fun j sj ej => by
      cases sj with
      | o d => exact fun _ _ h => nomatch h
      | oo d => exact fun _ _ h => nomatch h
      | _ => trivial)
    rw [← eρ] at sw
    have uT : ∀ c ∈ U, c ∈ fp i := fun c hc => by rw [o.fpi]; exact List.mem_cons_of_mem _ (sub c hc)
    have nU : a ∉ U := fun m => o.nin (sub a m)
    have rv2 : RepX X (upd H a (.lst vs.dropLast)) v y U := Rep.mono (A := fun b => b = a) (fun b u eb nb => by rw [upd_ne nb]; exact eb) (fun b eb => by rw [eb, hvs]; trivial) rv fun b hb z => nU (z ▸ hb)
    refine ⟨H0, A0, At, n, ρ', _, y, U, sw.rl, rv2, fun c hc => sl.rl.nat i _ g c (uT c hc), fun c hc => sl.rl.src i _ g c (uT c hc), fun j sj ej => ?_, ρ2, eb, fun fp' σ' rl' b _ => h At fp' σ' _ ⟨rl', b.ul sw.ul⟩ .refl⟩
    rw [eρ, getS_set] at ej
    by_cases hj : j = i
    · subst hj
      rw [if_pos rfl, if_pos (getS_lt g)] at ej
      cases ej
      rw [fset_same]
      intro b hb
      obtain rfl : a = b := Option.some.inj hb
      exact nU
    · rw [if_neg hj] at ej
      rw [fset_ne hj]
      exact (sl.rl.sep j i sj _ hj ej g).sub uT
  | _ => cases er
end
end MP

/-! MPVals: d.values(), d.items() of a name. -/
namespace MP
open PySem PySem.Spec L2
open PyProof.Rows hiding St
section
variable {X : Cx} {C : Cxt} {Z : ZT} {tg : Expr}
theorem si_valsV {i : Nat} {x : Str} {pos apos cpos : Pos} (hN : X.N[i]? = some x) (hv : Vis X.env.scope x) (hd : (x == ("__debug__" : Str)) = false) (hcd : (x == ("__classdict__" : Str)) = false)
    (hbase : attributeBase (.Name x pos) "values" X.env (eval (.Name x pos) X.env) = eval (.Name x pos) X.env := by rfl) (hline : (apos.endLine == cpos.line) = true := by rfl) : PI X tg (.Call (.Attribute (.Name x pos) "values" apos) [] [] cpos) (tI X C Z (.vals (.var i))) := by
  refine ⟨fun pins s σ H R I h => ?_⟩
  obtain ⟨H0, A0, At, n, ρ, fp, rl, lk, h⟩ := h
  rw [evIt, out_bind, evE, out_lft] at h
  obtain ⟨d, hd', h⟩ := h
  rw [out_lft] at h
  obtain ⟨xs, e1, q⟩ := h
  rw [if_pos (show itOk (.var i) d = true by cases d <;> rfl)] at e1
  cases d with
  | dict kvs =>
    cases e1
    obtain ⟨a, o, e3, ld, h1, h2⟩ := lk_slotD rl hd' lk
    refine wpAny_Call_method (T := "dict") (id := "dict.values") hbase rfl hline F.plainAttrs_dict F.slot_dict_values F.type_dict_values (thn ((pe_var hN hv hd hcd).run pins s σ H (fun y H1 => H1 = H ∧ y = .ref a) I ⟨_, e3, rfl, rfl⟩) fun u s1 ⟨y, H1, I1, ry, eH, ey⟩ => ?_)
    subst eH ey
    obtain rfl : u = .ref a := ry
    obtain ⟨hs, hg, hx, es, ep, hdt, hn⟩ := lk_obj I1 ld
    have raw : s1.heap.DictRaw a es ep := ⟨o, hg, hx, hdt⟩
    refine ⟨raw.typeIs, fun b eb => by cases eb; exact ⟨o, hg, hx.2.1⟩, ?_⟩
    have I2 : Inv X pins σ H1 { s1 with heap := s1.heap.push { cls := .type "dict_values", data := .fields #[.ref a] } } := I1.kept (t' := s1.toks) fun b ob q => Heap.get?_push_of_some _ q
    have fin : wpAny (model X.prog X.w) X.A (pyIter (.ref s1.heap.objs.size)) (PIE X pins σ tg R) X.xe { s1 with heap := s1.heap.push { cls := .type "dict_values", data := .fields #[.ref a] } } := by
      refine wpAny_pyIter_values_raw (d := a) ⟨_, Heap.get?_push_size _ rfl, rfl, rfl⟩ (raw.at fun o e => Heap.get?_push_of_some _ e) (pi_one (tk := s1.toks) I2 _ (gn_vals (P := X.prog) (w := X.w) (K := X.K) (tg := tg) (S := fp i) (kvs := kvs) hdt (Nat.ne_of_lt (Heap.lt_size (Heap.get?_push_of_some _ hg))) hn).turn ⟨_, Heap.get?_push_size _ rfl, rfl, rfl⟩ ?_)
      refine q _ _ (fp i) (fp i).tail (PostI.mk .refl rl.cell (fun a ha => .inr (h1 a ha)) (fun a ha => .inr (h2 a ha)) (fun a ha => List.mem_of_mem_tail ha) ld.1.tracked fun Hb k => ?_)
      rw [List.length_map]
      exact walk_gn fun H sm => frz_sub ld k sm
    show wpAny _ _ (callWith cpos (.builtin "dict.values") [.ref a] [] []) _ X.xe s1
    exact method_meetsIn F.slot_dict_values F.entry_dict_values rfl (PySem.evalArgs_none ⟨rfl, raw.typeIs, F.args_dict_values_1 _, _, meets_dict_values_raw a hs, ⟨⟨es, ep, raw⟩, fin⟩⟩)
  | _ => cases e1
theorem si_itemsV {i : Nat} {elts : List Expr} {kk : Nat} {tpos : Pos} {x : Str} {pos apos cpos : Pos} (hN : X.N[i]? = some x) (hv : Vis X.env.scope x) (hd : (x == ("__debug__" : Str)) = false) (hcd : (x == ("__classdict__" : Str)) = false)
    (hbase : attributeBase (.Name x pos) "items" X.env (eval (.Name x pos) X.env) = eval (.Name x pos) X.env := by rfl) (hline : (apos.endLine == cpos.line) = true := by rfl) : PI X (.Tuple elts kk tpos) (.Call (.Attribute (.Name x pos) "items" apos) [] [] cpos) (tI X C Z (.items (.var i))) := by
  refine ⟨fun pins s σ H R I h => ?_⟩
  obtain ⟨H0, A0, At, n, ρ, fp, rl, lk, h⟩ := h
  rw [evIt, out_bind, evE, out_lft] at h
  obtain ⟨d, hd', h⟩ := h
  rw [out_lft] at h
  obtain ⟨xs, e1, q⟩ := h
  rw [if_pos (show itOk (.var i) d = true by cases d <;> rfl)] at e1
  cases d with
  | dict kvs =>
    cases e1
    obtain ⟨a, o, e3, ld, h1, h2⟩ := lk_slotD rl hd' lk
    refine wpAny_Call_method (T := "dict") (id := "dict.items") hbase rfl hline F.plainAttrs_dict F.slot_dict_items F.type_dict_items (thn ((pe_var hN hv hd hcd).run pins s σ H (fun y H1 => H1 = H ∧ y = .ref a) I ⟨_, e3, rfl, rfl⟩) fun u s1 ⟨y, H1, I1, ry, eH, ey⟩ => ?_)
    subst eH ey
    obtain rfl : u = .ref a := ry
    obtain ⟨hs, hg, hx, es, ep, hdt, hn⟩ := lk_obj I1 ld
    have raw : s1.heap.DictRaw a es ep := ⟨o, hg, hx, hdt⟩
    refine ⟨raw.typeIs, fun b eb => by cases eb; exact ⟨o, hg, hx.2.1⟩, ?_⟩
    have I2 : Inv X pins σ H1 { s1 with heap := s1.heap.push { cls := .type "dict_items", data := .fields #[.ref a] } } := I1.kept (t' := s1.toks) fun b ob q => Heap.get?_push_of_some _ q
    have fin : wpAny (model X.prog X.w) X.A (pyIter (.ref s1.heap.objs.size)) (PIE X pins σ (.Tuple elts kk tpos) R) X.xe { s1 with heap := s1.heap.push { cls := .type "dict_items", data := .fields #[.ref a] } } := by
      refine wpAny_pyIter_items_raw (d := a) ⟨_, Heap.get?_push_size _ rfl, rfl, rfl⟩ (raw.at fun o e => Heap.get?_push_of_some _ e) (pi_one (tk := s1.toks) I2 _ (gn_items (P := X.prog) (w := X.w) (K := X.K) (elts := elts) (kk := kk) (tpos := tpos) (S := fp i) (kvs := kvs) hdt (Nat.ne_of_lt (Heap.lt_size (Heap.get?_push_of_some _ hg))) hn).turn ⟨.none, .none, Heap.get?_push_size _ rfl⟩ ?_)
      refine q _ _ (fp i) (fp i).tail (PostI.mk .refl rl.cell (fun a ha => .inr (h1 a ha)) (fun a ha => .inr (h2 a ha)) (fun a ha => List.mem_of_mem_tail ha) ld.1.tracked fun Hb k => ?_)
      rw [List.length_map]
      exact walk_gn fun H sm => frz_sub ld k sm
    show wpAny _ _ (callWith cpos (.builtin "dict.items") [.ref a] [] []) _ X.xe s1
    exact method_meetsIn F.slot_dict_items F.entry_dict_items rfl (PySem.evalArgs_none ⟨rfl, raw.typeIs, F.args_dict_items_1 _, _, meets_dict_items_raw a hs, ⟨⟨es, ep, raw⟩, fin⟩⟩)
  | _ => cases e1
end
end MP

/-! MPDfl: a call that leaves the last nd arguments to their defaults. -/
namespace MP
open PySem PySem.Spec L2
open PyProof.Rows hiding St
theorem start_dfl {d : Def} {nd : Nat} {ss : List Slot} (h1 : nd ≤ d.dflts.length) (h2 : ss.length + nd = d.np) : d.start ss = d.start (ss ++ (d.dflts.drop (d.dflts.length - nd)).map Slot.p) := by
  have l : (ss ++ (d.dflts.drop (d.dflts.length - nd)).map Slot.p).length = d.np := by
    rw [List.length_append, List.length_map, List.length_drop]; omega
  unfold Def.start
  rw [if_pos ⟨by omega, by omega⟩, if_pos ⟨by omega, by omega⟩, l, show d.np + d.dflts.length - d.np = d.dflts.length by omega, List.drop_length, List.map_nil, List.append_nil, show ss.length + d.dflts.length - d.np = d.dflts.length - nd by omega]
theorem callN_dfl {defs : List Def} {flds : List XRow} {wf m i nd : Nat} {d : Def} {ss : List Slot} {n : Option Int} (hd : defs[i]? = some d) (h1 : nd ≤ d.dflts.length) (h2 : ss.length + nd = d.np) : callN defs flds wf m i ss n = callN defs flds wf m i (ss ++ (d.dflts.drop (d.dflts.length - nd)).map Slot.p) n := by
  cases m with
  | zero => rfl
  | succ m => simp only [callN, hd, runDef, bodyDef, start_dfl h1 h2]
/-- a def of the program whose last nd arguments are left to their defaults -/
structure DefOkD (P : Program) (w : World) (K : PySem.W.Frag) (mg : Str → Option Value) (base : Heap) (defs : List Def) (flds : List XRow) (wf : Nat) (x : Str) (i np nd kl : Nat) : Prop where
  ex : ∃ f fd ps dvs dds d, (∀ m, FnG P w K mg base kl f fd ps (spF P w K mg np (callN defs flds wf m i))) ∧ mg x = some (.ref f) ∧ PySem.W.keepIn K (.ref f) = true ∧ Binds K fd ps dds ∧ Vals dvs dds ∧ (∀ H, RepL P w K H dvs (d.dflts.drop (d.dflts.length - nd)) []) ∧ defs[i]? = some d ∧ nd ≤ d.dflts.length ∧ d.np = np
theorem rcallD {X : Cx} {defs : List Def} {flds : List XRow} {wf m i np nd kl : Nat} {x : Str} {p pos : Pos} {xe : Expr} {xes : List Expr} {e : E} {es : List E} (G : DefOkD X.prog X.w X.K X.mg X.base defs flds wf x i np nd kl) (hr : RoomG kl X.A) (ha : PA X (xe :: xes) (tAs X ⟨callN defs flds wf m, wf, flds⟩ (ZX X) (e :: es)))
    (hlen : (e :: es).length + nd = np := by rfl) (hg : Gl X x := by rfl) (hdb : (x == ("__debug__" : Str)) = false := by rfl) (he : starEach (xe :: xes) X.env = (false, eval xe X.env) :: starEach xes X.env := by rfl) (hpl : (backTo pos (starEach xes X.env)).any (·.1) = false := by rfl) :
    PE X (.Call (.Name x p) (xe :: xes) [] pos) (tE X ⟨callN defs flds wf m, wf, flds⟩ (ZX X) (.call i (e :: es))) := by
  obtain ⟨f, fd, ps, dvs, dds, d, F, hm, hk, hb, hv, hrd, hd, h1, h2⟩ := G.ex
  refine se_call (C := ⟨callN defs flds wf m, wf, flds⟩) (F m) hr hg hm hk hb hv hrd (fun ss n q => callN_dfl hd h1 (by rw [q, h2]; exact hlen)) ?_ ha hdb he hpl
  rw [List.length_drop]
  omega
end MP

/-! MPT2: a op b op2 c as a test. -/
namespace MP
open PySem PySem.Spec L2
open PyProof.Rows hiding St
section
variable {X : Cx} {C : Cxt} {Z : ZT}
theorem st_cmp2 {o1 o2 : Cp} {op1 op2 : CmpOp} {xa xb xc : Expr} {a b c : E} {pos : Pos} (zm : ZMono Z) (h1 : VCp X (compareOp op1) (cpE o1)) (h2 : VCp X (compareOp op2) (cpE o2)) (ha : PE X xa (tE X C Z a)) (hb : PE X xb (tE X C Z b)) (hc : PE X xc (tE X C Z c))
    (hm : lastMarks [op1, op2] [xb, xc] = false) : PT X (.Compare xa [op1, op2] [xb, xc] pos) (tEt X C Z (.cmp2 o1 o2 a b c)) := by
  refine ⟨fun pins s σ H Q I h => ?_⟩
  obtain ⟨H0, A0, At, n, ρ, fp, rl, h⟩ := h
  rw [evE, out_bind] at h
  refine isTrue_chain (un1 ha I rl h fun v s1 x dx S H1 n1 I1 rx on q => ?_) hm
  rw [out_bind] at q
  refine test_link (un1 hb I1 on.rl (q.imp (fun _ _ z => z) fun e k z => zm _ _ _ _ _ on.p.pres z) fun u s2 y dy T H2 n2 I2 ry on2 q2 => ?_)
  rw [out_bind, out_lft] at q2
  obtain ⟨r1, e1, q2⟩ := q2
  have r2x : RepX X H2 x dx S := Rep.step on.p.rep on.p.cell on2.p.pres (rl.avoid on.p.from_)
  have p02 := on.p.pres.trans on2.p.pres
  refine thn (h1 pins s2 σ H2 x y v u dx dy r1 S T (fun z H3 => z = .bl r1 ∧ H3 = H2) I2 rx ry r2x on2.p.rep e1 ⟨rfl, rfl⟩) fun k s3 hh => ?_
  obtain ⟨z, H3, I3, r3, rfl, rfl⟩ := hh
  cases r3
  refine wpAny_truthy_bool ?_
  rw [out_ite] at q2
  cases r1 with
  | false =>
    rw [if_neg Bool.false_ne_true] at q2
    exact ite_ff ⟨H3, I3, q2 H3 p02 on2.p.cell⟩
  | true =>
    rw [if_pos rfl] at q2
    rw [out_bind] at q2
    refine ite_tt (test_last (un1 hc I3 on2.rl (q2.imp (fun _ _ z => z) fun e k z => zm _ _ _ _ _ p02 z) fun w' s4 z' dz U H4 n4 I4 rz on4 q4 => ?_))
    rw [out_bind, out_lft] at q4
    obtain ⟨r4, e4, q4⟩ := q4
    have ry4 : RepX X H4 y dy T := Rep.step on2.p.rep on2.p.cell on4.p.pres (on.rl.avoid on2.p.from_)
    refine thn (h2 pins s4 σ H4 y z' u w' dy dz r4 T U (fun z H5 => z = .bl r4 ∧ H5 = H4) I4 ry rz ry4 on4.p.rep e4 ⟨rfl, rfl⟩) fun k s5 hh => ?_
    obtain ⟨z, H5, I5, r5, rfl, rfl⟩ := hh
    cases r5
    exact wpAny_truthy_bool ⟨H5, I5, q4 H5 (p02.trans on4.p.pres) on4.p.cell⟩
theorem tcmp2 {o1 o2 : Cp} {op1 op2 : CmpOp} {xa xb xc : Expr} {a b c : E} {pos : Pos} (h1 : VCp X (compareOp op1) (cpE o1)) (h2 : VCp X (compareOp op2) (cpE o2)) (ha : PE X xa (tE X C (ZX X) a)) (hb : PE X xb (tE X C (ZX X) b)) (hc : PE X xc (tE X C (ZX X) c)) (hm : lastMarks [op1, op2] [xb, xc] = false := by rfl) :
    PT X (.Compare xa [op1, op2] [xb, xc] pos) (tEt X C (ZX X) (.cmp2 o1 o2 a b c)) := st_cmp2 zx_mono h1 h2 ha hb hc hm
end
end MP

/-! MPValsE: e.values(), e.items() of an expression that makes its dict anew. -/
namespace MP
open PySem PySem.Spec L2
open PyProof.Rows hiding St
section
variable {X : Cx} {C : Cxt} {Z : ZT} {tg : Expr}
theorem si_valsE {xe : Expr} {e : E} {apos cpos : Pos} (he : PE X xe (tE X C Z e)) (hv : e.isVar = false)
    (hbase : attributeBase xe "values" X.env (eval xe X.env) = eval xe X.env := by rfl) (hline : (apos.endLine == cpos.line) = true := by rfl) : PI X tg (.Call (.Attribute xe "values" apos) [] [] cpos) (tI X C Z (.vals e)) := by
  refine ⟨fun pins s σ H R I h => ?_⟩
  obtain ⟨H0, A0, At, n, ρ, fp, rl, _, h⟩ := h
  rw [evIt, out_bind] at h
  refine wpAny_Call_method (T := "dict") (id := "dict.values") hbase rfl hline F.plainAttrs_dict F.slot_dict_values F.type_dict_values (un1 he I rl h fun v s1 x dx S H1 n1 I1 rx one q => ?_)
  rw [out_lft] at q
  obtain ⟨xs, e1, q⟩ := q
  by_cases ok : itOk e dx = true
  · rw [if_pos ok] at e1
    cases dx with
    | dict kvs =>
      cases e1
      have fr : e.fresh = true := by
        have ok : (e.isVar || e.fresh) = true := ok
        rw [hv] at ok
        exact ok
      obtain ⟨a, o, u, T, ex, eS, _, I2, ld, pr, cl⟩ := lock_new I1 one.p fr
      subst ex
      obtain rfl : v = .ref a := rx
      obtain ⟨hs, hg, hx, es, ep, hdt, hn⟩ := lk_obj I2 ld
      have raw : s1.heap.DictRaw a es ep := ⟨o, hg, hx, hdt⟩
      refine ⟨raw.typeIs, fun b eb => by cases eb; exact ⟨o, hg, hx.2.1⟩, ?_⟩
      have I3 : Inv X pins σ (upd H1 a (.frz o u)) { s1 with heap := s1.heap.push { cls := .type "dict_values", data := .fields #[.ref a] } } := I2.kept (t' := s1.toks) fun b ob q => Heap.get?_push_of_some _ q
      have fin : wpAny (model X.prog X.w) X.A (pyIter (.ref s1.heap.objs.size)) (PIE X pins σ tg R) X.xe { s1 with heap := s1.heap.push { cls := .type "dict_values", data := .fields #[.ref a] } } := by
        refine wpAny_pyIter_values_raw (d := a) ⟨_, Heap.get?_push_size _ rfl, rfl, rfl⟩ (raw.at fun o e => Heap.get?_push_of_some _ e) (pi_one (tk := s1.toks) I3 _ (gn_vals (P := X.prog) (w := X.w) (K := X.K) (tg := tg) (S := S) (kvs := kvs) hdt (Nat.ne_of_lt (Heap.lt_size (Heap.get?_push_of_some _ hg))) hn).turn ⟨_, Heap.get?_push_size _ rfl, rfl, rfl⟩ ?_)
        refine q _ _ S S.tail (PostI.mk pr cl one.p.from_ (elem_of one.p) (fun a ha => List.mem_of_mem_tail ha) ld.1.tracked fun Hb k => ?_)
        rw [List.length_map]
        exact walk_gn fun H sm => frz_sub ld k sm
      show wpAny _ _ (callWith cpos (.builtin "dict.values") [.ref a] [] []) _ X.xe s1
      exact method_meetsIn F.slot_dict_values F.entry_dict_values rfl (PySem.evalArgs_none ⟨rfl, raw.typeIs, F.args_dict_values_1 _, _, meets_dict_values_raw a hs, ⟨⟨es, ep, raw⟩, fin⟩⟩)
    | _ => cases e1
  · rw [if_neg ok] at e1; cases e1
theorem si_itemsE {xe : Expr} {e : E} {elts : List Expr} {kk : Nat} {tpos : Pos} {apos cpos : Pos} (he : PE X xe (tE X C Z e)) (hv : e.isVar = false)
    (hbase : attributeBase xe "items" X.env (eval xe X.env) = eval xe X.env := by rfl) (hline : (apos.endLine == cpos.line) = true := by rfl) : PI X (.Tuple elts kk tpos) (.Call (.Attribute xe "items" apos) [] [] cpos) (tI X C Z (.items e)) := by
  refine ⟨fun pins s σ H R I h => ?_⟩
  obtain ⟨H0, A0, At, n, ρ, fp, rl, _, h⟩ := h
  rw [evIt, out_bind] at h
  refine wpAny_Call_method (T := "dict") (id := "dict.items") hbase rfl hline F.plainAttrs_dict F.slot_dict_items F.type_dict_items (un1 he I rl h fun v s1 x dx S H1 n1 I1 rx one q => ?_)
  rw [out_lft] at q
  obtain ⟨xs, e1, q⟩ := q
  by_cases ok : itOk e dx = true
  · rw [if_pos ok] at e1
    cases dx with
    | dict kvs =>
      cases e1
      have fr : e.fresh = true := by
        have ok : (e.isVar || e.fresh) = true := ok
        rw [hv] at ok
        exact ok
      obtain ⟨a, o, u, T, ex, eS, _, I2, ld, pr, cl⟩ := lock_new I1 one.p fr
      subst ex
      obtain rfl : v = .ref a := rx
      obtain ⟨hs, hg, hx, es, ep, hdt, hn⟩ := lk_obj I2 ld
      have raw : s1.heap.DictRaw a es ep := ⟨o, hg, hx, hdt⟩
      refine ⟨raw.typeIs, fun b eb => by cases eb; exact ⟨o, hg, hx.2.1⟩, ?_⟩
      have I3 : Inv X pins σ (upd H1 a (.frz o u)) { s1 with heap := s1.heap.push { cls := .type "dict_items", data := .fields #[.ref a] } } := I2.kept (t' := s1.toks) fun b ob q => Heap.get?_push_of_some _ q
      have fin : wpAny (model X.prog X.w) X.A (pyIter (.ref s1.heap.objs.size)) (PIE X pins σ (.Tuple elts kk tpos) R) X.xe { s1 with heap := s1.heap.push { cls := .type "dict_items", data := .fields #[.ref a] } } := by
        refine wpAny_pyIter_items_raw (d := a) ⟨_, Heap.get?_push_size _ rfl, rfl, rfl⟩ (raw.at fun o e => Heap.get?_push_of_some _ e) (pi_one (tk := s1.toks) I3 _ (gn_items (P := X.prog) (w := X.w) (K := X.K) (elts := elts) (kk := kk) (tpos := tpos) (S := S) (kvs := kvs) hdt (Nat.ne_of_lt (Heap.lt_size (Heap.get?_push_of_some _ hg))) hn).turn ⟨.none, .none, Heap.get?_push_size _ rfl⟩ ?_)
        refine q _ _ S S.tail (PostI.mk pr cl one.p.from_ (elem_of one.p) (fun a ha => List.mem_of_mem_tail ha) ld.1.tracked fun Hb k => ?_)
        rw [List.length_map]
        exact walk_gn fun H sm => frz_sub ld k sm
      show wpAny _ _ (callWith cpos (.builtin "dict.items") [.ref a] [] []) _ X.xe s1
      exact method_meetsIn F.slot_dict_items F.entry_dict_items rfl (PySem.evalArgs_none ⟨rfl, raw.typeIs, F.args_dict_items_1 _, _, meets_dict_items_raw a hs, ⟨⟨es, ep, raw⟩, fin⟩⟩)
    | _ => cases e1
  · rw [if_neg ok] at e1; cases e1
end
end MP

/-! MPDc: dict comprehensions, keys of any kind that the evaluator serves. -/
namespace MP
open PySem PySem.Spec L2
open PyProof.Rows hiding St

/-- the store of a turn: in any block over X it brings Nx -/
def StK (X : Cx) (D : Addr) (y z : V) (H : Hp) (Nx : Hp → Prop) : Prop :=
  ∀ (b : Shared) (Hb : Hp) (sc : Scope) (ce : Env) (fpb : List Addr) (pins : List (Addr × Obj)) (σ : L2.St) (s : Shared) (u r : Value) (Ex : Value → Shared → Prop) (Q : Unit → Shared → Prop),
    Inv (X.blk b Hb sc ce fpb) pins σ H s → RelV y u → RelV z r → (∀ s' H', Inv (X.blk b Hb sc ce fpb) pins σ H' s' → Nx H' → Q () s') → wpAny (model X.prog X.w) X.A (dictSet D u r) Q Ex s
/-- one turn: what the target, the tests, key and value have to bring -/
def TurnK (X : Cx) (g : TG) (tt : TT) (tk tv : TE) (vs : List Nat) (σ : L2.St) (D : Addr) (Nx : Hp → Prop) (x : V) (H : Hp) : Prop :=
  g x (wipe σ vs) H fun σ2 H2 => wipe σ2 vs = wipe σ vs ∧ tt σ2 H2 fun b H3 => if b = true then tk σ2 H3 fun y H4 => tv σ2 H4 fun z H5 => StK X D y z H5 Nx else Nx H3
def tDk (X : Cx) (wi : TI) (g : TG) (tt : TT) (tk tv : TE) (vs : List Nat) : TE := fun σ H Q => wi σ H fun J H1 => ∀ D, H1 D = none → ∃ W : Nat → Nat → Hp → Prop, (∃ m, W 0 m (upd H1 D (.dK []))) ∧ ∀ i m H, W i m H →
  (J.stop i H ∧ Q (.ref D) H) ∨ (J.go i H ∧ ∃ Nx : Hp → Prop, (∀ H', Nx H' → ∃ m', m' < m ∧ W (i + 1) m' H') ∧ ∀ x H', J.yld i H x H' → TurnK X g tt tk tv vs σ D Nx x H')
section
variable {X : Cx} {kx vx tg iter : Expr} {ifs : List Expr} {scope : Scope} {own : List (Str × Nat)} {wi : TI} {g : TG} {tt : TT} {tk tv : TE}
/-- what the block's parts promise, whatever the block's own frame -/
structure PartsK (X : Cx) (tg : Expr) (ifs : List Expr) (kx vx : Expr) (scope : Scope) (g : TG) (tt : TT) (tk tv : TE) : Prop where
  g : ∀ (s : Shared) (H : Hp) (Ca : Addr) (cl : List (Str × Addr)) (fp : List Addr), PG (X.blk s H scope (compEnvC scope cl Ca X.env) fp) tg g
  t : ∀ (s : Shared) (H : Hp) (Ca : Addr) (cl : List (Str × Addr)) (fp : List Addr), PTs (X.blk s H scope (compEnvC scope cl Ca X.env) fp) ifs tt
  k : ∀ (s : Shared) (H : Hp) (Ca : Addr) (cl : List (Str × Addr)) (fp : List Addr), PE (X.blk s H scope (compEnvC scope cl Ca X.env) fp) kx tk
  v : ∀ (s : Shared) (H : Hp) (Ca : Addr) (cl : List (Str × Addr)) (fp : List Addr), PE (X.blk s H scope (compEnvC scope cl Ca X.env) fp) vx tv
theorem pe_dk {pos : Pos} (hc : X.calm = true) (hN : X.N.Nodup) (hi : PI X tg iter wi) (ok : BlkOk X.N X.env.scope scope own) (pk : PartsK X tg ifs kx vx scope g tt tk tv) (hs : ∀ x, foldedSetIterable iter X.env x = pure x) :
    PE X (.DictComp kx vx [⟨tg, iter, ifs, 0⟩] scope pos) (tDk X wi g tt tk tv (own.map (·.2))) := by
  constructor
  intro pins s0 σ H0 Q I0 h
  rw [arm_eval_DictComp]
  have cells : ∀ y ∈ scope.names, y.2 = .free → ∃ c, X.env.cells.lookup y.1 = some c := by
    intro y hy e
    exact (ok.free y hy e).elim (fun k => I0.ok.has _ (.inl k)) fun k => I0.ok.has _ (.inr k)
  refine wpAny_comprehension_free (use := none) rfl hs (closure_ok cells) ok.kind (fun y hy e => by rw [ok.uniq y hy, e]) ?_
  refine thn (hi.run pins s0 σ H0 _ I0 h) fun src s1 hx => thn hx fun itr s2 h2 => ?_
  obtain ⟨p, fp, tn, J, H2, rfl, I2, T, st2, f2, q⟩ := h2
  refine wpAny_newObj_type (newEnv_comp ?_)
  -- the new dict at D, the block's frame behind it
  obtain ⟨D, hD⟩ : ∃ D, s2.heap.objs.size = D := ⟨_, rfl⟩
  rw [hD]
  obtain ⟨W, ⟨m0, w0⟩, turn⟩ := q D (I2.hok.fresh (by rw [hD]; exact Nat.le_refl _))
  obtain ⟨sD, esD⟩ : ∃ sD : Shared, sD = { s2 with heap := s2.heap.push { cls := .type "dict", data := .dict #[] } } := ⟨_, rfl⟩
  have hpD : sD.heap = s2.heap.push { cls := .type "dict", data := .dict #[] } := by rw [esD]
  have ID : Inv X pins σ (upd H2 D (.dK [])) sD := by
    rw [esD, ← hD]
    exact I2.laid (t' := s2.toks) (fun b o e => Heap.get?_push_of_some _ e) (Nat.le_refl _) (dk_empty s2.heap I2.big)
  have small : ∀ b ∈ fp, b < s2.heap.objs.size := fun b hb => (T.obj _ _ st2 b hb).elim fun o z => Heap.lt_size z.1
  have fD : ∀ b ∈ fp, FpOk X pins (upd H2 D (.dK [])) b ∧ b < sD.heap.objs.size := by
    intro b hb
    have lt := small b hb
    refine ⟨⟨?_, (f2 b hb).2⟩, ?_⟩
    · rw [upd_ne (fun z => Nat.lt_irrefl _ (by rw [z, ← hD] at lt; exact lt))]
      exact (f2 b hb).1
    · rw [hpD, Heap.size_push]
      exact Nat.lt_succ_of_lt lt
  have stD : tn 0 sD.heap := T.keep _ _ _ st2 fun b _ o e => by rw [hpD]; exact Heap.get?_push_of_some _ e
  have IB := block_start ID ok hN fD
  generalize hcl : cellsFrom (sD.heap.objs.size + 1) scope.names (cloFrom X.env.cells scope.names []) = cl at IB
  have pg := pk.g sD (upd H2 D (.dK [])) sD.heap.objs.size cl fp
  have pt := pk.t sD (upd H2 D (.dK [])) sD.heap.objs.size cl fp
  have pkk := pk.k sD (upd H2 D (.dK [])) sD.heap.objs.size cl fp
  have pv := pk.v sD (upd H2 D (.dK [])) sD.heap.objs.size cl fp
  have locB : (compEnvC scope cl sD.heap.objs.size X.env).locals = sD.heap.objs.size := rfl
  show codeAny _ _ (.compStart (.DictComp kx vx [⟨tg, iter, ifs, 0⟩] scope pos) 0 (.ref p) (.ref D) (compEnvC scope _ _ X.env)) (compPost (model X.prog X.w) X.A X.xe none _ (.ref D) _) _
  rw [← hpD]
  rw [hcl]
  obtain ⟨s3, es3⟩ : ∃ s3 : Shared, s3 = { sD with heap := pushCells (sD.heap.push { cls := .type "dict", data := .dict #[] }) scope.names } := ⟨_, rfl⟩
  have est : ({ s2 with heap := pushCells (sD.heap.push { cls := .type "dict", data := .dict #[] }) scope.names } : Shared) = s3 := by rw [es3, esD]
  rw [← es3] at IB
  obtain ⟨ce, ece⟩ : ∃ ce : Env, compEnvC scope cl sD.heap.objs.size X.env = ce := ⟨_, rfl⟩
  rw [ece] at IB pg pt pkk pv locB
  have noH : ∀ b ∈ fp, (upd H2 D (.dK [])) b = none := fun b hb => (fD b hb).1.1
  obtain ⟨Hb, eHb⟩ : ∃ Hb, upd H2 D (.dK []) = Hb := ⟨_, rfl⟩
  rw [eHb] at ID IB pg pt pkk pv w0 noH fD
  have st3 : tn 0 s3.heap := T.keep _ _ _ stD fun b _ o e => by rw [es3]; exact pushCells_keeps _ _ _ _ (Heap.get?_push_of_some _ e)
  have okFp : ∀ {τ : L2.St} {H' : Hp} {s' : Shared}, Inv (X.blk sD Hb scope ce fp) [] τ H' s' → (∀ b ∈ fp, H' b = none) → ∀ b ∈ fp, FpOk (X.blk sD Hb scope ce fp) [] H' b := by
    intro τ H' s' I' nb b hb
    obtain ⟨z1, z2⟩ := I'.ok.exf b hb
    exact ⟨nb b hb, z1, I'.ok.exfs b hb, .inl hb, z2, fun q hq => absurd hq (List.not_mem_nil (a := q))⟩
  have loop : codeAny (model X.prog X.w) X.A (.compLoop (.DictComp kx vx [⟨tg, iter, ifs, 0⟩] scope pos) 0 (.ref p) (.ref D) ce) (compPost (model X.prog X.w) X.A X.xe none (EP X pins σ Q) (.ref D) sD.heap.objs.size) s3 := by
    refine compLoop_anyD (fun m s' => ∃ i H', W i m H' ∧ (∀ b ∈ fp, H' b = none) ∧ tn i s'.heap ∧ Inv (X.blk sD Hb scope ce fp) [] (wipe σ (own.map (·.2))) H' s') ?_ m0 ⟨0, Hb, w0, noH, st3, IB⟩
    rintro m s4 ⟨i, H4, w4, n4, st4, I4⟩
    rcases turn i m H4 w4 with ⟨stop, fin⟩ | ⟨go, Nx, nxt, step⟩
    · refine thnF (T.done (X.blk sD Hb scope ce fp) rfl rfl rfl hc i [] s4 _ H4 (fun _ _ => False) I4 (okFp I4 n4) st4 stop) fun r s5 ⟨er, I5⟩ => ?_
      subst er
      have back : Inv X pins σ H4 s5 := ID.call' (ch := fp) I5.os I5.base I5.hok I5.bare fun b hb => by
        obtain ⟨_, z1, z2, z3, z4, z5⟩ := (fD b hb).1
        exact ⟨z3, z1, z4, z5⟩
      obtain ⟨mb, hmb, _⟩ := I5.loc
      have freeC : H4 sD.heap.objs.size = none := locB ▸ I5.free
      have nsC : s5.heap.Ns sD.heap.objs.size mb := locB ▸ hmb
      refine ⟨mb, nsC, fun h6 sb => ?_⟩
      obtain ⟨a0, a1, a2, a3, a4, a5⟩ := ID.fpOk (Nat.le_refl sD.heap.objs.size) freeC
      exact ⟨.ref D, H4, back.turned (t' := s5.toks) (fun b o hb e => (sb.2 b hb).trans e) a0 a1 a3 a4 a5, rfl, fin⟩
    · refine thnF (T.item (X.blk sD Hb scope ce fp) rfl rfl rfl hc i [] s4 _ H4 (fun _ _ => False) I4 (okFp I4 n4) st4 go) fun r s5 ⟨u, er, h5⟩ => ?_
      subst er
      refine thnF h5 fun _ s6 ⟨x, H6, I6, rx, y6, st6, n6⟩ => ?_
      have tt6 : TurnK X g tt tk tv (own.map (·.2)) σ D Nx x H6 := step x H6 y6
      refine thnF (pg.run _ s6 _ H6 x u _ (I6.pinned (okFp I6 n6) (T.obj _ _ st6)) rx tt6) fun _ s7 ⟨σ7, H7, I7, hw7, q7⟩ => ?_
      refine thnF (pt.run _ s7 σ7 H7 _ I7 q7) fun b s8 ⟨H8, I8, q8⟩ => ?_
      have close : ∀ s' H', Inv (X.blk sD Hb scope ce fp) ([] ++ pinsAt fp s6.heap) σ7 H' s' → Nx H' → ∃ k, k < m ∧ ∃ i H', W i k H' ∧ (∀ b ∈ fp, H' b = none) ∧ tn i s'.heap ∧ Inv (X.blk sD Hb scope ce fp) [] (wipe σ (own.map (·.2))) H' s' := by
        intro s' H' I' nx
        obtain ⟨k, hk, w'⟩ := nxt H' nx
        have pinned : ∀ b ∈ fp, ∀ o, s6.heap.get? b = some o → s'.heap.get? b = some o ∧ H' b = none := fun b hb o e => by
          obtain ⟨z1, z2, _⟩ := I'.pin (b, o) (List.mem_append_right _ (List.mem_append_right _ (mem_pinsAt hb e)))
          exact ⟨z1, z2⟩
        refine ⟨k, hk, i + 1, H', w', fun b hb => ?_, T.keep _ _ _ st6 fun b hb o e => (pinned b hb o e).1, (I'.unpinned (pins := [])).weak (by rw [← hw7, wipe_length]) fun j v e => ?_⟩
        · obtain ⟨o, e, _⟩ := T.obj _ _ st6 b hb
          exact (pinned b hb o e).2
        · rw [← hw7] at e
          exact (wipe_some e).1
      cases b with
      | false =>
        rw [if_neg Bool.false_ne_true] at q8 ⊢
        exact close s8 H8 I8 q8
      | true =>
        rw [if_pos rfl] at q8 ⊢
        refine thnF (pkk.run _ s8 σ7 H8 _ I8 q8) fun uk s9 ⟨yk, H9, I9, rk, q9⟩ => thnF (pv.run _ s9 σ7 H9 _ I9 q9) fun uv s10 ⟨yv, H10, I10, rv, sto⟩ => ?_
        exact sto sD Hb scope ce fp _ σ7 s10 uk uv _ _ I10 rk rv fun s11 H11 I11 nx => close s11 H11 I11 nx
  rw [est]
  subst ece
  exact codeAny_compStart_dict loop (T.self X.A 0 _ _ _ st3 loop)
end

section
variable {X : Cx} {C : Cxt}
theorem dk_it {J : L2.It} {n : Nat} {G : Hp → Prop} {Y : Nat → Hp → V → Hp → Prop} (w : Walk J n G Y) {g : TG} {tt : TT} {tk tv : TE} {vs : List Nat} {σ : L2.St} {H1 : Hp} {D : Addr} {Qd : Hp → Prop} (Pv : Nat → Hp → Prop) (h0 : Pv 0 (upd H1 D (.dK []))) (hG : ∀ i H, i ≤ n → Pv i H → G H)
    (hs : ∀ i x H H', i < n → Pv i H → Y i H x H' → TurnK X g tt tk tv vs σ D (Pv (i + 1)) x H') (hd : ∀ H, Pv n H → Qd H) :
    ∃ W : Nat → Nat → Hp → Prop, (∃ m, W 0 m (upd H1 D (.dK []))) ∧ ∀ i m H, W i m H → (J.stop i H ∧ Qd H) ∨ (J.go i H ∧ ∃ Nx : Hp → Prop, (∀ H', Nx H' → ∃ m', m' < m ∧ W (i + 1) m' H') ∧ ∀ x H', J.yld i H x H' → TurnK X g tt tk tv vs σ D Nx x H') := by
  refine ⟨fun i m H => Pv i H ∧ i + m = n, ⟨n, h0, Nat.zero_add n⟩, ?_⟩
  rintro i m H ⟨p, e⟩
  have gh := hG i H (by omega) p
  cases m with
  | zero =>
    obtain rfl : i = n := by omega
    exact .inl ⟨w.stops H gh, hd H p⟩
  | succ m =>
    have hi : i < n := by omega
    exact .inr ⟨w.goes i H hi gh, Pv (i + 1), fun H' p' => ⟨m, Nat.lt_succ_self m, p', by omega⟩, fun x H' y => hs i x H H' hi p (w.yields i H x H' hi gh y)⟩
def dcB (C : Cxt) (k v : E) (t : Tg) (c : Option E) (own : List Nat) (ρ : Ev) (x : D) : M (Option D) := do
  let ρ' ← lft (bindT t x (wipeE (frzE ρ) own))
  let b ← evC C c ρ'
  if b then do let y ← evE C k ρ'; let z ← evE C v ρ'; pure (some (.tuple [y, z])) else pure none
theorem asPairs_cons {y z : D} {ys : List D} {ps : List (D × D)} (h : asPairs (.tuple [y, z] :: ys) = some ps) : ∃ qs, asPairs ys = some qs ∧ ps = (y, z) :: qs := by
  have h : (asPairs ys >>= fun r => some ((y, z) :: r)) = some ps := h
  obtain ⟨qs, e1, e2⟩ := bind_some h
  exact ⟨qs, e1, (Option.some.inj e2).symm⟩
theorem dc_tr {own : List (Str × Nat)} {k v : E} {t : Tg} {it : It} {c : Option E} (hu : X.A.units + 200 < cLine) (hv : ∀ i ∈ t.vars, i ∈ own.map (·.2)) {σ : L2.St} {H : Hp} {Q : VK} (h : tLE X C (ZX X) (.dc k v t it c (own.map (·.2))) it.lv σ H Q) :
    tDk X (tI X C (ZX X) it) (tG X t) (tCond X C Z0 c) (tE X C Z0 k) (tE X C Z0 v) (own.map (·.2)) σ H Q := by
  obtain ⟨H0, A0, At, n, ρ, fp, rl, lk, h⟩ := h
  rw [evE, out_bind] at h
  refine ⟨H0, A0, At, n, ρ, fp, rl, lk, h.imp (fun xs n1 h1 J H1 S T pI D hD => ?_) fun _ _ z => z⟩
  rw [out_bind, out_lft] at h1
  obtain ⟨xs', e0, h1⟩ := h1
  obtain ⟨e1, e2⟩ := lftIf_some e0
  subst e2
  rw [out_bind] at h1
  replace h1 := out_noX h1
  generalize hb : (fun x => (do
      let ρ' ← lft (bindT t x (wipeE (frzE ρ) (own.map (·.2))))
      let b ← evC C c ρ'
      if b then do let y ← evE C k ρ'; let z ← evE C v ρ'; pure (some (.tuple [y, z])) else pure none : M (Option MP.D))) = body at h1
  have av := rl.avoid pI.from_
  have nD : At ≠ some D := none_ne_at pI.cell hD
  have hDH : H D = none := pI.pres.trk D hD
  have W := pI.walk (fun b => if At = some b then none else H1 b) fun b o eb => by
    show (if At = some b then none else H1 b) = some o ∨ _
    by_cases z : At = some b
    · rw [if_pos z]
      refine .inr ⟨fun m => av b m z, ?_⟩
      subst z
      obtain ⟨ys, q⟩ := pI.cell.at_some
      rw [q] at eb; cases eb; trivial
    · rw [if_neg z]; exact .inl eb
  refine dk_it W (fun i Hc => ∃ n' acc U, Out (forM' body (xs.drop i) n') (fun ys kk => ∃ ps r, asPairs ys = some ps ∧ dPut acc ps = some r ∧ ∀ v' H' S, Post X At ρ fp (.dc k v t it c (own.map (·.2))) H v' (.dict r) S H' kk → Q v' H') NoX ∧
    Wr (Hc D) ∧ RepX X Hc (.ref D) (.dict acc) (D :: U) ∧ (∀ a ∈ U, H a = none ∨ Reach ρ fp (E.dc k v t it c (own.map (·.2))).esc (E.dc k v t it c (own.map (·.2))).al a) ∧ D ∉ U ∧ Pres At H1 Hc ∧ CellOk At n' Hc) ?_ ?_ ?_ ?_
  · refine ⟨n1, [], [], ?_, ?_, .dk (es := []) (kvs := []) (.inl (by rw [upd_same])) rfl (fun _ h => by cases h) List.nodup_nil .nil, (fun a h => by cases h), (fun h => by cases h), Pres.same (same_upd hD), pI.cell.same (same_upd hD)⟩
    · rw [List.drop_zero]
      refine h1.imp (fun ys kk q => ?_) fun _ _ z => z
      rw [out_lft] at q
      obtain ⟨d, e, q⟩ := q
      obtain ⟨ps, e3, e⟩ := bind_some e
      obtain ⟨r, e4, e⟩ := bind_some e
      cases e
      exact ⟨ps, r, e3, e4, q⟩
    · rw [upd_same]; exact .inr (.inl ⟨_, rfl⟩)
  · rintro i Hc _ ⟨n', acc, U, _, _, _, _, _, pr, _⟩
    intro b o eb
    have eb : (if At = some b then none else H1 b) = some o := eb
    by_cases z : At = some b
    · rw [if_pos z] at eb; cases eb
    · rw [if_neg z] at eb
      exact pr.keep b o eb z
  · rintro i x Hc Hc' hi ⟨n', acc, U, ho, wD0, rD, fU, dU, pr, cl⟩ ⟨sm, d, U', ed, rx, sub⟩
    have hdrop : xs.drop i = d :: xs.drop (i + 1) := by
      have hi' := lt_of_get ed
      rw [List.drop_eq_getElem_cons hi']
      congr 1
      have := List.getElem?_eq_getElem hi'
      rw [ed] at this
      exact (Option.some.inj this).symm
    rw [hdrop, forM', out_bind, ← hb] at ho
    simp only [out_bind, out_lft] at ho
    obtain ⟨ρ', eb, ho⟩ := ho
    have pH : Pres At H Hc' := pI.pres.trans (pr.trans (.same sm))
    have cH := cl.same sm
    have rw0 : Rl X H0 A0 At n' (wipeE (frzE ρ) (own.map (·.2))) fp (wipe σ (own.map (·.2))) Hc' := ((rl.frzE).wipe _).next pH cH
    have uT : ∀ a ∈ U', H a = none ∨ Reach ρ fp it.esc it.al a := fun a ha => pI.elem a (sub a ha)
    refine ⟨H0, A0, At, n', _, fp, d, U', rw0, rx, fun a ha => rl.avoid (fun b hb => pI.from_ b (pI.sub b (sub b hb))) a ha, fun a ha => src_of (H1 := H) rl (uT a ha), sep_frz, ρ', eb, fun fp' σ2 rl2 bnd sb => ⟨wipe_back sb hv, ?_⟩⟩
    refine ⟨H0, A0, At, n', ρ', fp', rl2, ho.imp (fun b n2 hb2 H3 p3 c3 => ?_) fun e k z => z.elim⟩
    have nDU : ∀ a ∈ D :: U, At ≠ some a := fun a ha => by
      rcases List.mem_cons.mp ha with rfl | ha
      · exact nD
      · exact rl.avoid fU a ha
    have pr3 : Pres At H1 H3 := pr.trans ((Pres.same sm).trans p3)
    have step1 : ∀ {o : HO}, Hc D = some o → H3 D = some o := fun {o} e => p3.keep D _ (sm D _ e) nD
    have wD3 : Wr (H3 D) := by rcases wD0 with ⟨z, e⟩ | ⟨z, e⟩ | ⟨z, e⟩ <;> rw [step1 e, ← e] <;> first | exact .inl ⟨z, e⟩ | exact .inr (.inl ⟨z, e⟩) | exact .inr (.inr ⟨z, e⟩)
    have rD3 : RepX X H3 (.ref D) (.dict acc) (D :: U) := (Rep.step (Rep.mono (A := fun _ => False) (fun b o e _ => sm b o e) (fun _ z => z.elim) rD (fun _ _ z => z)) cH p3 nDU)
    cases b with
    | false =>
      show (if false = true then _ else _)
      rw [if_neg Bool.false_ne_true] at hb2 ⊢
      rw [hb] at hb2
      rw [out_pure] at hb2
      exact ⟨n2, acc, U, by simpa only [out_bind, out_pure] using hb2, wD3, rD3, fU, dU, pr3, c3⟩
    | true =>
      show (if true = true then _ else _)
      rw [if_pos rfl] at hb2 ⊢
      rw [hb] at hb2
      simp only [out_bind] at hb2
      refine ⟨H0, A0, At, n2, ρ', fp', rl2.next p3 c3, hb2.imp (fun dy n3 h3 vy H4 Sy py => ?_) fun e k z => z.elim⟩
      refine ⟨H0, A0, At, n3, ρ', fp', (rl2.next p3 c3).next py.pres py.cell, h3.imp (fun dz n4 h4 vz H5 Sz pz => ?_) fun e k z => z.elim⟩
      simp only [out_pure] at h4
      have pr5 : Pres At H1 H5 := pr3.trans (py.pres.trans pz.pres)
      have step2 : ∀ {o : HO}, H3 D = some o → H5 D = some o := fun {o} e => pz.pres.keep D _ (py.pres.keep D _ e nD) nD
      have wD5 : Wr (H5 D) := by rcases wD3 with ⟨z, e⟩ | ⟨z, e⟩ | ⟨z, e⟩ <;> rw [step2 e, ← e] <;> first | exact .inl ⟨z, e⟩ | exact .inr (.inl ⟨z, e⟩) | exact .inr (.inr ⟨z, e⟩)
      have rD5 : RepX X H5 (.ref D) (.dict acc) (D :: U) := Rep.step (Rep.step rD3 c3 py.pres nDU) py.cell pz.pres nDU
      have own_ : ∀ {es al : List Nat} {a : Addr}, (∀ i ∈ es.filter (fun i => !(own.map (·.2)).contains i), i ∈ (E.dc k v t it c (own.map (·.2))).esc) → (∀ i ∈ al.filter (fun i => !(own.map (·.2)).contains i), i ∈ (E.dc k v t it c (own.map (·.2))).al) → Reach ρ' fp' es al a → H a = none ∨ Reach ρ fp (E.dc k v t it c (own.map (·.2))).esc (E.dc k v t it c (own.map (·.2))).al a := fun {es al a} q1 q2 q => by
        rcases reach_back bnd q with q | q
        · exact (uT a q).imp id fun q => q.mono (fun i hi => List.mem_append_right _ hi) fun i hi => List.mem_append_right _ hi
        · exact .inr (q.mono q1 q2)
      have filt : ∀ {l l1 : List Nat}, (∀ i ∈ l, i ∈ l1) → ∀ i ∈ l.filter (fun i => !(own.map (·.2)).contains i), i ∈ l1.filter (fun i => !(own.map (·.2)).contains i) := fun {l l1} sub i hi => List.mem_filter.mpr ⟨sub i (List.mem_filter.mp hi).1, (List.mem_filter.mp hi).2⟩
      have fz : ∀ a ∈ Sz, H a = none ∨ Reach ρ fp (E.dc k v t it c (own.map (·.2))).esc (E.dc k v t it c (own.map (·.2))).al a := fun a ha => by
        rcases pz.from_ a ha with q | q
        · exact .inl ((pH.trans (p3.trans py.pres)).trk a q)
        · exact own_ (fun i hi => List.mem_append_left _ (filt (fun i hi => List.mem_append_right _ hi) i hi)) (fun i hi => List.mem_append_left _ (filt (fun i hi => List.mem_append_right _ hi) i hi)) q
      have dS : D ∉ Sz := fun m => by
        rcases pz.from_ D m with q | q
        · exact Rep.tracked (Rep.step rD3 c3 py.pres nDU) D List.mem_cons_self q
        · rcases reach_back bnd q with q | ⟨j, s, d', ej, _, mj, _⟩
          · exact pI.trk D (pI.sub D (sub D q)) hD
          · exact fp_trk rl ej mj hDH
      -- the store succeeds: the rest of the run tells
      obtain ⟨gd, gl⟩ : keyOk acc dy = true ∧ acc.length < 1000000 := by
        refine out_exists h4 fun ys kk q => ?_
        obtain ⟨ps, r, e3, e4, _⟩ := q
        obtain ⟨qs, e5, e6⟩ := asPairs_cons e3
        subst e6
        obtain ⟨acc', e7, _⟩ := dPut_cons e4
        obtain ⟨g1, _⟩ := lftIf_some e7
        rw [Bool.and_eq_true, decide_eq_true_eq] at g1
        exact g1
      have rky : RepX X H5 vy dy Sy := Rep.step py.rep py.cell pz.pres fun a ha => by
        rcases py.from_ a ha with q | q
        · exact none_ne_at c3 q
        · exact rl2.reach_ne q
      intro b Hb sc ce fpb pins τ s5 u r Ex Q' I5 ru rr hQ
      obtain ⟨ob, T', w', rep', sub', _, run⟩ := dict_put (X := X.blk b Hb sc ce fpb) (A := X.A) (E := Ex) hu I5 wD5 rD5 dU gd gl rky ru pz.rep rr dS
      refine run Q' fun s6 I6 => hQ s6 _ I6 ⟨n4, dSet acc dy dz, T', ?_, by rw [upd_same]; exact w', rep', fun a ha => ?_, fun m => ?_, ⟨fun b o eb nb => ?_, fun b eb => ?_⟩, ?_⟩
      · refine h4.imp (fun ys kk q => ?_) fun _ _ z => z
        obtain ⟨ps, r, e3, e4, q⟩ := q
        obtain ⟨qs, e5, e6⟩ := asPairs_cons e3
        subst e6
        obtain ⟨acc', e7, e8⟩ := dPut_cons e4
        obtain ⟨_, g2⟩ := lftIf_some e7
        subst g2
        exact ⟨qs, r, e5, e8, q⟩
      · exact (sub' a ha).elim (fun z => fU a z) fun z => fz a z
      · exact (sub' D m).elim dU dS
      · rw [upd_ne (fun z => by rw [z, hD] at eb; cases eb)]
        exact pr5.keep b o eb nb
      · by_cases z : b = D
        · rw [z, upd_same] at eb; cases eb
        · rw [upd_ne z] at eb
          exact pr5.trk b eb
      · have q := pz.cell
        unfold CellOk at q ⊢
        cases At with
        | none => cases n4 with
          | none => trivial
          | some k => exact q.elim
        | some b => cases n4 with
          | none => exact q
          | some k =>
            show upd H5 D _ b = _
            rw [upd_ne (fun z => nD (by rw [z]))]
            exact q
  · rintro Hc ⟨n', acc, U, ho, wD, rD, fU, dU, pr, cl⟩
    rw [List.drop_length, forM', out_pure] at ho
    obtain ⟨ps, r, e3, e4, q⟩ := ho
    cases e3
    cases e4
    refine q _ _ (D :: U) (.mk' rD (pI.pres.trans pr) cl rfl (fun a ha => ?_) fun _ _ => ⟨D, U, rfl, rfl, hDH, dU, wD⟩)
    rcases List.mem_cons.mp ha with rfl | ha
    · exact .inl hDH
    · exact fU a ha
theorem rdc (own : List (Str × Nat)) {kx vx tg iter : Expr} {ifs : List Expr} {scope : Scope} {pos : Pos} {k v : E} {t : Tg} {it : It} {c : Option E} (hu : X.A.units + 200 < cLine) (hc : X.calm = true) (hN : X.N.Nodup) (hi : PI X tg iter (tI X C (ZX X) it))
    (hg : ∀ (s : Shared) (H : Hp) (Ca : Addr) (cl : List (Str × Addr)) (fp : List Addr), PG (X.blk s H scope (compEnvC scope cl Ca X.env) fp) tg (tG (X.blk s H scope (compEnvC scope cl Ca X.env) fp) t))
    (ht : ∀ (s : Shared) (H : Hp) (Ca : Addr) (cl : List (Str × Addr)) (fp : List Addr), PTs (X.blk s H scope (compEnvC scope cl Ca X.env) fp) ifs (tCond (X.blk s H scope (compEnvC scope cl Ca X.env) fp) C (ZX (X.blk s H scope (compEnvC scope cl Ca X.env) fp)) c))
    (hk : ∀ (s : Shared) (H : Hp) (Ca : Addr) (cl : List (Str × Addr)) (fp : List Addr), PE (X.blk s H scope (compEnvC scope cl Ca X.env) fp) kx (tE (X.blk s H scope (compEnvC scope cl Ca X.env) fp) C (ZX (X.blk s H scope (compEnvC scope cl Ca X.env) fp)) k))
    (he : ∀ (s : Shared) (H : Hp) (Ca : Addr) (cl : List (Str × Addr)) (fp : List Addr), PE (X.blk s H scope (compEnvC scope cl Ca X.env) fp) vx (tE (X.blk s H scope (compEnvC scope cl Ca X.env) fp) C (ZX (X.blk s H scope (compEnvC scope cl Ca X.env) fp)) v))
    (ok : BlkOk X.N X.env.scope scope own := by exact blkOk_by (by kernel_rfl)) (hs : ∀ x, foldedSetIterable iter X.env x = pure x := by intro _; rfl) (hv : ∀ i ∈ t.vars, i ∈ own.map (·.2) := by decide) (hl : it.lv.length ≤ 1 := by decide) :
    PE X (.DictComp kx vx [⟨tg, iter, ifs, 0⟩] scope pos) (tE X C (ZX X) (.dc k v t it c (own.map (·.2)))) :=
  se_lk ((pe_dk hc hN hi ok ⟨fun s H Ca cl fp => (hg s H Ca cl fp).weak fun v σ H Q h => tG_blk hc h, fun s H Ca cl fp => (ht s H Ca cl fp).weak fun σ H Q h => tC_blk hc h, fun s H Ca cl fp => (hk s H Ca cl fp).weak fun σ H Q h => tE_blk hc h, fun s H Ca cl fp => (he s H Ca cl fp).weak fun σ H Q h => tE_blk hc h⟩ hs).weak fun σ H Q h => dc_tr hu hv h) hl
end
end MP

/-! MPRepr: repr of data without dicts, where no guard stands around. -/
namespace MP
open PySem PySem.Spec L2
open PyProof.Rows hiding St
theorem repr_some {d r : D} (h : b0E .repr d = some r) : d.hasDict = false ∧ d.depth ≤ 60 ∧ d.showable = true ∧ d.shown.length ≤ sizeLine ∧ TxtOk d.shown ∧ r = .str d.shown := by
  have h : lftIf (dNoDict d && d.showable && fits d.shown.length && PyData.strOk d.shown) (.str d.shown) = some r := by
    cases d <;> exact h
  obtain ⟨e, er⟩ := lftIf_some h
  simp only [Bool.and_eq_true] at e
  obtain ⟨⟨⟨e1, e2⟩, e3⟩, e4⟩ := e
  unfold dNoDict at e1
  simp only [Bool.and_eq_true, Bool.not_eq_true', decide_eq_true_eq] at e1
  exact ⟨e1.1, e1.2, e2, fits_le e3, ⟨fits_le e3, e4⟩, er.symm⟩
section
variable {X : Cx} {C : Cxt}
theorem v_repr (hg : X.A.guards = some []) (hu : X.A.units + 200 < cLine) : CallR X (.builtin "repr") (rV1 X (b0E .repr)) := by
  intro pins s σ H xs us Q I r h
  obtain ⟨x, dx, d, S, rfl, rep, e, q⟩ := h
  obtain ⟨nd, dp, sh, sz, tx, rfl⟩ := repr_some e
  have fin : Q (.str dx.shown) H := q _ H [] same_refl (.str _ tx) (fun _ h => nomatch h) fun z => by cases z
  have viaRef : ∀ a : Addr, x = .ref a → wpAny (model X.prog X.w) X.A (call (.builtin "repr") us) (EP X pins σ Q) X.xe s := fun a ex => by
    obtain ⟨u, rfl, ru⟩ := vals1 r
    rw [ex] at ru
    have eu : u = Value.ref a := ru
    rw [eu]
    have rd := Rep.reads I rep (u := .ref a) (by rw [ex]; rfl)
    refine repr_of_reads' rd sh (fun z => by rw [nd] at z; cases z) hg (by omega) (fun _ _ z => z) (fun h' u tk k => ?_) sz
    exact ⟨.str dx.shown, H, I.kept (t' := tk) k, ⟨u, rfl⟩, fin⟩
  cases rep with
  | non =>
    obtain ⟨u, rfl, rfl⟩ := vals1 r
    exact PySem.P.repr_of_none ⟨.str _, H, I.tok _, ⟨_, rfl⟩, fin⟩
  | bl b =>
    obtain ⟨u, rfl, rfl⟩ := vals1 r
    exact PySem.P.repr_of_bool ⟨.str _, H, I.tok _, ⟨_, rfl⟩, fin⟩
  | int i =>
    obtain ⟨u, rfl, t, rfl⟩ := vals1 r
    exact PySem.P.repr_of_int (of_decide_eq_true sh) ⟨.str _, H, I.tok _, ⟨_, rfl⟩, fin⟩
  | str y hy =>
    obtain ⟨u, rfl, t, rfl⟩ := vals1 r
    exact PySem.P.repr_of_str ⟨.str _, H, I.tok _, ⟨_, rfl⟩, fin⟩ sz
  | lst h rr => exact viaRef _ rfl
  | tup h rr => exact viaRef _ rfl
  | dk _ _ _ _ _ => cases nd
  | dt _ _ _ _ _ _ _ _ _ => cases nd
theorem hh_repr {dx d : D} (h : b0E .repr dx = some d) : isHash d = true := by
  obtain ⟨_, _, _, _, _, rfl⟩ := repr_some h
  rfl
theorem rrepr {xa : Expr} {e : E} {p pos : Pos} (hgd : X.A.guards = some []) (hu : X.A.units + 200 < cLine) (he : PE X xa (tE X C (ZX X) e)) (hm : X.mg "repr" = none) (hg : Gl X "repr" := by rfl) (hs : starEach [xa] X.env = (false, eval xa X.env) :: starEach [] X.env := by rfl) (hpl : (backTo pos (starEach [] X.env)).any (·.1) = false := by rfl) :
    PE X (.Call (.Name "repr" p) [xa] [] pos) (tE X C (ZX X) (.b0 .repr e)) := se_b0 (fun r t h ha => pe_callB h hg hm boot_repr ha (he := hs) (hpl := hpl)) (v_repr hgd hu) (fun _ _ => hh_repr) he hs
end
end MP

/-! MPDp: dict of a list of pairs, keys of any kind that the evaluator serves. -/
namespace MP
open PySem PySem.Spec L2
open PyProof.Rows hiding St
theorem asPairs_cons' {x : D} {xs : List D} {ps : List (D × D)} (h : asPairs (x :: xs) = some ps) : ∃ k v qs, x = .tuple [k, v] ∧ asPairs xs = some qs ∧ ps = (k, v) :: qs := by
  cases x with
  | tuple ys =>
    match ys, h with
    | [k, v], h =>
      have h : (asPairs xs >>= fun r => some ((k, v) :: r)) = some ps := h
      obtain ⟨qs, e1, e2⟩ := bind_some h
      exact ⟨k, v, qs, rfl, e1, (Option.some.inj e2).symm⟩
    | [], h => cases h
    | [_], h => cases h
    | _ :: _ :: _ :: _, h => cases h
  | _ => cases h
section
variable {X : Cx} {pins : List (Addr × Obj)} {σ : L2.St}
theorem FpOk.at {H H' : Hp} {b : Addr} (f : FpOk X pins H b) (e : H' b = none) : FpOk X pins H' b := ⟨e, f.2⟩
theorem turn_at {s : Shared} {H : Hp} {it : Addr} {h' : Heap} {t' : Nat} (I : Inv X pins σ H s) (f : FpOk X pins H it) (k : ∀ b o, b ≠ it → s.heap.get? b = some o → h'.get? b = some o) : Inv X pins σ H { s with heap := h', toks := t' } :=
  I.turned k f.1 f.2.1 f.2.2.2.1 f.2.2.2.2.1 f.2.2.2.2.2
/-- the pairs of the list l are stored in d, one behind the other -/
theorem pairs_loop {A : Around} {R : Result → Shared → Prop} {res : Value} {d it l : Addr} {ws : List V} {F : Addr → Prop} (hu : A.in1.units + 100 < cLine) (hA : A.handled = none) (hid : it ≠ d) (hld : l ≠ d) (hdF : ¬ F d) :
    ∀ (vs : List V) (ds : List D) (S : List Addr) (i : Nat) (c : Int) (acc r ps : List (D × D)) (T : List Addr) (s : Shared) (H : Hp), Inv X pins σ H s → s.heap.IsListIter it l i → FpOk X pins H it → Rd H l (.lst ws) → ws.drop i = vs → RepLX X H vs ds S → (∀ a ∈ S, F a) →
      asPairs ds = some ps → dPut acc ps = some r → Wr (H d) → RepX X H (.ref d) (.dict acc) (d :: T) → (∀ a ∈ T, F a) →
      (∀ s' H' T', Inv X pins σ H' s' → (∀ b, b ≠ d → H' b = H b) → Wr (H' d) → RepX X H' (.ref d) (.dict r) (d :: T') → (∀ a ∈ T', F a) → R (.ok (.ret res)) s') →
      codeAny (model X.prog X.w) A (.builtin "dict.update.loop" ⟨[.ref d, .ref it, rawInt c, res], []⟩) R s := by
  intro vs
  induction vs with
  | nil =>
    intro ds S i c acc r ps T s H I hit fi hl hd rs hS e1 e2 w rep hT hQ
    cases rs
    cases e1
    cases e2
    obtain ⟨its, rv, pl, hz⟩ := I.list (.inl hl)
    have hlen : ws.length ≤ i := by
      have := congrArg List.length hd
      simp at this; omega
    refine codeAny_builtin entry_update_loop ?_
    rw [Around.under_plainId plain_update_loop _]
    show wpAny _ A.in1 (pyNext (.ref it) >>= _) _ _ _
    refine wpAny_bind (wpAny_pyNext_list_end hA hit pl.isList (Array.getElem?_eq_none (by rw [List.size_toArray, ← rv.length]; exact hlen)) fun h' he' => ?_)
    show wpAny _ A.in1 (Builtin.Dict.addKeywords d [] >>= _) _ _ _
    exact wpAny_bind (wpAny_pure (wpAny_pure (hQ _ H T (turn_at (t' := s.toks) I fi fun b o hb e => he' b o hb e) (fun _ _ => rfl) w rep hT)))
  | cons v vs ih =>
    intro ds S i c acc r ps T s H I hit fi hl hd rs hS e1 e2 w rep hT hQ
    cases rs with
    | @cons _ _ x xs S1 S2 rx rs =>
    obtain ⟨k, y, qs, ex, e3, ep⟩ := asPairs_cons' e1
    subst ex ep
    obtain ⟨acc', f1, f2⟩ := dPut_cons e2
    obtain ⟨g1, g2⟩ := lftIf_some f1
    rw [Bool.and_eq_true, decide_eq_true_eq] at g1
    subst g2
    obtain ⟨its, rv, pl, hz⟩ := I.list (.inl hl)
    have hget : ws[i]? = some v := by
      have := congrArg List.head? hd
      rw [List.head?_drop] at this
      exact this
    obtain ⟨u, hu1, ru⟩ := rv.get hget
    refine codeAny_builtin entry_update_loop ?_
    rw [Around.under_plainId plain_update_loop _]
    show wpAny _ A.in1 (pyNext (.ref it) >>= _) _ _ _
    refine wpAny_bind (wpAny_pyNext_list_item hit pl.isList (x := u) (by rw [List.getElem?_toArray]; exact hu1) fun h' hit' hs' => ?_)
    have I1 : Inv X pins σ H { s with heap := h' } := turn_at (t' := s.toks) I fi fun b o hb e => hs'.extBut b o hb e
    cases rx with
    | @tup a ys _ _ ht rr =>
    cases ru
    cases rr with
    | @cons y1 _ _ _ Sk _ rk rr =>
    cases rr with
    | @cons y2 _ _ _ Sy _ ry rr =>
    cases rr
    obtain ⟨its2, rv2, ht2, _⟩ := I1.tuple ht
    obtain ⟨u1, u2, ei, ru1, ru2⟩ := vals2 rv2
    subst ei
    refine wpAny_bind (wpAny_holding ?_)
    refine wpAny_bind (wpAny_tryCatch (wpAny_pairItems (.inl ht2) ?_))
    refine wpAny_holding ?_
    have nk : ∀ b ∈ Sy, b ≠ d := fun b hb z => hdF (z ▸ hS b (List.mem_append_left _ (List.mem_append_right _ (List.mem_append_left _ hb))))
    have nT : d ∉ T := fun m => hdF (hT d m)
    obtain ⟨o9, g9, c9, d9⟩ := id hit'
    have I1p := I1.pinned (fp := [it]) (fun b hb => by rw [List.mem_singleton.mp hb]; exact fi) fun b hb => by rw [List.mem_singleton.mp hb]; exact ⟨o9, g9, fun v z => by rw [d9] at z; cases z⟩
    obtain ⟨ob, T', w', rep', sub, _, run, _⟩ := dict_put' (A := A.in1) (E := fun e s' => R (.error e) s') hu I1p w rep (show d ∉ T from nT) g1.1 g1.2 rk ru1 ry ru2 fun m => nk d m rfl
    refine run _ fun s2 I2 => ?_
    have p9 := (I2.pin (it, o9) (List.mem_append_right _ (List.mem_append_right _ (mem_pinsAt (List.mem_singleton.mpr rfl) g9)))).1
    have hit2 : s2.heap.IsListIter it l (i + 1) := ⟨o9, p9, c9, d9⟩
    have wO : WrO (H d) := by rcases w with ⟨_, q⟩ | ⟨_, q⟩ | ⟨_, q⟩ <;> (rw [q]; trivial)
    have sT : ∀ c ∈ T', F c := fun c hc => (sub c hc).elim (hT c) fun m => hS c (List.mem_append_left _ (List.mem_append_right _ (List.mem_append_left _ m)))
    refine wpAny_pure ⟨plainId_quiet plain_update_loop _, ?_⟩
    refine ih xs S2 (i + 1) (c + 1) _ r qs T' s2 (upd H d ob) I2.unpinned hit2 (FpOk.at fi (by rw [upd_ne hid]; exact fi.1)) ?_ ?_ ?_ (fun a ha => hS a (List.mem_append_right _ ha)) e3 f2 (by rw [upd_same]; exact w') rep' sT fun s' H' T2 I3 same w3 rep3 hT3 => hQ s' H' T2 I3 (fun b nb => by rw [same b nb, upd_ne nb]) w3 rep3 hT3
    · rcases hl with q | ⟨u9, q⟩
      · exact .inl (by rw [upd_ne hld]; exact q)
      · exact .inr ⟨u9, by rw [upd_ne hld]; exact q⟩
    · have := congrArg List.tail hd
      simpa [List.tail_drop] using this
    · exact RepL.mono (A := fun b => b = d) (fun b o e nb => by rw [upd_ne nb]; exact e) (fun b e => e ▸ wO) rs fun b hb z => hdF (z ▸ hS b (List.mem_append_right _ hb))
theorem pairs_at {H : Hp} : ∀ {vs : List V} {ds : List D} {S : List Addr} {ps : List (D × D)} {us : List Value} {s : Shared}, Inv X pins σ H s → RepLX X H vs ds S → Vals vs us → asPairs ds = some ps →
    ∃ (as : List Addr) (qs : List (Value × Value)), us = as.map Value.ref ∧ as.length = qs.length ∧ ∀ (j : Nat) (k v : Value), qs[j]? = some (k, v) → ∃ b, as[j]? = some b ∧ PairAt s.heap b k v
  | _, _, _, _, _, _, I, .nil, .nil, h => ⟨[], [], rfl, rfl, fun j k v e => by simp at e⟩
  | _, _, _, _, _, s, I, .cons (d := x) rx rs, .cons ru rv, h => by
    obtain ⟨k, y, ps', ex, e3, ep⟩ := asPairs_cons' h
    subst ex ep
    obtain ⟨as, qs, e1, e2, e4⟩ := pairs_at I rs rv e3
    cases rx with
    | @tup a ys _ _ ht rr =>
    cases ru
    cases rr with
    | cons rk rr =>
    cases rr with
    | cons ry rr =>
    cases rr
    obtain ⟨its2, rv2, ht2, _⟩ := I.tuple ht
    obtain ⟨u1, u2, ei, ru1, ru2⟩ := vals2 rv2
    subst ei
    refine ⟨a :: as, (u1, u2) :: qs, by rw [e1]; rfl, by rw [List.length_cons, List.length_cons, e2], fun j k v e => ?_⟩
    cases j with
    | zero =>
      cases e
      exact ⟨a, rfl, .inl ht2⟩
    | succ j =>
      obtain ⟨b, g1, g2⟩ := e4 j k v (by simpa using e)
      exact ⟨b, by simpa using g1, g2⟩
theorem v_dictP {e : E} (hc : X.calm = true) (hu : X.A.units + 200 < cLine) : CallR X (.type "dict") (rV1 X (b1S .dict e)) := by
  intro pins s σ H xs us Q I r h
  obtain ⟨x, dx, d, S, rfl, rep, h, q⟩ := h
  obtain ⟨so, ys, e1, e2⟩ := b1S_some h
  cases rep with
  | @lst a vs ds T hr rr =>
    obtain rfl : ds = ys := Option.some.inj e1
    obtain ⟨ps, e3, e2⟩ := bind_some (show (asPairs ds >>= fun ps => dPut [] ps >>= fun r => some (PyData.dict r)) = some d from e2)
    obtain ⟨out, e4, e2⟩ := bind_some e2
    cases e2
    rw [Vals.ref1 r]
    obtain ⟨its, rv, pl, hz⟩ := I.list (.inl hr)
    obtain ⟨as, qs, ei, hl, hp⟩ := pairs_at I rr rv e3
    subst ei
    obtain ⟨D, hD⟩ : ∃ D, s.heap.objs.size = D := ⟨_, rfl⟩
    have ok0 : PlainSeq "list" s.heap a (as.map Value.ref).toArray ∧ PairItems s.heap (as.map Value.ref).toArray (fun j => as.getD j 0) qs := by
      refine ⟨?_, by simp [hl], fun j k v e => ?_⟩
      · obtain ⟨o, n, h1, h2, h3, h4⟩ := pl
        exact ⟨o, n, h1, h2, h3, h4⟩
      · obtain ⟨b, g1, g2⟩ := hp j k v e
        refine ⟨by simp [g1], ?_⟩
        show PairAt s.heap (as.getD j 0) k v
        rw [show as.getD j 0 = b by simp [g1]]
        exact g2
    have hA := I.ok.hd hc
    have P := PairArg.list (prog := X.prog) (w := X.w) a (as.map Value.ref).toArray (fun j => as.getD j 0) qs
    refine call_dict_arg (PairArg.list (prog := X.prog) (w := X.w) a (as.map Value.ref).toArray (fun j => as.getD j 0) qs) ok0 fun s1 es1 hdf ok1 => ?_
    rw [hD] at hdf ⊢
    have hn : H D = none := I.hok.fresh (by rw [hD]; exact Nat.le_refl _)
    have ID : Inv X pins σ (upd H D (.dK [])) s1 := by
      rw [es1, ← hD]
      exact I.laid (t' := s.toks) (fun b o e => Heap.get?_push_of_some _ e) (Nat.le_refl _) (dk_empty s.heap I.big)
    unfold Builtin.Dict.updateFrom
    refine wpAny_bind (wpAny_typeOf (P.type s1 ok1) ?_)
    rw [if_pos P.notDict]
    refine wpAny_bind (P.noKeys X.A.in1.in1 s1 _ _ hA ok1 fun h1 tk1 hk1 => ?_)
    simp only [Option.isNone_none, if_true]
    refine wpAny_bind (wpAny_rule ?_)
    have I1 := ID.kept (t' := tk1) hk1
    have naD : a ≠ D := fun z => by
      rcases hr with w | ⟨_, w⟩ <;> (rw [z, hn] at w; cases w)
    have sm := same_upd (o := .dK []) hn
    have hr1 : Rd (upd H D (.dK [])) a (.lst vs) := by
      rcases hr with w | ⟨u9, w⟩
      · exact .inl (sm _ _ w)
      · exact .inr ⟨u9, sm _ _ w⟩
    obtain ⟨its1, rv1, pl1, _⟩ := I1.list (.inl hr1)
    refine wpAny_bind (wpAny_pyIter_list pl1.isList ?_)
    refine wpAny_pure ⟨plainId_quiet plain_update_loop _, ?_⟩
    have I2 := I1.kept (t' := tk1) (h' := h1.push { cls := .type "list_iterator", data := .fields #[.ref a, .int 0 0] }) (fun b u e => Heap.get?_push_of_some _ e)
    have nI : (upd H D (.dK [])) h1.objs.size = none := I1.hok.fresh (Nat.le_refl _)
    have nID : h1.objs.size ≠ D := fun z => by rw [z, upd_same] at nI; cases nI
    have ndT : D ∉ T := fun m => RepL.tracked rr D m hn
    refine pairs_loop (A := X.A.in1) (ws := vs) (F := fun c => c ∈ T) (show X.A.units + 1 + 1 + 100 < cLine by omega) hA nID naD ndT vs ds T 0 0 [] out ps [] _ _ I2 ⟨_, Heap.get?_push_size _ rfl, rfl, rfl⟩ (I1.fpOk (Nat.le_refl _) nI) hr1 rfl (rr.same sm) (fun a ha => ha) e3 e4 (by rw [upd_same]; exact .inr (.inl ⟨_, rfl⟩)) (.dk (es := []) (kvs := []) (.inl (by rw [upd_same])) rfl (fun _ h => by cases h) List.nodup_nil .nil) (fun _ h => nomatch h) fun s' H' T' I3 same3 w3 rep3 hT3 => ?_
    have sm3 : Same H H' := fun b o e => by
      have nb : b ≠ D := fun z => by rw [z, hn] at e; cases e
      rw [same3 b nb, upd_ne nb]; exact e
    refine ⟨rfl, .ref D, H', I3, rfl, q _ H' (D :: T') sm3 rep3 (fun c hc => ?_) fun _ => ⟨D, T', rfl, rfl, hn, fun m => ndT (hT3 D m), w3⟩⟩
    rcases List.mem_cons.mp hc with z | m
    · rw [z]; exact .inl hn
    · exact .inr (hT3 c m)
  | _ => cases so
variable {C : Cxt}
theorem rdictP {xa : Expr} {e : E} {p pos : Pos} (hc : X.calm = true) (hu : X.A.units + 200 < cLine) (he : PE X xa (tE X C (ZX X) e)) (hm : X.mg "dict" = none) (hv : bootBuiltins "dict" = some (.type "dict")) (hg : Gl X "dict" := by rfl) (hs : starEach [xa] X.env = (false, eval xa X.env) :: starEach [] X.env := by rfl) (hpl : (backTo pos (starEach [] X.env)).any (·.1) = false := by rfl) :
    PE X (.Call (.Name "dict" p) [xa] [] pos) (tE X C (ZX X) (.b1 .dict (.of e))) := se_b1 (fun r t h ha => pe_callTy h hg hm hv ha (he := hs) (hpl := hpl)) (v_dictP hc hu) he hs
end
end MP

/-! MPGet: d.get(k, x). -/
namespace MP
open PySem PySem.Spec L2
open PyProof.Rows hiding St
section
variable {X : Cx} {pins : List (Addr × Obj)} {σ : L2.St} {H : Hp} {s : Shared} {A : Around} {E : Value → Shared → Prop}
theorem dict_get2 (hu : A.units + 200 < cLine) (I : Inv X pins σ H s) {a : Addr} {kvs : List (D × D)} {k dz : D} {y z : V} {u r : Value} {S T W : List Addr} (rep : RepX X H (.ref a) (.dict kvs) S) (ho : keyOk kvs k = true) (rk : RepX X H y k T) (ru : RelV y u)
    (rz : RepX X H z dz W) (rr : RelV z r) : ∃ (v : V) (U : List Addr), RepX X H v ((dGet kvs k).getD dz) U ∧ (∀ c ∈ U, c ∈ S.tail ∨ c ∈ W) ∧ ∀ Q : Value → Shared → Prop, (∀ w' s', Inv X pins σ H s' → RelV v w' → Q w' s') → wpAny (model X.prog X.w) A (call (.builtin "dict.get") [.ref a, u, r]) Q E s := by
  rcases keyFit_cases (keyOk_fit ho) with ⟨kk, hk⟩ | ⟨ht, hd⟩
  · obtain ⟨hs, es, vs, T', rfl, kv, dd, e, q, _⟩ := view_l I rep ho hk
    obtain ⟨l1, l2⟩ := lookL hk e q
    have run : ∀ Q : Value → Shared → Prop, (∀ s', Inv X pins σ H s' → Q ((valueAt vs kk).getD r) s') → wpAny (model X.prog X.w) A (call (.builtin "dict.get") [.ref a, u, r]) Q E s := fun Q h =>
      call_meetsIn PySem.F.slot_dict_get dd.typeIs PySem.F.entry_dict_get (PySem.F.args_dict_get_3 _ _ _) (meets_dict_get_default (mixKind X.prog X.w) a (kV_is (key_rel hk rk ru)) hs r) ⟨_, dd.mapOf, h _ (I.tok _)⟩
    cases g : dGet kvs k with
    | none =>
      have kvv := kv.val kk
      rw [l1 g] at kvv
      cases hv : valueAt vs kk with
      | some w => rw [hv] at kvv; exact (show False from kvv).elim
      | none =>
        rw [hv] at run
        exact ⟨z, W, rz, fun c hc => .inr hc, fun Q h => run Q fun s' I' => h _ s' I' rr⟩
    | some d =>
      obtain ⟨v, U, e1, rv, hU⟩ := l2 d g
      obtain ⟨w', hw, rw'⟩ := RelO.some_of (v := v) (o := valueAt vs kk) (by rw [← e1]; exact kv.val kk)
      rw [hw] at run
      exact ⟨v, U, rv, fun c hc => .inl (hU c hc), fun Q h => run Q fun s' I' => h _ s' I' rw'⟩
  · obtain ⟨hs, _, xs, vs, T', rfl, dd, e, hq, rv, q, _⟩ := view_t I rep ho ht
    obtain ⟨b, rfl, rfl, hb⟩ := key_heap I (keyOk_fit ho) ht rk ru
    obtain ⟨l1, l2⟩ := lookT (keyFit_hash (keyOk_fit ho)) e hq rv q
    have run : ∀ Q : Value → Shared → Prop, (∀ s', Inv X pins σ H s' → Q (((atKey xs (keyOf k)).map (·.2)).getD r) s') → wpAny (model X.prog X.w) A (call (.builtin "dict.get") [.ref a, .ref b, r]) Q E s := fun Q h =>
      call_meetsIn PySem.F.slot_dict_get dd.typeIs PySem.F.entry_dict_get (PySem.F.args_dict_get_3 _ _ _) (meetsH_dict_get_default (nestedKind X.prog X.w) a b hs r) ⟨(show A.units + 1 + 8 < cLine by omega), keyOf k, xs, hb, dd, h _ (I.tok _)⟩
    cases g : dGet kvs k with
    | none =>
      rw [l1 g] at run
      exact ⟨z, W, rz, fun c hc => .inr hc, fun Q h => run Q fun s' I' => h _ s' I' rr⟩
    | some d =>
      obtain ⟨p, v, U, e1, rv', rr', hU⟩ := l2 d g
      rw [e1] at run
      exact ⟨v, U, rr', fun c hc => .inl (hU c hc), fun Q h => run Q fun s' I' => h _ s' I' rv'⟩
end
section
variable {X : Cx} {C : Cxt}
theorem rget2 {o xk xd : Expr} {r a b : E} {apos cpos : Pos} (hu : X.A.units + 200 < cLine) (ho : PE X o (tE X C (ZX X) r)) (hk : PE X xk (tE X C (ZX X) a)) (hd : PE X xd (tE X C (ZX X) b)) (m : M2 X o "get" apos xk xd cpos := by exact ⟨rfl, rfl, rfl, rfl⟩) :
    PE X (.Call (.Attribute o "get" apos) [xk, xd] [] cpos) (tE X C (ZX X) (.get2 r a b)) := by
  refine ⟨fun pins s σ H Q I h => ?_⟩
  obtain ⟨H0, A0, At, n, ρ, fp, rl, h⟩ := h
  rw [evE, out_bind] at h
  refine wpAny_Call_method m.base m.few m.line PySem.F.plainAttrs_dict PySem.F.slot_dict_get PySem.F.type_dict_get (un1 ho I rl h fun u s1 x dx S H1 n1 I1 rx one q => ?_)
  rw [out_bind] at q
  replace q := out_noX q
  have hx : ∃ kvs, dx = .dict kvs := out_exists q fun dy n2 q => by
    rw [out_bind] at q
    replace q := out_noX q
    refine out_exists q fun dz n3 q => ?_
    rw [out_lft] at q
    obtain ⟨d, e, _⟩ := q
    cases dx with
    | dict kvs => exact ⟨kvs, rfl⟩
    | _ => cases e
  obtain ⟨kvs, rfl⟩ := hx
  obtain ⟨c, T, rfl, rfl⟩ : ∃ c T, x = .ref c ∧ S = c :: T := by
    have rep := one.p.rep
    generalize hdx : PyData.dict kvs = dx at rep
    cases rep <;> first | exact ⟨_, _, rfl, rfl⟩ | cases hdx
  obtain rfl : u = Value.ref c := rx
  obtain ⟨_, _, _, _, _, _, _, _, raw, _, _⟩ := one.p.rep.raw I1
  have ti := raw.typeIs
  obtain ⟨ob, hg, hx, hdt⟩ := raw
  refine ⟨ti, fun b eb => by cases eb; exact ⟨ob, hg, hx.2.1⟩, ?_⟩
  rw [m.trees]
  refine Calls.callWith_builtin rfl (Calls.evalArgs_plain (Calls.spliced_cons (un1 hk I1 one.rl (out_no q) fun u2 s2 y dy S2 H2 n2 I2 ry one2 q2 => ?_)))
  rw [out_bind] at q2
  replace q2 := out_noX q2
  refine Calls.spliced_cons (un1 hd I2 one2.rl (out_no q2) fun u3 s3 z dz S3 H3 n3 I3 rz one3 q3 => Calls.spliced_nil ?_)
  rw [out_lft] at q3
  obtain ⟨d, e, q3⟩ := q3
  obtain ⟨hk', e⟩ := lftIf_some e
  subst e
  have r1 := Rep.step (Rep.step one.p.rep one.p.cell one2.p.pres (rl.avoid one.p.from_)) one2.p.cell one3.p.pres (rl.avoid one.p.from_)
  have r2 := Rep.step one2.p.rep one2.p.cell one3.p.pres (one.rl.avoid one2.p.from_)
  obtain ⟨v, U, rv, sub, run⟩ := dict_get2 (A := X.A) (E := X.xe) hu I3 r1 hk' r2 ry one3.p.rep rz
  refine run _ fun w' s' I' rw' => ⟨v, H3, I', rw', q3 v H3 U (.mk' rv (one.p.pres.trans (one2.p.pres.trans one3.p.pres)) one3.p.cell rfl (fun a ha => ?_) fun z => by cases z)⟩
  rcases sub a ha with m | m
  · exact (one.p.elem a m).imp id fun z => z.mono (fun i hi => List.mem_append_left _ hi) fun i hi => List.mem_append_left _ hi
  · exact (one3.p.from_ a m).imp (fun z => one.p.pres.trk a (one2.p.pres.trk a z)) fun z => z.mono (fun i hi => List.mem_append_right _ hi) fun i hi => List.mem_append_right _ hi
end
end MP

/-! MPSd: d.setdefault(k, []).append(x), all that is in d held alone. -/
namespace MP
open PySem PySem.Spec L2
open PyProof.Rows hiding St
theorem chg2_some {ρ ρ' : Ev} {i : Nat} {f : D → Option D} (h : chg2 ρ i f = some ρ') : ∃ d d', getS ρ i = some (.oo d) ∧ f d = some d' ∧ ρ' = setS ρ i (.oo d') := by
  unfold chg2 at h
  cases q : getS ρ i with
  | none => rw [q] at h; cases h
  | some s =>
    rw [q] at h
    cases s with
    | oo d =>
      cases q2 : f d with
      | none =>
        have h : (f d >>= fun x => some (setS ρ i (.oo x))) = some ρ' := h
        rw [q2] at h; cases h
      | some d' =>
        have h : (f d >>= fun x => some (setS ρ i (.oo x))) = some ρ' := h
        rw [q2] at h
        cases h
        exact ⟨d, d', rfl, q2, rfl⟩
    | _ => cases h
theorem frz_oo {ρ : Ev} {es al : List Nat} {i : Nat} {d : D} (h : getS (frzAll ρ es al) i = some (.oo d)) : getS ρ i = some (.oo d) := by
  obtain ⟨s0, q, z⟩ := (frzAll_s ρ es al).get h
  rcases z with z | z
  · rw [q, ← z]
  · cases s0 <;> cases z
section
variable {X : Cx} {H0 H H' : Hp} {A0 : Addr → Prop} {At : Option Addr} {n n' : Option Int} {ρ ρ' : Ev} {fp : Nat → List Addr} {σ : L2.St}
/-- slot i, of which all is held alone, is written -/
theorem Sl.write2 (s : Sl X H0 A0 At n ρ fp σ H) {i : Nat} {d d' : D} {a : Addr} {T' : List Addr} (e : getS ρ i = some (.oo d)) (val : σ[i]? = some (some (.ref a))) (up : ∀ b o, H b = some o → b ∉ fp i → H' b = some o) (trk : ∀ b, H' b = none → H b = none)
    (r : RepX X H' (.ref a) d' (a :: T')) (ic : isCont d' = true) (nd : (a :: T').Nodup) (all : ∀ c ∈ a :: T', (c ∈ fp i ∨ H c = none) ∧ Wr (H' c)) : Sl X H0 A0 At n (setS ρ i (.oo d')) (fset fp i (a :: T')) σ H' := by
  obtain ⟨v0, _, _, _, _, _, w0⟩ := s.rl.slot i _ e
  have ui : ∀ b ∈ fp i, Wr (H b) := s.ul i _ e
  have wA : ∀ b, b ∈ fp i → WrO (H b) := fun b eb => by
    rcases ui b eb with ⟨_, q⟩ | ⟨_, q⟩ | ⟨_, q⟩ <;> (rw [q]; trivial)
  have oth : ∀ j sj, j ≠ i → getS ρ j = some sj → ∀ c ∈ fp j, c ∉ fp i := fun j sj hj ej c hc m => s.rl.sep i j _ sj (Ne.symm hj) e ej c m hc
  have oth2 : ∀ j sj, j ≠ i → getS ρ j = some sj → ∀ c ∈ fp j, c ∉ a :: T' := fun j sj hj ej c hc m => by
    rcases (all c m).1 with z | z
    · exact oth j sj hj ej c hc z
    · exact fp_trk s.rl ej hc z
  have rp : ∀ {v : V} {d : D} {U : List Addr}, RepX X H v d U → (∀ c ∈ U, c ∉ fp i) → RepX X H' v d U := fun r nU => Rep.mono (A := fun b => b ∈ fp i) up wA r nU
  have keepS : ∀ b, b ∉ fp i → WrF (H b) → WrF (H' b) := fun b nb w => by
    cases q : H b with
    | none =>
      rw [q] at w
      rcases w with (⟨_, z⟩ | ⟨_, z⟩ | ⟨_, z⟩) | ⟨_, _, z⟩ <;> cases z
    | some o => rw [up b o q nb, ← q]; exact w
  have keepW : ∀ b, b ∉ fp i → Wr (H b) → Wr (H' b) := fun b nb w => by
    cases q : H b with
    | none =>
      rw [q] at w
      rcases w with ⟨_, z⟩ | ⟨_, z⟩ | ⟨_, z⟩ <;> cases z
    | some o => rw [up b o q nb, ← q]; exact w
  have hlt : i < ρ.length := getS_lt e
  refine ⟨⟨⟨fun b u eb nb => ?_, fun b eb => s.rl.pres.trk b (trk b eb)⟩, by rw [setS_length]; exact s.rl.len, fun j sj ej => ?_, ?_, fun j sj ej c hc => ?_, fun j k sj sk hjk ej ek => ?_, fun j sj ej c hc => ?_⟩, fun j sj ej => ?_⟩
  · exact up b u (s.rl.pres.keep b u eb nb) fun m => by rw [(w0 b m).1] at eb; cases eb
  · rw [getS_set] at ej
    by_cases h : j = i
    · subst h
      rw [if_pos rfl, if_pos hlt] at ej
      cases ej
      rw [fset_same]
      refine ⟨.ref a, val, r, ic, ⟨a, T', rfl, rfl⟩, nd, fun c hc => ⟨?_, .inl (all c hc).2⟩⟩
      rcases (all c hc).1 with z | z
      · exact (w0 c z).1
      · exact s.rl.pres.trk c z
    · rw [if_neg h] at ej
      rw [fset_ne h]
      obtain ⟨v, e1, ok⟩ := s.rl.slot j sj ej
      have nj := oth j sj h ej
      refine ⟨v, e1, ?_⟩
      cases sj with
      | p d => exact rp ok nj
      | o d =>
        obtain ⟨rr, ic2, b, U, ev, eS, nU, h0, ww⟩ := ok
        exact ⟨rp rr nj, ic2, b, U, ev, eS, nU, h0, keepS b (nj b (by rw [eS]; exact List.mem_cons_self)) ww⟩
      | oo d =>
        obtain ⟨rr, ic2, q, nd, all⟩ := ok
        exact ⟨rp rr nj, ic2, q, nd, fun b hb => ⟨(all b hb).1, keepS b (nj b hb) (all b hb).2⟩⟩
      | cell => exact ok
      | err _ => exact ErrOk.imp ok (fun dd fs q => up dd _ q fun m => by rcases ui dd m with ⟨_, w⟩ | ⟨_, w⟩ | ⟨_, w⟩ <;> (rw [q] at w; cases w)) fun _ _ r => rp r fun _ z => nomatch z
  · have c := s.rl.cell
    cases At with
    | none => cases n <;> exact c
    | some b =>
      cases n with
      | none => exact c
      | some k => exact up b _ c fun m => s.rl.nat i _ e b m rfl
  · rw [getS_set] at ej
    by_cases h : j = i
    · subst h
      rw [fset_same] at hc
      rcases (all c hc).1 with z | z
      · exact s.rl.nat j _ e c z
      · exact none_ne_at s.rl.cell z
    · rw [if_neg h] at ej
      rw [fset_ne h] at hc
      exact s.rl.nat j sj ej c hc
  · rw [getS_set] at ej ek
    by_cases h : j = i
    · subst h
      rw [if_pos rfl, if_pos hlt] at ej
      rw [if_neg (Ne.symm hjk)] at ek
      cases ej
      rw [fset_same, fset_ne (Ne.symm hjk)]
      intro b hb hm
      exact oth2 k sk (Ne.symm hjk) ek b hm hb
    · rw [if_neg h] at ej
      rw [fset_ne h]
      by_cases h2 : k = i
      · subst h2
        rw [fset_same]
        have nj := oth2 j sj h ej
        cases sj with
        | o d => exact fun b hb hm => nj b (List.mem_of_mem_head? hb) hm
        | oo d => exact fun b hb hm => nj b hb hm
        | _ => trivial
      · rw [if_neg h2] at ek
        rw [fset_ne h2]
        exact s.rl.sep j k sj sk hjk ej ek
  · rw [getS_set] at ej
    by_cases h : j = i
    · subst h
      rw [fset_same] at hc
      rcases (all c hc).1 with z | z
      · exact s.rl.src j _ e c z
      · exact .inl (s.rl.pres.trk c z)
    · rw [if_neg h] at ej
      rw [fset_ne h] at hc
      exact s.rl.src j sj ej c hc
  · rw [getS_set] at ej
    by_cases h : j = i
    · subst h
      rw [if_pos rfl, if_pos hlt] at ej
      cases ej
      rw [fset_same]
      exact fun b hb => (all b hb).2
    · rw [if_neg h] at ej
      rw [fset_ne h]
      have q := s.ul j sj ej
      have nj := oth j sj h ej
      cases sj with
      | o d => exact fun b hb => keepW b (nj b (List.mem_of_mem_head? hb)) (q b hb)
      | oo d => exact fun b hb => keepW b (nj b hb) (q b hb)
      | _ => trivial
end
section
variable {P : Program} {w : World} {K : PySem.W.Frag} {H : Hp}
theorem repD_none {k d : D} : ∀ {kvs : List (D × D)}, dHas kvs k = false → kvs.map (repD k d) = kvs
  | [], _ => rfl
  | kv :: kvs, h => by
    unfold dHas at h
    rw [List.any_cons, Bool.or_eq_false_iff] at h
    rw [List.map_cons, repD_none (by unfold dHas; exact h.2)]
    unfold repD
    rw [h.1]; rfl
theorem splitL {k : D} {kk : Key} (hk : lkey k = some kk) : ∀ {kvs : List (D × D)} {es : List (Key × V)} {S : List Addr}, kvs.map (fun kv => lkey kv.1) = es.map (fun e => some e.1) → (es.map (·.1)).Nodup → RepL P w K H (es.map (·.2)) (kvs.map (·.2)) S → S.Nodup → ∀ d0, dGet kvs k = some d0 →
    ∃ v U, valV es kk = some v ∧ Rep P w K H v d0 U ∧ ((∀ c ∈ U, c ∈ S) ∧ U.Nodup) ∧ ∀ (H' : Hp) (Ab : Addr → Prop) (d' : D), (∀ b o, H b = some o → ¬ Ab b → H' b = some o) → (∀ b, Ab b → WrO (H b)) → (∀ c ∈ S, Ab c → c ∈ U) → Rep P w K H' v d' U → RepL P w K H' (es.map (·.2)) ((kvs.map (repD k d')).map (·.2)) S
  | [], [], _, _, _, _, _, _, g => by cases g
  | [], _ :: _, _, h, _, _, _, _, _ => by simp at h
  | _ :: _, [], _, h, _, _, _, _, _ => by simp at h
  | kv :: kvs, e :: es, S, h, ne, r, nd, d0, g => by
    simp only [List.map_cons, List.cons.injEq] at h
    rw [List.map_cons, List.nodup_cons] at ne
    cases r with
    | @cons _ _ _ _ S1 S2 r1 r2 =>
      rw [List.nodup_append] at nd
      have q := lkey_key h.1 hk
      by_cases c : e.1 = kk
      · rw [decide_eq_true c] at q
        have hd0 : kv.2 = d0 := by
          unfold dGet at g
          rw [List.find?_cons, q] at g
          exact Option.some.inj g
        refine ⟨e.2, S1, ?_, hd0 ▸ r1, ⟨fun x hx => List.mem_append_left _ hx, nd.1⟩, fun H' Ab d' k1 k2 k3 rr => ?_⟩
        · unfold valV
          rw [List.find?_cons, decide_eq_true c]; rfl
        · have nh : dHas kvs k = false := by
            rw [← (putL hk (Rep.non (P := P) (w := w) (K := K) (H := H)) h.2 r2).1, List.any_eq_false]
            intro x hx z
            exact ne.1 (List.mem_map.mpr ⟨x, hx, by rw [of_decide_eq_true z, c]⟩)
          rw [List.map_cons, List.map_cons, List.map_cons, repD_none nh, show (repD k d' kv).2 = d' by unfold repD; rw [q]; rfl]
          exact .cons rr (RepL.mono k1 k2 r2 fun x hx z => nd.2.2 x (k3 x (List.mem_append_right _ hx) z) x hx rfl)
      · rw [decide_eq_false c] at q
        have g' : dGet kvs k = some d0 := by
          unfold dGet at g ⊢
          rw [List.find?_cons, q] at g
          exact g
        obtain ⟨v, U, e1, e2, ⟨e3, e9⟩, e4⟩ := splitL hk h.2 ne.2 r2 nd.2.1 d0 g'
        refine ⟨v, U, ?_, e2, ⟨fun x hx => List.mem_append_right _ (e3 x hx), e9⟩, fun H' Ab d' k1 k2 k3 rr => ?_⟩
        · unfold valV at e1 ⊢
          rw [List.find?_cons, decide_eq_false c]; exact e1
        · rw [List.map_cons, List.map_cons, List.map_cons, show (repD k d' kv).2 = kv.2 by unfold repD; rw [q]; rfl]
          refine .cons (Rep.mono k1 k2 r1 fun x hx z => ?_) (e4 H' Ab d' k1 k2 (fun x hx => k3 x (List.mem_append_right _ hx)) rr)
          exact nd.2.2 x hx x (e3 x (k3 x (List.mem_append_left _ hx) z)) rfl
theorem splitT {k : D} (hk : isHash k = true) : ∀ {kvs : List (D × D)} {xs : List (NestedKey × Addr × Value)} {vs : List V} {S : List Addr}, xs.map (·.1) = kvs.map (fun kv => keyOf kv.1) → (xs.map (·.1)).Nodup → (∀ kv ∈ kvs, isHash kv.1 = true ∧ isTup kv.1 = true ∧ kv.1.depth ≤ 8) →
    Vals vs (xs.map (·.2.2)) → RepL P w K H vs (kvs.map (·.2)) S → S.Nodup → ∀ d0, dGet kvs k = some d0 →
    ∃ p v U, atKey xs (keyOf k) = some p ∧ RelV v p.2 ∧ Rep P w K H v d0 U ∧ ((∀ c ∈ U, c ∈ S) ∧ U.Nodup) ∧ ∀ (H' : Hp) (Ab : Addr → Prop) (d' : D), (∀ b o, H b = some o → ¬ Ab b → H' b = some o) → (∀ b, Ab b → WrO (H b)) → (∀ c ∈ S, Ab c → c ∈ U) → Rep P w K H' v d' U → RepL P w K H' vs ((kvs.map (repD k d')).map (·.2)) S
  | [], [], _, _, _, _, _, _, _, _, _, g => by cases g
  | [], _ :: _, _, _, h, _, _, _, _, _, _, _ => by simp at h
  | _ :: _, [], _, _, h, _, _, _, _, _, _, _ => by simp at h
  | kv :: kvs, x :: xs, _, S, h, ne, hq, rv, r, nd, d0, g => by
    simp only [List.map_cons, List.cons.injEq] at h
    rw [List.map_cons, List.nodup_cons] at ne
    cases rv with
    | @cons v1 _ vs _ rv1 rv2 =>
    cases r with
    | @cons _ _ _ _ S1 S2 r1 r2 =>
      rw [List.nodup_append] at nd
      have q := eqv_key (hq kv List.mem_cons_self).1 hk
      have hq' := fun kv hm => hq kv (List.mem_cons_of_mem _ hm)
      by_cases c : keyOf kv.1 = keyOf k
      · rw [decide_eq_true c] at q
        have hd0 : kv.2 = d0 := by
          unfold dGet at g
          rw [List.find?_cons, q] at g
          exact Option.some.inj g
        refine ⟨x.2, v1, S1, ?_, rv1, hd0 ▸ r1, ⟨fun x hx => List.mem_append_left _ hx, nd.1⟩, fun H' Ab d' k1 k2 k3 rr => ?_⟩
        · unfold atKey
          rw [List.find?_cons, h.1, decide_eq_true c]; rfl
        · have nh : dHas kvs k = false := by
            rw [← (putT hk (v := .bl true) (r := .bool true) rfl (Rep.bl (P := P) (w := w) (K := K) (H := H) true) h.2 hq' rv2 r2).1]
            cases z : atKey xs (keyOf k) with
            | none => rfl
            | some p =>
              unfold atKey at z
              obtain ⟨y, hy, ey⟩ := Option.map_eq_some_iff.mp z
              have hm := List.mem_of_find?_eq_some hy
              have hp := List.find?_some hy
              exact (ne.1 (List.mem_map.mpr ⟨y, hm, by rw [h.1, c]; exact of_decide_eq_true hp⟩)).elim
          rw [List.map_cons, List.map_cons, repD_none nh, show (repD k d' kv).2 = d' by unfold repD; rw [q]; rfl]
          exact .cons rr (RepL.mono k1 k2 r2 fun x hx z => nd.2.2 x (k3 x (List.mem_append_right _ hx) z) x hx rfl)
      · rw [decide_eq_false c] at q
        have g' : dGet kvs k = some d0 := by
          unfold dGet at g ⊢
          rw [List.find?_cons, q] at g
          exact g
        obtain ⟨p, v, U, e1, e0, e2, ⟨e3, e9⟩, e4⟩ := splitT hk h.2 ne.2 hq' rv2 r2 nd.2.1 d0 g'
        refine ⟨p, v, U, ?_, e0, e2, ⟨fun x hx => List.mem_append_right _ (e3 x hx), e9⟩, fun H' Ab d' k1 k2 k3 rr => ?_⟩
        · unfold atKey at e1 ⊢
          rw [List.find?_cons, h.1, decide_eq_false c]; exact e1
        · rw [List.map_cons, List.map_cons, show (repD k d' kv).2 = kv.2 by unfold repD; rw [q]; rfl]
          refine .cons (Rep.mono k1 k2 r1 fun x hx z => ?_) (e4 H' Ab d' k1 k2 (fun x hx => k3 x (List.mem_append_right _ hx)) rr)
          exact nd.2.2 x hx x (e3 x (k3 x (List.mem_append_left _ hx) z)) rfl
end
section
variable {X : Cx} {pins : List (Addr × Obj)} {σ : L2.St} {H : Hp} {s : Shared} {A : Around} {E : Value → Shared → Prop}
theorem has_of {kvs : List (D × D)} {k d : D} (g : dGet kvs k = some d) : dHas kvs k = true := by rw [dHas_get, g]; rfl
theorem repD_key {k d : D} (kv : D × D) : (repD k d kv).1 = kv.1 := by unfold repD; split <;> rfl
theorem setd_old (hu : A.units + 200 < cLine) (I : Inv X pins σ H s) {a : Addr} {kvs : List (D × D)} {k d0 : D} {y : V} {u r : Value} {T Tk : List Addr} (rep : RepX X H (.ref a) (.dict kvs) (a :: T)) (nd : (a :: T).Nodup) (ho : keyOk kvs k = true) (rk : RepX X H y k Tk) (ru : RelV y u) (g : dGet kvs k = some d0) :
    ∃ v U, RepX X H v d0 U ∧ ((∀ c ∈ U, c ∈ T) ∧ U.Nodup) ∧ (∀ Q : Value → Shared → Prop, (∀ w' s', Inv X pins σ H s' → RelV v w' → Q w' s') → wpAny (model X.prog X.w) A (call (.builtin "dict.setdefault") [.ref a, u, r]) Q E s) ∧
      ∀ (H' : Hp) (Ab : Addr → Prop) (d' : D), (∀ b o, H b = some o → ¬ Ab b → H' b = some o) → (∀ b, Ab b → WrO (H b)) → (∀ c ∈ a :: T, Ab c → c ∈ U) → RepX X H' v d' U → RepX X H' (.ref a) (.dict (dSet kvs k d')) (a :: T) := by
  have nd' := List.nodup_cons.mp nd
  have hh := has_of g
  cases rep with
  | @dk _ es _ _ h e tx n q =>
    rcases keyFit_cases (keyOk_fit ho) with ⟨kk, hk⟩ | ⟨ht, hd⟩
    · obtain ⟨v, U, e1, rv, ⟨sub, nU⟩, sw⟩ := splitL hk e n q nd'.2 d0 g
      obtain ⟨z, hs, vs, kv, dd⟩ := dk_rd I.hok h
      have hz : vs.length ≤ sizeLine := by rw [← (show es.length = vs.length from Paired.length kv)]; exact z
      refine ⟨v, U, rv, ⟨sub, nU⟩, fun Q hQ => ?_, fun H' Ab d' k1 k2 k3 rr => ?_⟩
      · have kvv := kv.val kk
        rw [e1] at kvv
        refine call_meetsIn PySem.F.slot_dict_setdefault dd.typeIs PySem.F.entry_dict_setdefault (PySem.F.args_dict_setdefault_3 _ _ _) (kt_meets_setdefault (mixKind X.prog X.w) a (kV_is (key_rel hk rk ru)) hs r) ⟨vs, dd, hz, fun w9 hv => ?_, fun hn h' dd' hs' => ?_⟩
        · rw [hv] at kvv; exact hQ _ _ (I.tok _) kvv
        · rw [hn] at kvv; exact (show False from kvv).elim
      · have nb : ¬ Ab a := fun z => nd'.1 (sub a (k3 a List.mem_cons_self z))
        rw [dSet_old hh]
        refine .dk (Rd.mono k1 h nb) (map_of_fst.trans e) (fun kv hm x ex => ?_) n (sw H' Ab d' k1 k2 (fun c hc => k3 c (List.mem_cons_of_mem _ hc)) rr)
        obtain ⟨kv0, hm0, rfl⟩ := List.mem_map.mp hm
        rw [repD_key] at ex
        exact tx kv0 hm0 x ex
    · cases kvs with
      | nil => cases g
      | cons kv kvs =>
        cases es with
        | nil => simp at e
        | cons e1 es =>
          simp only [List.map_cons, List.cons.injEq] at e
          have h2 := lkey_notTup e.1
          simp [keyOk, ht, h2] at ho
  | @dt _ xs vs _ _ h z l rk' e n q rv r' =>
    rcases keyFit_cases (keyOk_fit ho) with ⟨kk, hk⟩ | ⟨ht, hd⟩
    · cases kvs with
      | nil => cases g
      | cons kv kvs =>
        have h1 := (q kv List.mem_cons_self).2.1
        have h2 := lkey_notTup hk
        simp [keyOk, h1, h2] at ho
    · have kh := keyFit_hash (keyOk_fit ho)
      obtain ⟨p, v, U, e1, e0, rv', ⟨sub, nU⟩, sw⟩ := splitT kh e n q rv r' nd'.2 d0 g
      have dd := dt_of' I h rk' e n q
      obtain ⟨b, rfl, rfl, hb⟩ := key_heap I (keyOk_fit ho) ht rk ru
      have xl : xs.length = kvs.length := by have := congrArg List.length e; simpa using this
      refine ⟨v, U, rv', ⟨sub, nU⟩, fun Q hQ => ?_, fun H' Ab d' k1 k2 k3 rr => ?_⟩
      · refine call_setdefault_heap (hsz := by rw [xl]; exact l.2) (show A.units + 1 + 8 < cLine by omega) hb z dd (fun p' hp => ?_) fun hn h' dd' hs' => ?_
        · rw [e1] at hp; cases hp
          exact hQ _ _ (I.tok _) e0
        · rw [e1] at hn; cases hn
      · have nb : ¬ Ab a := fun z => nd'.1 (sub a (k3 a List.mem_cons_self z))
        have q' : ∀ kv ∈ kvs.map (repD k d'), isHash kv.1 = true ∧ isTup kv.1 = true ∧ kv.1.depth ≤ 8 := fun kv hm => by
          obtain ⟨kv0, hm0, rfl⟩ := List.mem_map.mp hm
          rw [repD_key]; exact q kv0 hm0
        refine .dt (Rd.mono k1 h nb) z ⟨dSet_ne, by rw [dSet_old hh, List.length_map]; exact l.2⟩ ?_ (by rw [dSet_old hh]; exact e.trans map_of_fst.symm) n (by rw [dSet_old hh]; exact q') rv (by rw [dSet_old hh]; exact sw H' Ab d' k1 k2 (fun c hc => k3 c (List.mem_cons_of_mem _ hc)) rr)
        rw [dSet_old hh, repD_fst]
        exact RepL.mono k1 k2 rk' fun _ h => nomatch h
theorem dSet_dSet {kvs : List (D × D)} {k d0 d' : D} (hk : PyData.eqv k k = true) : dSet (dSet kvs k d0) k d' = dSet kvs k d' := by
  have rr : ∀ kv : D × D, repD k d' (repD k d0 kv) = repD k d' kv := fun kv => by
    unfold repD
    by_cases c : PyData.eqv kv.1 k = true
    · rw [if_pos c, if_pos c]; simp [c]
    · rw [if_neg c, if_neg c]
  cases h : dHas kvs k with
  | true =>
    have h2 : dHas (kvs.map (repD k d0)) k = true := by
      unfold dHas at h ⊢
      rw [List.any_map, ← h]
      congr 1
      funext kv
      show PyData.eqv (repD k d0 kv).1 k = _
      rw [repD_key]
    rw [dSet_old h, dSet_old h2, dSet_old h, List.map_map]
    exact List.map_congr_left fun kv _ => rr kv
  | false =>
    have h2 : dHas (kvs ++ [(k, d0)]) k = true := by
      unfold dHas
      rw [List.any_append]
      simp [hk]
    rw [dSet_new h, dSet_old h2, dSet_new h, List.map_append, repD_none h]
    show kvs ++ [repD k d' (k, d0)] = _
    unfold repD
    rw [hk]; rfl
end
section
variable {X : Cx} {C : Cxt}
theorem inE_app {kvs : List (MP.D × MP.D)} {k d d8 : MP.D} (h : inE k (appE d) (.dict kvs) = some d8) : ∃ xs, dGet kvs k = some (.list xs) ∧ fits (xs.length + 1) = true ∧ d8 = .dict (dSet kvs k (.list (xs ++ [d]))) := by
  obtain ⟨y, e1, h1⟩ := bind_some (show (ixE (.dict kvs) k >>= fun y => appE d y >>= fun z => setIxE (.dict kvs) k z) = some d8 from h)
  obtain ⟨z, e2, h2⟩ := bind_some h1
  have e3 : (if keyOk kvs k = true then dGet kvs k else none) = some y := e1
  obtain ⟨r, e5, e6⟩ := bind_some (show (dSet? kvs k z >>= fun r => some (PyData.dict r)) = some d8 from h2)
  obtain ⟨_, e7⟩ := lftIf_some e5
  by_cases ho : keyOk kvs k = true
  · rw [if_pos ho] at e3
    cases y with
    | list xs =>
      obtain ⟨e8, e9⟩ := lftIf_some e2
      exact ⟨xs, e3, e8, by rw [← Option.some.inj e6, ← e7, ← e9]⟩
    | _ => cases e2
  · rw [if_neg ho] at e3; cases e3
theorem sdE_some {kvs : List (MP.D × MP.D)} {k d2 : MP.D} (h : sdE k (.dict kvs) = some d2) : (dHas kvs k = true ∧ keyOk kvs k = true ∧ d2 = .dict kvs) ∨ (dHas kvs k = false ∧ keyOk kvs k = true ∧ kvs.length < 1000000 ∧ d2 = .dict (dSet kvs k (.list []))) := by
  have h : (if dHas kvs k = true then (if keyOk kvs k = true then some (PyData.dict kvs) else none) else dSet? kvs k (.list []) >>= fun r => some (PyData.dict r)) = some d2 := h
  by_cases hh : dHas kvs k = true
  · rw [if_pos hh] at h
    by_cases ho : keyOk kvs k = true
    · rw [if_pos ho] at h; cases h; exact .inl ⟨hh, ho, rfl⟩
    · rw [if_neg ho] at h; cases h
  · rw [if_neg hh] at h
    obtain ⟨r, e5, e6⟩ := bind_some h
    obtain ⟨g1, e7⟩ := lftIf_some e5
    rw [Bool.and_eq_true, decide_eq_true_eq] at g1
    cases e6
    exact .inr ⟨by simpa using hh, g1.1, g1.2, by rw [← e7]⟩
theorem eqv_self {kvs : List (MP.D × MP.D)} {k : MP.D} (ho : keyOk kvs k = true) : PyData.eqv k k = true := by
  have kh := keyFit_hash (keyOk_fit ho)
  rw [eqv_key kh kh]; exact decide_eq_true rfl
/-- what the whole chain is to do -/
def tSd (X : Cx) (C : Cxt) (i : Nat) (k e : MP.E) : TE := fun σ H Q => ∃ H0 A0 At n ρ fp D, Sl X H0 A0 At n ρ fp σ H ∧ Out (evS C (.setdApp i k e) ρ n) (KD X H0 A0 At D) (ZX X At H0) ∧ ∀ H', D.nx σ H' → Q .non H'
theorem pe_setdApp (hu : X.A.units + 200 < cLine) {i : Nat} {x : Str} {xk xe : Expr} {k e : MP.E} {p a1 c1 a2 c2 lpos : Pos} (hN : X.N[i]? = some x) (hv : Vis X.env.scope x) (hd : (x == ("__debug__" : Str)) = false) (hcd : (x == ("__classdict__" : Str)) = false) (hk : PE X xk (tE X C (ZX X) k)) (he : PE X xe (tE X C (ZX X) e))
    (m : M2 X (.Name x p) "setdefault" a1 xk (.List [] lpos) c1) (m2 : M1 X (.Call (.Attribute (.Name x p) "setdefault" a1) [xk, .List [] lpos] [] c1) "append" a2 xe c2) :
    PE X (.Call (.Attribute (.Call (.Attribute (.Name x p) "setdefault" a1) [xk, .List [] lpos] [] c1) "append" a2) [xe] [] c2) (tSd X C i k e) := by
  refine ⟨fun pins s σ H Q I h => ?_⟩
  obtain ⟨H0, A0, At, n, ρ, fp, D, sl, h, hQ⟩ := h
  rw [evS, out_bind] at h
  replace h := out_noX h
  have hq : ∃ kvs, getS ρ i = some (.oo (.dict kvs)) := out_exists h fun y n1 q => by
    rw [out_bind, out_lft] at q
    obtain ⟨ρ1, hc, _⟩ := q
    obtain ⟨d, d', g, f, _⟩ := chg2_some hc
    cases d with
    | dict kvs => exact ⟨kvs, g⟩
    | _ => cases f
  obtain ⟨kvs, hkv⟩ := hq
  obtain ⟨v0, e1, rep0, _, ⟨a, T, ev, eS⟩, nd0, all0⟩ := sl.rl.slot i _ hkv
  subst ev
  refine wpAny_Call_method m2.base m2.few m2.line PySem.F.plainAttrs_list PySem.F.slot_list_append PySem.F.type_list_append ?_
  refine wpAny_Call_method m.base m.few m.line PySem.F.plainAttrs_dict PySem.F.slot_dict_setdefault PySem.F.type_dict_setdefault (thn ((pe_var hN hv hd hcd).run pins s σ H (fun y H1 => H1 = H ∧ y = .ref a) I ⟨_, e1, rfl, rfl⟩) fun u s1 ⟨y, H1, I1, ry, eH, ey⟩ => ?_)
  subst eH ey
  obtain rfl : u = Value.ref a := ry
  obtain ⟨_, _, _, _, _, _, _, _, raw, _, _⟩ := rep0.raw I1
  have ti := raw.typeIs
  obtain ⟨ob, hg, hx, hdt⟩ := raw
  refine ⟨ti, fun b eb => by cases eb; exact ⟨ob, hg, hx.2.1⟩, ?_⟩
  rw [m.trees]
  refine Calls.callWith_builtin rfl (Calls.evalArgs_plain (Calls.spliced_cons (un1 hk I1 sl.rl (out_no h) fun uk s2 yk dk Sk H2 n2 I2 rk one q => ?_)))
  rw [out_bind, out_lft] at q
  obtain ⟨ρ1, hc, q⟩ := q
  obtain ⟨d1, d2, g, f, eρ⟩ := chg2_some hc
  rw [hkv] at g
  cases g
  have sl2 := sl.next one.p.pres one.p.cell
  refine Calls.spliced_cons (thn ((pe_lst pa_nil (pos := lpos)).run pins s2 σ H2 (fun y H3 => ∃ b, y = .ref b ∧ H2 b = none ∧ H3 = upd H2 b (.lst [])) I2 ⟨by show 0 ≤ sizeLine; decide, fun b hb => ⟨b, rfl, hb, rfl⟩⟩) fun ub s3 ⟨yb, H3, I3, rb, b, eb, hb, eH⟩ => Calls.spliced_nil ?_)
  subst eH eb
  obtain rfl : ub = Value.ref b := rb
  have sm := same_upd (o := .lst []) hb
  have rep2 : RepX X H2 (.ref a) (.dict kvs) (a :: T) := by
    rw [← eS]
    exact Rep.step rep0 sl.rl.cell one.p.pres (sl.rl.nat i _ hkv)
  have rep3 := rep2.same sm
  have rk3 := one.p.rep.same sm
  rw [eS] at nd0 all0
  have nd0' := List.nodup_cons.mp nd0
  have trk2 : ∀ c ∈ a :: T, H2 c ≠ none := fun c hc => Rep.tracked rep2 c hc
  have nbT : ∀ c ∈ a :: T, c ≠ b := fun c hc z => trk2 c hc (z ▸ hb)
  have ul2 : ∀ c ∈ a :: T, Wr (H2 c) := fun c hc => sl2.ul i _ hkv c (by rw [eS]; exact hc)
  have ul3 : ∀ c ∈ a :: T, Wr (upd H2 b (.lst []) c) := fun c hc => by rw [upd_ne (nbT c hc)]; exact ul2 c hc
  -- what is known behind setdefault
  have mid : ∀ (R : Value → Shared → Prop), (∀ (bb : Addr) (Tb : List Addr) (xs : List MP.D) (kvs1 : List (MP.D × MP.D)) (T1 : List Addr) (s4 : Shared) (H4 : Hp), Inv X pins σ H4 s4 → ρ1 = setS ρ i (.oo (.dict kvs1)) → Sl X H0 A0 At n2 ρ1 (fset fp i (a :: T1)) σ H4 → RepX X H4 (.ref bb) (.list xs) (bb :: Tb) → ((∀ c ∈ bb :: Tb, c ∈ T1) ∧ (bb :: Tb).Nodup) → (a :: T1).Nodup →
      (∀ (H' : Hp) (Ab : Addr → Prop) (d' : MP.D), (∀ c o, H4 c = some o → ¬ Ab c → H' c = some o) → (∀ c, Ab c → WrO (H4 c)) → (∀ c ∈ a :: T1, Ab c → c ∈ bb :: Tb) → RepX X H' (.ref bb) d' (bb :: Tb) → RepX X H' (.ref a) (.dict (dSet kvs1 dk d')) (a :: T1)) →
      dGet kvs1 dk = some (.list xs) → R (.ref bb) s4) → wpAny (model X.prog X.w) X.A (call (.builtin "dict.setdefault") [.ref a, uk, .ref b]) R X.xe s3 := by
    intro R hR
    have wa : WrO (upd H2 b (.lst []) a) := by
      rcases ul3 a List.mem_cons_self with ⟨_, q⟩ | ⟨_, q⟩ | ⟨_, q⟩ <;> (rw [q]; trivial)
    have up3 : ∀ c o, H2 c = some o → c ∉ fp i → upd H2 b (.lst []) c = some o := fun c o e _ => sm c o e
    rcases sdE_some f with ⟨hh, ho, e9⟩ | ⟨hh, ho, hl, e9⟩
    · subst e9
      rw [dHas_get] at hh
      obtain ⟨d0, g0⟩ := Option.isSome_iff_exists.mp hh
      obtain ⟨v, U, rv, ⟨sub, nU⟩, run, sw⟩ := setd_old (A := X.A) (E := X.xe) (r := .ref b) hu I3 rep3 nd0 ho rk3 rk g0
      -- what is there is a list
      obtain ⟨xs, ex⟩ : ∃ xs, d0 = .list xs := out_exists (out_noX (out_bind.mp q)) fun d n3 q => by
        rw [out_bind, out_lft] at q
        obtain ⟨ρ', hc', _⟩ := q
        split at hc'
        · obtain ⟨d9, d8, g9, f9, _⟩ := chg2_some hc'
          have g9 := frz_oo g9
          rw [eρ, getS_set, if_pos rfl, if_pos (getS_lt hkv)] at g9
          cases g9
          obtain ⟨xs, z, _⟩ := inE_app f9
          rw [g0] at z
          exact ⟨xs, Option.some.inj z⟩
        · cases hc'
      subst ex
      obtain ⟨bb, Tb, ev, eU⟩ : ∃ bb Tb, v = .ref bb ∧ U = bb :: Tb := by
        generalize hdx : PyData.list xs = dx at rv
        cases rv <;> first | exact ⟨_, _, rfl, rfl⟩ | cases hdx
      subst ev eU
      refine run _ fun w' s' I' rw' => ?_
      obtain rfl : w' = Value.ref bb := rw'
      refine hR bb Tb xs kvs T s' _ I' eρ ?_ rv ⟨sub, nU⟩ nd0 sw g0
      rw [eρ]
      exact sl2.write2 hkv e1 up3 (fun c e => (Pres.same (At := none) sm).trk c e) rep3 rfl nd0 fun c hc => ⟨.inl (by rw [eS]; exact hc), ul3 c hc⟩
    · subst e9
      have rvb : RepX X (upd H2 b (.lst [])) (.ref b) (.list []) [b] := .lst (.inl (by rw [upd_same])) .nil
      have nab : a ≠ b := nbT a List.mem_cons_self
      obtain ⟨ob4, T1, w4, rep4, sub4, _, _, third⟩ := dict_put' (A := X.A) (E := X.xe) (r := .ref b) (v := .ref b) (show X.A.units + 100 < cLine by omega) I3 (ul3 a List.mem_cons_self) rep3 nd0'.1 ho hl rk3 rk rvb rfl (fun m => nab (List.mem_singleton.mp m))
      obtain ⟨eT, sw, run⟩ := third hh
      have eT : T1 = T ++ [b] := eT
      have nd1 : (a :: T1).Nodup := by
        rw [eT, ← List.cons_append]
        exact nodup_snoc nd0 fun m => nbT b m rfl
      refine run _ fun s' I' => hR b [] [] _ T1 s' _ I' eρ ?_ ?_ ?_ nd1 ?_ ?_
      · rw [eρ]
        refine sl2.write2 hkv e1 (fun c o e nc => ?_) (fun c e => ?_) rep4 rfl nd1 fun c hc => ?_
        · rw [upd_ne (fun z => nc (by rw [eS, z]; exact List.mem_cons_self))]; exact sm c o e
        · by_cases z : c = a
          · rw [z, upd_same] at e; cases e
          · rw [upd_ne z] at e; exact (Pres.same (At := none) sm).trk c e
        · rw [eT] at hc
          rcases List.mem_cons.mp hc with z | hc
          · exact ⟨.inl (by rw [eS, z]; exact List.mem_cons_self), by rw [z, upd_same]; exact w4⟩
          · have nca : c ≠ a := fun z => by
              rw [eT] at nd1
              exact (List.nodup_cons.mp nd1).1 (z ▸ hc)
            rw [upd_ne nca]
            rcases List.mem_append.mp hc with m | m
            · exact ⟨.inl (by rw [eS]; exact List.mem_cons_of_mem _ m), ul3 c (List.mem_cons_of_mem _ m)⟩
            · rw [List.mem_singleton.mp m]
              exact ⟨.inr hb, by rw [upd_same]; exact .inl ⟨_, rfl⟩⟩
      · exact .lst (.inl (by rw [upd_ne (Ne.symm nab), upd_same])) .nil
      · exact ⟨fun c hc => by rw [eT]; exact List.mem_append_right _ hc, by simp⟩
      · intro H' Ab d' k1 k2 k3 rr
        rw [dSet_dSet (eqv_self ho)]
        exact sw H' Ab d' k1 k2 k3 (fun c hc m => nbT c m (List.mem_singleton.mp hc)) rr
      · have kh := eqv_self ho
        rw [dSet_new hh]
        unfold dGet
        rw [List.find?_append]
        have nf : (kvs.find? fun kv => PyData.eqv kv.1 dk) = none := by
          unfold dHas at hh
          rw [List.any_eq_false] at hh
          rw [List.find?_eq_none]
          exact hh
        rw [nf]
        simp [kh]
  refine mid _ fun bb Tb xs kvs1 T1 s4 H4 I4 eρ1 sl4 repb ⟨sub1, ndb⟩ nd1 sw g1 => ?_
  have hlt : i < ρ.length := getS_lt hkv
  have g4 : getS ρ1 i = some (.oo (.dict kvs1)) := by rw [eρ1, getS_set, if_pos rfl, if_pos hlt]
  have fi : fset fp i (a :: T1) i = a :: T1 := fset_same
  have ulb : ∀ c ∈ a :: T1, Wr (H4 c) := fun c hc => sl4.ul i _ g4 c (by rw [fi]; exact hc)
  have mb : bb ∈ a :: T1 := List.mem_cons_of_mem _ (sub1 bb List.mem_cons_self)
  -- the list as the method call sees it
  have lb : ∃ ws, H4 bb = some (.lst ws) := by
    cases repb with
    | lst hr _ =>
      rcases hr with z | ⟨u9, z⟩
      · exact ⟨_, z⟩
      · rcases ulb bb mb with ⟨_, q⟩ | ⟨_, q⟩ | ⟨_, q⟩ <;> (rw [z] at q; cases q)
  obtain ⟨ws0, hws0⟩ := lb
  obtain ⟨_, its, kk9, _, _, eo⟩ := I4.lstM hws0
  refine ⟨⟨_, eo, rfl⟩, fun b eb => by cases eb; exact ⟨_, eo, rfl⟩, ?_⟩
  rw [m2.trees]
  rw [out_bind] at q
  refine Calls.callWith_builtin rfl (Calls.evalArgs_plain (Calls.spliced_cons (un1 he I4 sl4.rl (out_no (out_noX q)) fun ud s5 vd d S5 H5 n5 I5 rd one5 q5 => Calls.spliced_nil ?_)))
  rw [out_bind, out_lft] at q5
  obtain ⟨ρ', hc5, q5⟩ := q5
  have hd' : isHash d = true := by
    cases z : isHash d with
    | true => rfl
    | false => rw [z, if_neg Bool.false_ne_true] at hc5; cases hc5
  rw [if_pos hd'] at hc5
  obtain ⟨d9, d8, g9, f9, e9⟩ := chg2_some hc5
  have g9' := frz_oo g9
  rw [g4] at g9'
  cases g9'
  obtain ⟨xs', gx, ft, e8⟩ := inE_app f9
  rw [g1] at gx
  cases gx
  have sl5 := (sl4.next one5.p.pres one5.p.cell).frzS (frzAll_s ρ1 e.esc e.al)
  have nat4 : ∀ c ∈ a :: T1, At ≠ some c := fun c hc => sl4.rl.nat i _ g4 c (by rw [fi]; exact hc)
  have repb5 : RepX X H5 (.ref bb) (.list xs) (bb :: Tb) := Rep.step repb sl4.rl.cell one5.p.pres fun c hc => nat4 c (List.mem_cons_of_mem _ (sub1 c hc))
  have ul5 : ∀ c ∈ a :: T1, Wr (H5 c) := fun c hc => sl5.ul i _ g9 c (by rw [fi]; exact hc)
  cases repb5 with
  | @lst _ ws _ Tb' hr rr =>
  have hr : H5 bb = some (.lst ws) := by
    rcases hr with z | ⟨u9, z⟩
    · exact z
    · rcases ul5 bb mb with ⟨_, q⟩ | ⟨_, q⟩ | ⟨_, q⟩ <;> (rw [z] at q; cases q)
  have nbb : bb ∉ Tb := (List.nodup_cons.mp ndb).1
  have nS : S5 = [] := one5.p.rep.hash_nil hd'
  subst nS
  refine mt_append pins s5 σ H5 (.ref bb) [vd] _ _ Q I5 rfl (.cons rd .nil) ⟨bb, ws, vd, rfl, rfl, hr, by rw [rr.length]; exact fits_le ft, ?_⟩
  have wbb : WrO (H5 bb) := by rw [hr]; trivial
  have upb : ∀ c o, H5 c = some o → ¬ (c = bb) → upd H5 bb (.lst (ws ++ [vd])) c = some o := fun c o e nb => by rw [upd_ne nb]; exact e
  have repb6 : RepX X (upd H5 bb (.lst (ws ++ [vd]))) (.ref bb) (.list (xs ++ [d])) (bb :: Tb) := by
    have z := (RepL.mono (A := fun c => c = bb) upb (fun c e => e ▸ wbb) rr fun c hc z => nbb (z ▸ hc)).append (.cons (Rep.mono (A := fun c => c = bb) upb (fun c e => e ▸ wbb) one5.p.rep fun c hc => nomatch hc) .nil)
    rw [List.append_nil, List.append_nil] at z
    exact .lst (.inl (by rw [upd_same])) z
  have rep6 := sw (upd H5 bb (.lst (ws ++ [vd]))) (fun c => c = bb ∨ At = some c) (.list (xs ++ [d])) (fun c o e nc => by
      rw [upd_ne (fun z => nc (.inl z))]
      exact one5.p.pres.keep c o e fun z => nc (.inr z)) (fun c hc => by
      rcases hc with z | z
      · rw [z, hws0]; trivial
      · have cc := sl4.rl.cell
        rw [z] at cc
        obtain ⟨_, q⟩ := cc.at_some
        rw [q]; trivial) (fun c hc z => by
      rcases z with z | z
      · rw [z]; exact List.mem_cons_self
      · exact absurd z (nat4 c hc)) repb6
  rw [out_pure] at q5
  rw [e9, e8] at q5
  refine hQ _ (q5 At _ σ _ (sl5.write2 g9 e1 (fun c o e nc => upb c o e fun z => nc (by rw [z, fi]; exact mb)) (fun c e => ?_) rep6 rfl nd1 fun c hc => ⟨.inl (by rw [fi]; exact hc), ?_⟩) .refl)
  · by_cases z : c = bb
    · rw [z, upd_same] at e; cases e
    · rw [upd_ne z] at e; exact e
  · by_cases z : c = bb
    · rw [z, upd_same]; exact .inl ⟨_, rfl⟩
    · rw [upd_ne z]; exact ul5 c hc
theorem x_setdApp (hu : X.A.units + 200 < cLine) {i : Nat} {x : Str} {xk xe : Expr} {k e : MP.E} {p a1 c1 a2 c2 lpos pos : Pos} (hN : X.N[i]? = some x) (hv : Vis X.env.scope x) (hd : (x == ("__debug__" : Str)) = false) (hcd : (x == ("__classdict__" : Str)) = false) (hk : PE X xk (tE X C (ZX X) k)) (he : PE X xe (tE X C (ZX X) e))
    (m : M2 X (.Name x p) "setdefault" a1 xk (.List [] lpos) c1) (m2 : M1 X (.Call (.Attribute (.Name x p) "setdefault" a1) [xk, .List [] lpos] [] c1) "append" a2 xe c2)
    (hs : swapsWith (.Call (.Attribute (.Call (.Attribute (.Name x p) "setdefault" a1) [xk, .List [] lpos] [] c1) "append" a2) [xe] [] c2) none pos.line X.env = pure false) :
    PS X (.Expr (.Call (.Attribute (.Call (.Attribute (.Name x p) "setdefault" a1) [xk, .List [] lpos] [] c1) "append" a2) [xe] [] c2) pos) (tS X C (.setdApp i k e)) := by
  refine (ps_expr (pe_setdApp hu hN hv hd hcd hk he m m2) hs).weak fun D σ H h => ?_
  obtain ⟨H0, A0, At, n, ρ, fp, sl, h⟩ := h
  exact ⟨H0, A0, At, n, ρ, fp, D, sl, h, fun _ z => z⟩
theorem rsetdApp (i : Nat) {x : Str} {xk xe : Expr} {k e : MP.E} {p a1 c1 a2 c2 lpos pos : Pos} (hu : X.A.units + 200 < cLine) (hk : PE X xk (tE X C (ZX X) k)) (he : PE X xe (tE X C (ZX X) e)) (m : M2 X (.Name x p) "setdefault" a1 xk (.List [] lpos) c1 := by exact ⟨rfl, rfl, rfl, rfl⟩)
    (m2 : M1 X (.Call (.Attribute (.Name x p) "setdefault" a1) [xk, .List [] lpos] [] c1) "append" a2 xe c2 := by exact ⟨rfl, rfl, rfl, rfl⟩) (hN : X.N[i]? = some x := by rfl) (hv : Vis X.env.scope x := by first | exact .inl rfl | exact .inr (.inl rfl)) (hd : (x == ("__debug__" : Str)) = false := by rfl) (hcd : (x == ("__classdict__" : Str)) = false := by rfl)
    (hs : swapsWith (.Call (.Attribute (.Call (.Attribute (.Name x p) "setdefault" a1) [xk, .List [] lpos] [] c1) "append" a2) [xe] [] c2) none pos.line X.env = pure false := by rfl) :
    PS X (.Expr (.Call (.Attribute (.Call (.Attribute (.Name x p) "setdefault" a1) [xk, .List [] lpos] [] c1) "append" a2) [xe] [] c2) pos) (tS X C (.setdApp i k e)) := x_setdApp hu hN hv hd hcd hk he m m2 hs
end
end MP

/-! MPHk: a hook that looks at the module's tuples, too. -/
namespace MP
open PySem PySem.Spec L2
open PyProof.Rows hiding St
abbrev Tp : Type := Str × List He.Dv
def obsX (fa : List He.Fa) (fn : List He.DefD) (ts : List Tp) (K : PySem.W.Frag) : He.AlD × Bool := (He.obsD fa fn K, ts.all fun t => He.tupB K t.1 t.2)
def SaysX (fa : List He.Fa) (fn : List He.DefD) (ts : List Tp) (K : PySem.W.Frag) : Prop := obsX fa fn ts K = (He.valD fn, true)
def obsXG (n : Nat) (fa : List He.Fa) (fn : List He.DefD) (ts : List Tp) (g : Addr → Option Obj) : He.AlD × Bool := obsX fa fn ts (He.frG g (He.asD g n))
def hookX (n : Nat) (fa : List He.Fa) (fn : List He.DefD) (ts : List Tp) : PySem.W.Hook where
  α := He.AlD × Bool
  obs := fun s => obsXG n fa fn ts s.heap.get?
  val := fun _ => (He.valD fn, true)
  says := fun _ h => ∃ K : PySem.W.Frag, K.In h ∧ SaysX fa fn ts K
  of := fun _ _ e => ⟨_, He.frG_in, e⟩
  keeps := fun _ _ _ ⟨K, hK, c⟩ k => ⟨K, PySem.W.Frag.In.keeps hK k, c⟩
theorem obsXG_eq {n : Nat} {fa : List He.Fa} {fn : List He.DefD} {ts : List Tp} {g : Addr → Option Obj} {s : Shared} (h : ∀ a, g a = s.heap.get? a) : obsXG n fa fn ts g = (hookX n fa fn ts).obs s := by
  have e : g = s.heap.get? := funext h
  rw [e] <;> rfl
section
variable {fa : List He.Fa} {fn : List He.DefD} {ts : List Tp} {K : PySem.W.Frag}
theorem SaysX.says (c : SaysX fa fn ts K) : He.SaysD fa fn K := congrArg (fun z : He.AlD × Bool => z.1) c
theorem SaysX.tup (c : SaysX fa fn ts K) (i : Nat) {t : Tp} (h : ts[i]? = some t := by rfl) : He.tupB K t.1 t.2 = true := by
  have c1 : (ts.all fun t => He.tupB K t.1 t.2) = true := congrArg (fun z : He.AlD × Bool => z.2) c
  exact List.all_eq_true.mp c1 t (List.mem_of_getElem? h)
end
section
variable {P : Program} {w : World} {K : PySem.W.Frag}
theorem repl_strs {H : Hp} : ∀ ys : List Str, (ys.all fun y => decide (y.length ≤ 16777216) && PyData.strOk y) = true → RepL P w K H (ys.map V.str) (ys.map PyData.str) []
  | [], _ => .nil
  | y :: ys, h => by
    rw [List.all_cons, Bool.and_eq_true, Bool.and_eq_true, decide_eq_true_eq] at h
    exact .cons (S := []) (T := []) (.str y ⟨by have := h.1.1; rw [sizeLine_eq]; exact this, h.1.2⟩) (repl_strs ys h.2)
/-- a tuple of texts of the module, seen past the script's list -/
theorem rep_tupS {a : Addr} {vs : List Value} {x : Str} {ys : List Str} (hl : ∀ o, K.lookup a = some o → o = { cls := .type "list", data := .seq vs.toArray }) (h : He.tupB K x (ys.map He.Dv.str) = true) (hy : (ys.all fun y => decide (y.length ≤ 16777216) && PyData.strOk y) = true) (H : Hp) :
    Rep P w (cutK K a) H (.ref (He.ga K x)) (.tuple (ys.map PyData.str)) [] := by
  rcases He.tupB_ok h (fun _ => none) with (q | ⟨_, q⟩) | ⟨o, its, n, q1, q2, q3, q4, q5⟩
  · cases q
  · cases q
  · have ne : He.ga K x ≠ a := fun z => by
      rw [z] at q1
      rw [hl _ q1] at q2
      have q2 : Value.type "list" = Value.type "tuple" := q2
      exact absurd (Value.type.inj q2) (by decide)
    have e : (ys.map He.Dv.str).map (He.Dv.v K) = ys.map V.str := by rw [List.map_map]; rfl
    rw [e] at q5
    exact .tup (.inr ⟨o, its, n, by rw [cutK_look, if_neg ne]; exact q1, q2, q3, q4, q5⟩) (repl_strs ys hy)
end
end MP

/-! MPExc1: an __init__ of the program's own errors: super().__init__(x, ..), then self.f = x. -/
namespace MP
open PySem PySem.Spec L2
open PyProof.Rows hiding St
section
variable {P : Program} {w : World} {A : Around} {R : Result → Shared → Prop} {E : Value → Shared → Prop} {hp : Heap} {g : Array GenState} {d : Drawn} {t : Nat} {os : OsState}
variable {nm q : Str} {C N : Addr} {bs bm : List Value} {hdct : Bool} {sn : List Str} {sub : List Value} {ab : Bool} {col : Option Bool} {dd : Option Addr} {k0 k1 k2 k3 k5 : Option Value}
/-- the bound __init__ of ValueError, called -/
theorem call_mw {u e t0 : Addr} {rest : List Value} {Q : Value → Shared → Prop}
    (hC : hp.get? C = some (excClassObj nm q C N bs bm hdct sn sub ab col dd k0 k1 k2 k3 k5 "ValueError.__new__")) (he : hp.get? e = some (HandSPX.excO C t0)) (hu : hp.get? u = some (PySem.W.kxs_mw "ValueError.__init__" e)) (hrest : rest.length ≤ sizeLine)
    (hq : ∀ h' t1, (∀ b o, b ≠ e → hp.get? b = some o → h'.get? b = some o) → h'.get? e = some (HandSPX.excO C t1) → Q .none ⟨h', g, d, t, os⟩) :
    wpAny (model P w) A (call (.ref u) rest) Q E ⟨hp, g, d, t, os⟩ := by
  refine wpAny_call (codeAny_of_tree ?_)
  show wpAny _ A.in1 (callAny (.ref u) ⟨rest, []⟩) _ _ _
  simp only [callAny]
  refine wpAny_bind (wpAny_load hu ?_)
  simp only [PySem.W.kxs_mw, show (Value.type "method-wrapper" == Value.type "method" || Value.type "method-wrapper" == Value.type "builtin_function_or_method" || Value.type "method-wrapper" == Value.type "method-wrapper") = true by decide, if_true]
  refine PySem.W.KFB.if_so (by decide) ?_
  refine wpAny_bind (PySem.W.check_bound_init F.excBase_ValueError.toExcCallFacts hC he rfl ?_)
  refine wpAny_bind (wpAny_pure (wpAny_pure ?_))
  refine ⟨plainId_quiet F.excBase_ValueError.init.plain _, codeAny_builtin F.excBase_ValueError.initEntry ?_⟩
  wp_walk
  refine hq _ hp.objs.size (fun b o hb ho => ?_) ?_
  · rw [Heap.get?_update_other _ _ (Ne.symm hb)]
    exact Heap.get?_push_of_some _ ho
  · rw [Heap.get?_update_self _ (Heap.get?_push_of_some _ he) rfl]
    rfl
end
/-- the heap of the run, beside the error and its dict -/
structure Rn (K : PySem.W.Frag) (s : Shared) (a L : Addr) (m : Str → Option Value) (mg : Str → Option Value) (hp : Heap) : Prop where
  keep : ∀ b o, b ≠ a → s.heap.get? b = some o → hp.get? b = some o
  nk : K.lookup a = none
  ns : hp.Ns L m
  kin : K.In hp
  glob : hp.Ns mainGlobals mg
  blt : ∃ mb, hp.Ns builtinsNs mb ∧ ∀ x : Str, x ≠ "__name__" → mb x = bootBuiltins x
theorem ns_ne {h : Heap} {L a : Addr} {m : Str → Option Value} {o : Obj} {v : Array Value} (n : h.Ns L m) (e : h.get? a = some o) (d : o.data = .fields v) : L ≠ a := fun z => by
  obtain ⟨o', es, ep, h1, h2, _⟩ := n
  rw [z, e] at h1
  cases h1
  rw [d] at h2
  cases h2
theorem ns_but {h h' : Heap} {L a : Addr} {m : Str → Option Value} (n : h.Ns L m) (k : ∀ b o, b ≠ a → h.get? b = some o → h'.get? b = some o) (ne : L ≠ a) : h'.Ns L m := by
  obtain ⟨o', es, ep, h1, r⟩ := n
  exact ⟨o', es, ep, k _ _ ne h1, r⟩
theorem Rn.grow {K : PySem.W.Frag} {s : Shared} {a L : Addr} {m mg : Str → Option Value} {hp h' : Heap} (r : Rn K s a L m mg hp) (k : ∀ b o, hp.get? b = some o → h'.get? b = some o) : Rn K s a L m mg h' where
  keep := fun b o n e => k b o (r.keep b o n e)
  nk := r.nk
  ns := r.ns.keeps k
  kin := r.kin.keeps k
  glob := r.glob.keeps k
  blt := by obtain ⟨mb, h1, h2⟩ := r.blt; exact ⟨mb, h1.keeps k, h2⟩
theorem Rn.change {K : PySem.W.Frag} {s : Shared} {a L : Addr} {m mg : Str → Option Value} {hp h' : Heap} {o : Obj} {v : Array Value} (r : Rn K s a L m mg hp) (k : ∀ b o, b ≠ a → hp.get? b = some o → h'.get? b = some o) (e : hp.get? a = some o) (d : o.data = .fields v) : Rn K s a L m mg h' where
  keep := fun b o n e => k b o n (r.keep b o n e)
  nk := r.nk
  ns := ns_but r.ns k (ns_ne r.ns e d)
  kin := fun b o z => k b o (fun q => by rw [q, r.nk] at z; cases z) (r.kin b o z)
  glob := ns_but r.glob k (ns_ne r.glob e d)
  blt := by obtain ⟨mb, h1, h2⟩ := r.blt; exact ⟨mb, ns_but h1 k (ns_ne h1 e d), h2⟩
section
variable {P : Program} {w : World} {K : PySem.W.Frag} {mg : Str → Option Value} {base : Heap} {A : Around} {fr : List Env} {s : Shared} {H : Hp} {R : Result → Shared → Prop} {E : Value → Shared → Prop}
variable {fI D cc cda C a L : Addr} {nm qual : Str} {params : Arguments} {body : List Stmt} {scope : Scope} {dV kV doc pm ct oc ccl cl : Value} {an od cdd cld : Option Addr} {osl ccs csl : Array (Option Value)} {vs : Array Value} {file : Str} {tf : Tok} {cdD : ClassData} {ar : Arg}
/-- a name of the frame -/
theorem ldX {env : Env} {m : Str → Option Value} {x : Str} {pos : Pos} {v : Value} {Q : Value → Shared → Prop} {hp : Heap} {g : Array GenState} {d : Drawn} {t : Nat} {os : OsState} (hn : hp.Ns env.locals m) (hv : m x = some v) (h : Q v ⟨hp, g, d, t, os⟩)
    (hk : env.scope.kind = .function) (hl : env.kindOf x = some .local) (hd : (x == ("__debug__" : Str)) = false) : wpAny (model P w) A (eval (.Name x pos) env) Q E ⟨hp, g, d, t, os⟩ := wpAny_Name (wpAny_loadName_local hk hl hn hv h) hd
theorem ldK {L fI : Addr} {cd : Value} {cc : Addr} {m : Str → Option Value} {x : Str} {pos : Pos} {v : Value} {Q : Value → Shared → Prop} {hp : Heap} {g : Array GenState} {d : Drawn} {t : Nat} {os : OsState} (hn : hp.Ns L m) (hv : m x = some v) (hk : scope.kind = .function) (hl : scope.names.lookup x = some .local) (hd : (x == ("__debug__" : Str)) = false)
    (h : Q v ⟨hp, g, d, t, os⟩) : wpAny (model P w) A (eval (.Name x pos) (PySem.W.ksEnv qual scope L fI cd cc)) Q E ⟨hp, g, d, t, os⟩ := ldX (env := PySem.W.ksEnv qual scope L fI cd cc) hn hv h hk hl hd
/-- what is read of the def and its class, off the written part -/
structure InitH (P : Program) (K : PySem.W.Frag) (fI D cc cda : Addr) (scope : Scope) (xs : List Str) (C : Addr) : Prop where
  code : ∃ ccl cdd vs ccs file tf, K.lookup cda = some ⟨ccl, cdd, .fields vs, ccs⟩ ∧ vs[2]? = some (.str file tf) ∧ ((P.main.file : Str) == file) = true
  cell : ∃ cl cld csl, K.lookup cc = some ⟨cl, cld, .cell (some (.ref D)), csl⟩
  clsD : ∃ cdD, PySem.W.clsIn K D = some cdD
  cls : OexC K C
  sub : PySem.W.mroIn K C (.ref D) = some true
  init : PySem.W.ks_superIn K C D "__init__" = some (some (.builtin "ValueError.__init__"))
  ve : PySem.W.subIn K (.ref C) (.type "ValueError") = some true
  sup : PySem.W.nsIn K mainGlobals "super" = some none
  top : (P.main.scope.names.lookup ("super" : Str)).isSome = false
  opq : PySem.W.nsIn K cStatics "thirdparty.any" = some none
  kind : scope.kind = .function
  ks : scope.names.lookup ("super" : Str) = some .globalImplicit
  kc : scope.names.lookup ("__class__" : Str) = some .free
  loc : ∀ x ∈ ("self" : Str) :: xs, scope.names.lookup x = some .local
  nocell : ∀ x ∈ scope.names, x.2 ≠ .cell
  co : scope.isCoroutine = false
  gen : scope.isGenerator = false
  dbg : ∀ x ∈ xs, (x == ("__debug__" : Str)) = false
/-- super().__init__(x, ..) as a statement -/
theorem super_st {pl : Sem Bool} {x : Str} {rest : List Expr} {p0 p1 p2 p4 p5 p3 : Pos} {m : Str → Option Value} {hp : Heap} {g : Array GenState} {d : Drawn} {t : Nat} {os : OsState} {t0 : Addr} {us : List Value} {Q : Flow → Shared → Prop}
    (hfd : ∃ oc od osl, K.lookup fI = some ⟨oc, od, .func (PySem.W.ksFn nm qual params body scope dV kV doc pm an (.ref cda) ct cc), osl⟩) (hp0 : (params.posonlyargs ++ params.args).head? = some ar) (har : ar.arg = "self")
    {xs : List Str} (F : InitH P K fI D cc cda scope xs C) (r : Rn K s a L m mg hp) (hself : m "self" = some (.ref a)) (ho : hp.get? a = some (HandSPX.excO C t0)) (hlen : us.length ≤ sizeLine)
    (hargs : ∀ (A : Around) (hp' : Heap) (t' : Nat) (Q : List Value → Shared → Prop) (E : Value → Shared → Prop), Rn K s a L m mg hp' → Q us ⟨hp', g, d, t', os⟩ → wpAny (model P w) A (spliced (backTo p4 (starEach (.Name x p3 :: rest) (PySem.W.ksEnv qual scope L fI (.ref cda) cc)))) Q E ⟨hp', g, d, t', os⟩)
    (he : starEach (.Name x p3 :: rest) (PySem.W.ksEnv qual scope L fI (.ref cda) cc) = (false, eval (.Name x p3) (PySem.W.ksEnv qual scope L fI (.ref cda) cc)) :: starEach rest (PySem.W.ksEnv qual scope L fI (.ref cda) cc)) (hpl : (backTo p4 (starEach rest (PySem.W.ksEnv qual scope L fI (.ref cda) cc))).any (·.1) = false)
    (hev : eval (.Call (.Attribute (.Call (.Name "super" p0) [] [] p1) "__init__" p2) (.Name x p3 :: rest) [] p4) (PySem.W.ksEnv qual scope L fI (.ref cda) cc) = (do
      let ov ← attributeBase (.Call (.Name "super" p0) [] [] p1) "__init__" (PySem.W.ksEnv qual scope L fI (.ref cda) cc) (eval (.Call (.Name "super" p0) [] [] p1) (PySem.W.ksEnv qual scope L fI (.ref cda) cc))
      standAt p2.atName
      let (f, first) ← holding [ov] (getMethod ov "__init__" pl)
      callWith p4 f first (backTo p4 (starEach (.Name x p3 :: rest) (PySem.W.ksEnv qual scope L fI (.ref cda) cc))) []))
    (hia : interactive (PySem.W.ksEnv qual scope L fI (.ref cda) cc) = false)
    (hsw : swapsWith (.Call (.Attribute (.Call (.Name "super" p0) [] [] p1) "__init__" p2) (.Name x p3 :: rest) [] p4) none p5.line (PySem.W.ksEnv qual scope L fI (.ref cda) cc) = pure false)
    (fin : ∀ h' t1 t', Rn K s a L m mg h' → h'.get? a = some (HandSPX.excO C t1) → Q .next ⟨h', g, d, t', os⟩) :
    _root_.PySem.wpAt (model P w) A (.func body (PySem.W.ksEnv qual scope L fI (.ref cda) cc)) (exec (.Expr (.Call (.Attribute (.Call (.Name "super" p0) [] [] p1) "__init__" p2) (.Name x p3 :: rest) [] p4) p5) (PySem.W.ksEnv qual scope L fI (.ref cda) cc)) Q E ⟨hp, g, d, t, os⟩ := by
  obtain ⟨ccl, cdd, vs, ccs, file, tf, hcode, hvs, hfile⟩ := F.code
  obtain ⟨cl, cld, csl, hcell⟩ := F.cell
  obtain ⟨cdD, hD⟩ := F.clsD
  obtain ⟨oc, od, osl, hfd⟩ := hfd
  obtain ⟨mb, hb1, hb2⟩ := r.blt
  obtain ⟨oD, hD1, hD2⟩ : ∃ oD, hp.get? D = some oD ∧ oD.data = .cls cdD := by
    unfold PySem.W.clsIn at hD
    split at hD
    · rename_i c d cd' sl ho
      cases hD
      exact ⟨_, r.kin _ _ ho, rfl⟩
    · cases hD
  refine ks_wpAt_Expr_any (ks_wpAt_MethodCall (pl := pl) ?_ hev) hia hsw
  refine ks_wpAt_super_base (env := PySem.W.ksEnv qual scope L fI (.ref cda) cc) F.ks F.kc (by decide) rfl (r.kin _ _ hfd) rfl hp0 rfl (r.kin _ _ hcode) rfl hvs hfile F.top ?_
  refine PySem.W.ks_loadName_global F.kind F.ks (PySem.Calls.loadGlobal_builtin (env := PySem.W.ksEnv qual scope L fI (.ref cda) cc) r.glob (PySem.W.mg_none_of r.kin r.glob F.sup) hb1 ((hb2 _ (by decide)).trans (by decide +kernel)) ⟨rfl, ?_⟩)
  refine wpAny_loadName_free F.kind F.kc rfl ⟨_, r.kin _ _ hcell, rfl⟩ ?_
  rw [har]
  refine wpAny_loadName_local F.kind (F.loc _ List.mem_cons_self) r.ns hself ?_
  refine ks_wpAny_isType_cls hD1 hD2 ⟨rfl, ?_⟩
  refine ks_wpAny_call_super hD1 hD2 ho rfl (fun c e => by cases e) (PySem.W.looks_mroIn r.kin F.sub) (fun h1 e1 k1 => ?_)
  have r1 := r.grow k1
  have ho1 := k1 _ _ ho
  obtain ⟨nmc, qc, N, bs, bm, sn, sub, ab, col, dd, k0, k1', k2, k3, k5, hC, hbm⟩ := F.cls.cls
  have hcl : PySem.W.clsIn K C = some { name := nmc, bases := bs, mro := .ref C :: bm, ns := N, qualname := qc, hasDict := true, slotNames := sn, subclasses := sub, abstract := ab, collection := col, hasDel := false } := by unfold PySem.W.clsIn; rw [hC] <;> rfl
  have I1 : PySem.W.InstAt h1 a (HandSPX.excO C t0) C none := ⟨ho1, rfl, rfl, trivial⟩
  have hin := F.init
  unfold PySem.W.ks_superIn at hin
  rw [hcl] at hin
  refine PySem.W.kxs_getMethod (h := h1) PySem.W.kxs_ValueError e1 (PySem.W.looks_opaque r1.kin F.opq) (l₀ := .ref C :: bm) (fun A Q E s k q => wpAny_bind ((PySem.W.looks_clsIn r1.kin hcl) A _ E s k (wpAny_pure q))) rfl r1.kin hin (I1.type.andThen (PySem.W.looks_subIn r1.kin F.ve)) (PySem.W.ks_ne r1.kin I1 hcl) (by decide) ?_
  have k2' : ∀ b o, h1.get? b = some o → (h1.push (PySem.W.kxs_mw "ValueError.__init__" a)).get? b = some o := fun b o e => Heap.get?_push_of_some _ e
  have r2 := r1.grow k2'
  have ho2 := k2' _ _ ho1
  have hmw : (h1.push (PySem.W.kxs_mw "ValueError.__init__" a)).get? h1.objs.size = some (PySem.W.kxs_mw "ValueError.__init__" a) := Heap.get?_push_at rfl rfl
  show wpAny _ _ (callWith p4 (.ref h1.objs.size) [] (backTo p4 (starEach (.Name x p3 :: rest) (PySem.W.ksEnv qual scope L fI (.ref cda) cc))) []) _ _ _
  have hargs := hargs A (h1.push (PySem.W.kxs_mw "ValueError.__init__" a)) (t + 1) (fun vs s₁ => vs = us ∧ s₁ = ⟨h1.push (PySem.W.kxs_mw "ValueError.__init__" a), g, d, t + 1, os⟩)
  rw [he] at hargs ⊢
  refine PySem.W.kxs_callWith (i := "ValueError.__init__") (x := a) (by show (false || (backTo p4 (starEach rest (PySem.W.ksEnv qual scope L fI (.ref cda) cc))).any (·.1)) = false; rw [hpl]; rfl) ?_
  refine PySem.Calls.evalArgs_plain ?_
  refine wpAny_mono (hargs E r2 ⟨rfl, rfl⟩) (fun vs s₁ ⟨e1, e2⟩ => ?_) fun _ _ z => z
  subst e1 e2
  refine ⟨hmw, ?_⟩
  refine call_mw (r2.kin _ _ hC) ho2 hmw hlen fun h3 t1 k3 e3 => ?_
  exact fin h3 t1 (t + 1) (r2.change k3 ho2 rfl) e3
/-- self.f = v, the first -/
theorem store1 {m : Str → Option Value} {hp : Heap} {g : Array GenState} {d : Drawn} {t : Nat} {os : OsState} {t0 : Addr} {f : Str} {v : Value} {Q : Unit → Shared → Prop} (T : OexC K C) (hno : PySem.W.findIn K (.ref C) f = some none) (r : Rn K s a L m mg hp) (ho : hp.get? a = some (HandSPX.excO C t0))
    (fin : ∀ h' tk dx, Rn K s a L m mg h' → (∀ b o, hp.get? b = some o → b ≠ dx) → dx ≠ a → s.heap.get? dx = none → h'.get? a = some ({ cls := .ref C, dict := some dx, data := .fields #[.ref t0, .none, .none, .none, .bool false, .none] } : Obj) → h'.Ns1 dx (fun y => if y = f then some v else none) → Q () ⟨h', g, d, tk, os⟩) :
    wpAny (model P w) A (setAttr (.ref a) f v) Q E ⟨hp, g, d, t, os⟩ := by
  obtain ⟨nm, q, N, bs, bm, sn, sub, ab, col, dd, k0, k1, k2, k3, k5, hC, hbm⟩ := T.cls
  have hcl : PySem.W.clsIn K C = some { name := nm, bases := bs, mro := .ref C :: bm, ns := N, qualname := q, hasDict := true, slotNames := sn, subclasses := sub, abstract := ab, collection := col, hasDel := false } := by unfold PySem.W.clsIn; rw [hC] <;> rfl
  refine PySem.W.set_plain r.kin (ox := { cls := .ref C, dict := none, data := .fields #[.ref t0, .none, .none, .none, .bool false, .none] }) (od := none) ⟨ho, rfl, rfl, trivial⟩ T.sa ?_
  refine PySem.HandSPX.exc_osa r.kin ho hcl (show PySem.HandSPX.refsVE (.ref C :: bm) = true from hbm) rfl hno (fun h' tk' dx k dn dne hx hn => ?_)
  refine fin h' tk' dx (r.change k ho rfl) (fun b o e => Nat.ne_of_lt (Nat.lt_of_lt_of_le (Heap.lt_size e) dn)) dne ?_ hx hn
  cases z : s.heap.get? dx with
  | none => rfl
  | some o => exact absurd (Heap.lt_size (r.keep dx o dne z)) (Nat.not_lt.mpr dn)
/-- a further one -/
theorem store2 {m : Str → Option Value} {hp : Heap} {g : Array GenState} {d : Drawn} {t : Nat} {os : OsState} {t0 dx : Addr} {f : Str} {v : Value} {m0 : Str → Option Value} {nl : List Str} {Q : Unit → Shared → Prop} (T : OexC K C) (hno : PySem.W.findIn K (.ref C) f = some none) (r : Rn K s a L m mg hp) (hLd : L ≠ dx) (hdx : s.heap.get? dx = none) (hGd : ∀ b o, K.lookup b = some o → b ≠ dx) (hmg : mainGlobals ≠ dx) (hbl : builtinsNs ≠ dx) (hda : dx ≠ a)
    (ho : hp.get? a = some ({ cls := .ref C, dict := some dx, data := .fields #[.ref t0, .none, .none, .none, .bool false, .none] } : Obj)) (hn : hp.Ns1 dx m0) (hw : Within m0 nl) (hz : nl.length ≤ 1000)
    (fin : ∀ h' tk, Rn K s a L m mg h' → h'.get? a = some ({ cls := .ref C, dict := some dx, data := .fields #[.ref t0, .none, .none, .none, .bool false, .none] } : Obj) → h'.Ns1 dx (fun y => if y = f then some v else m0 y) → Q () ⟨h', g, d, tk, os⟩) :
    wpAny (model P w) A (setAttr (.ref a) f v) Q E ⟨hp, g, d, t, os⟩ := by
  obtain ⟨nm, q, N, bs, bm, sn, sub, ab, col, dd, k0, k1, k2, k3, k5, hC, hbm⟩ := T.cls
  have hcl : PySem.W.clsIn K C = some { name := nm, bases := bs, mro := .ref C :: bm, ns := N, qualname := q, hasDict := true, slotNames := sn, subclasses := sub, abstract := ab, collection := col, hasDel := false } := by unfold PySem.W.clsIn; rw [hC] <;> rfl
  obtain ⟨oD, _, _, hoD, _, _⟩ := hn.count hw
  refine PySem.W.set_plain r.kin (ox := { cls := .ref C, dict := some dx, data := .fields #[.ref t0, .none, .none, .none, .bool false, .none] }) (od := some oD) ⟨ho, rfl, rfl, hoD⟩ T.sa ?_
  refine PySem.OEX.osa_old r.kin ho hn hw hz hcl (show PySem.HandSPX.refsVE (.ref C :: bm) = true from hbm) rfl hno (fun h' tk' k hn' => ?_)
  refine fin h' tk' ⟨fun b o nb e => k b o (fun q => by rw [q, hdx] at e; cases e) (r.keep b o nb e), r.nk, ns_but r.ns k hLd, fun b o e => k b o (hGd b o e) (r.kin b o e), ns_but r.glob k hmg, ?_⟩ (k _ _ hda.symm ho) hn'
  obtain ⟨mb, h1, h2⟩ := r.blt
  exact ⟨mb, ns_but h1 k hbl, h2⟩
/-- behind the stores: the heap as the layer sees it -/
theorem init_end {fs : List (Str × V)} {mA : Str → Option Value} {m : Str → Option Value} {s' : Shared} {t1 dx : Addr} {Q : VK} (en : Env0 P w K mg base A fr s H) (ha : H a = some (exo a C none)) (r : Rn K s a L m mg s'.heap) (dne : dx ≠ a) (dn : s.heap.get? dx = none)
    (hx : s'.heap.get? a = some ({ cls := .ref C, dict := some dx, data := .fields #[.ref t1, .none, .none, .none, .bool false, .none] } : Obj)) (hn : s'.heap.Ns1 dx mA) (rel : ∀ f, RelO (fs.lookup f) (mA f)) (hos : s'.os = s.os) (hg : s'.gens = s.gens)
    (q : ∀ dx, H dx = none → dx ≠ a → Q .non (upd (upd H dx (exd dx fs)) a (exo a C (some dx)))) : CE fr P w H s Q .none s' := by
  have hnd : H dx = none := en.hok.gone dn
  have na : ∀ {b : Addr}, H b = none → b ≠ a := fun {b} n z => by
    rw [z, ha] at n
    cases n
  have nd : ∀ {b : Addr} {o : Obj}, s.heap.get? b = some o → b ≠ dx := fun {b o} q z => by rw [z, dn] at q; cases q
  refine ⟨.non, _, hos, by rw [hg]; exact en.bare, ?_, ?_, rfl, q dx hnd dne⟩
  · exact {
      keep := fun b o q n _ _ => r.keep b o (na n) q
      slot := fun b o q n _ _ => ⟨o.slots, r.keep b o (na n) q⟩
      free := fun b o q n _ => by rw [upd_ne (na n), upd_ne (nd q)]; exact n
      there := fun b o q _ => by
        by_cases hb : b = a
        · exact ⟨_, by rw [hb]; exact hx⟩
        · exact ⟨o, r.keep b o hb q⟩
      tups := fun b xs q => by rw [upd_ne (at_ne ha q exo_tup), upd_ne (ne_of_none q hnd)]; exact q
      frzs := fun b o v q => by rw [upd_ne (at_ne ha q exo_frz), upd_ne (ne_of_none q hnd)]; exact q
      tbls := fun b ps q => ⟨#[], by rw [upd_ne (at_ne ha q exo_tbl), upd_ne (ne_of_none q hnd), q]; simp⟩ }
  · intro b o q
    by_cases hb : b = a
    · subst hb
      rw [upd_same] at q
      cases q
      exact exo_ok hx
    · rw [upd_ne hb] at q
      by_cases hd : b = dx
      · subst hd
        rw [upd_same] at q
        cases q
        exact exd_ok hn rel
      · rw [upd_ne hd] at q
        exact (en.hok b o q).stay (fun c v hc z => r.keep c v (by
            rcases hc with hc | hc
            · rw [hc]
              exact hb
            · exact at_ne ha hc exo_own) z)
          (fun c hc => by rw [upd_ne (at_ne ha hc exo_own), upd_ne (ne_of_none hc hnd)]; exact hc) (fun c xs hc => by rw [upd_ne (at_ne ha hc exo_tup), upd_ne (ne_of_none hc hnd)]; exact hc)
/-- what an __init__ with one field promises -/
def spI1 (C : Addr) (f : Str) : Sp := fun vs H Q _ => ∃ (a : Addr) (y : V), vs = [.ref a, y] ∧ H a = some (exo a C none) ∧ ∀ dx, H dx = none → dx ≠ a → Q .non (upd (upd H dx (exd dx [(f, y)])) a (exo a C (some dx)))
theorem init1 {CX : CXT} {pl : Sem Bool} {x f : Str} {p0 p1 p2 p3 p4 p5 q1 q2 q3 q4 : Pos} (hbody : body = [.Expr (.Call (.Attribute (.Call (.Name "super" p0) [] [] p1) "__init__" p2) [.Name x p3] [] p4) p5, .Assign [.Attribute (.Name "self" q1) f q2] (.Name x q3) q4])
    (look : ∃ oc od osl, K.lookup fI = some ⟨oc, od, .func (PySem.W.ksFn nm qual params body scope dV kV doc pm an (.ref cda) ct cc), osl⟩) (code : PySem.W.codeIn K (.ref cda) qual = true) (hp0 : (params.posonlyargs ++ params.args).head? = some ar) (har : ar.arg = "self")
    (F : InitH P K fI D cc cda scope [x] C) (hno : PySem.W.findIn K (.ref C) f = some none) (hxs : x ≠ "self")
    (he : ∀ L, starEach [.Name x p3] (PySem.W.ksEnv qual scope L fI (.ref cda) cc) = (false, eval (.Name x p3) (PySem.W.ksEnv qual scope L fI (.ref cda) cc)) :: starEach [] (PySem.W.ksEnv qual scope L fI (.ref cda) cc))
    (hpl : ∀ L, (backTo p4 (starEach [] (PySem.W.ksEnv qual scope L fI (.ref cda) cc))).any (·.1) = false)
    (hev : ∀ L, eval (.Call (.Attribute (.Call (.Name "super" p0) [] [] p1) "__init__" p2) [.Name x p3] [] p4) (PySem.W.ksEnv qual scope L fI (.ref cda) cc) = (do
      let ov ← attributeBase (.Call (.Name "super" p0) [] [] p1) "__init__" (PySem.W.ksEnv qual scope L fI (.ref cda) cc) (eval (.Call (.Name "super" p0) [] [] p1) (PySem.W.ksEnv qual scope L fI (.ref cda) cc))
      standAt p2.atName
      let (f, first) ← holding [ov] (getMethod ov "__init__" pl)
      callWith p4 f first (backTo p4 (starEach [.Name x p3] (PySem.W.ksEnv qual scope L fI (.ref cda) cc))) []))
    (hia : ∀ L, interactive (PySem.W.ksEnv qual scope L fI (.ref cda) cc) = false)
    (hsw : ∀ L, swapsWith (.Call (.Attribute (.Call (.Name "super" p0) [] [] p1) "__init__" p2) [.Name x p3] [] p4) none p5.line (PySem.W.ksEnv qual scope L fI (.ref cda) cc) = pure false)
    (hsw2 : ∀ L, swapsWith (.Name x q3) (some (.Attribute (.Name "self" q1) f q2)) q4.line (PySem.W.ksEnv qual scope L fI (.ref cda) cc) = pure false) : FnOk P w K mg base CX 1 fI (PySem.W.ksFn nm qual params body scope dV kV doc pm an (.ref cda) ct cc) ["self", x] (spI1 C f) := by
  refine ⟨fun vs H Q E ⟨a, y, e, _⟩ => by rw [e]; rfl, ?_⟩
  rintro A outer s H args us vs Q E room en bind rel ⟨a, y, rfl, ha, q⟩
  obtain ⟨u0, u, rfl, ru0, ru⟩ := vals2 rel
  cases ru0
  have kin : K.In s.heap := en.mod.kin.keeps fun b o z => (en.bs b o z).1
  have unlim : s.heap.NoLimit := en.mod.nolimit.keeps fun b o z => (en.bs b o z).1
  obtain ⟨oc, od, osl, look'⟩ := id look
  have up := fun b o z => (en.bs b o z).1
  have nk : K.lookup a = none := by
    cases z : K.lookup a with
    | none => rfl
    | some o =>
      have := (en.bs a o (en.mod.kin a o z)).2
      rw [ha] at this
      cases this
  obtain ⟨t0, hoa⟩ := exo_at en.hok ha
  have hloc : ∀ p ∈ (["self", x] : List Str).zip [Value.ref a, u], scope.names.lookup p.1 = some .local := fun p hp => F.loc _ (List.of_mem_zip hp).1
  refine ks_codeAny_call_defAt (fd := PySem.W.ksFn nm qual params body scope dV kV doc pm an (.ref cda) ct cc) (body := body) (binds := (["self", x] : List Str).zip [Value.ref a, u]) room.depth (kin _ _ look') rfl unlim (PySem.W.codeRec_of kin code) rfl bind F.nocell hloc (fun h₀ hns hk => ?_) F.co F.gen F.kind
  generalize hL : s.heap.objs.size = L at hns
  have r0 : Rn K s a L (fun z => ((["self", x] : List Str).zip [Value.ref a, u]).reverse.lookup z) mg h₀ :=
    ⟨fun b o _ e => hk b o e, nk, hns, kin.keeps hk, (en.mod.glob.keeps up).keeps hk, by obtain ⟨mb, h1, h2⟩ := en.mod.blt; exact ⟨mb, (h1.keeps up).keeps hk, h2⟩⟩
  have mx : ((["self", x] : List Str).zip [Value.ref a, u]).reverse.lookup x = some u := by
    show List.lookup x [(x, u), ("self", Value.ref a)] = _
    rw [List.lookup]; simp
  have ms : ((["self", x] : List Str).zip [Value.ref a, u]).reverse.lookup ("self" : Str) = some (.ref a) := by
    show List.lookup ("self" : Str) [(x, u), ("self", Value.ref a)] = _
    rw [List.lookup, show (("self" : Str) == x) = false by simpa using fun z : ("self" : Str) = x => hxs z.symm]
    rw [List.lookup]; simp
  have kx := F.loc x (List.mem_cons_of_mem _ List.mem_cons_self)
  have kself := F.loc "self" List.mem_cons_self
  have dx := F.dbg x List.mem_cons_self
  show _root_.PySem.wpAt (model P w) (A.deeper (PySem.W.ksEnv qual scope L fI (.ref cda) cc)) (.func body (PySem.W.ksEnv qual scope L fI (.ref cda) cc)) (execs body (PySem.W.ksEnv qual scope L fI (.ref cda) cc)) _ _ _
  generalize hB : body = B
  rw [hB] at hbody look
  subst hbody
  refine ks_wpAt_execs_cons (super_st (m := fun z => ((["self", x] : List Str).zip [Value.ref a, u]).reverse.lookup z) (us := [u]) (a := a) look hp0 har F r0 ms (hk _ _ hoa) (by show 1 ≤ sizeLine; rw [sizeLine_eq]; decide) (fun A hp' t' Q E r' hq => ?_) (he L) (hpl L) (hev L) (hia L) (hsw L) (fun h1 t1 t' r1 e1 => ?_))
  · rw [he L]
    exact PySem.Calls.spliced_cons (ldK r'.ns mx F.kind kx dx (PySem.Calls.spliced_nil hq))
  · refine ks_wpAt_execs_cons (ks_wpAt_Assign_Attr (wpAt_of_wpAny (ldK r1.ns mx F.kind kx dx (ldK r1.ns ms F.kind kself (by decide) (store1 (P := P) F.cls hno r1 e1 (fun h' tk dx r2 _ dne dn hx hn => ?_))))) (hsw2 L))
    refine wpAt_of_wpAny (wpAny_execs_nil ?_)
    exact init_end (fs := [(f, y)]) en ha r2 dne dn hx hn (relO_put (fs := []) ru fun g => True.intro) rfl rfl q
theorem vals3' {x y z : V} {us : List Value} (r : Vals [x, y, z] us) : ∃ u v w, us = [u, v, w] ∧ RelV x u ∧ RelV y v ∧ RelV z w := by
  cases r with
  | cons r1 r => cases r with
    | cons r2 r => cases r with
      | cons r3 r => cases r; exact ⟨_, _, _, rfl, r1, r2, r3⟩
/-- what an __init__ with two fields promises -/
def spI2 (C : Addr) (f f2 : Str) : Sp := fun vs H Q _ => ∃ (a : Addr) (y y2 : V), vs = [.ref a, y, y2] ∧ H a = some (exo a C none) ∧ ∀ dx, H dx = none → dx ≠ a → Q .non (upd (upd H dx (exd dx [(f2, y2), (f, y)])) a (exo a C (some dx)))
theorem init2 {CX : CXT} {pl : Sem Bool} {x x2 f f2 : Str} {p0 p1 p2 p3 p4 p5 p6 q1 q2 q3 q4 r1 r2 r3 r4 : Pos} (hbody : body = [.Expr (.Call (.Attribute (.Call (.Name "super" p0) [] [] p1) "__init__" p2) [.Name x p3, .Name x2 p6] [] p4) p5, .Assign [.Attribute (.Name "self" q1) f q2] (.Name x q3) q4, .Assign [.Attribute (.Name "self" r1) f2 r2] (.Name x2 r3) r4])
    (look : ∃ oc od osl, K.lookup fI = some ⟨oc, od, .func (PySem.W.ksFn nm qual params body scope dV kV doc pm an (.ref cda) ct cc), osl⟩) (code : PySem.W.codeIn K (.ref cda) qual = true) (hp0 : (params.posonlyargs ++ params.args).head? = some ar) (har : ar.arg = "self")
    (F : InitH P K fI D cc cda scope [x, x2] C) (hno : PySem.W.findIn K (.ref C) f = some none) (hno2 : PySem.W.findIn K (.ref C) f2 = some none) (hxs : x ≠ "self") (hxs2 : x2 ≠ "self") (hxx : x ≠ x2)
    (he : ∀ L, starEach [.Name x p3, .Name x2 p6] (PySem.W.ksEnv qual scope L fI (.ref cda) cc) = (false, eval (.Name x p3) (PySem.W.ksEnv qual scope L fI (.ref cda) cc)) :: starEach [.Name x2 p6] (PySem.W.ksEnv qual scope L fI (.ref cda) cc))
    (he2 : ∀ L, starEach [.Name x2 p6] (PySem.W.ksEnv qual scope L fI (.ref cda) cc) = (false, eval (.Name x2 p6) (PySem.W.ksEnv qual scope L fI (.ref cda) cc)) :: starEach [] (PySem.W.ksEnv qual scope L fI (.ref cda) cc))
    (hpl : ∀ L, (backTo p4 (starEach [.Name x2 p6] (PySem.W.ksEnv qual scope L fI (.ref cda) cc))).any (·.1) = false)
    (hev : ∀ L, eval (.Call (.Attribute (.Call (.Name "super" p0) [] [] p1) "__init__" p2) [.Name x p3, .Name x2 p6] [] p4) (PySem.W.ksEnv qual scope L fI (.ref cda) cc) = (do
      let ov ← attributeBase (.Call (.Name "super" p0) [] [] p1) "__init__" (PySem.W.ksEnv qual scope L fI (.ref cda) cc) (eval (.Call (.Name "super" p0) [] [] p1) (PySem.W.ksEnv qual scope L fI (.ref cda) cc))
      standAt p2.atName
      let (f, first) ← holding [ov] (getMethod ov "__init__" pl)
      callWith p4 f first (backTo p4 (starEach [.Name x p3, .Name x2 p6] (PySem.W.ksEnv qual scope L fI (.ref cda) cc))) []))
    (hia : ∀ L, interactive (PySem.W.ksEnv qual scope L fI (.ref cda) cc) = false)
    (hsw : ∀ L, swapsWith (.Call (.Attribute (.Call (.Name "super" p0) [] [] p1) "__init__" p2) [.Name x p3, .Name x2 p6] [] p4) none p5.line (PySem.W.ksEnv qual scope L fI (.ref cda) cc) = pure false)
    (hsw3 : ∀ L, swapsWith (.Name x2 r3) (some (.Attribute (.Name "self" r1) f2 r2)) r4.line (PySem.W.ksEnv qual scope L fI (.ref cda) cc) = pure false)
    (hsw2 : ∀ L, swapsWith (.Name x q3) (some (.Attribute (.Name "self" q1) f q2)) q4.line (PySem.W.ksEnv qual scope L fI (.ref cda) cc) = pure false) : FnOk P w K mg base CX 1 fI (PySem.W.ksFn nm qual params body scope dV kV doc pm an (.ref cda) ct cc) ["self", x, x2] (spI2 C f f2) := by
  refine ⟨fun vs H Q E ⟨a, y, y2, e, _⟩ => by rw [e]; rfl, ?_⟩
  rintro A outer s H args us vs Q E room en bind rel ⟨a, y, y2, rfl, ha, q⟩
  obtain ⟨u0, u, u2, rfl, ru0, ru, ru2⟩ := vals3' rel
  cases ru0
  have kin : K.In s.heap := en.mod.kin.keeps fun b o z => (en.bs b o z).1
  have unlim : s.heap.NoLimit := en.mod.nolimit.keeps fun b o z => (en.bs b o z).1
  obtain ⟨oc, od, osl, look'⟩ := id look
  have up := fun b o z => (en.bs b o z).1
  have nk : K.lookup a = none := by
    cases z : K.lookup a with
    | none => rfl
    | some o =>
      have := (en.bs a o (en.mod.kin a o z)).2
      rw [ha] at this
      cases this
  obtain ⟨t0, hoa⟩ := exo_at en.hok ha
  have hloc : ∀ p ∈ (["self", x, x2] : List Str).zip [Value.ref a, u, u2], scope.names.lookup p.1 = some .local := fun p hp => F.loc _ (List.of_mem_zip hp).1
  refine ks_codeAny_call_defAt (fd := PySem.W.ksFn nm qual params body scope dV kV doc pm an (.ref cda) ct cc) (body := body) (binds := (["self", x, x2] : List Str).zip [Value.ref a, u, u2]) room.depth (kin _ _ look') rfl unlim (PySem.W.codeRec_of kin code) rfl bind F.nocell hloc (fun h₀ hns hk => ?_) F.co F.gen F.kind
  generalize hL : s.heap.objs.size = L at hns
  have r0 : Rn K s a L (fun z => ((["self", x, x2] : List Str).zip [Value.ref a, u, u2]).reverse.lookup z) mg h₀ :=
    ⟨fun b o _ e => hk b o e, nk, hns, kin.keeps hk, (en.mod.glob.keeps up).keeps hk, by obtain ⟨mb, h1, h2⟩ := en.mod.blt; exact ⟨mb, (h1.keeps up).keeps hk, h2⟩⟩
  have mx2 : ((["self", x, x2] : List Str).zip [Value.ref a, u, u2]).reverse.lookup x2 = some u2 := by
    show List.lookup x2 [(x2, u2), (x, u), ("self", Value.ref a)] = _
    rw [List.lookup]; simp
  have mx : ((["self", x, x2] : List Str).zip [Value.ref a, u, u2]).reverse.lookup x = some u := by
    show List.lookup x [(x2, u2), (x, u), ("self", Value.ref a)] = _
    rw [List.lookup, show (x == x2) = false by simpa using hxx, List.lookup]; simp
  have ms : ((["self", x, x2] : List Str).zip [Value.ref a, u, u2]).reverse.lookup ("self" : Str) = some (.ref a) := by
    show List.lookup ("self" : Str) [(x2, u2), (x, u), ("self", Value.ref a)] = _
    rw [List.lookup, show (("self" : Str) == x2) = false by simpa using fun z : ("self" : Str) = x2 => hxs2 z.symm, List.lookup, show (("self" : Str) == x) = false by simpa using fun z : ("self" : Str) = x => hxs z.symm, List.lookup]; simp
  have kx2 := F.loc x2 (List.mem_cons_of_mem _ (List.mem_cons_of_mem _ List.mem_cons_self))
  have dx2 := F.dbg x2 (List.mem_cons_of_mem _ List.mem_cons_self)
  have kx := F.loc x (List.mem_cons_of_mem _ List.mem_cons_self)
  have kself := F.loc "self" List.mem_cons_self
  have dx := F.dbg x List.mem_cons_self
  show _root_.PySem.wpAt (model P w) (A.deeper (PySem.W.ksEnv qual scope L fI (.ref cda) cc)) (.func body (PySem.W.ksEnv qual scope L fI (.ref cda) cc)) (execs body (PySem.W.ksEnv qual scope L fI (.ref cda) cc)) _ _ _
  generalize hB : body = B
  rw [hB] at hbody look
  subst hbody
  refine ks_wpAt_execs_cons (super_st (m := fun z => ((["self", x, x2] : List Str).zip [Value.ref a, u, u2]).reverse.lookup z) (us := [u, u2]) (a := a) look hp0 har F r0 ms (hk _ _ hoa) (by show 2 ≤ sizeLine; rw [sizeLine_eq]; decide) (fun A hp' t' Q E r' hq => ?_) (he L) (hpl L) (hev L) (hia L) (hsw L) (fun h1 t1 t' r1 e1 => ?_))
  · rw [he L]
    have q1 : wpAny (model P w) A (spliced ((false, eval (.Name x p3) (PySem.W.ksEnv qual scope L fI (.ref cda) cc)) :: backTo p4 (starEach [.Name x2 p6] (PySem.W.ksEnv qual scope L fI (.ref cda) cc)))) Q E ⟨hp', s.gens, s.drawn, t', s.os⟩ := by
      rw [he2 L]
      exact PySem.Calls.spliced_cons (ldK r'.ns mx F.kind kx dx (PySem.Calls.spliced_cons (ldK r'.ns mx2 F.kind kx2 dx2 (PySem.Calls.spliced_nil hq))))
    exact q1
  · refine ks_wpAt_execs_cons (ks_wpAt_Assign_Attr (wpAt_of_wpAny (ldK r1.ns mx F.kind kx dx (ldK r1.ns ms F.kind kself (by decide) (store1 (P := P) F.cls hno r1 e1 (fun h' tk dx r2 fr' dne dn hx hn => ?_))))) (hsw2 L))
    obtain ⟨oL, _, _, hoL, _⟩ := r1.ns
    obtain ⟨oG, _, _, hoG, _⟩ := r1.glob
    obtain ⟨mb, hmb, _⟩ := r1.blt
    obtain ⟨oB, _, _, hoB, _⟩ := hmb
    have hw : Within (fun z => if z = f then some u else none) [f] := fun z hz => by
      by_cases e : z = f
      · rw [e]; exact List.mem_cons_self
      · exact absurd (if_neg e) hz
    refine ks_wpAt_execs_cons (ks_wpAt_Assign_Attr (wpAt_of_wpAny (ldK r2.ns mx2 F.kind kx2 dx2 (ldK r2.ns ms F.kind kself (by decide) (store2 (P := P) F.cls hno2 r2 (fr' _ _ hoL) dn (fun b o e => fr' b o (r1.kin b o e)) (fr' _ _ hoG) (fr' _ _ hoB) dne hx hn hw (by show 1 ≤ 1000; decide) (fun h3 tk3 r3 hx3 hn3 => ?_))))) (hsw3 L))
    refine wpAt_of_wpAny (wpAny_execs_nil ?_)
    exact init_end (fs := [(f2, y2), (f, y)]) en ha r3 dne dn hx3 hn3 (relO_put (fs := [(f, y)]) ru2 (relO_put (fs := []) ru fun g => True.intro)) rfl rfl q
end
end MP

/-! MPRaise: raise of the program's own errors. -/
namespace MP
open PySem PySem.Spec L2
open PyProof.Rows hiding St

/-- what the module says of a class of errors -/
structure ClsOk (P : Program) (w : World) (K : PySem.W.Frag) (mg : Str → Option Value) (base : Heap) (r : XRow) : Prop where
  ex : ∃ C fI fd ps sp, mg r.nm = some (.ref C) ∧ OexC K C ∧ PySem.W.findIn K (.ref C) "__init__" = some (some (.ref fI)) ∧ PySem.W.typeIn K (.ref fI) = some (.type "function") ∧ FnOk P w K mg base (CX P w) 1 fI fd ps sp ∧ Binds K fd ps [] ∧
    ((∃ f, r.fds = [f] ∧ sp = spI1 C f) ∨ ∃ f f2, r.fds = [f, f2] ∧ f ≠ f2 ∧ sp = spI2 C f f2) ∧ XfC K C ∧ ExcC K C ∧ (∀ f ∈ r.fds, PySem.W.findIn K (.ref C) f = some none) ∧
    ∀ x b, r.ans.lookup x = some b → ∃ c, ClsV mg x c ∧ PySem.W.exmOne K (.ref C) c = some b ∧ PySem.W.kitOne K (.ref C) c = some b
section
variable {P : Program} {w : World} {K : PySem.W.Frag} {H : Hp}
mutual
theorem Rep.plain : ∀ {v : V} {d : D} {S : List Addr}, Rep P w K H v d S → plainD d = true → S = []
  | _, _, _, .non, _ => rfl
  | _, _, _, .bl _, _ => rfl
  | _, _, _, .int _, _ => rfl
  | _, _, _, .str _ _, _ => rfl
  | _, _, _, .lst _ _, h => by simp [plainD] at h
  | _, _, _, .tup _ r, h => RepL.plain r (by simpa [plainD] using h)
  | _, _, _, .dk _ _ _ _ _, h => by simp [plainD] at h
  | _, _, _, .dt _ _ _ _ _ _ _ _ _, h => by simp [plainD] at h
theorem RepL.plain : ∀ {vs : List V} {ds : List D} {S : List Addr}, RepL P w K H vs ds S → plainD.plainL ds = true → S = []
  | _, _, _, .nil, _ => rfl
  | _, _, _, .cons r rs, h => by
    unfold plainD.plainL at h
    rw [Bool.and_eq_true] at h
    rw [Rep.plain r h.1, RepL.plain rs h.2]; rfl
end
end
/-- the heap behind a new error -/
def excH (H1 : Hp) (a dx C : Addr) (fs : List (Str × V)) : Hp := upd (del (upd (upd (upd H1 a (exo a C none)) dx (exd dx fs)) a (exo a C (some dx))) a) dx (.xd fs)
section
variable {H1 : Hp} {a dx C : Addr} {fs : List (Str × V)}
theorem excH_dx : excH H1 a dx C fs dx = some (.xd fs) := by unfold excH; rw [upd_same]
theorem excH_a (hne : dx ≠ a) : excH H1 a dx C fs a = none := by unfold excH; rw [upd_ne (Ne.symm hne), del_same]
theorem excH_ne {b : Addr} (h1 : b ≠ a) (h2 : b ≠ dx) : excH H1 a dx C fs b = H1 b := by
  unfold excH
  rw [upd_ne h2, del_ne h1, upd_ne h1, upd_ne h2, upd_ne h1]
theorem excH_keep (ha : H1 a = none) (hd : H1 dx = none) {b : Addr} {o : HO} (e : H1 b = some o) : excH H1 a dx C fs b = some o := by
  rw [excH_ne (fun z => by rw [z, ha] at e; cases e) (fun z => by rw [z, hd] at e; cases e)]; exact e
theorem excH_pres {At : Option Addr} {H0 : Hp} (hne : dx ≠ a) (ha : H1 a = none) (hd : H1 dx = none) (p : Pres At H0 H1) : Pres At H0 (excH H1 a dx C fs) := ⟨fun b o e nb => excH_keep ha hd (p.keep b o e nb), fun b e => by
  by_cases h2 : b = dx
  · rw [h2, excH_dx] at e; cases e
  · by_cases h1 : b = a
    · rw [h1]; exact p.trk a ha
    · rw [excH_ne h1 h2] at e; exact p.trk b e⟩
theorem excH_cell {At : Option Addr} {n : Option Int} (ha : H1 a = none) (hd : H1 dx = none) (c : CellOk At n H1) : CellOk At n (excH H1 a dx C fs) := by
  unfold CellOk at *
  cases At with
  | none => cases n with
    | none => trivial
    | some k => exact c.elim
  | some b => cases n with
    | none => exact c
    | some k => exact excH_keep ha hd c
theorem excH_rep {P : Program} {w : World} {K : PySem.W.Frag} (ha : H1 a = none) (hd : H1 dx = none) {v : V} {d : D} {S : List Addr} (r : Rep P w K H1 v d S) : Rep P w K (excH H1 a dx C fs) v d S :=
  Rep.mono (A := fun _ => False) (fun b o e _ => excH_keep ha hd e) (fun _ z => z.elim) r fun _ _ z => z
end
section
variable {X : Cx} {C : Cxt}
theorem rraiseC {c : Nat} {r : XRow} {x : Str} {p pos pos' : Pos} {xe : Expr} {xes : List Expr} {e : E} {es : List E} (hr : C.flds[c]? = some r) (G : ClsOk X.prog X.w X.K X.mg X.base r) (hx : r.nm = x) (room : RoomG 2 X.A) (hc : X.calm = true)
    (ha : PA X (xe :: xes) (tEs X C (ZX X) (e :: es))) (hg : Gl X x := by rfl) (hdb : (x == ("__debug__" : Str)) = false := by rfl) (he : starEach (xe :: xes) X.env = (false, eval xe X.env) :: starEach xes X.env := by rfl) (hpl : (backTo pos (starEach xes X.env)).any (·.1) = false := by rfl) :
    PS X (.Raise (some (.Call (.Name x p) (xe :: xes) [] pos)) none pos') (tS X C (.raise c (e :: es))) := by
  subst hx
  obtain ⟨D, fI, fd, ps, sp, hm, T, iC, tI, F, hb, hsp, xf, ec, hno, hans⟩ := G.ex
  have pm := pmk_oex (X := X) (sp := sp) (ds := []) (dvs := []) (p := p) (pos := pos) T iC tI F room.r hb .nil (passes_call (E := fun _ _ _ => False) takes_none5 fun _ _ _ _ z => z.elim) hg hm ha hdb he hpl
  refine (ps_raise hc (wxx_takes X) pm).weak fun DD σ H h => ?_
  obtain ⟨H0, A0, At, n, ρ, fp, s, h⟩ := h
  rw [evS, out_bind, out_lft, hr] at h
  obtain ⟨r', er, h⟩ := h
  cases er
  rw [out_bind] at h
  refine ⟨H0, A0, At, n, ρ, fp, s.rl, h.imp (fun ds n1 q vs H1 S pa => ?_) fun _ _ z => zx_sl s z⟩
  replace q : Out (if r.fds.length = ds.length ∧ ds.all plainD = true then Rs.exc ⟨r.nm, r.ans, r.fds.zip ds⟩ n1 else Rs.bad) (KD X H0 A0 At DD) (ZX X At H0) := q
  split at q
  · rename_i hcond
    have q : ZX X At H0 ⟨r.nm, r.ans, r.fds.zip ds⟩ n1 := q
    have pr0 : Pres At H0 H1 := s.rl.pres.trans pa.pres
    have fin : ∀ a dx fs, H1 a = none → H1 dx = none → dx ≠ a → (∀ f x, (r.fds.zip ds).lookup f = some x → f ∈ r.fds ∧ ∃ v, fs.lookup f = some v ∧ RepX X H1 v x []) → WXX X (.ref D) (some dx) (excH H1 a dx D fs) := fun a dx fs ha hd hne hf => by
      refine q At (.ref D) (some dx) _ .refl ⟨⟨dx, fs, rfl, excH_dx, fun f x hl => ?_⟩, hans, D, rfl, xf, ec, fun f x hl => hno f (hf f x hl).1⟩ (excH_pres hne ha hd pr0) (excH_cell ha hd pa.cell)
      obtain ⟨_, v, e1, r1⟩ := hf f x hl
      exact ⟨v, e1, excH_rep ha hd r1⟩
    obtain ⟨hlen, hpl'⟩ := hcond
    have rep := pa.rep
    rcases hsp with ⟨f, ef, rfl⟩ | ⟨f, f2, ef, hff, rfl⟩
    · rw [ef] at hlen fin
      match ds, hlen with
      | [d1], _ =>
        cases rep with
        | @cons y _ _ _ S1 T1 r1 rs =>
          cases rs
          have p1 : plainD d1 = true := by simpa using hpl'
          obtain rfl := Rep.plain r1 p1
          refine ⟨by show 1 ≤ 1000; decide, fun a han => ⟨a, y, rfl, by rw [upd_same], fun dx hdx hne => ⟨rfl, dx, [(f, y)], by rw [upd_same], by rw [upd_ne hne, upd_same], ?_, ?_⟩⟩⟩
          · rw [upd_ne hne] at hdx; exact hdx
          · rw [upd_ne hne] at hdx
            refine fin a dx [(f, y)] han hdx hne fun g x hl => ?_
            simp only [List.zip_cons_cons, List.zip_nil_right, List.lookup] at hl ⊢
            by_cases z : g = f
            · subst z
              simp only [beq_self_eq_true, Option.some.injEq] at hl ⊢
              subst hl
              exact ⟨List.mem_singleton.mpr rfl, y, rfl, r1⟩
            · have hb : (g == f) = false := by simpa using z
              rw [hb] at hl
              cases hl
    · rw [ef] at hlen fin
      match ds, hlen with
      | [d1, d2], _ =>
        cases rep with
        | @cons y _ _ _ S1 T1 r1 rs =>
          cases rs with
          | @cons y2 _ _ _ S2 T2 r2 rs =>
            cases rs
            have p12 : plainD d1 = true ∧ plainD d2 = true := by simpa using hpl'
            obtain rfl := Rep.plain r1 p12.1
            obtain rfl := Rep.plain r2 p12.2
            refine ⟨by show 2 ≤ 1000; decide, fun a han => ⟨a, y, y2, rfl, by rw [upd_same], fun dx hdx hne => ⟨rfl, dx, [(f2, y2), (f, y)], by rw [upd_same], by rw [upd_ne hne, upd_same], ?_, ?_⟩⟩⟩
            · rw [upd_ne hne] at hdx; exact hdx
            · rw [upd_ne hne] at hdx
              refine fin a dx [(f2, y2), (f, y)] han hdx hne fun g x hl => ?_
              simp only [List.zip_cons_cons, List.zip_nil_right, List.lookup] at hl ⊢
              by_cases z : g = f
              · subst z
                have hb : (g == f2) = false := by simpa using hff
                simp only [beq_self_eq_true, Option.some.injEq] at hl
                subst hl
                refine ⟨List.mem_cons_self, y, ?_, r1⟩
                rw [hb]; simp
              · have hb : (g == f) = false := by simpa using z
                rw [hb] at hl
                by_cases z2 : g = f2
                · subst z2
                  simp only [beq_self_eq_true, Option.some.injEq] at hl ⊢
                  subst hl
                  exact ⟨List.mem_cons_of_mem _ List.mem_cons_self, y2, rfl, r2⟩
                · have hb2 : (g == f2) = false := by simpa using z2
                  rw [hb2] at hl
                  cases hl
  · exact q.elim
end
end MP

/-! MPTry: caught errors: their fields, isinstance, try .. except A as e .. except B as e. -/
namespace MP
open PySem PySem.Spec L2
open PyProof.Rows hiding St

section
open PySem.Calls
variable {prog : Program} {w : World} {A : Around} {E : Value → Shared → Prop} {s : Shared} {K : PySem.W.Frag} {x D : Addr} {ox : Obj} {od : Option Obj}
/-- the class of an error that has a dict -/
theorem kin_classX {Q : Option Value → Shared → Prop} (Cx : ExcC K D) (X : K.In s.heap) (I : PySem.W.InstAt s.heap x ox D od) (h : Q (some (.ref D)) { s with toks := s.toks + 1 }) : wpAny (model prog w) A (getAttr? (.ref x) "__class__") Q E s := by
  have hf : PySem.W.findObj K D od "__class__" = some (.bind (.builtin "getset_descriptor.__get__") (.builtin "object.__class__")) := by
    obtain ⟨cd, hc, _⟩ := PySem.W.any_some Cx.hd
    unfold PySem.W.findObj
    rw [hc, Option.bind_some, Cx.ha, Option.bind_some]
    simp [Cx.hn, Cx.ht]
  obtain ⟨hp, g, d, t, os⟩ := s
  have L0 := I.type (M := model prog w)
  have L1 := PySem.W.looks_findIn (M := model prog w) X Cx.hg
  have L2 := PySem.W.looks_findIn (M := model prog w) X Cx.hk
  have L3 := PySem.W.looks_find (M := model prog w) X I hf
  have sub : PySem.W.Looks (model prog w) hp (isInstance (.ref x) (.type "BaseException")) true := L0.andThen (PySem.W.looks_subIn X Cx.hs)
  have hx0 : (false && onTheHeap (Value.builtin "BaseException.__getattribute__")) = false := rfl
  have hx2 : (Value.builtin "BaseException.__getattribute__" == Value.builtin "object.__getattribute__") = false := by decide +kernel
  have hx1 : (onTheHeap (Value.ref D) && Value.builtin "BaseException.__getattribute__" == Value.builtin "object.__getattribute__") = false := by rw [hx2]; rfl
  unfold getAttr? getAttrBy? getAttrBy
  refine wpAny_bind (wpAny_mkText (wpAny_bind (wpAny_attempt (wpAny_holding (wpAny_bind (L0.at (wpAny_bind (L1.at ?_))))))))
  show wpAny _ _ (if (onTheHeap (Value.ref D) && Value.builtin "BaseException.__getattribute__" == Value.builtin "object.__getattribute__") = true then _ else _) _ _ _
  rw [hx1, if_neg Bool.false_ne_true]
  unfold getAttrByItsOwn hookBefore
  refine wpAny_bind ?_
  rw [if_pos (show onTheHeap (Value.ref D) = true from rfl)]
  refine L2.at ?_
  refine wpAny_bind (wpAny_attempt (wpAny_holding ?_))
  unfold callGetattribute
  rw [hx0, if_neg Bool.false_ne_true]
  unfold boundAndCalled
  rw [PySem.F.excAttr_ValueError.ga.bind (.ref x)]
  refine wpAny_bind (wpAny_pure ?_)
  show wpAny _ _ (call (.builtin "BaseException.__getattribute__") [.ref x, .str "__class__" t]) _ _ _
  refine wpAny_call (codeAny_call_builtin PySem.F.excAttr_ValueError.ga.plain PySem.F.entry_bexc_ga ?_)
  refine @PySem.W.check_slot (model prog w) _ _ ⟨hp, g, d, t + 1, os⟩ "BaseException.__getattribute__" "BaseException" "__getattribute__" (.ref x) [.str "__class__" t] [] _ (by decide +kernel) (by decide +kernel) sub (PySem.F.args_bexc_ga (.ref x) (.str "__class__" t)) ?_
  unfold Builtin.«object.__getattribute__»
  refine wpAny_bind (wpAny_of_eq (a := ((Value.ref x : Value), [Value.str "__class__" t])) (by first | rfl | (simp only [slotArgs]; rfl)) ?_)
  refine wpAny_bind (wpAny_pure (wpAny_bind (L0.at (wpAny_bind (L3.at ?_)))))
  show wpAny _ _ (holding [Value.builtin "object.__class__"] (call (.builtin "getset_descriptor.__get__") [.builtin "object.__class__", .ref x, .ref D]) >>= ret) _ _ _
  refine wpAny_bind (wpAny_holding (wpAny_call (PySem.W.class_get (s := ⟨hp, g, d, t + 1, os⟩) (ox := ox) (od := od) X I Cx.hm ?_)))
  refine wpAny_pure ?_
  show wpAny _ _ (handedOut (.ref D)) _ _ _
  rw [PySem.W.handedOut_of (v := .ref D) rfl]
  first
    | exact wpAny_pure (wpAny_pure h)
    | exact wpAny_pure h
    | exact wpAny_pure (wpAny_bind (wpAny_pure (wpAny_pure h)))
theorem kitx_excX (C : ExcC K D) : PySem.W.KitX K (.ref x) (.ref D) (fun h => PySem.W.InstAt h x ox D od) where
  ty := fun _ _ _ I => I.type
  it := fun _ _ X _ => by
    obtain ⟨cdD, hcD, _⟩ := PySem.W.any_some C.hd
    unfold PySem.W.clsIn at hcD
    split at hcD
    · rename_i c' d' cd' sl' ho
      intro A' Q' E' s' k q
      unfold isType loadHead
      exact wpAny_bind (wpAny_loadPart (k _ _ (X _ _ ho)) (wpAny_pure q))
    · cases hcD
  ne := fun h tp dd its n sl X htp => (PySem.W.handS_kitx_exc (x := x) (ox := ox) C.hg C.hk C.hs C.hd C.ha C.hn C.ht C.hm).ne h tp dd its n sl X htp
  ca := fun X I k => kin_classX C X I k
end
section
variable {X : Cx} {C : Cxt} {Z : ZT}
/-- e.f -/
theorem rexa (i : Nat) {x f : Str} {p pos : Pos} (hc : X.calm = false) (hN : X.N[i]? = some x := by rfl) (hv : Vis X.env.scope x := by first | exact .inl rfl | exact .inr (.inl rfl)) (hd : (x == ("__debug__" : Str)) = false := by rfl) (hcd : (x == ("__classdict__" : Str)) = false := by rfl)
    (hb : attributeBase (.Name x p) f X.env (eval (.Name x p) X.env) = eval (.Name x p) X.env := by rfl) : PE X (.Attribute (.Name x p) f pos) (tE X C Z (.exa i f)) := by
  refine ⟨fun pins s σ H Q I h => ?_⟩
  obtain ⟨H0, A0, At, n, ρ, fp, rl, h⟩ := h
  rw [evE, out_lft] at h
  obtain ⟨dv, e1, h⟩ := h
  cases hs : getS ρ i with
  | none => rw [hs] at e1; cases e1
  | some sl =>
    rw [hs] at e1
    cases sl with
    | err e =>
      have e1 : e.flds.lookup f = some dv := e1
      obtain ⟨v0, hv0, ok⟩ := rl.slot i _ hs
      obtain ⟨a, oe, cls, d, vs, rfl, hm, hz, hd', ex⟩ := ok.2 hc
      obtain ⟨dd, fs, rfl, hdd, hf⟩ := ex.obj
      obtain ⟨D, rfl, T, _, hno⟩ := ex.cls
      obtain ⟨v, hl, rv⟩ := hf f dv e1
      refine attr_of hb (thn ((pe_var hN hv hd hcd).run pins s σ H (fun y H1 => H1 = H ∧ y = .ref a) I ⟨_, hv0, rfl, rfl⟩) fun u s1 ⟨y, H1, I1, ry, eH, ey⟩ => ?_)
      subst eH ey
      obtain rfl : u = Value.ref a := ry
      obtain ⟨ha, _⟩ := I1.pin (a, oe) (List.mem_append_left _ hm)
      have hx : ObjOk X.prog X.w H1 s1.heap dd (.xd fs) := I1.hok dd _ hdd
      obtain ⟨mA, hns, hr⟩ := hx
      obtain ⟨od, ho, hlk⟩ := lookIn_ns hns
      obtain ⟨u, hu, ru⟩ := RelO.some_of (v := v) (o := mA f) (by rw [← hl]; exact hr f)
      have J : PySem.W.InstAt s1.heap a oe D (some od) := ⟨ha, hz.1, by unfold PySem.W.notCls; rw [hd'] <;> rfl, by rw [hz.2]; exact ho⟩
      exact HandSPX.exc_get I1.kIn J T.ga T.gg T.exC (PySem.W.findObj_own T.hdC (hno f dv e1) rfl (by rw [hlk, hu])) (handed_of ru) ⟨v, H1, I1.tok _, ru, h v H1 [] (.flat rv .refl rl.cell fun z => by cases z)⟩
    | _ => cases e1
/-- isinstance(e, C) of the error in slot i -/
theorem rexi (i : Nat) {x c : Str} {p p1 p2 pos : Pos} (hc : X.calm = false) (hm : X.mg "isinstance" = none) (hmc : ∃ C0, X.mg c = some (.ref C0)) (hN : X.N[i]? = some x := by rfl) (hv : Vis X.env.scope x := by first | exact .inl rfl | exact .inr (.inl rfl)) (hd : (x == ("__debug__" : Str)) = false := by rfl) (hcd : (x == ("__classdict__" : Str)) = false := by rfl)
    (hg : Gl X "isinstance" := by rfl) (hgc : Gl X c := by rfl) (hdc : (c == ("__debug__" : Str)) = false := by rfl)
    (h1 : starEach [.Name x p1, .Name c p2] X.env = (false, eval (.Name x p1) X.env) :: starEach [.Name c p2] X.env := by rfl) (h2 : starEach [.Name c p2] X.env = (false, eval (.Name c p2) X.env) :: starEach [] X.env := by rfl) (hpl : (backTo pos (starEach [.Name c p2] X.env)).any (·.1) = false := by rfl) :
    PE X (.Call (.Name "isinstance" p) [.Name x p1, .Name c p2] [] pos) (tE X C Z (.exi i c)) := by
  obtain ⟨C0, hC0⟩ := hmc
  refine ⟨fun pins s σ H Q I h => ?_⟩
  obtain ⟨H0, A0, At, n, ρ, fp, rl, h⟩ := h
  rw [evE, out_lft] at h
  obtain ⟨dv, e1, h⟩ := h
  cases hs : getS ρ i with
  | none => rw [hs] at e1; cases e1
  | some sl =>
    rw [hs] at e1
    cases sl with
    | err e =>
      have e1 : (e.ans.lookup c).map PyData.bool = some dv := e1
      obtain ⟨b, eb, rfl⟩ := Option.map_eq_some_iff.mp e1
      obtain ⟨v0, hv0, ok⟩ := rl.slot i _ hs
      obtain ⟨a, oe, cls, d, vs, rfl, hmem, hz, hd', ex⟩ := ok.2 hc
      obtain ⟨dd, fs, rfl, hdd, hf⟩ := ex.obj
      obtain ⟨D, rfl, T, ec, hno⟩ := ex.cls
      obtain ⟨cv, hcv, _, hk⟩ := ex.ans c b eb
      have hcv : cv = .ref C0 := by
        rcases hcv with z | ⟨z, _⟩
        · rw [hC0] at z; cases z; rfl
        · rw [hC0] at z; cases z
      subst hcv
      have cr : CallR X (.builtin "isinstance") (fun xs H1 Q => xs = [.ref a, .ref C0] ∧ H1 = H ∧ Q (.bl b) H1) := by
        rintro pins' s' σ' H1 xs us Q' I' r ⟨ex', eH, q⟩
        subst ex' eH
        cases r with
        | cons rx rr => cases rr with
          | cons rt rr =>
            cases rr
            cases rx
            cases rt
            obtain ⟨hget, _⟩ := I'.pin (a, oe) (List.mem_append.mpr (.inl hmem))
            have hx : ObjOk X.prog X.w H1 s'.heap dd (.xd fs) := I'.hok dd _ hdd
            obtain ⟨mA, hns, hr⟩ := hx
            obtain ⟨od, ho, hlk⟩ := lookIn_ns hns
            have J : PySem.W.InstAt s'.heap a oe D (some od) := ⟨hget, hz.1, by unfold PySem.W.notCls; rw [hd'] <;> rfl, by rw [hz.2]; exact ho⟩
            exact PySem.W.kia_one (kitx_excX ec) I'.kIn J hk (fun z => nomatch z) fun tk => ⟨.bl b, H1, I'.kept (t' := tk) fun _ _ z => z, rfl, q⟩
      refine (pe_callB cr hg hm PyProof.Rows.boot_isinstance (pa_cons (pe_var (i := i) hN hv hd hcd) (pa_cons (pe_glob (v := .ref C0) hgc hC0 rfl hdc) pa_nil h2) h1) (by decide) (by decide) h1 hpl).run pins s σ H Q I ?_
      exact ⟨.ref a, hv0, rfl, rfl, h _ H [] (.flat (.bl _) .refl rl.cell fun z => by cases z)⟩
    | _ => cases e1
/-- .. C a built-in class -/
theorem rexiB (i : Nat) {x c : Str} {p p1 p2 pos : Pos} (hc : X.calm = false) (hm : X.mg "isinstance" = none) (hmc : X.mg c = none) {y : String} (hvc : bootBuiltins c = some (.type y)) (hnc : c ≠ "__name__" := by decide) (hN : X.N[i]? = some x := by rfl) (hv : Vis X.env.scope x := by first | exact .inl rfl | exact .inr (.inl rfl)) (hd : (x == ("__debug__" : Str)) = false := by rfl) (hcd : (x == ("__classdict__" : Str)) = false := by rfl)
    (hg : Gl X "isinstance" := by rfl) (hgc : Gl X c := by rfl) (hdc : (c == ("__debug__" : Str)) = false := by rfl)
    (h1 : starEach [.Name x p1, .Name c p2] X.env = (false, eval (.Name x p1) X.env) :: starEach [.Name c p2] X.env := by rfl) (h2 : starEach [.Name c p2] X.env = (false, eval (.Name c p2) X.env) :: starEach [] X.env := by rfl) (hpl : (backTo pos (starEach [.Name c p2] X.env)).any (·.1) = false := by rfl) :
    PE X (.Call (.Name "isinstance" p) [.Name x p1, .Name c p2] [] pos) (tE X C Z (.exi i c)) := by
  refine ⟨fun pins s σ H Q I h => ?_⟩
  obtain ⟨H0, A0, At, n, ρ, fp, rl, h⟩ := h
  rw [evE, out_lft] at h
  obtain ⟨dv, e1, h⟩ := h
  cases hs : getS ρ i with
  | none => rw [hs] at e1; cases e1
  | some sl =>
    rw [hs] at e1
    cases sl with
    | err e =>
      have e1 : (e.ans.lookup c).map PyData.bool = some dv := e1
      obtain ⟨b, eb, rfl⟩ := Option.map_eq_some_iff.mp e1
      obtain ⟨v0, hv0, ok⟩ := rl.slot i _ hs
      obtain ⟨a, oe, cls, d, vs, rfl, hmem, hz, hd', ex⟩ := ok.2 hc
      obtain ⟨dd, fs, rfl, hdd, hf⟩ := ex.obj
      obtain ⟨D, rfl, T, ec, hno⟩ := ex.cls
      obtain ⟨cv, hcv, _, hk⟩ := ex.ans c b eb
      have hcv : cv = .type y := by
        rcases hcv with z | ⟨_, z, _⟩
        · rw [hmc] at z; cases z
        · rw [hvc] at z; cases z; rfl
      subst hcv
      have cr : CallR X (.builtin "isinstance") (fun xs H1 Q => xs = [.ref a, .ty y] ∧ H1 = H ∧ Q (.bl b) H1) := by
        rintro pins' s' σ' H1 xs us Q' I' r ⟨ex', eH, q⟩
        subst ex' eH
        cases r with
        | cons rx rr => cases rr with
          | cons rt rr =>
            cases rr
            cases rx
            cases rt
            obtain ⟨hget, _⟩ := I'.pin (a, oe) (List.mem_append.mpr (.inl hmem))
            have hx : ObjOk X.prog X.w H1 s'.heap dd (.xd fs) := I'.hok dd _ hdd
            obtain ⟨mA, hns, hr⟩ := hx
            obtain ⟨od, ho, hlk⟩ := lookIn_ns hns
            have J : PySem.W.InstAt s'.heap a oe D (some od) := ⟨hget, hz.1, by unfold PySem.W.notCls; rw [hd'] <;> rfl, by rw [hz.2]; exact ho⟩
            exact PySem.W.kia_one (kitx_excX ec) I'.kIn J hk (fun z => nomatch z) fun tk => ⟨.bl b, H1, I'.kept (t' := tk) fun _ _ z => z, rfl, q⟩
      refine (pe_callB cr hg hm PyProof.Rows.boot_isinstance (pa_cons (pe_var (i := i) hN hv hd hcd) (pa_cons (pe_bltn hgc hmc hvc (show L2.RelV (V.ty y) (Value.type y) from rfl) hnc hdc) pa_nil h2) h1) (by decide) (by decide) h1 hpl).run pins s σ H Q I ?_
      exact ⟨.ref a, hv0, rfl, rfl, h _ H [] (.flat (.bl _) .refl rl.cell fun z => by cases z)⟩
    | _ => cases e1
end

/-! ### try, several clauses, each with a name -/
/-- what the clauses wish of an error of the body -/
def wAll (K : PySem.W.Frag) (Wout : WX) (D : Ends) : List (Value × Nat × (Addr → Value → Option Addr → TS)) → WX
  | [] => Wout
  | (c, i, ts) :: r => fun cls d σ H => ∃ b, PySem.W.exmOne K cls c = some b ∧ (b = true → ∀ a, H a = none → ts a cls d { nx := fun σ' H' => D.nx (σ'.set i none) H', rt := D.rt, bk := fun σ' H' => D.bk (σ'.set i none) H', ct := fun σ' H' => D.ct (σ'.set i none) H' } (σ.set i (some (.ref a))) H) ∧ (b = false → wAll K Wout D r cls d σ H)
inductive HdsAs (X : Cx) : List ExceptHandler → List (Value × Nat × (Addr → Value → Option Addr → TS)) → Prop
  | nil : HdsAs X [] []
  | cons {x n : Str} {c : Value} {i : Nat} {ts : Addr → Value → Option Addr → TS} {b₀ : Stmt} {suite : List Stmt} {np pos' : Pos} {hds : List ExceptHandler} {l : List (Value × Nat × (Addr → Value → Option Addr → TS))} (hc : Names X x c) (hi : X.N[i]? = some n) (hln : X.env.kindOf n = some .local)
      (hsu : ∀ (a : Addr) (oe : Obj) (cls : Value) (d : Option Addr) (pn : List (Addr × Obj)), Zc cls d oe → (∃ vs, oe.data = .fields vs) → PSs (X.suite a ((a, oe) :: pn)) (b₀ :: suite) (ts a cls d)) (r : HdsAs X hds l) :
      HdsAs X (.ExceptHandler (some (.Name x np)) (some n) (b₀ :: suite) pos' :: hds) ((c, i, ts) :: l)
section
variable {X : Cx} {body : List Stmt} {h₀ : ExceptHandler} {hds : List ExceptHandler} {l : List (Value × Nat × (Addr → Value → Option Addr → TS))} {pos : Pos} {tb : WX → TS} {Wout : WX}
theorem ps_try_all (hs : X.stack = X.env :: X.outer) (hf : X.env.frame = some X.env.locals) (hN : X.N.Nodup) (tk : Takes X Wout)
    (hb : ∀ (W : WX) (pn : List (Addr × Obj)) (xe : Value → Shared → Prop), Takes (X.tr pn xe) W → PassesOwn (model X.prog X.w) X.A X.env xe → PSs (X.tr pn xe) body (tb W))
    (hh : HdsAs X (h₀ :: hds) l) : PS X (.Try body (h₀ :: hds) [] [] pos) (fun D σ H => tb (wAll X.K Wout D l) D σ H) := by
  refine ⟨fun pins s σ H D I h => ?_⟩
  have ok := I.ok
  have hfr : X.A.frames = some (X.env :: X.outer) := by rw [ok.frames, hs]
  refine wpAny_Try_except ?_
  refine wpAny_mono ((hb (wAll X.K Wout D l) (X.pn ++ pins) (fun e s₁ => wpAny (model X.prog X.w) X.A (noteFrame e X.env) (fun _ s₂ => wpAny (model X.prog X.w) X.A (setFlight e none) (fun _ s₃ =>
    wpAny (model X.prog X.w) X.A (handleBy e X.env (h₀ :: hds)) (SP X pins D) X.xe s₃) X.xe s₂) X.xe s₁) (fun u s' xx => ?_) PassesOwn.looking).run [] s σ H D (I.toTry _) h) (fun f s1 hsp => ?_) (fun e s1 he => he)
  · obtain ⟨a, B, sI, pins', σ', H', cls, d, rfl, J', nb, up, sky, na, os, ag, w⟩ := xx
    have J : Inv X pins σ' H' sI := J'.ofTry ok
    have sky' : Sky B (X.env :: X.outer) a (Zc cls d) X.env.locals s'.heap := by rw [← hs]; exact sky
    show wpAny (model X.prog X.w) X.A (noteFrame (.ref a) X.env) _ _ _
    refine Sky.land Zc.steady hfr hf sky' fun h3 fl3 up3 => ?_
    have J3 : Inv X pins σ' H' { s' with heap := h3 } := J.landed nb fl3.1 (up.trans up3) os ag
    obtain ⟨oe3, vs3, he3, hz3, hd3⟩ := fl3.there
    have notFr : ∀ {h : Heap} {o : Obj} {vs : Array Value}, h.FunFrames B (X.env :: X.outer) → h.get? a = some o → o.data = .fields vs → a ∉ frs (X.env :: X.outer) := fun {h o vs} ff e dd hm => by
      obtain ⟨_, o', e', hnf⟩ := ff.mem hm
      rw [e] at e'; cases e'
      exact hnf _ dd
    have nfr := notFr fl3.2.2.1 he3 hd3
    have nL : a ≠ X.env.locals := fun z => nfr (List.mem_filterMap.mpr ⟨X.env, List.mem_cons_self, by rw [hf, z]⟩)
    have nF : a ∉ X.fs := fun hm => by
      obtain ⟨e, he, q⟩ := List.mem_filterMap.mp hm
      exact nfr (List.mem_filterMap.mpr ⟨e, List.mem_cons_of_mem _ he, q⟩)
    have S3 := J3.suite he3 hd3 na nL nF
    have go : ∀ {hds' : List ExceptHandler} {l' : List (Value × Nat × (Addr → Value → Option Addr → TS))}, HdsAs X hds' l' → wAll X.K Wout D l' cls d σ' H' →
        wpAny (model X.prog X.w) X.A (handleBy (.ref a) X.env hds') (SP X pins D) X.xe { s' with heap := h3 } := by
      intro hds' l' hk
      induction hk with
      | nil =>
        intro w
        refine wpAny_handleBy_nil ?_
        obtain ⟨k1, k2, k3, oe, vs, T, oT, ts', he, hz, hd, h1, hr⟩ := id fl3
        unfold PySem.passOn
        refine wpAny_bind (wpAny_field he hd h1 ?_)
        rw [if_neg (show ¬ ((Value.ref T == Value.none) = true) from by simp)]
        have fin : wpAny (model X.prog X.w) X.A (setFlight (.ref a) X.env.frame) (fun _ s4 => wpAny (model X.prog X.w) X.A (throw (.ref a) : Sem Flow) (SP X pins D) X.xe s4) X.xe { s' with heap := h3 } := by
          rw [hf]
          refine HandSPX.setFlight_upZ fl3 fun h4 hh4 up4 => wpAny_throw (tk _ _ ?_)
          exact ⟨a, B, sI, pins, σ', H', cls, d, rfl, J, nb, (up.trans up3).trans up4, .inr (.inr (by rw [hs]; exact hh4)), na, os, ag, w⟩
        first
          | exact wpAny_bind (wpAny_pure (wpAny_bind fin))
          | exact wpAny_bind fin
      | @cons x n c i ts b₀ suite np pos' hds2 l2 hc hi hln hsu r ih =>
        intro w
        obtain ⟨b, hb1, hyes, hno⟩ := w
        refine wpAny_handleBy_cons (codeAny_handlers_test ?_) (by intro q; cases q)
        have LT : PySem.W.Looks (model X.prog X.w) h3 (typeOf (.ref a)) cls := fun A Q E s k q => wpAny_typeOf_ref (k _ _ he3) (by rw [hz3.1]; exact q)
        have LM := PySem.W.exm_one (M := model X.prog X.w) (J3.kIn) LT hb1
        have test : ∀ {Q : Value → Shared → Prop} {E : Value → Shared → Prop}, Q c { s' with heap := h3 } → wpAny (model X.prog X.w) (X.A.mark (some (.ref a))) (eval (.Name x np) X.env) Q E { s' with heap := h3 } := fun {Q E} q => by
          obtain ⟨hg, hdbg, hm | ⟨hm, hv, hnn⟩⟩ := hc
          · exact ld_glob (X := X.suite a ((a, oe3) :: (X.pn ++ pins))) S3 hg hm q hdbg
          · exact ld_blt (X := X.suite a ((a, oe3) :: (X.pn ++ pins))) S3 hg hm hv q hnn hdbg
        refine test (LM.here ?_)
        cases b with
        | true =>
          refine codeAny_handlers_suite_as ?_
          refine HandSPX.lands_againZ fl3 fun h4 fl4 up4 => ?_
          have J4 : Inv X pins σ' H' { s' with heap := h4 } := J.landed nb fl4.1 ((up.trans up3).trans up4) os ag
          obtain ⟨oe4, vs4, he4, hz4, hd4⟩ := fl4.there
          have S4 := J4.suite he4 hd4 na nL nF
          refine store_ok (X := X.suite a ((a, oe4) :: (X.pn ++ pins))) (v := .ref a) S4 hN hi (.inl hln) rfl (fun s5 S5 => ?_) (.inr hln)
          refine wpAny_mono ((hsu a oe4 cls d (X.pn ++ pins) hz4 ⟨_, hd4⟩).run [] s5 _ H' _ S5 (hyes rfl a na)) (fun f s6 hsp => ?_) (fun _ _ z => False.elim z)
          have end_ : ∀ {σ6 : L2.St} {H6 : Hp} {Q : Shared → Prop}, Inv (X.suite a ((a, oe4) :: (X.pn ++ pins))) [] σ6 H6 s6 → (∀ s7, Inv X pins (σ6.set i none) H6 s7 → Q s7) →
              wpAny (model X.prog X.w) X.A (do bindName X.env n .none; unbindBehindTheSuite X.env n pos') (fun _ s7 => Q s7) X.xe s6 := fun {σ6 H6 Q} S6 hq => gone_ok (S6.unsuite ok) hN hi hln hq
          cases f with
          | next =>
            obtain ⟨σ6, H6, S6, q6⟩ := hsp
            exact end_ S6 fun s7 J7 => ⟨_, _, J7, q6⟩
          | brk =>
            obtain ⟨σ6, H6, S6, q6⟩ := hsp
            exact end_ S6 fun s7 J7 => ⟨_, _, J7, q6⟩
          | cont =>
            obtain ⟨σ6, H6, S6, q6⟩ := hsp
            exact end_ S6 fun s7 J7 => ⟨_, _, J7, q6⟩
          | ret u =>
            obtain ⟨v6, σ6, H6, S6, r6, q6⟩ := hsp
            exact end_ S6 fun s7 J7 => ⟨_, _, _, J7, r6, q6⟩
        | false =>
          show wpAny _ X.A (handleBy (.ref a) X.env hds2) _ _ _
          exact ih (hno rfl)
    exact go hh w
  · cases f with
    | next =>
      obtain ⟨σ', H', J', q⟩ := hsp
      exact wpAny_execs_nil ⟨σ', H', J'.ofTry ok, q⟩
    | brk =>
      obtain ⟨σ', H', J', q⟩ := hsp
      exact ⟨σ', H', J'.ofTry ok, q⟩
    | cont =>
      obtain ⟨σ', H', J', q⟩ := hsp
      exact ⟨σ', H', J'.ofTry ok, q⟩
    | ret u =>
      obtain ⟨v, σ', H', J', r, q⟩ := hsp
      exact ⟨v, σ', H', J'.ofTry ok, r, q⟩
end
end MP

/-! MPTry2: the rule of try. -/
namespace MP
open PySem PySem.Spec L2
open PyProof.Rows hiding St

section
variable {X : Cx} {C : Cxt} {H0 H : Hp} {A0 : Addr → Prop} {At : Option Addr} {n : Option Int} {ρ : Ev} {fp : Nat → List Addr} {σ : L2.St} {pn : List (Addr × Obj)} {xe : Value → Shared → Prop}
theorem slot_tr {sl : Slot} {v : V} {S : List Addr} (hc : X.calm = true) (h : SlotOk X H0 At H sl v S) : SlotOk (X.tr pn xe) H0 At H sl v S := by
  cases sl with
  | err e => exact ⟨h.1, fun z => absurd (hc.symm.trans z) (by simp)⟩
  | _ => exact h
theorem slot_untr {sl : Slot} {v : V} {S : List Addr} (hc : X.calm = true) (h : SlotOk (X.tr pn xe) H0 At H sl v S) : SlotOk X H0 At H sl v S := by
  cases sl with
  | err e => exact ⟨h.1, fun z => absurd (hc.symm.trans z) (by simp)⟩
  | _ => exact h
theorem Sl.tr (hc : X.calm = true) (s : Sl X H0 A0 At n ρ fp σ H) : Sl (X.tr pn xe) H0 A0 At n ρ fp σ H := ⟨⟨s.rl.pres, s.rl.len, fun i sl e => by
  obtain ⟨v, e1, q⟩ := s.rl.slot i sl e
  exact ⟨v, e1, slot_tr hc q⟩, s.rl.cell, s.rl.nat, s.rl.sep, s.rl.src⟩, s.ul⟩
theorem Sl.untr (hc : X.calm = true) (s : Sl (X.tr pn xe) H0 A0 At n ρ fp σ H) : Sl X H0 A0 At n ρ fp σ H := ⟨⟨s.rl.pres, s.rl.len, fun i sl e => by
  obtain ⟨v, e1, q⟩ := s.rl.slot i sl e
  exact ⟨v, e1, slot_untr hc q⟩, s.rl.cell, s.rl.nat, s.rl.sep, s.rl.src⟩, s.ul⟩
theorem KD.tr (hc : X.calm = true) {D : Ends} {r : Ev × Fl} (h : KD X H0 A0 At D r n) : KD (X.tr pn xe) H0 A0 At D r n := by
  obtain ⟨ρ, f⟩ := r
  cases f with
  | next => exact fun A fp σ H s a => h A fp σ H (s.untr hc) a
  | brk => exact fun A fp σ H s a => h A fp σ H (s.untr hc) a
  | cont => exact fun A fp σ H s a => h A fp σ H (s.untr hc) a
  | ret d => exact h
end
/-- a clause's suite: it knows its error alone, and returns -/
def tsH (X : Cx) (C : Cxt) (i : Nat) (ss : List S) (a : Addr) (cls : Value) (d : Option Addr) : TS := fun D σ H => ∃ (H0 : Hp) (A0 : Addr → Prop) (At : Option Addr) (n : Option Int) (e : Exn),
  Pres At H0 H ∧ CellOk At n H ∧ i < σ.length ∧ σ[i]? = some (some (.ref a)) ∧ ExX X H e cls d ∧ Out (evSs C ss (setS (List.replicate σ.length none) i (.err e)) n) (fun r n' => ∃ x, r.2 = .ret x ∧
    ∀ At' v S H', RepX X H' v x S → Pres At' H0 H' → CellOk At' n' H' → AtOk H0 At At' → (∀ a ∈ S, H0 a = none ∨ A0 a) → (∀ a ∈ S, At' ≠ some a) → D.rt v H') NoX
theorem suite_tr {X : Cx} {C : Cxt} {i : Nat} {ss : List S} {a : Addr} {oe : Obj} {cls : Value} {d : Option Addr} {pn : List (Addr × Obj)} {body : List Stmt} (hz : Zc cls d oe) (hd : ∃ vs, oe.data = .fields vs)
    (h : PSs (X.suite a ((a, oe) :: pn)) body (tSs (X.suite a ((a, oe) :: pn)) C ss)) : PSs (X.suite a ((a, oe) :: pn)) body (tsH X C i ss a cls d) := by
  refine h.weak fun D σ H q => ?_
  obtain ⟨H0, A0, At, n, e, pr, cl, hi, hs, ex, q⟩ := q
  obtain ⟨vs, hd⟩ := hd
  have get : ∀ j s, getS (setS (List.replicate σ.length none) i (.err e)) j = some s → j = i ∧ s = .err e := fun j s ej => by
    rw [getS_set] at ej
    by_cases z : j = i
    · rw [if_pos z, if_pos (by rw [List.length_replicate]; exact hi)] at ej
      exact ⟨z, (Option.some.inj ej).symm⟩
    · rw [if_neg z] at ej
      unfold getS at ej
      rw [List.getElem?_replicate] at ej
      split at ej <;> cases ej
  refine ⟨H0, A0, At, n, _, fun _ => [], ⟨⟨pr, by rw [setS_length, List.length_replicate], fun j s ej => ?_, cl, fun j s ej b hb => (nomatch hb), fun j k sj sk _ ej _ => ?_, fun j s ej b hb => (nomatch hb)⟩, fun j s ej => ?_⟩, q.imp (fun r n' z => ?_) fun _ _ z => z.elim⟩
  · obtain ⟨rfl, rfl⟩ := get j s ej
    exact ⟨_, hs, rfl, fun _ => ⟨a, oe, cls, d, vs, rfl, List.mem_cons_self, hz, hd, ex⟩⟩
  · obtain ⟨_, rfl⟩ := get j sj ej
    trivial
  · obtain ⟨_, rfl⟩ := get j s ej
    trivial
  · obtain ⟨ρ', f⟩ := r
    obtain ⟨x, hx, z⟩ := z
    have hx : f = .ret x := hx
    subst hx
    exact z
inductive HdsS (X : Cx) (C : Cxt) : List ExceptHandler → List Hd → Prop
  | nil : HdsS X C [] []
  | cons {x y : Str} {i : Nat} {b₀ : Stmt} {suite : List Stmt} {np pos' : Pos} {hds : List ExceptHandler} {hs : List Hd} {ss : List S} (hg : Gl X x) (hd : (x == ("__debug__" : Str)) = false) (hc : ∃ c, ClsV X.mg x c) (hi : X.N[i]? = some y) (hln : X.env.kindOf y = some .local)
      (hsu : ∀ (a : Addr) (oe : Obj) (pn : List (Addr × Obj)), PSs (X.suite a ((a, oe) :: pn)) (b₀ :: suite) (tSs (X.suite a ((a, oe) :: pn)) C ss)) (r : HdsS X C hds hs) : HdsS X C (.ExceptHandler (some (.Name x np)) (some y) (b₀ :: suite) pos' :: hds) (.mk x i ss :: hs)
theorem bt_ValueError : bootBuiltins "ValueError" = some (.type "ValueError") := by kernel_rfl
theorem clsv {mg : Str → Option Value} {x : Str} (h : ∃ C0, mg x = some (.ref C0)) : ∃ c, ClsV mg x c := by
  obtain ⟨C0, h⟩ := h
  exact ⟨_, .inl h⟩
theorem ClsV.fn {mg : Str → Option Value} {x : Str} {c c' : Value} (h : ClsV mg x c) (h' : ClsV mg x c') : c = c' := by
  rcases h with h | ⟨h, k, _⟩ <;> rcases h' with h' | ⟨h', k', _⟩
  · rw [h] at h'; exact Option.some.inj h'
  · rw [h] at h'; cases h'
  · rw [h] at h'; cases h'
  · rw [k] at k'; exact Option.some.inj k'
theorem hds_all {X : Cx} {C : Cxt} {hds : List ExceptHandler} {hs : List Hd} (h : HdsS X C hds hs) : ∃ l, HdsAs X hds l ∧ ∀ (D : Ends) (σ : L2.St) (H H0 : Hp) (A0 : Addr → Prop) (At A : Option Addr) (n : Option Int) (e : Exn) (cls : Value) (d : Option Addr) (ρ : Ev),
    σ.length = X.N.length → ρ.length = σ.length → AtOk H0 At A → Pres A H0 H → CellOk A n H → ExX X H e cls d → Out (evHs C hs e ρ n) (KD X H0 A0 At D) (ZX X At H0) → wAll X.K (fun cls d _ H' => WXX X cls d H') D l cls d σ H := by
  induction h with
  | nil =>
    refine ⟨[], .nil, fun D σ H H0 A0 At A n e cls d ρ hl hr k p c ex q => ?_⟩
    rw [evHs] at q
    exact q A cls d H k ex p c
  | @cons x y i b₀ suite np pos' hds hs ss hg hd hc hi hln hsu r ih =>
    obtain ⟨l, hl, ih⟩ := ih
    obtain ⟨cv, hcv⟩ := hc
    refine ⟨(cv, i, tsH X C i ss) :: l, .cons ⟨hg, hd, hcv⟩ hi hln (fun a oe cls d pn hz hd => suite_tr hz hd (hsu a oe pn)) hl, fun D σ H H0 A0 At A n e cls d ρ hlen hr k p c ex q => ?_⟩
    rw [evHs, out_bind, out_lft] at q
    obtain ⟨b, hb, q⟩ := q
    obtain ⟨c', hc', hex, _⟩ := ex.ans x b hb
    obtain rfl := hc'.fn hcv
    refine ⟨b, hex, fun hbt a ha => ?_, fun hbf => ?_⟩
    · subst hbt
      have hi' : i < σ.length := by rw [hlen]; exact lt_of_get hi
      refine ⟨H0, A0, A, n, e, p, c, by rw [List.length_set]; exact hi', by rw [List.getElem?_set_self hi'], ex, ?_⟩
      rw [List.length_set, ← hr]
      have q : Out (onlyRet (evSs C ss (setS (List.replicate ρ.length none) i (.err e))) n) (KD X H0 A0 At D) (ZX X At H0) := q
      unfold onlyRet at q
      cases z : evSs C ss (setS (List.replicate ρ.length none) i (.err e)) n with
      | ok r k2 =>
        rw [z] at q
        obtain ⟨ρ2, f⟩ := r
        cases f with
        | ret x =>
          have q : KD X H0 A0 At D (ρ2, .ret x) k2 := q
          exact ⟨x, rfl, fun At' v S H' r p c ak => q At' v S H' r p c (k.trans ak)⟩
        | _ => exact q.elim
      | exc _ _ => rw [z] at q; exact q.elim
      | bad => rw [z] at q; exact q.elim
    · subst hbf
      exact ih D σ H H0 A0 At A n e cls d ρ hlen hr k p c ex q
section
variable {X : Cx} {C : Cxt}
theorem rtry {body : List Stmt} {h₀ : ExceptHandler} {hds : List ExceptHandler} {hs : List Hd} {sb : List S} {pos : Pos} (hstk : X.stack = X.env :: X.outer) (hf : X.env.frame = some X.env.locals) (hN : X.N.Nodup) (hc : X.calm = true)
    (hb : ∀ (pn : List (Addr × Obj)) (xe : Value → Shared → Prop), PassesOwn (model X.prog X.w) X.A X.env xe → PSs (X.tr pn xe) body (tSs (X.tr pn xe) C sb)) (hh : HdsS X C (h₀ :: hds) hs) : PS X (.Try body (h₀ :: hds) [] [] pos) (tS X C (.tryE sb hs)) := by
  obtain ⟨l, hl, hw⟩ := hds_all hh
  refine ⟨fun pins s σ H D I h => ?_⟩
  refine (ps_try_all (X := X) (tb := fun W D σ H => ∃ H0 A0 At n ρ fp, Sl X H0 A0 At n ρ fp σ H ∧ Out (evSs C sb ρ n) (KD X H0 A0 At D) (fun e n' => ∀ A cls d σ' H', σ'.length = X.N.length → AtOk H0 At A → ExX X H' e cls d → Pres A H0 H' → CellOk A n' H' → W cls d σ' H'))
    hstk hf hN (wxx_takes X) (fun W pn xe tk ps => (hb pn xe ps).weak fun D σ H q => ?_) hl).run pins s σ H D I ?_
  · obtain ⟨H0, A0, At, n, ρ, fp, s, q⟩ := q
    exact ⟨H0, A0, At, n, ρ, fp, s.tr hc, q.imp (fun r n' z => z.tr hc) fun e n' z A cls d H' k ex p c => WXX.of tk fun σ' hσ => z A cls d σ' H' hσ k ex p c⟩
  · obtain ⟨H0, A0, At, n, ρ, fp, sl, q⟩ := h
    refine ⟨H0, A0, At, n, ρ, fp, sl, ?_⟩
    rw [evS] at q
    have q : Out (if ρ.all notErr = true then (match evSs C sb ρ n with
      | .exc e n' => evHs C hs e ρ n'
      | r => r) else Rs.bad) (KD X H0 A0 At D) (ZX X At H0) := q
    split at q
    · cases z : evSs C sb ρ n with
      | ok r k => rw [z] at q; exact q
      | exc e k =>
        rw [z] at q
        exact fun A cls d σ' H' hσ ka ex p c => hw D σ' H' H0 A0 At A k e cls d ρ hσ (by rw [sl.rl.len, hσ, I.len]) ka p c ex q
      | bad => rw [z] at q; exact q
    · exact q.elim
end
end MP

/-! MPHot: a def called within a clause's suite, on the error that is caught. -/
namespace MP
open PySem PySem.Spec L2
open PyProof.Rows hiding St

/-- what such a def promises -/
structure FnE (P : Program) (w : World) (K : PySem.W.Frag) (mg : Str → Option Value) (base : Heap) (k : Nat) (f : Addr) (fd : FuncData) (x : Str) (F : List Slot → M D) : Prop where
  runs : ∀ (A : Around) (fr : List Env) (t : Shared) (H : Hp) (args : Args) (a : Addr) (oe : Obj) (cls : Value) (d : Option Addr) (e : Exn) (At : Option Addr) (n : Option Int) (Q : VK) (E : XK), L2H.RoomH k A → A.guards = some [] → L2H.PinOk fr H t (a, oe) → Env0 P w K mg base A fr t H →
    BindsTo t fd args ([x].zip [Value.ref a]) → Zc cls d oe → (∃ vs, oe.data = .fields vs) → ExR P w K mg H e cls d → CellOk At n H →
    Out (F [.err e] n) (fun y n' => ∀ v H' T, Rep P w K H' v y T → Pres At H H' → CellOk At n' H' → (∀ b ∈ T, H b = none) → Q v H') NoX → codeAny (model P w) A (.call (.ref f) args) (CR (CX P w) fr P w H t Q E) t
section
variable {P : Program} {w : World} {K : PySem.W.Frag} {mg : Str → Option Value} {base : Heap} {k : Nat} {f : Addr} {fd : FuncData} {x xn qual : Str} {params : Arguments} {body : List Stmt} {scope : Scope} {dvs : List V} {kws : List (Str × V)} {N : List Str}
abbrev cxE (P : Program) (w : World) (K : PySem.W.Frag) (mg : Str → Option Value) (base : Heap) (N : List Str) (qual : Str) (scope : Scope) (f : Addr) (cd : Value) (A : Around) (fr : List Env) (t : Shared) (H : Hp) (E : XK) (p : Addr × Obj) : Cx := L2H.cxH (CX P w) P w K mg base N qual scope f cd A fr t H E p
theorem fnE_ok {i : Nat} {defs : List Def} {flds : List XRow} {wf : Nat} {dd : Def} (F : FunD K xn qual params body scope dvs kws f fd) (S : FnScope N [x] scope) (hd : defs[i]? = some dd) (hN : N.length = dd.slots) (hs : dd.np = 1) (hsl : 1 ≤ dd.slots)
    (hb : ∀ (m : Nat) (cd : Value) (A : Around) (fr : List Env) (t : Shared) (H : Hp) (E : XK) (p : Addr × Obj), A.units + 200 < cLine → PSs (cxE P w K mg base N qual scope f cd A fr t H E p) body (tSs (cxE P w K mg base N qual scope f cd A fr t H E p) ⟨callN defs flds wf m, wf, flds⟩ dd.body)) :
    ∀ m, FnE P w K mg base (k + 1) f fd x (callN defs flds wf m i) := by
  intro m
  obtain ⟨oc, od, dV, kV, doc, pm, an, cd, ct, osl, rfl, look, code, _, _⟩ := F.ex
  refine ⟨fun A fr t H args a oe cls d e At n Q E hr hg hpin e0 hbd hz hdt ex hc h => ?_⟩
  have KX : K.In t.heap := e0.mod.kin.keeps fun b o z => (e0.bs b o z).1
  have lim : t.heap.NoLimit := e0.mod.nolimit.keeps fun b o z => (e0.bs b o z).1
  refine codeAny_call_function hr.depth (KX _ _ look) rfl S.co S.gen rfl (PySem.W.codeRec_of KX code) (hbd _ _ _ _ ?_)
  refine wpAny_newFunctionEnv_cells S.kind (fun ⟨y, z⟩ hy => ?_) fun env henv t1 grown => ?_
  · exact (S.par y (List.of_mem_zip hy).1).imp id fun q => ⟨q, PySem.W.cellsFrom_some _ _ _ (.inl q)⟩
  subst henv
  refine ⟨lim.keeps grown.toInCall.keep, codeAny_func ?_⟩
  have I : Inv (cxE P w K mg base N qual scope f cd A fr t H E (a, oe)) [] (L2.start N [V.ref a]) H t1 := L2H.inv_startH S hpin e0 rfl (.cons rfl .nil) grown
  have T : tSs (cxE P w K mg base N qual scope f cd A fr t H E (a, oe)) ⟨callN defs flds wf (m - 1), wf, flds⟩ dd.body { nx := fun _ H' => Q .non H', rt := Q } (L2.start N [V.ref a]) H := by
    cases m with
    | zero => exact h.elim
    | succ m =>
      rw [show callN defs flds wf (m + 1) i = runDef ⟨callN defs flds wf m, wf, flds⟩ dd from by
        funext ss
        show (match defs[i]? with | some d => runDef ⟨callN defs flds wf m, wf, flds⟩ d ss | none => fail) = _
        rw [hd]] at h
      have hst : dd.start [.err e] = some (some (.err e) :: List.replicate (dd.slots - 1) none) := by
        unfold Def.start
        rw [if_pos ⟨by simp [hs], by simp [hs]⟩]
        have : ([Slot.err e] : List Slot).length + dd.dflts.length - dd.np = dd.dflts.length := by rw [hs]; simp
        rw [this, List.drop_length, hs]; rfl
      have hbo : Out (bodyDef ⟨callN defs flds wf m, wf, flds⟩ dd [.err e] n) (fun y n' => n'.isSome = n.isSome ∧ ∀ v H' T, Rep P w K H' v y T → Pres At H H' → CellOk At n' H' → (∀ b ∈ T, H b = none) → Q v H') NoX := by
        unfold runDef at h
        cases q : bodyDef ⟨callN defs flds wf m, wf, flds⟩ dd [.err e] n with
        | ok y n' =>
          rw [q] at h
          by_cases z : (n'.isSome == n.isSome) = true
          · have h := (show Out (if (n'.isSome == n.isSome) = true then Rs.ok y n' else Rs.bad) _ _ from h)
            rw [if_pos z] at h
            exact ⟨by simpa using z, h⟩
          · have h := (show Out (if (n'.isSome == n.isSome) = true then Rs.ok y n' else Rs.bad) _ _ from h)
            rw [if_neg z] at h
            exact h.elim
        | exc e' n' =>
          rw [q] at h
          by_cases z : (n'.isSome == n.isSome) = true
          · have h := (show Out (if (n'.isSome == n.isSome) = true then (Rs.exc e' n' : Rs MP.D) else Rs.bad) _ _ from h)
            rw [if_pos z] at h
            exact h.elim
          · have h := (show Out (if (n'.isSome == n.isSome) = true then (Rs.exc e' n' : Rs MP.D) else Rs.bad) _ _ from h)
            rw [if_neg z] at h
            exact h.elim
        | bad => rw [q] at h; exact h
      unfold bodyDef at hbo
      rw [out_bind, out_lft] at hbo
      obtain ⟨ρ, e1, hbo⟩ := hbo
      rw [hst] at e1
      cases e1
      rw [out_bind] at hbo
      have at_eq : ∀ {At' : Option Addr} {n' : Option Int} {H' : Hp}, n'.isSome = n.isSome → CellOk At' n' H' → AtOk H At At' → At' = At := fun {At' n' H'} hn c' k => by
        cases At with
        | some a => exact k.1 (by simp)
        | none =>
          cases n with
          | some _ => exact hc.elim
          | none =>
            cases n' with
            | some _ => cases hn
            | none =>
              cases At' with
              | none => rfl
              | some a => exact c'.elim
      have get : ∀ j s, getS (some (.err e) :: List.replicate (dd.slots - 1) none) j = some s → j = 0 ∧ s = .err e := fun j s ej => by
        cases j with
        | zero => exact ⟨rfl, (Option.some.inj ej).symm⟩
        | succ j =>
          unfold getS at ej
          rw [List.getElem?_cons_succ, List.getElem?_replicate] at ej
          split at ej <;> cases ej
      obtain ⟨vs, hdt⟩ := hdt
      refine ⟨H, fun _ => False, At, n, _, fun _ => [], ⟨⟨.refl, ?_, fun j s ej => ?_, hc, fun j s ej b hb => (nomatch hb), fun j k sj sk _ ej _ => ?_, fun j s ej b hb => (nomatch hb)⟩, fun j s ej => ?_⟩, hbo.imp (fun r n' q => ?_) fun _ _ z => z.elim⟩
      · unfold L2.start
        rw [List.length_append, List.length_map, List.length_replicate, List.length_cons, List.length_replicate, hN]
        simp
        omega
      · obtain ⟨rfl, rfl⟩ := get j s ej
        refine ⟨.ref a, rfl, rfl, fun _ => ⟨a, oe, cls, d, vs, rfl, List.mem_cons_self, hz, hdt, ex⟩⟩
      · obtain ⟨_, rfl⟩ := get j sj ej
        trivial
      · obtain ⟨_, rfl⟩ := get j s ej
        trivial
      · obtain ⟨ρ', fl⟩ := r
        cases fl with
        | next =>
          have q : Out ((pure .none : M MP.D) n') _ _ := q
          rw [out_pure] at q
          intro At' fp' σ' H' s' k
          have z := at_eq q.1 s'.rl.cell k
          subst z
          exact q.2 .non H' [] .non s'.rl.pres s'.rl.cell fun _ h => nomatch h
        | ret y =>
          have q : Out ((pure y : M MP.D) n') _ _ := q
          rw [out_pure] at q
          intro At' v T H' rr p c' k sub nT
          have z := at_eq q.1 c' k
          subst z
          exact q.2 v H' T rr p c' fun b hb => (sub b hb).resolve_right id
        | brk => exact q.elim
        | cont => exact q.elim
  refine wpAny_mono ((hb (m - 1) cd A fr t H E (a, oe) (by have := hr.un; omega)).run [] t1 (L2.start N [V.ref a]) H _ I T) (fun fl t' left => ?_) fun _ _ z => z
  have fin : ∀ {τ : L2.St} {H' : Hp} {v : V} {u : Value}, Inv (cxE P w K mg base N qual scope f cd A fr t H E (a, oe)) [] τ H' t' → RelV v u → Q v H' → CE fr P w H t Q u t' :=
    fun {τ H' v u} J rv q => ⟨v, H', J.os, J.bare, J.base, J.hok, rv, q⟩
  cases fl with
  | next =>
    obtain ⟨τ, H', J, q⟩ := left
    exact fin (v := V.non) (u := Value.none) J rfl q
  | ret u =>
    obtain ⟨v, τ, H', J, rv, q⟩ := left
    exact fin J rv q
  | brk =>
    obtain ⟨_, _, _, z⟩ := left
    exact z.elim
  | cont =>
    obtain ⟨_, _, _, z⟩ := left
    exact z.elim
end
theorem roomH_mark {k : Nat} {A : Around} (h : RoomG k A) (v : Option Value) : L2H.RoomH k (A.mark v) := ⟨h.r.dp, h.r.un⟩
/-- such a def as the head gives it -/
structure DefOkE (P : Program) (w : World) (K : PySem.W.Frag) (mg : Str → Option Value) (base : Heap) (defs : List Def) (flds : List XRow) (wf : Nat) (x : Str) (i kl : Nat) : Prop where
  ex : ∃ f fd y, mg x = some (.ref f) ∧ PySem.W.keepIn K (.ref f) = true ∧ Binds K fd [y] [] ∧ ∀ m, FnE P w K mg base kl f fd y (callN defs flds wf m i)
section
variable {X : Cx} {C : Cxt}
theorem rcallX (j : Nat) {x y : Str} {p p1 pos : Pos} {defs : List Def} {flds : List XRow} {wf m i kl : Nat} (G : DefOkE X.prog X.w X.K X.mg X.base defs flds wf x i kl) (hr : L2H.RoomH kl X.A) (hgd : X.A.guards = some []) (hc : X.calm = false) (hN : X.N[j]? = some y := by rfl) (hv : Vis X.env.scope y := by first | exact .inl rfl | exact .inr (.inl rfl))
    (hd : (y == ("__debug__" : Str)) = false := by rfl) (hcd : (y == ("__classdict__" : Str)) = false := by rfl) (hg : Gl X x := by rfl) (hdb : (x == ("__debug__" : Str)) = false := by rfl)
    (he : starEach [.Name y p1] X.env = (false, eval (.Name y p1) X.env) :: starEach [] X.env := by rfl) (hpl : (backTo pos (starEach [] X.env)).any (·.1) = false := by rfl) :
    PE X (.Call (.Name x p) [.Name y p1] [] pos) (tE X ⟨callN defs flds wf m, wf, flds⟩ (ZX X) (.callX i j)) := by
  obtain ⟨f, fd, py, hm, hk, hb, hF⟩ := G.ex
  constructor
  intro pins s0 σ H Q I0 h
  obtain ⟨H0, A0, At, n, ρ, fp, rl, h⟩ := h
  rw [evE, out_bind, out_lft] at h
  obtain ⟨e, e1, h⟩ := h
  cases hs : getS ρ j with
  | none => rw [hs] at e1; cases e1
  | some sl =>
    rw [hs] at e1
    cases sl with
    | err e' =>
      obtain rfl : e' = e := Option.some.inj e1
      obtain ⟨v0, hv0, ok⟩ := rl.slot j _ hs
      obtain ⟨a, oe, cls, d, vs, rfl, hmem, hz, hd', ex⟩ := ok.2 hc
      refine wpAny_Call_Name_kw (ld_glob I0 hg hm (PySem.W.callWith_K (h₀ := X.base) I0.ok.mod.kin hk (thn ((pa_cons (pe_var (i := j) hN hv hd hcd) pa_nil he).run pos pins s0 σ H (fun us H1 => us = [.ref a] ∧ H1 = H) I0 ⟨_, hv0, rfl, rfl⟩) fun us s1 hh => ?_) he hpl) hdb)
      obtain ⟨vs', H1, I1, rel, e2, e3⟩ := hh
      subst e2 e3
      obtain rfl : us = [Value.ref a] := by
        cases rel with
        | cons r rr => cases rr with
          | nil => rw [show _ = Value.ref a from r]
      refine ⟨I1.kIn, ?_⟩
      have P1 := I1.pin (a, oe) (List.mem_append_left _ hmem)
      have hpin : L2H.PinOk X.stack H1 s1 (a, oe) := ⟨P1.1, P1.2.1, fun hm' => (List.mem_cons.mp (I1.stkSub a hm')).elim P1.2.2.1 P1.2.2.2.1, P1.2.2.2.2⟩
      have b := hb s1 [.ref a] I1.kIn rfl
      rw [List.append_nil] at b
      refine wpAny_call (codeAny_mono ((hF m).runs X.A X.stack s1 H1 ⟨[.ref a], []⟩ a oe cls d e' At n Q (fun cls d H' => WXX X cls d H') hr hgd hpin I1.env0 b hz ⟨vs, hd'⟩ ex rl.cell ?_) fun r s2 out => ?_)
      · exact (out_noX h).imp (fun y n2 h v H2 T r pr cl fr => h v H2 T (.mk' r pr cl rfl (fun c hc => .inl (fr c hc)) fun z => by cases z)) fun _ _ z => z
      · match r, out with
        | .error e, out => exact wxx_takes X _ _ (XE.of_call I1 (fun _ _ _ z => z) out)
        | .ok (.ret u), out => exact I1.after out
        | .ok .next, out => exact out.elim
        | .ok .brk, out => exact out.elim
        | .ok .cont, out => exact out.elim
    | _ => cases e1
end
end MP

/-! MPHx: a hook that looks at the program's classes of errors, too. -/
namespace MP
open PySem PySem.Spec L2
open PyProof.Rows hiding St

/-- a class of errors: its row, the class whose __init__ it has, that def -/
structure CRow where
  row : XRow
  own : Str
  nm : Str
  qual : Str
  params : Arguments
  body : List Stmt
  scope : Scope
abbrev InV : Type := Option (Str × Str × Arguments × FuncBody × Scope × Addr × Addr)
def CRow.fI (K : PySem.W.Frag) (r : CRow) : Addr := He.ma K (He.ga K r.own) "__init__"
def initObs (K : PySem.W.Frag) (r : CRow) : InV := match K.lookup (r.fI K) with
  | some ⟨_, _, .func fd, _⟩ => some (fd.name, fd.qualname, fd.params, fd.body, fd.scope, fd.globals, fd.builtins)
  | _ => none
def CRow.val (r : CRow) : InV := some (r.nm, r.qual, r.params, .stmts r.body, r.scope, mainGlobals, builtinsNs)
def oexB (K : PySem.W.Frag) (C : Addr) : Bool := (match K.lookup C with
  | some ⟨.type "type", _, .cls cd, sl⟩ => (match cd.mro, sl.toList with
    | .ref C' :: bm, [_, _, _, _, some (.builtin n), _] => C' == C && n == "ValueError.__new__" && !cd.hasDel && cd.hasDict && PySem.HandSPX.refsVE bm
    | _, _ => false)
  | _ => false) && (He.eqO (PySem.W.findIn K (.ref C) "__setattr__") (some (some (.builtin "object.__setattr__"))) && (decide (PySem.W.subIn K (.ref C) (.type "BaseException") = some true) && (decide (PySem.W.typeIn K (.ref C) = some (.type "type")) && PySem.W.keepIn K (.ref C))))
theorem oexB_ok {K : PySem.W.Frag} {C : Addr} (h : oexB K C = true) : OexC K C := by
  unfold oexB at h
  obtain ⟨h1, h⟩ := He.ba h
  obtain ⟨h2, h⟩ := He.ba h
  obtain ⟨h3, h⟩ := He.ba h
  obtain ⟨h4, h5⟩ := He.ba h
  refine ⟨?_, He.eqO_ok h2, of_decide_eq_true h3, of_decide_eq_true h4, h5⟩
  split at h1
  · rename_i dd cd sl ho
    split at h1
    · rename_i C' bm k0 k1 k2 k3 n k5 hm hs
      simp only [Bool.and_eq_true, beq_iff_eq, Bool.not_eq_true'] at h1
      obtain ⟨⟨⟨⟨rfl, rfl⟩, hdel⟩, hdc⟩, ht⟩ := h1
      obtain ⟨nm, bs, mro, ns, qn, hd, sn, sub, ab, col, del⟩ := cd
      dsimp only at hm hdel hdc
      subst hm hdel hdc
      have hsl : sl = #[k0, k1, k2, k3, some (.builtin "ValueError.__new__"), k5] := by
        obtain ⟨l⟩ := sl
        simp only at hs
        rw [hs]
      subst hsl
      exact ⟨nm, qn, ns, bs, bm, sn, sub, ab, col, dd, k0, k1, k2, k3, k5, ho, ht⟩
    · cases h1
  · cases h1
def excB (K : PySem.W.Frag) (D : Addr) : Bool := decide (PySem.W.findIn K (.ref D) "__getattribute__" = some (some (.builtin "BaseException.__getattribute__"))) && (decide (PySem.W.findIn K (.ref D) "__getattr__" = some none) && (decide (PySem.W.subIn K (.ref D) (.type "BaseException") = some true) && (PySem.W.hasDictIn K D &&
  (decide (PySem.W.findIn K (.ref D) "__class__" = some (some (.builtin "object.__class__"))) && (decide (PySem.W.specialIn K (.builtin "object.__class__") "__get__" = some (some (.builtin "getset_descriptor.__get__"))) && (decide (PySem.W.takesIn K (.builtin "object.__class__") = some true) && decide (PySem.W.mroIn K D (.type "object") = some true)))))))
theorem excB_ok {K : PySem.W.Frag} {D : Addr} (h : excB K D = true) : ExcC K D := by
  obtain ⟨h1, h⟩ := He.ba h
  obtain ⟨h2, h⟩ := He.ba h
  obtain ⟨h3, h⟩ := He.ba h
  obtain ⟨h4, h⟩ := He.ba h
  obtain ⟨h5, h⟩ := He.ba h
  obtain ⟨h6, h⟩ := He.ba h
  obtain ⟨h7, h8⟩ := He.ba h
  exact ⟨of_decide_eq_true h1, of_decide_eq_true h2, of_decide_eq_true h3, h4, of_decide_eq_true h5, of_decide_eq_true h6, of_decide_eq_true h7, of_decide_eq_true h8⟩
def initB (file : Str) (K : PySem.W.Frag) (D fI : Addr) (qual : Str) : Bool := match K.lookup fI with
  | some ⟨_, _, .func fd, _⟩ => (match fd.closure, fd.code, fd.defaults, fd.kwdefaults with
    | [(n, cc)], .ref cda, .none, .none => decide (n = "__class__") && (PySem.W.codeIn K (.ref cda) qual && ((match K.lookup cda with
      | some ⟨_, _, .fields vs, _⟩ => (match vs[2]? with
        | some (Value.str fl _) => decide (fl = file)
        | _ => false)
      | _ => false) && (match K.lookup cc with
      | some ⟨_, _, .cell (some (.ref D')), _⟩ => decide (D' = D)
      | _ => false)))
    | _, _, _, _ => false)
  | _ => false
theorem initB_ok {file : Str} {K : PySem.W.Frag} {r : CRow} (h : initB file K (He.ga K r.own) (r.fI K) r.qual = true) (hI : initObs K r = r.val) :
    ∃ cc cda doc pm an ct oc od osl, K.lookup (r.fI K) = some ⟨oc, od, .func (PySem.W.ksFn r.nm r.qual r.params r.body r.scope .none .none doc pm an (.ref cda) ct cc), osl⟩ ∧ PySem.W.codeIn K (.ref cda) r.qual = true ∧
      (∃ ccl cdd vs ccs tf, K.lookup cda = some ⟨ccl, cdd, .fields vs, ccs⟩ ∧ vs[2]? = some (.str file tf)) ∧ ∃ cl cld csl, K.lookup cc = some ⟨cl, cld, .cell (some (.ref (He.ga K r.own))), csl⟩ := by
  unfold initB at h
  unfold initObs CRow.val at hI
  split at h
  · rename_i oc od fd osl ho
    rw [ho] at hI
    split at h
    · rename_i n cc cda e1 e2 e3 e4
      obtain ⟨h1, h⟩ := He.ba h
      obtain ⟨h2, h⟩ := He.ba h
      obtain ⟨h3, h4⟩ := He.ba h
      have h1 := of_decide_eq_true h1
      obtain ⟨n1, n2, n3, n4, n5, n6, n7, n8, n9, n10, n11, n12, n13, n14, n15⟩ := fd
      dsimp only at e1 e2 e3 e4
      subst e1 e2 e3 e4 h1
      simp only [Option.some.injEq, Prod.mk.injEq] at hI
      obtain ⟨g1, g2, g3, g4, g5, g6, g7⟩ := hI
      subst g1 g2 g3 g4 g5 g6 g7
      refine ⟨cc, cda, n10, n11, n12, n14, oc, od, osl, ho, h2, ?_, ?_⟩
      · split at h3
        · rename_i ccl cdd vs ccs hl
          split at h3
          · rename_i fl tf hv
            have h3 := of_decide_eq_true h3
            subst h3
            exact ⟨ccl, cdd, vs, ccs, tf, hl, hv⟩
          · cases h3
        · cases h3
      · split at h4
        · rename_i cl cld D' csl hl
          have h4 := of_decide_eq_true h4
          subst h4
          exact ⟨cl, cld, csl, hl⟩
        · cases h4
    · cases h
  · cases h
def ansB (K : PySem.W.Frag) (C : Addr) (p : Str × Bool) : Bool := match PySem.W.nsIn K mainGlobals p.1 with
  | some (some (.ref c)) => decide (PySem.W.exmOne K (.ref C) (.ref c) = some p.2) && decide (PySem.W.kitOne K (.ref C) (.ref c) = some p.2)
  | some none => (match bootBuiltins p.1 with
    | some c => decide (p.1 ≠ "__name__") && (decide (PySem.W.exmOne K (.ref C) c = some p.2) && decide (PySem.W.kitOne K (.ref C) c = some p.2))
    | none => false)
  | _ => false
theorem ansB_ok {K : PySem.W.Frag} {h : Heap} {mg : Str → Option Value} (X : K.In h) (G : h.Ns mainGlobals mg) {C : Addr} {p : Str × Bool} (hB : ansB K C p = true) : ∃ c, ClsV mg p.1 c ∧ PySem.W.exmOne K (.ref C) c = some p.2 ∧ PySem.W.kitOne K (.ref C) c = some p.2 := by
  unfold ansB at hB
  split at hB
  · rename_i c e
    obtain ⟨h1, h2⟩ := He.ba hB
    exact ⟨.ref c, .inl (PySem.W.mg_of X G e), of_decide_eq_true h1, of_decide_eq_true h2⟩
  · rename_i e
    split at hB
    · rename_i c e2
      obtain ⟨h0, h⟩ := He.ba hB
      obtain ⟨h1, h2⟩ := He.ba h
      exact ⟨c, .inr ⟨PySem.W.mg_none_of X G e, e2, of_decide_eq_true h0⟩, of_decide_eq_true h1, of_decide_eq_true h2⟩
    · cases hB
  · cases hB
def clsB (file : Str) (K : PySem.W.Frag) (r : CRow) : Bool :=
  He.eqO (PySem.W.nsIn K mainGlobals r.row.nm) (some (some (.ref (He.ga K r.row.nm)))) && (oexB K (He.ga K r.row.nm) && (He.eqO (PySem.W.findIn K (.ref (He.ga K r.row.nm)) "__init__") (some (some (.ref (r.fI K)))) && (decide (PySem.W.typeIn K (.ref (r.fI K)) = some (.type "function")) &&
  (decide (PySem.W.ks_superIn K (He.ga K r.row.nm) (He.ga K r.own) "__init__" = some (some (.builtin "ValueError.__init__"))) && (decide (PySem.W.subIn K (.ref (He.ga K r.row.nm)) (.type "ValueError") = some true) && (He.eqO (PySem.W.nsIn K mainGlobals "super") (some none) && (He.eqO (PySem.W.nsIn K cStatics "thirdparty.any") (some none) &&
  (xfB K (He.ga K r.row.nm) && (excB K (He.ga K r.row.nm) && (r.row.fds.all (fun f => He.eqO (PySem.W.findIn K (.ref (He.ga K r.row.nm)) f) (some none)) && (r.row.ans.all (ansB K (He.ga K r.row.nm)) && (initB file K (He.ga K r.own) (r.fI K) r.qual && ((PySem.W.clsIn K (He.ga K r.own)).isSome && decide (PySem.W.mroIn K (He.ga K r.row.nm) (.ref (He.ga K r.own)) = some true))))))))))))))
theorem mem_lookup {α : Type} {l : List (Str × α)} {x : Str} {b : α} (h : l.lookup x = some b) : (x, b) ∈ l := by
  induction l with
  | nil => cases h
  | cons p l ih =>
    obtain ⟨y, c⟩ := p
    rw [List.lookup_cons] at h
    split at h
    · rename_i e
      have e : x = y := by simpa using e
      cases h
      subst e
      exact List.mem_cons_self
    · exact List.mem_cons_of_mem _ (ih h)
/-- the facts of a def's scope that an __init__ needs -/
structure ScI (scope : Scope) (xs : List Str) : Prop where
  kind : scope.kind = .function
  ks : scope.names.lookup ("super" : Str) = some .globalImplicit
  kc : scope.names.lookup ("__class__" : Str) = some .free
  loc : ∀ x ∈ ("self" : Str) :: xs, scope.names.lookup x = some .local
  nocell : ∀ x ∈ scope.names, x.2 ≠ .cell
  co : scope.isCoroutine = false
  gen : scope.isGenerator = false
  dbg : ∀ x ∈ xs, (x == ("__debug__" : Str)) = false
section
variable {P : Program} {w : World} {K : PySem.W.Frag} {mg : Str → Option Value} {base h : Heap} {file : Str} {r : CRow}
theorem initH_of (hB : clsB file K r = true) (hI : initObs K r = r.val) {xs : List Str} (S : ScI r.scope xs) (hf : ((P.main.file : Str) == file) = true) (ht : (P.main.scope.names.lookup ("super" : Str)).isSome = false) :
    ∃ cc cda doc pm an ct oc od osl, K.lookup (r.fI K) = some ⟨oc, od, .func (PySem.W.ksFn r.nm r.qual r.params r.body r.scope .none .none doc pm an (.ref cda) ct cc), osl⟩ ∧ PySem.W.codeIn K (.ref cda) r.qual = true ∧ InitH P K (r.fI K) (He.ga K r.own) cc cda r.scope xs (He.ga K r.row.nm) := by
  unfold clsB at hB
  obtain ⟨h1, hB⟩ := He.ba hB
  obtain ⟨h2, hB⟩ := He.ba hB
  obtain ⟨h3, hB⟩ := He.ba hB
  obtain ⟨h4, hB⟩ := He.ba hB
  obtain ⟨h5, hB⟩ := He.ba hB
  obtain ⟨h6, hB⟩ := He.ba hB
  obtain ⟨h7, hB⟩ := He.ba hB
  obtain ⟨h8, hB⟩ := He.ba hB
  obtain ⟨h9, hB⟩ := He.ba hB
  obtain ⟨h10, hB⟩ := He.ba hB
  obtain ⟨h11, hB⟩ := He.ba hB
  obtain ⟨h12, hB⟩ := He.ba hB
  obtain ⟨h13, hB⟩ := He.ba hB
  obtain ⟨h14, h15⟩ := He.ba hB
  obtain ⟨cc, cda, doc, pm, an, ct, oc, od, osl, e1, e2, ⟨ccl, cdd, vs, ccs, tf, e3, e4⟩, e5⟩ := initB_ok h13 hI
  exact ⟨cc, cda, doc, pm, an, ct, oc, od, osl, e1, e2, ⟨ccl, cdd, vs, ccs, file, tf, e3, e4, hf⟩, e5, Option.isSome_iff_exists.mp h14, oexB_ok h2, of_decide_eq_true h15, of_decide_eq_true h5, of_decide_eq_true h6, He.eqO_ok h7, ht, He.eqO_ok h8, S.kind, S.ks, S.kc, S.loc, S.nocell, S.co, S.gen, S.dbg⟩
theorem clsOk_of (X : K.In h) (G : h.Ns mainGlobals mg) (hB : clsB file K r = true) {ps : List Str} {sp : Sp} {fd : FuncData} (F : FnOk P w K mg base (CX P w) 1 (r.fI K) fd ps sp) (hb : Binds K fd ps [])
    (hsp : (∃ f, r.row.fds = [f] ∧ sp = spI1 (He.ga K r.row.nm) f) ∨ ∃ f f2, r.row.fds = [f, f2] ∧ f ≠ f2 ∧ sp = spI2 (He.ga K r.row.nm) f f2) : ClsOk P w K mg base r.row := by
  unfold clsB at hB
  obtain ⟨h1, hB⟩ := He.ba hB
  obtain ⟨h2, hB⟩ := He.ba hB
  obtain ⟨h3, hB⟩ := He.ba hB
  obtain ⟨h4, hB⟩ := He.ba hB
  obtain ⟨h5, hB⟩ := He.ba hB
  obtain ⟨h6, hB⟩ := He.ba hB
  obtain ⟨h7, hB⟩ := He.ba hB
  obtain ⟨h8, hB⟩ := He.ba hB
  obtain ⟨h9, hB⟩ := He.ba hB
  obtain ⟨h10, hB⟩ := He.ba hB
  obtain ⟨h11, hB⟩ := He.ba hB
  obtain ⟨h12, hB⟩ := He.ba hB
  refine ⟨_, _, fd, ps, sp, PySem.W.mg_of X G (He.eqO_ok h1), oexB_ok h2, He.eqO_ok h3, of_decide_eq_true h4, F, hb, hsp, xfB_ok h9, excB_ok h10, fun f hf => He.eqO_ok (List.all_eq_true.mp h11 f hf), fun x b hl => ansB_ok X G (p := (x, b)) (List.all_eq_true.mp h12 _ (mem_lookup hl))⟩
end
/-! ### the hook -/
def notL (o : Obj) : Bool := match o.cls with
  | .type t => t != "list"
  | _ => true
def asE (g : Addr → Option Obj) (n : Nat) : List Addr := (He.asD g n ++ [cStatics]).filter fun b => match g b with
  | some o => notL o
  | none => false
abbrev ObE : Type := ((He.AlD × Bool) × Bool) × List InV
def obsE (fa : List He.Fa) (fn : List He.DefD) (ts : List Tp) (cs : List CRow) (file : Str) (K : PySem.W.Frag) : ObE := ((obsX fa fn ts K, cs.all (clsB file K)), cs.map (initObs K))
def valE (fn : List He.DefD) (cs : List CRow) : ObE := (((He.valD fn, true), true), cs.map CRow.val)
def SaysE (fa : List He.Fa) (fn : List He.DefD) (ts : List Tp) (cs : List CRow) (file : Str) (K : PySem.W.Frag) : Prop := obsE fa fn ts cs file K = valE fn cs
def obsEG (n : Nat) (fa : List He.Fa) (fn : List He.DefD) (ts : List Tp) (cs : List CRow) (file : Str) (g : Addr → Option Obj) : ObE := obsE fa fn ts cs file (He.frG g (asE g n))
theorem frG_all {g : Addr → Option Obj} {as : List Addr} (h : ∀ b ∈ as, ∀ o, g b = some o → notL o = true) : ∀ p ∈ He.frG g as, notL p.2 = true := fun p hp => by
  unfold He.frG at hp
  obtain ⟨b, hb, e⟩ := List.mem_filterMap.mp hp
  cases q : g b with
  | none => rw [q] at e; cases e
  | some o =>
    rw [q] at e
    cases e
    exact h b hb o q
def hookE (n : Nat) (fa : List He.Fa) (fn : List He.DefD) (ts : List Tp) (cs : List CRow) (file : Str) : PySem.W.Hook where
  α := ObE
  obs := fun s => obsEG n fa fn ts cs file s.heap.get?
  val := fun _ => valE fn cs
  says := fun _ h => ∃ K : PySem.W.Frag, K.In h ∧ (∀ p ∈ K, notL p.2 = true) ∧ SaysE fa fn ts cs file K
  of := fun _ _ e => ⟨_, He.frG_in, frG_all fun b hb o q => by
    have z := (List.mem_filter.mp hb).2
    rw [q] at z
    exact z, e⟩
  keeps := fun _ _ _ ⟨K, hK, hn, c⟩ k => ⟨K, PySem.W.Frag.In.keeps hK k, hn, c⟩
theorem obsEG_eq {n : Nat} {fa : List He.Fa} {fn : List He.DefD} {ts : List Tp} {cs : List CRow} {file : Str} {g : Addr → Option Obj} {s : Shared} (h : ∀ a, g a = s.heap.get? a) : obsEG n fa fn ts cs file g = (hookE n fa fn ts cs file).obs s := by
  have e : g = s.heap.get? := funext h
  rw [e] <;> rfl
section
variable {fa : List He.Fa} {fn : List He.DefD} {ts : List Tp} {cs : List CRow} {file : Str} {K : PySem.W.Frag}
theorem SaysE.saysX (c : SaysE fa fn ts cs file K) : SaysX fa fn ts K := congrArg (fun z : ObE => z.1.1) c
theorem SaysE.cls (c : SaysE fa fn ts cs file K) (i : Nat) {r : CRow} (h : cs[i]? = some r := by rfl) : clsB file K r = true := by
  have c1 : cs.all (clsB file K) = true := congrArg (fun z : ObE => z.1.2) c
  exact List.all_eq_true.mp c1 r (List.mem_of_getElem? h)
theorem SaysE.init (c : SaysE fa fn ts cs file K) (i : Nat) {r : CRow} (h : cs[i]? = some r := by rfl) : initObs K r = r.val := by
  have c2 : cs.map (initObs K) = cs.map CRow.val := congrArg (fun z : ObE => z.2) c
  have e := congrArg (fun l => l[i]?) c2
  simp only [List.getElem?_map, h, Option.map_some, Option.some.injEq] at e
  exact e
end
theorem frag_mem {K : PySem.W.Frag} : ∀ {p : Addr × Obj}, p ∈ K → ∃ o, K.lookup p.1 = some o ∧ (p.1, o) ∈ K := by
  induction K with
  | nil => intro p h; cases h
  | cons q K ih =>
    intro p h
    obtain ⟨b, o⟩ := q
    by_cases e : p.1 = b
    · exact ⟨o, by rw [List.lookup_cons, e]; simp, by rw [e]; exact List.mem_cons_self⟩
    · rcases List.mem_cons.mp h with z | z
      · exact absurd (by rw [z]) e
      · obtain ⟨o', h1, h2⟩ := ih z
        refine ⟨o', ?_, List.mem_cons_of_mem _ h2⟩
        rw [List.lookup_cons]
        have : (p.1 == b) = false := by simpa using e
        rw [this]
        exact h1
/-- no list stands in K: the script's does not -/
theorem cut_id {K : PySem.W.Frag} {h : Heap} {a : Addr} {o : Obj} (X : K.In h) (hn : ∀ p ∈ K, notL p.2 = true) (ha : h.get? a = some o) (ho : notL o = false) : cutK K a = K := by
  unfold cutK
  refine List.filter_eq_self.mpr fun p hp => ?_
  by_cases e : a = p.1
  · exfalso
    obtain ⟨o', h1, h2⟩ := frag_mem hp
    rw [← e] at h1
    have q := X _ _ h1
    rw [ha] at q
    cases q
    have z := hn _ h2
    rw [ho] at z; cases z
  · simp [e]
end MP
namespace MP
open PySem PySem.Spec L2
open PyProof.Rows hiding St
section
variable {P : Program} {w : World} {K : PySem.W.Frag} {mg : Str → Option Value} {base h : Heap} {file : Str} {r : CRow} {ar : Arg}
theorem clsB_no (hB : clsB file K r = true) : ∀ f ∈ r.row.fds, PySem.W.findIn K (.ref (He.ga K r.row.nm)) f = some none := by
  unfold clsB at hB
  obtain ⟨h1, hB⟩ := He.ba hB
  obtain ⟨h2, hB⟩ := He.ba hB
  obtain ⟨h3, hB⟩ := He.ba hB
  obtain ⟨h4, hB⟩ := He.ba hB
  obtain ⟨h5, hB⟩ := He.ba hB
  obtain ⟨h6, hB⟩ := He.ba hB
  obtain ⟨h7, hB⟩ := He.ba hB
  obtain ⟨h8, hB⟩ := He.ba hB
  obtain ⟨h9, hB⟩ := He.ba hB
  obtain ⟨h10, hB⟩ := He.ba hB
  obtain ⟨h11, hB⟩ := He.ba hB
  exact fun f hf => He.eqO_ok (List.all_eq_true.mp h11 f hf)
theorem clsOk1 {pl : Sem Bool} {x f : Str} {p0 p1 p2 p3 p4 p5 q1 q2 q3 q4 : Pos} (X : K.In h) (G : h.Ns mainGlobals mg) (hB : clsB file K r = true) (hI : initObs K r = r.val) (S : ScI r.scope [x]) (hf : ((P.main.file : Str) == file) = true) (ht : (P.main.scope.names.lookup ("super" : Str)).isSome = false)
    (hbody : r.body = [.Expr (.Call (.Attribute (.Call (.Name "super" p0) [] [] p1) "__init__" p2) [.Name x p3] [] p4) p5, .Assign [.Attribute (.Name "self" q1) f q2] (.Name x q3) q4])
    (hp0 : (r.params.posonlyargs ++ r.params.args).head? = some ar) (har : ar.arg = "self") (hfds : r.row.fds = [f]) (hxs : x ≠ "self")
    (he : ∀ fI cda cc L, starEach [.Name x p3] (PySem.W.ksEnv r.qual r.scope L fI (.ref cda) cc) = (false, eval (.Name x p3) (PySem.W.ksEnv r.qual r.scope L fI (.ref cda) cc)) :: starEach [] (PySem.W.ksEnv r.qual r.scope L fI (.ref cda) cc))
    (hpl : ∀ fI cda cc L, (backTo p4 (starEach [] (PySem.W.ksEnv r.qual r.scope L fI (.ref cda) cc))).any (·.1) = false)
    (hev : ∀ fI cda cc L, eval (.Call (.Attribute (.Call (.Name "super" p0) [] [] p1) "__init__" p2) [.Name x p3] [] p4) (PySem.W.ksEnv r.qual r.scope L fI (.ref cda) cc) = (do
      let ov ← attributeBase (.Call (.Name "super" p0) [] [] p1) "__init__" (PySem.W.ksEnv r.qual r.scope L fI (.ref cda) cc) (eval (.Call (.Name "super" p0) [] [] p1) (PySem.W.ksEnv r.qual r.scope L fI (.ref cda) cc))
      standAt p2.atName
      let (f, first) ← holding [ov] (getMethod ov "__init__" pl)
      callWith p4 f first (backTo p4 (starEach [.Name x p3] (PySem.W.ksEnv r.qual r.scope L fI (.ref cda) cc))) []))
    (hia : ∀ fI cda cc L, interactive (PySem.W.ksEnv r.qual r.scope L fI (.ref cda) cc) = false)
    (hsw : ∀ fI cda cc L, swapsWith (.Call (.Attribute (.Call (.Name "super" p0) [] [] p1) "__init__" p2) [.Name x p3] [] p4) none p5.line (PySem.W.ksEnv r.qual r.scope L fI (.ref cda) cc) = pure false)
    (hsw2 : ∀ fI cda cc L, swapsWith (.Name x q3) (some (.Attribute (.Name "self" q1) f q2)) q4.line (PySem.W.ksEnv r.qual r.scope L fI (.ref cda) cc) = pure false)
    (hbind : ∀ doc pm an cdv ct cc, ∀ us : List Value, us.length = 2 → bindArgs (PySem.W.ksFn r.nm r.qual r.params r.body r.scope .none .none doc pm an cdv ct cc) ⟨us, []⟩ = pure ((["self", x] : List Str).zip us)) : ClsOk P w K mg base r.row := by
  obtain ⟨cc, cda, doc, pm, an, ct, oc, od, osl, lk, cd, IH⟩ := initH_of hB hI S hf ht
  have F := init1 (base := base) (w := w) (mg := mg) (CX := CX P w) (pl := pl) hbody ⟨oc, od, osl, lk⟩ cd hp0 har IH (clsB_no hB f (by rw [hfds]; exact List.mem_cons_self)) hxs (he _ _ _) (hpl _ _ _) (hev _ _ _) (hia _ _ _) (hsw _ _ _) (hsw2 _ _ _)
  exact clsOk_of X G hB F (Binds.all fun us hl => hbind _ _ _ _ _ _ us hl) (.inl ⟨f, hfds, rfl⟩)
theorem clsOk2 {pl : Sem Bool} {x x2 f f2 : Str} {p0 p1 p2 p3 p4 p5 p6 q1 q2 q3 q4 r1 r2 r3 r4 : Pos} (X : K.In h) (G : h.Ns mainGlobals mg) (hB : clsB file K r = true) (hI : initObs K r = r.val) (S : ScI r.scope [x, x2]) (hf : ((P.main.file : Str) == file) = true) (ht : (P.main.scope.names.lookup ("super" : Str)).isSome = false)
    (hbody : r.body = [.Expr (.Call (.Attribute (.Call (.Name "super" p0) [] [] p1) "__init__" p2) [.Name x p3, .Name x2 p6] [] p4) p5, .Assign [.Attribute (.Name "self" q1) f q2] (.Name x q3) q4, .Assign [.Attribute (.Name "self" r1) f2 r2] (.Name x2 r3) r4])
    (hp0 : (r.params.posonlyargs ++ r.params.args).head? = some ar) (har : ar.arg = "self") (hfds : r.row.fds = [f, f2]) (hff : f ≠ f2) (hxs : x ≠ "self") (hxs2 : x2 ≠ "self") (hxx : x ≠ x2)
    (he : ∀ fI cda cc L, starEach [.Name x p3, .Name x2 p6] (PySem.W.ksEnv r.qual r.scope L fI (.ref cda) cc) = (false, eval (.Name x p3) (PySem.W.ksEnv r.qual r.scope L fI (.ref cda) cc)) :: starEach [.Name x2 p6] (PySem.W.ksEnv r.qual r.scope L fI (.ref cda) cc))
    (he2 : ∀ fI cda cc L, starEach [.Name x2 p6] (PySem.W.ksEnv r.qual r.scope L fI (.ref cda) cc) = (false, eval (.Name x2 p6) (PySem.W.ksEnv r.qual r.scope L fI (.ref cda) cc)) :: starEach [] (PySem.W.ksEnv r.qual r.scope L fI (.ref cda) cc))
    (hpl : ∀ fI cda cc L, (backTo p4 (starEach [.Name x2 p6] (PySem.W.ksEnv r.qual r.scope L fI (.ref cda) cc))).any (·.1) = false)
    (hev : ∀ fI cda cc L, eval (.Call (.Attribute (.Call (.Name "super" p0) [] [] p1) "__init__" p2) [.Name x p3, .Name x2 p6] [] p4) (PySem.W.ksEnv r.qual r.scope L fI (.ref cda) cc) = (do
      let ov ← attributeBase (.Call (.Name "super" p0) [] [] p1) "__init__" (PySem.W.ksEnv r.qual r.scope L fI (.ref cda) cc) (eval (.Call (.Name "super" p0) [] [] p1) (PySem.W.ksEnv r.qual r.scope L fI (.ref cda) cc))
      standAt p2.atName
      let (f, first) ← holding [ov] (getMethod ov "__init__" pl)
      callWith p4 f first (backTo p4 (starEach [.Name x p3, .Name x2 p6] (PySem.W.ksEnv r.qual r.scope L fI (.ref cda) cc))) []))
    (hia : ∀ fI cda cc L, interactive (PySem.W.ksEnv r.qual r.scope L fI (.ref cda) cc) = false)
    (hsw : ∀ fI cda cc L, swapsWith (.Call (.Attribute (.Call (.Name "super" p0) [] [] p1) "__init__" p2) [.Name x p3, .Name x2 p6] [] p4) none p5.line (PySem.W.ksEnv r.qual r.scope L fI (.ref cda) cc) = pure false)
    (hsw3 : ∀ fI cda cc L, swapsWith (.Name x2 r3) (some (.Attribute (.Name "self" r1) f2 r2)) r4.line (PySem.W.ksEnv r.qual r.scope L fI (.ref cda) cc) = pure false)
    (hsw2 : ∀ fI cda cc L, swapsWith (.Name x q3) (some (.Attribute (.Name "self" q1) f q2)) q4.line (PySem.W.ksEnv r.qual r.scope L fI (.ref cda) cc) = pure false)
    (hbind : ∀ doc pm an cdv ct cc, ∀ us : List Value, us.length = 3 → bindArgs (PySem.W.ksFn r.nm r.qual r.params r.body r.scope .none .none doc pm an cdv ct cc) ⟨us, []⟩ = pure ((["self", x, x2] : List Str).zip us)) : ClsOk P w K mg base r.row := by
  obtain ⟨cc, cda, doc, pm, an, ct, oc, od, osl, lk, cd, IH⟩ := initH_of hB hI S hf ht
  have F := init2 (base := base) (w := w) (mg := mg) (CX := CX P w) (pl := pl) hbody ⟨oc, od, osl, lk⟩ cd hp0 har IH (clsB_no hB f (by rw [hfds]; exact List.mem_cons_self)) (clsB_no hB f2 (by rw [hfds]; exact List.mem_cons_of_mem _ List.mem_cons_self)) hxs hxs2 hxx (he _ _ _) (he2 _ _ _) (hpl _ _ _) (hev _ _ _) (hia _ _ _) (hsw _ _ _) (hsw3 _ _ _) (hsw2 _ _ _)
  exact clsOk_of X G hB F (Binds.all fun us hl => hbind _ _ _ _ _ _ us hl) (.inr ⟨f, f2, hfds, hff, rfl⟩)
end
end MP

/-! MPMore: a call without arguments; min and max of a list of whole numbers. -/
namespace MP
open PySem PySem.Spec L2
open PyProof.Rows hiding St
theorem pe_callG0 {X : Cx} {k : Nat} {f : Addr} {fd : FuncData} {ps : List Str} {sp : Sp} {dvs : List V} {ds : List Value} {W : WX} {x : Str} {p pos : Pos} (F : FnG X.prog X.w X.K X.mg X.base k f fd ps sp) (room : RoomG k X.A) (hg : Gl X x) (hm : X.mg x = some (.ref f)) (hk : PySem.W.keepIn X.K (.ref f) = true)
    (hb : Binds X.K fd ps ds) (hd : Vals dvs ds) (tk : Takes X W) (hdb : (x == ("__debug__" : Str)) = false := by decide) : PE X (.Call (.Name x p) [] [] pos) (tCallG sp dvs W tNil) := by
  constructor
  intro pins s0 σ H Q I0 want
  refine wpAny_Call_Name_kw (ld_glob I0 hg hm ?_ hdb)
  refine PySem.W.callWith_K0 I0.kIn hk ?_
  have want : sp ([] ++ dvs) H Q fun cls d H' => W cls d σ H' := want
  have rel2 : Vals ([] ++ dvs) ([] ++ ds) := hd
  have cnt : ([] ++ ds).length = ps.length := rel2.length ▸ F.lens _ _ _ _ want
  refine wpAny_call (codeAny_mono (F.runs X.A X.stack s0 H ⟨[], []⟩ ([] ++ ds) ([] ++ dvs) Q _ room I0.env0 (hb s0 [] I0.kIn cnt) rel2 want) fun r s2 out => ?_)
  match r, out with
  | .error e, out => exact tk _ _ (XE.of_call I0 (fun _ _ _ z => z) out)
  | .ok (.ret u), out => exact I0.after out
  | .ok .next, out => exact out.elim
  | .ok .brk, out => exact out.elim
  | .ok .cont, out => exact out.elim
theorem rcall0 {X : Cx} {defs : List Def} {flds : List XRow} {wf m i kl : Nat} {x : Str} {p pos : Pos} (G : DefOk X.prog X.w X.K X.mg X.base defs flds wf x i 0 kl) (hr : RoomG kl X.A) (hg : Gl X x := by rfl) (hdb : (x == ("__debug__" : Str)) = false := by rfl) :
    PE X (.Call (.Name x p) [] [] pos) (tE X ⟨callN defs flds wf m, wf, flds⟩ (ZX X) (.call i [])) := by
  obtain ⟨f, fd, ps, F, hm, hk, hb⟩ := G.ex
  refine (pe_callG0 (F m) hr hg hm hk hb .nil (wxx_takes X) hdb).weak fun σ H Q h => ?_
  obtain ⟨H0, A0, At, n, ρ, fp, rl, h⟩ := h
  rw [evE, evAs] at h
  have h : Out (callN defs flds wf m i [] n) (fun d n' => ∀ v H' S, Post X At ρ fp (.call i []) H v d S H' n' → Q v H') (ZX X At H) := h
  refine ⟨[], [], At, n, rfl, .nil, rl.cell, (fun _ h => nomatch h), h.imp (fun d n' q v H' T r pr cl fr => ?_) fun e k z cls d H' ex p c => z At cls d H' .refl ex p c⟩
  exact q v H' T (.mk' r pr cl rfl (fun c hc => (fr c hc).imp id fun z => nomatch z) fun z => by cases z)
section
variable {X : Cx} {C : Cxt}
theorem depthAll_le {k : Nat} : ∀ {xs : List D}, (∀ d ∈ xs, d.depth ≤ k) → PyData.depthAll xs ≤ k
  | [], _ => by simp [PyData.depthAll]
  | x :: xs, h => by
    have h1 := h x List.mem_cons_self
    have h2 := depthAll_le (xs := xs) fun d hd => h d (List.mem_cons_of_mem _ hd)
    simp only [PyData.depthAll]
    omega
theorem fold_mem {f : D → D → D} (hf : ∀ a b, f a b = a ∨ f a b = b) : ∀ (xs : List D) (x : D), xs.foldl f x ∈ x :: xs
  | [], x => List.mem_cons_self
  | y :: ys, x => by
    rw [List.foldl_cons]
    rcases List.mem_cons.mp (fold_mem hf ys (f x y)) with z | z
    · rw [z]
      rcases hf x y with w | w <;> rw [w] <;> simp
    · exact List.mem_cons_of_mem _ (List.mem_cons_of_mem _ z)
theorem minD_mem (x : D) (xs : List D) : PySem.W.minD x xs ∈ x :: xs := fold_mem (fun a b => by by_cases h : PySem.W.dataLt b a = true <;> simp [h]) xs x
theorem maxD_mem (x : D) (xs : List D) : PySem.W.maxD x xs ∈ x :: xs := fold_mem (fun a b => by by_cases h : PySem.W.dataLt a b = true <;> simp [h]) xs x
theorem v_maxI {e : E} (hc : X.calm = true) (hu : X.A.units + 200 < cLine) : CallR X (.builtin "max") (rV1 X (b1S .max e)) := by
  intro pins s σ H xs us Q I r h
  obtain ⟨x, dx, d, S, rfl, rep, h, q⟩ := h
  obtain ⟨so, ys, e1, e2⟩ := b1S_some h
  cases rep with
  | @lst a vs ds T hr rr =>
    cases e1
    have e2 : leastE PySem.W.maxD List.max? ys = some d := e2
    unfold leastE at e2
    split at e2
    · rename_i bs e3
      obtain ⟨m, e5, e6⟩ := Option.map_eq_some_iff.mp e2
      cases e6
      have ev := nums_of rr e3
      subst ev
      obtain ⟨hm, hle⟩ := List.max?_eq_some_iff.mp e5
      refine cr_max hc pins s σ H _ us Q I r ⟨a, bs, rfl, .inl hr, by cases bs with | nil => cases e5 | cons _ _ => simp, fun m' hm' hle' => ?_⟩
      obtain rfl : m' = m := Int.le_antisymm (hle m' hm') (hle' m hm)
      exact q _ H [] same_refl (.int _) (fun _ h => nomatch h) fun z => by cases z
    · split at e2
      · rename_i x0 r0 _ _
        obtain ⟨g1, g2⟩ := lftIf_some e2
        rw [Bool.and_eq_true] at g1
        obtain ⟨al, nd⟩ := allAlike_all g1.2
        have tn : ∀ y ∈ x0 :: r0, ∃ z w, y = .tuple (z :: w) := fun y hy => by
          have z := List.all_eq_true.mp g1.1 y hy
          unfold tupNe at z
          split at z
          · exact ⟨_, _, rfl⟩
          · cases z
        have dm : d ∈ x0 :: r0 := by rw [← g2]; exact maxD_mem x0 r0
        obtain ⟨its, rv, hl, hz⟩ := I.list (.inl hr)
        rw [Vals.ref1 r]
        refine PySem.W.max_list_data (I.ok.hd hc) hl.isList (RepL.reads I rr rv) ⟨al, fun y hy z => by obtain ⟨_, _, w⟩ := tn y hy; rw [z] at w; cases w⟩ ?_ fun i v h' tk bs hv rd hk => ?_
        · have z := depthAll_le (k := 60) (xs := x0 :: r0) fun y hy => by
            have z := nd y hy
            simp only [dNoDict, Bool.and_eq_true, decide_eq_true_eq] at z
            exact z.2
          omega
        · have hv : its[i]? = some v := by simpa using hv
          have hi : i < its.length := lt_of_get hv
          obtain ⟨y, hy⟩ : ∃ y, vs[i]? = some y := ⟨vs[i]'(by rw [rv.length]; exact hi), by simp [rv.length, hi]⟩
          obtain ⟨u', hu', ru⟩ := rv.get hy
          rw [hv] at hu'; cases hu'
          obtain ⟨dy, T', e9, r1, sub⟩ := rr.getV hy
          have I1 : Inv X pins σ H { s with heap := h', toks := tk } := I.kept (t' := tk) hk
          have rd2 := Rep.reads I1 r1 ru
          have ed : dy = d := by
            rw [g2] at rd
            exact PySem.W.alike_unique dy d _ _ _ (al dy (List.mem_of_getElem? e9) d dm) rd2 rd
          subst ed
          refine ⟨y, H, I1, ru, q y H T' same_refl r1 (fun c hc => .inr (sub c hc)) fun ic => ?_⟩
          obtain ⟨_, _, w⟩ := tn dy dm
          rw [w] at ic; cases ic
      · cases e2
  | _ => cases so
theorem v_minI {e : E} (hc : X.calm = true) (hu : X.A.units + 200 < cLine) : CallR X (.builtin "min") (rV1 X (b1S .min e)) := by
  intro pins s σ H xs us Q I r h
  obtain ⟨x, dx, d, S, rfl, rep, h, q⟩ := h
  obtain ⟨so, ys, e1, e2⟩ := b1S_some h
  cases rep with
  | @lst a vs ds T hr rr =>
    cases e1
    have e2 : leastE PySem.W.minD List.min? ys = some d := e2
    unfold leastE at e2
    split at e2
    · rename_i bs e3
      obtain ⟨m, e5, e6⟩ := Option.map_eq_some_iff.mp e2
      cases e6
      have ev := nums_of rr e3
      subst ev
      obtain ⟨hm, hle⟩ := List.min?_eq_some_iff.mp e5
      refine cr_min hc pins s σ H _ us Q I r ⟨a, bs, rfl, .inl hr, by cases bs with | nil => cases e5 | cons _ _ => simp, fun m' hm' hle' => ?_⟩
      obtain rfl : m' = m := Int.le_antisymm (hle' m hm) (hle m' hm')
      exact q _ H [] same_refl (.int _) (fun _ h => nomatch h) fun z => by cases z
    · split at e2
      · rename_i x0 r0 _ _
        obtain ⟨g1, g2⟩ := lftIf_some e2
        rw [Bool.and_eq_true] at g1
        obtain ⟨al, nd⟩ := allAlike_all g1.2
        have tn : ∀ y ∈ x0 :: r0, ∃ z w, y = .tuple (z :: w) := fun y hy => by
          have z := List.all_eq_true.mp g1.1 y hy
          unfold tupNe at z
          split at z
          · exact ⟨_, _, rfl⟩
          · cases z
        have dm : d ∈ x0 :: r0 := by rw [← g2]; exact minD_mem x0 r0
        obtain ⟨its, rv, hl, hz⟩ := I.list (.inl hr)
        rw [Vals.ref1 r]
        refine PySem.W.min_list_data (I.ok.hd hc) hl.isList (RepL.reads I rr rv) ⟨al, fun y hy z => by obtain ⟨_, _, w⟩ := tn y hy; rw [z] at w; cases w⟩ ?_ fun i v h' tk bs hv rd hk => ?_
        · have z := depthAll_le (k := 60) (xs := x0 :: r0) fun y hy => by
            have z := nd y hy
            simp only [dNoDict, Bool.and_eq_true, decide_eq_true_eq] at z
            exact z.2
          omega
        · have hv : its[i]? = some v := by simpa using hv
          have hi : i < its.length := lt_of_get hv
          obtain ⟨y, hy⟩ : ∃ y, vs[i]? = some y := ⟨vs[i]'(by rw [rv.length]; exact hi), by simp [rv.length, hi]⟩
          obtain ⟨u', hu', ru⟩ := rv.get hy
          rw [hv] at hu'; cases hu'
          obtain ⟨dy, T', e9, r1, sub⟩ := rr.getV hy
          have I1 : Inv X pins σ H { s with heap := h', toks := tk } := I.kept (t' := tk) hk
          have rd2 := Rep.reads I1 r1 ru
          have ed : dy = d := by
            rw [g2] at rd
            exact PySem.W.alike_unique dy d _ _ _ (al dy (List.mem_of_getElem? e9) d dm) rd2 rd
          subst ed
          refine ⟨y, H, I1, ru, q y H T' same_refl r1 (fun c hc => .inr (sub c hc)) fun ic => ?_⟩
          obtain ⟨_, _, w⟩ := tn dy dm
          rw [w] at ic; cases ic
      · cases e2
  | _ => cases so
theorem rmaxL {xa : Expr} {e : E} {p pos : Pos} (hc : X.calm = true) (hu : X.A.units + 200 < cLine) (hv : bootBuiltins "max" = some (.builtin "max")) (he : PE X xa (tE X C (ZX X) e)) (hm : X.mg "max" = none) (hg : Gl X "max" := by rfl) (hs : starEach [xa] X.env = (false, eval xa X.env) :: starEach [] X.env := by rfl) (hpl : (backTo pos (starEach [] X.env)).any (·.1) = false := by rfl) :
    PE X (.Call (.Name "max" p) [xa] [] pos) (tE X C (ZX X) (.b1 .max (.of e))) := se_b1 (fun r t h ha => pe_callB h hg hm hv ha (he := hs) (hpl := hpl)) (v_maxI hc hu) he hs
theorem rminL {xa : Expr} {e : E} {p pos : Pos} (hc : X.calm = true) (hu : X.A.units + 200 < cLine) (hv : bootBuiltins "min" = some (.builtin "min")) (he : PE X xa (tE X C (ZX X) e)) (hm : X.mg "min" = none) (hg : Gl X "min" := by rfl) (hs : starEach [xa] X.env = (false, eval xa X.env) :: starEach [] X.env := by rfl) (hpl : (backTo pos (starEach [] X.env)).any (·.1) = false := by rfl) :
    PE X (.Call (.Name "min" p) [xa] [] pos) (tE X C (ZX X) (.b1 .min (.of e))) := se_b1 (fun r t h ha => pe_callB h hg hm hv ha (he := hs) (hpl := hpl)) (v_minI hc hu) he hs
theorem bt_max : bootBuiltins "max" = some (.builtin "max") := by kernel_rfl
theorem bt_min : bootBuiltins "min" = some (.builtin "min") := by kernel_rfl
end
end MP

/-! MPPar: a, b, c, .. = x, y, z, .. -/
namespace MP
open PySem PySem.Spec L2
open PyProof.Rows hiding St

/-- one after another evaluated: expression, value, data, parts -/
abbrev Itm := E × V × D × List Addr
inductive Seq (X : Cx) (At : Option Addr) (ρ : Ev) (fp : Nat → List Addr) : List Itm → Hp → Hp → Option Int → Prop
  | nil {H : Hp} {n : Option Int} : CellOk At n H → Seq X At ρ fp [] H H n
  | cons {e : E} {v : V} {d : D} {S : List Addr} {xs : List Itm} {H H1 H2 : Hp} {n1 n2 : Option Int} : Post X At ρ fp e H v d S H1 n1 → Seq X At ρ fp xs H1 H2 n2 → Seq X At ρ fp ((e, v, d, S) :: xs) H H2 n2
def tSq (X : Cx) (C : Cxt) (Z : ZT) (es : List E) : TA := fun σ H Q => ∃ H0 A0 At n ρ fp, Rl X H0 A0 At n ρ fp σ H ∧ Out (evEs C es ρ n) (fun ds n' => ∀ xs H', xs.map (·.1) = es → xs.map (·.2.2.1) = ds → Seq X At ρ fp xs H H' n' → Q (xs.map (·.2.1)) H') (Z At H)
section
variable {X : Cx} {C : Cxt} {Z : ZT}
theorem sq_nil : PA X [] (tSq X C Z []) := by
  refine pa_nil.weak fun σ H Q h => ?_
  obtain ⟨H0, A0, At, n, ρ, fp, rl, h⟩ := h
  rw [evEs, out_pure] at h
  exact h [] H rfl rfl (.nil rl.cell)
theorem sq_cons (zm : ZMono Z) {x : Expr} {xs : List Expr} {e : E} {es : List E} (hx : PE X x (tE X C Z e)) (hs : PA X xs (tSq X C Z es)) (hst : starEach (x :: xs) X.env = (false, eval x X.env) :: starEach xs X.env) : PA X (x :: xs) (tSq X C Z (e :: es)) := by
  refine (pa_cons hx hs hst).weak fun σ H Q h => ?_
  obtain ⟨H0, A0, At, n, ρ, fp, rl, h⟩ := h
  rw [evEs, out_bind] at h
  refine ⟨H0, A0, At, n, ρ, fp, rl, h.imp (fun d n1 h1 v H1 S p => ?_) fun _ _ z => z⟩
  rw [out_bind] at h1
  refine ⟨H0, A0, At, n1, ρ, fp, rl.next p.pres p.cell, h1.imp (fun ds n2 h2 ys H2 e1 e2 sq => ?_) fun e k z => zm _ _ _ _ _ p.pres z⟩
  rw [out_pure] at h2
  exact h2 ((e, v, d, S) :: ys) H2 (by rw [List.map_cons, e1]) (by rw [List.map_cons, e2]) (.cons p sq)
end
section
variable {X : Cx} {H0 H H1 H2 : Hp} {A0 : Addr → Prop} {At : Option Addr} {n n2 : Option Int} {ρ : Ev} {fp : Nat → List Addr} {σ : L2.St}
theorem Seq.pres {xs : List Itm} (s : Seq X At ρ fp xs H H2 n2) : Pres At H H2 := by
  induction s with
  | nil _ => exact .refl
  | cons p _ ih => exact p.pres.trans ih
theorem Seq.cell {xs : List Itm} (s : Seq X At ρ fp xs H H2 n2) : CellOk At n2 H2 := by
  induction s with
  | nil c => exact c
  | cons _ _ ih => exact ih
/-- what an item is, by the heap ahead of all and the heap behind all -/
structure ItOk (X : Cx) (At : Option Addr) (ρ : Ev) (fp : Nat → List Addr) (H H2 : Hp) (x : Itm) : Prop where
  rep : RepX X H2 x.2.1 x.2.2.1 x.2.2.2
  from_ : ∀ a ∈ x.2.2.2, H a = none ∨ Reach ρ fp x.1.esc x.1.al a
  new : x.1.fresh = true → isCont x.2.2.1 = true → ∃ c T, x.2.1 = .ref c ∧ x.2.2.2 = c :: T ∧ H c = none ∧ c ∉ T ∧ Wr (H2 c)
def Apart (x y : Itm) : Prop := ((x.1.fresh && isCont x.2.2.1) = true → ∀ c, x.2.2.2.head? = some c → c ∉ y.2.2.2) ∧ ((y.1.fresh && isCont y.2.2.1) = true → ∀ c, y.2.2.2.head? = some c → c ∉ x.2.2.2)
theorem ItOk.mono {x : Itm} (i : ItOk X At ρ fp H1 H2 x) (p : Pres At H H1) : ItOk X At ρ fp H H2 x := ⟨i.rep, fun a ha => (i.from_ a ha).imp (p.trk a) id, fun h1 h2 => by
  obtain ⟨c, T, e1, e2, e3, e4, e5⟩ := i.new h1 h2
  exact ⟨c, T, e1, e2, p.trk c e3, e4, e5⟩⟩
theorem seq_ok {xs : List Itm} (s : Seq X At ρ fp xs H H2 n2) : ∀ {n : Option Int} {σ : L2.St}, Rl X H0 A0 At n ρ fp σ H → (∀ x ∈ xs, ItOk X At ρ fp H H2 x) ∧ xs.Pairwise Apart := by
  induction s with
  | nil _ => exact fun _ => ⟨(fun _ h => nomatch h), .nil⟩
  | @cons e v d S xs H H1 H2 n1 n2 p sq ih =>
    intro n σ rl
    have rl1 := rl.next p.pres p.cell
    obtain ⟨h1, h2⟩ := ih rl1
    have av := rl.avoid p.from_
    refine ⟨fun x hx => ?_, List.pairwise_cons.mpr ⟨fun y hy => ?_, h2⟩⟩
    · rcases List.mem_cons.mp hx with rfl | hx
      · refine ⟨Rep.step p.rep p.cell sq.pres av, p.from_, fun h h' => ?_⟩
        obtain ⟨c, T, e1, e2, e3, e4, e5⟩ := p.new h h'
        exact ⟨c, T, e1, e2, e3, e4, e5.step sq.pres (av c (by rw [e2]; exact List.mem_cons_self))⟩
      · exact (h1 x hx).mono p.pres
    · have iy := h1 y hy
      refine ⟨fun hf c hc hm => ?_, fun hf c hc hm => ?_⟩
      · rw [Bool.and_eq_true] at hf
        obtain ⟨c', T, e1, e2, e3, e4, e5⟩ := p.new hf.1 hf.2
        have hc : S.head? = some c := hc
        rw [e2] at hc
        obtain rfl : c' = c := Option.some.inj hc
        rcases iy.from_ c' hm with z | ⟨j, s, d', ej, _, mj, _⟩
        · exact p.rep.tracked c' (by rw [e2]; exact List.mem_cons_self) z
        · exact fp_trk rl ej mj e3
      · rw [Bool.and_eq_true] at hf
        obtain ⟨c', T, e1, e2, e3, e4, e5⟩ := iy.new hf.1 hf.2
        rw [e2] at hc
        obtain rfl : c' = c := Option.some.inj hc
        exact p.rep.tracked c' hm e3
/-- an item that waits to be put into a slot -/
structure Pend (X : Cx) (H0 : Hp) (A0 : Addr → Prop) (At : Option Addr) (ρ : Ev) (fp : Nat → List Addr) (H : Hp) (x : Itm) : Prop where
  rep : RepX X H x.2.1 x.2.2.1 x.2.2.2
  nat : ∀ a ∈ x.2.2.2, At ≠ some a
  src : ∀ a ∈ x.2.2.2, H0 a = none ∨ A0 a
  sep : SepAll ρ fp x.2.2.2
  new : x.1.fresh = true → isCont x.2.2.1 = true → ∃ c T, x.2.1 = .ref c ∧ x.2.2.2 = c :: T ∧ c ∉ T ∧ H0 c = none ∧ Wr (H c) ∧ ∀ j sj, getS ρ j = some sj → c ∉ fp j
theorem Pend.put {x y : Itm} {i : Nat} (q : Pend X H0 A0 At ρ fp H y) (px : Pend X H0 A0 At ρ fp H x) (ap : Apart x y) : Pend X H0 A0 At (setS ρ i (slotOf false x.1.fresh x.2.2.1)) (fset fp i x.2.2.2) H y := by
  refine ⟨q.rep, q.nat, q.src, fun k sk ek => ?_, fun h h' => ?_⟩
  · rw [getS_set] at ek
    by_cases hk : k = i
    · subst hk
      rw [if_pos rfl] at ek
      rw [fset_same]
      split at ek
      · cases ek
        unfold slotOf
        by_cases hf : (x.1.fresh && isCont x.2.2.1) = true
        · rw [if_pos hf, if_neg (by simp)]
          exact fun c hc => ap.1 hf c hc
        · rw [if_neg hf]; trivial
      · cases ek
    · rw [if_neg hk] at ek
      rw [fset_ne hk]
      exact q.sep k sk ek
  · obtain ⟨c, T, e1, e2, e3, e4, e5, e6⟩ := q.new h h'
    refine ⟨c, T, e1, e2, e3, e4, e5, fun k sk ek => ?_⟩
    rw [getS_set] at ek
    by_cases hk : k = i
    · subst hk
      rw [fset_same]
      exact ap.2 (by rw [h, h']; rfl) c (by rw [e2]; rfl)
    · rw [if_neg hk] at ek
      rw [fset_ne hk]
      exact e6 k sk ek
def setV : L2.St → List Nat → List V → L2.St
  | σ, i :: is, v :: vs => setV (σ.set i (some v)) is vs
  | σ, _, _ => σ
theorem put_all : ∀ (xs : List Itm) (is : List Nat) {ρ ρ' : Ev} {fp : Nat → List Addr} {σ : L2.St}, Sl X H0 A0 At n ρ fp σ H → (∀ x ∈ xs, Pend X H0 A0 At ρ fp H x) → xs.Pairwise Apart →
    setAll false is (xs.map (·.1)) (xs.map (·.2.2.1)) ρ = some ρ' → ∃ fp', Sl X H0 A0 At n ρ' fp' (setV σ is (xs.map (·.2.1))) H
  | [], [], _, _, fp, _, s, _, _, e => by cases e; exact ⟨fp, s⟩
  | [], _ :: _, _, _, _, _, _, _, _, e => by cases e
  | _ :: _, [], _, _, _, _, _, _, _, e => by cases e
  | x :: xs, i :: is, ρ, ρ', fp, σ, s, hp, pw, e => by
    obtain ⟨ap, pw'⟩ := List.pairwise_cons.mp pw
    have px := hp x List.mem_cons_self
    have s1 := s.put (i := i) (fr := x.1.fresh) px.rep px.nat px.src px.sep px.new
    exact put_all xs is s1 (fun y hy => (hp y (List.mem_cons_of_mem _ hy)).put px (ap y hy)) pw' e
theorem esc_mem {es : List E} {e : E} (h : e ∈ es) : (∀ i ∈ e.esc, i ∈ escL es) ∧ ∀ i ∈ e.al, i ∈ alL es := by
  induction es with
  | nil => cases h
  | cons e' es ih =>
    rcases List.mem_cons.mp h with rfl | h
    · exact ⟨fun i hi => List.mem_append_left _ hi, fun i hi => List.mem_append_left _ hi⟩
    · exact ⟨fun i hi => List.mem_append_right _ ((ih h).1 i hi), fun i hi => List.mem_append_right _ ((ih h).2 i hi)⟩
/-- the names get what has been evaluated -/
theorem Sl.seq (s : Sl X H0 A0 At n ρ fp σ H) {xs : List Itm} {es : List E} (he : xs.map (·.1) = es) (sq : Seq X At ρ fp xs H H2 n2) {is : List Nat} {ρ' : Ev} (e : setAll false is es (xs.map (·.2.2.1)) (frzAll ρ (escL es) (alL es)) = some ρ') :
    ∃ fp', Sl X H0 A0 At n2 ρ' fp' (setV σ is (xs.map (·.2.1))) H2 := by
  obtain ⟨io, pw⟩ := seq_ok sq s.rl
  have sF := (s.next sq.pres sq.cell).frzS (frzAll_s ρ (escL es) (alL es))
  subst he
  refine put_all xs is sF (fun x hx => ?_) pw e
  have ix := io x hx
  obtain ⟨m1, m2⟩ := esc_mem (es := xs.map (·.1)) (List.mem_map_of_mem hx)
  have f : ∀ c ∈ x.2.2.2, H c = none ∨ Reach ρ fp (escL (xs.map (·.1))) (alL (xs.map (·.1))) c := fun c hc => (ix.from_ c hc).imp id fun z => z.mono m1 m2
  refine ⟨ix.rep, s.rl.avoid f, fun c hc => src_of (H1 := H) s.rl (f c hc), sep_frzAll s.rl f, fun h h' => ?_⟩
  obtain ⟨c, T, e1, e2, e3, e4, e5⟩ := ix.new h h'
  refine ⟨c, T, e1, e2, e4, s.rl.pres.trk c e3, e5, fun j sj ej m => ?_⟩
  obtain ⟨s0, e0, _⟩ := (frzAll_s ρ (escL (xs.map (·.1))) (alL (xs.map (·.1)))).get ej
  exact fp_trk s.rl e0 m e3
end
section
variable {X : Cx} {C : Cxt}
theorem vs3 {xs : List Itm} {a b c : E} (h : xs.map (·.1) = [a, b, c]) : ∃ u v w, xs.map (·.2.1) = [u, v, w] := by
  match xs, h with
  | [_, _, _], _ => exact ⟨_, _, _, rfl⟩
theorem rpar3 (i j l : Nat) {x y z : Str} {xa xb xc : Expr} {a b c : E} {px py pz pt pos : Pos} {kt k2 pt2} (hc : X.calm = true) (hN : X.N.Nodup) (ha : PE X xa (tE X C (ZX X) a)) (hb : PE X xb (tE X C (ZX X) b)) (hc' : PE X xc (tE X C (ZX X) c)) (hi : X.N[i]? = some x := by rfl) (hj : X.N[j]? = some y := by rfl) (hl : X.N[l]? = some z := by rfl)
    (hij : i ≠ j := by decide) (hil : i ≠ l := by decide) (hjl : j ≠ l := by decide) (hx : X.env.scope.names.lookup x = some .local := by rfl) (hy : X.env.scope.names.lookup y = some .local := by rfl) (hz : X.env.scope.names.lookup z = some .local := by rfl)
    (h1 : starEach [xa, xb, xc] X.env = (false, eval xa X.env) :: starEach [xb, xc] X.env := by rfl) (h2 : starEach [xb, xc] X.env = (false, eval xb X.env) :: starEach [xc] X.env := by rfl) (h3 : starEach [xc] X.env = (false, eval xc X.env) :: starEach [] X.env := by rfl)
    (hw : swappedStores [.Tuple [.Name x px, .Name y py, .Name z pz] kt pt] (.Tuple [xa, xb, xc] k2 pt2) X.env = pure (some [x, y, z]) := by rfl) (hs : swapsWithSole [.Tuple [.Name x px, .Name y py, .Name z pz] kt pt] (.Tuple [xa, xb, xc] k2 pt2) pos.line X.env = pure false := by rfl) :
    PS X (.Assign [.Tuple [.Name x px, .Name y py, .Name z pz] kt pt] (.Tuple [xa, xb, xc] k2 pt2) pos) (tS X C (.par [i, j, l] [a, b, c])) := by
  refine (ps_par3 hc hN hi hj hl hij hil hjl hx hy hz (sq_cons zx_mono ha (sq_cons zx_mono hb (sq_cons zx_mono hc' sq_nil h3) h2) h1) hw hs).weak fun D σ H h => ?_
  obtain ⟨H0, A0, At, n, ρ, fp, sl, h⟩ := h
  rw [evS, out_bind] at h
  refine ⟨H0, A0, At, n, ρ, fp, sl.rl, h.imp (fun ds n1 q xs H1 e1 e2 sq => ?_) fun _ _ z => zx_sl sl z⟩
  rw [out_bind, out_lft] at q
  obtain ⟨ρ', e, q⟩ := q
  rw [out_pure] at q
  subst e2
  obtain ⟨fp', s'⟩ := sl.seq e1 sq e
  obtain ⟨u, v, w, ev⟩ := vs3 e1
  refine ⟨u, v, w, ev, ?_⟩
  rw [ev] at s'
  exact q At fp' _ H1 s' .refl
theorem rsq {x : Expr} {xs : List Expr} {e : E} {es : List E} (hx : PE X x (tE X C (ZX X) e)) (hs : PA X xs (tSq X C (ZX X) es)) (hst : starEach (x :: xs) X.env = (false, eval x X.env) :: starEach xs X.env := by rfl) : PA X (x :: xs) (tSq X C (ZX X) (e :: es)) := sq_cons zx_mono hx hs hst
/-- the targets of a tuple without any swap: names -/
theorem pgs_setV {es : List Expr} {is : List Nat} (h : PGs X es (fun vs σ H Q => vs.length = is.length ∧ Q (setV σ is vs) H)) : PGs X es (fun vs σ H Q => vs.length = is.length ∧ Q (setV σ is vs) H) := h
theorem gn_nil : PGs X [] (fun vs σ H Q => vs.length = ([] : List Nat).length ∧ Q (setV σ [] vs) H) := ⟨fun pins s σ H vs us Q I r ⟨hl, h⟩ => by
  have e : vs = [] := List.length_eq_zero_iff.mp hl
  subst e
  exact pgs_nil.run pins s σ H [] us Q I r ⟨rfl, h⟩⟩
theorem gn_cons {e : Expr} {es : List Expr} {i : Nat} {is : List Nat} (h1 : PG X e (gName i)) (h2 : PGs X es (fun vs σ H Q => vs.length = is.length ∧ Q (setV σ is vs) H)) (hs : (assignEach (e :: es) X.env).map (·.2) = assign e X.env :: (assignEach es X.env).map (·.2) := by rfl) :
    PGs X (e :: es) (fun vs σ H Q => vs.length = (i :: is).length ∧ Q (setV σ (i :: is) vs) H) := ⟨fun pins s σ H vs us Q I r ⟨hl, h⟩ => by
  match vs, hl with
  | v :: vr, hl => exact (pgs_cons h1 h2 hs).run pins s σ H (v :: vr) us Q I r ⟨v, vr, rfl, Nat.succ.inj hl, h⟩⟩
/-- four and more names -/
theorem rparN {is : List Nat} {es : List E} {xs ts : List Expr} {pt pos : Pos} {kt k2 pt2} (hc : X.calm = true) (ha : PA X xs (tSq X C (ZX X) es)) (hg : PGs X ts (fun vs σ H Q => vs.length = is.length ∧ Q (setV σ is vs) H)) (hl : es.length = is.length := by rfl) (hsm : is.length ≤ 1000 := by decide)
    (hn : (assignEach ts X.env).length = is.length := by rfl) (hst : (assignEach ts X.env).findIdx? (·.1) = none := by rfl) (hs : swapsWithSole [.Tuple ts kt pt] (.Tuple xs k2 pt2) pos.line X.env = pure false := by rfl) (hw : swappedStores [.Tuple ts kt pt] (.Tuple xs k2 pt2) X.env = pure none := by rfl)
    (h1 : (assignEach [.Tuple ts kt pt] X.env).map (·.2) = [assign (.Tuple ts kt pt) X.env] := by rfl) : PS X (.Assign [.Tuple ts kt pt] (.Tuple xs k2 pt2) pos) (tS X C (.par is es)) := by
  refine (ps_asg (pe_tup ha) (pg_tup hc hg hn hst) hs hw h1).weak fun D σ H h => ?_
  obtain ⟨H0, A0, At, n, ρ, fp, sl, h⟩ := h
  rw [evS, out_bind] at h
  refine ⟨H0, A0, At, n, ρ, fp, sl.rl, h.imp (fun ds n1 q ys H1 e1 e2 sq => ?_) fun _ _ z => zx_sl sl z⟩
  rw [out_bind, out_lft] at q
  obtain ⟨ρ', e, q⟩ := q
  rw [out_pure] at q
  subst e2
  obtain ⟨fp', s'⟩ := sl.seq e1 sq e
  have hlen : (ys.map (·.2.1)).length = is.length := by
    have z := congrArg List.length e1
    rw [List.length_map] at z ⊢
    rw [z]; exact hl
  have small := small1000 (n := (ys.map (·.2.1)).length) (by rw [hlen]; exact hsm)
  refine ⟨Nat.le_of_lt small, fun a hq => ⟨a, ys.map (·.2.1), rfl, .inl (.inl upd_same), hlen, hlen, ?_⟩⟩
  have sm := same_new (o := .tup (ys.map (·.2.1))) hq
  exact q At fp' _ _ (s'.next (.same sm) (s'.rl.cell.same sm)) .refl
end
end MP

/-! MPRng: list(range(..)), tuple(range(..)). -/
namespace MP
open PySem PySem.Spec L2
open PyProof.Rows hiding St
section
variable {P : Program} {w : World} {K : PySem.W.Frag}
theorem rep_rng {H : Hp} (a b : Int) : RepL P w K H (rgV a b) (rngL a 1 (b - a).toNat) [] := by
  unfold rgV rngL
  have go : ∀ l : List Nat, RepL P w K H (l.map fun i => V.int (a + (i : Nat))) (l.map fun (i : Nat) => PyData.int (a + (i : Int) * 1)) [] := by
    intro l
    induction l with
    | nil => exact .nil
    | cons i l ih =>
      rw [List.map_cons, List.map_cons, Int.mul_one]
      exact .cons (S := []) (T := []) (.int _) ih
  exact go _
end
section
variable {X : Cx} {C : Cxt}
theorem ev_rng1 {b : B1} {a : E} {ρ : Ev} {n : Option Int} {P : D → Option Int → Prop} {Z : Exn → Option Int → Prop} (h : Out (evE C (.b1 b (.rng [a])) ρ n) P Z) : Out (evE C a ρ n) (fun x n1 => ∃ xs d, rngE [x] = some xs ∧ b1E b xs = some d ∧ P d n1) Z := by
  have e : evE C (.b1 b (.rng [a])) ρ = (evIt C (.rng [a]) ρ >>= fun xs => lft (b1E b xs)) := by rw [evE]; intro e z; cases z
  rw [e, out_bind, evIt, out_bind, evEs, out_bind] at h
  refine h.imp (fun x n1 h => ?_) fun _ _ z => z
  rw [out_bind, evEs, out_pure, out_pure, out_lft] at h
  obtain ⟨xs, e1, h⟩ := h
  rw [out_lft] at h
  obtain ⟨d, e2, h⟩ := h
  exact ⟨xs, d, e1, e2, h⟩
theorem rng1_some {x : D} {xs : List D} (h : rngE [x] = some xs) : ∃ hi, x = .int hi ∧ sm62 hi = true ∧ xs = rngL 0 1 hi.toNat := by
  cases x with
  | int hi =>
    obtain ⟨e1, e2⟩ := lftIf_some (show lftIf (sm62 hi) (rngL 0 1 hi.toNat) = some xs from h)
    exact ⟨hi, rfl, e1, e2.symm⟩
  | _ => cases h
theorem rlistR1 {xa : Expr} {a : E} {p p2 pos2 pos : Pos} (hc : X.calm = true) (hml : X.mg "list" = none) (hmr : X.mg "range" = none) (ha : PE X xa (tE X C (ZX X) a)) (hg : Gl X "list" := by rfl) (hgr : Gl X "range" := by rfl) (na1 : starEach [xa] X.env = (false, eval xa X.env) :: starEach [] X.env := by rfl)
    (na : starEach [.Call (.Name "range" p2) [xa] [] pos2] X.env = (false, eval (.Call (.Name "range" p2) [xa] [] pos2) X.env) :: starEach [] X.env := by rfl) : PE X (.Call (.Name "list" p) [.Call (.Name "range" p2) [xa] [] pos2] [] pos) (tE X C (ZX X) (.b1 .list (.rng [a]))) := by
  refine (pe_listRg hc hg hml (prg_1 hgr hmr ha na1) na).weak fun σ H Q h => ?_
  obtain ⟨H0, A0, At, n, ρ, fp, rl, h⟩ := h
  refine ⟨H0, A0, At, n, ρ, fp, rl, (ev_rng1 h).imp (fun x n1 h v H1 S p => ?_) fun _ _ z => z⟩
  obtain ⟨xs, d, e1, e2, h⟩ := h
  obtain ⟨hi, rfl, s1, rfl⟩ := rng1_some e1
  obtain ⟨f1, f2⟩ := lftIf_some (show lftIf (fits (rngL 0 1 hi.toNat).length) (.list (rngL 0 1 hi.toNat)) = some d from e2)
  subst f2
  have hv : v = .int hi := by cases p.rep; rfl
  subst hv
  have hl := fits_le f1
  rw [show (rngL 0 1 hi.toNat).length = hi.toNat by simp [rngL]] at hl
  unfold sm62 at s1
  have s1 := of_decide_eq_true s1
  refine ⟨hi, rfl, ⟨by omega, by omega, s1.1, s1.2, by rw [Int.sub_zero]; rw [sizeLine_eq] at hl; exact hl⟩, fun q hq => ?_⟩
  have sm := same_upd (o := .lst (rgV 0 hi)) hq
  have rr : RepLX X (upd H1 q (.lst (rgV 0 hi))) (rgV 0 hi) (rngL 0 1 hi.toNat) [] := by
    have z := rep_rng (P := X.prog) (w := X.w) (K := X.K) (H := upd H1 q (.lst (rgV 0 hi))) 0 hi
    rw [Int.sub_zero] at z
    exact z
  exact h _ _ [q] (.mk' (.lst (.inl (by rw [upd_same])) rr) (p.pres.trans (.same sm)) (p.cell.same sm) rfl (fun c hc => .inl (by rw [List.mem_singleton.mp hc]; exact p.pres.trk q hq)) fun _ _ => ⟨q, [], rfl, rfl, p.pres.trk q hq, (fun z => nomatch z), .inl ⟨_, by rw [upd_same]⟩⟩)
theorem rtupR1 {xa : Expr} {a : E} {p p2 pos2 pos : Pos} (hc : X.calm = true) (hml : X.mg "tuple" = none) (hmr : X.mg "range" = none) (ha : PE X xa (tE X C (ZX X) a)) (hg : Gl X "tuple" := by rfl) (hgr : Gl X "range" := by rfl) (na1 : starEach [xa] X.env = (false, eval xa X.env) :: starEach [] X.env := by rfl)
    (na : starEach [.Call (.Name "range" p2) [xa] [] pos2] X.env = (false, eval (.Call (.Name "range" p2) [xa] [] pos2) X.env) :: starEach [] X.env := by rfl) : PE X (.Call (.Name "tuple" p) [.Call (.Name "range" p2) [xa] [] pos2] [] pos) (tE X C (ZX X) (.b1 .tuple (.rng [a]))) := by
  refine (pe_tupRg hc hg hml (prg_1 hgr hmr ha na1) na).weak fun σ H Q h => ?_
  obtain ⟨H0, A0, At, n, ρ, fp, rl, h⟩ := h
  refine ⟨H0, A0, At, n, ρ, fp, rl, (ev_rng1 h).imp (fun x n1 h v H1 S p => ?_) fun _ _ z => z⟩
  obtain ⟨xs, d, e1, e2, h⟩ := h
  obtain ⟨hi, rfl, s1, rfl⟩ := rng1_some e1
  obtain ⟨f1, f2⟩ := lftIf_some (show lftIf (fits (rngL 0 1 hi.toNat).length) (.tuple (rngL 0 1 hi.toNat)) = some d from e2)
  subst f2
  have hv : v = .int hi := by cases p.rep; rfl
  subst hv
  have hl := fits_le f1
  rw [show (rngL 0 1 hi.toNat).length = hi.toNat by simp [rngL]] at hl
  unfold sm62 at s1
  have s1 := of_decide_eq_true s1
  refine ⟨hi, rfl, ⟨by omega, by omega, s1.1, s1.2, by rw [Int.sub_zero]; rw [sizeLine_eq] at hl; exact hl⟩, fun q hq => ?_⟩
  have sm := same_upd (o := .tup (rgV 0 hi)) hq
  have rr : RepLX X (upd H1 q (.tup (rgV 0 hi))) (rgV 0 hi) (rngL 0 1 hi.toNat) [] := by
    have z := rep_rng (P := X.prog) (w := X.w) (K := X.K) (H := upd H1 q (.tup (rgV 0 hi))) 0 hi
    rw [Int.sub_zero] at z
    exact z
  exact h _ _ [] (.mk' (.tup (.inl (.inl upd_same)) rr) (p.pres.trans (.same sm)) (p.cell.same sm) rfl (fun _ z => nomatch z) fun z => by cases z)
end
end MP

/-! MPGet1: d.get(k). -/
namespace MP
open PySem PySem.Spec L2
open PyProof.Rows hiding St
section
variable {X : Cx} {pins : List (Addr × Obj)} {σ : L2.St} {H : Hp} {s : Shared} {A : Around} {E : Value → Shared → Prop}
theorem dict_get1 (hu : A.units + 200 < cLine) (I : Inv X pins σ H s) {a : Addr} {kvs : List (D × D)} {k : D} {y : V} {u : Value} {S T : List Addr} (rep : RepX X H (.ref a) (.dict kvs) S) (ho : keyOk kvs k = true) (rk : RepX X H y k T) (ru : RelV y u) : ∃ (v : V) (U : List Addr), RepX X H v ((dGet kvs k).getD .none) U ∧ (∀ c ∈ U, c ∈ S.tail) ∧ ∀ Q : Value → Shared → Prop, (∀ w' s', Inv X pins σ H s' → RelV v w' → Q w' s') → wpAny (model X.prog X.w) A (call (.builtin "dict.get") [.ref a, u]) Q E s := by
  rcases keyFit_cases (keyOk_fit ho) with ⟨kk, hk⟩ | ⟨ht, hd⟩
  · obtain ⟨hs, es, vs, T', rfl, kv, dd, e, q, _⟩ := view_l I rep ho hk
    obtain ⟨l1, l2⟩ := lookL hk e q
    have run : ∀ Q : Value → Shared → Prop, (∀ s', Inv X pins σ H s' → Q ((valueAt vs kk).getD .none) s') → wpAny (model X.prog X.w) A (call (.builtin "dict.get") [.ref a, u]) Q E s := fun Q h =>
      call_meetsIn PySem.F.slot_dict_get dd.typeIs PySem.F.entry_dict_get (PySem.F.args_dict_get_2 _ _) (meets_dict_get (mixKind X.prog X.w) a (kV_is (key_rel hk rk ru)) hs) ⟨_, dd.mapOf, h _ (I.tok _)⟩
    cases g : dGet kvs k with
    | none =>
      have kvv := kv.val kk
      rw [l1 g] at kvv
      cases hv : valueAt vs kk with
      | some w => rw [hv] at kvv; exact (show False from kvv).elim
      | none =>
        rw [hv] at run
        exact ⟨.non, [], .non, (fun c hc => nomatch hc), fun Q h => run Q fun s' I' => h _ s' I' rfl⟩
    | some d =>
      obtain ⟨v, U, e1, rv, hU⟩ := l2 d g
      obtain ⟨w', hw, rw'⟩ := RelO.some_of (v := v) (o := valueAt vs kk) (by rw [← e1]; exact kv.val kk)
      rw [hw] at run
      exact ⟨v, U, rv, fun c hc => hU c hc, fun Q h => run Q fun s' I' => h _ s' I' rw'⟩
  · obtain ⟨hs, _, xs, vs, T', rfl, dd, e, hq, rv, q, _⟩ := view_t I rep ho ht
    obtain ⟨b, rfl, rfl, hb⟩ := key_heap I (keyOk_fit ho) ht rk ru
    obtain ⟨l1, l2⟩ := lookT (keyFit_hash (keyOk_fit ho)) e hq rv q
    have run : ∀ Q : Value → Shared → Prop, (∀ s', Inv X pins σ H s' → Q (((atKey xs (keyOf k)).map (·.2)).getD .none) s') → wpAny (model X.prog X.w) A (call (.builtin "dict.get") [.ref a, .ref b]) Q E s := fun Q h =>
      call_meetsIn PySem.F.slot_dict_get dd.typeIs PySem.F.entry_dict_get (PySem.F.args_dict_get_2 _ _) (meetsH_dict_get (nestedKind X.prog X.w) a b hs) ⟨(show A.units + 1 + 8 < cLine by omega), keyOf k, xs, hb, dd, h _ (I.tok _)⟩
    cases g : dGet kvs k with
    | none =>
      rw [l1 g] at run
      exact ⟨.non, [], .non, (fun c hc => nomatch hc), fun Q h => run Q fun s' I' => h _ s' I' rfl⟩
    | some d =>
      obtain ⟨p, v, U, e1, rv', rr', hU⟩ := l2 d g
      rw [e1] at run
      exact ⟨v, U, rr', fun c hc => hU c hc, fun Q h => run Q fun s' I' => h _ s' I' rv'⟩
end
section
variable {X : Cx} {C : Cxt}
theorem rget1 {o xk : Expr} {r a : E} {apos cpos : Pos} (hu : X.A.units + 200 < cLine) (ho : PE X o (tE X C (ZX X) r)) (hk : PE X xk (tE X C (ZX X) a)) (m : M1 X o "get" apos xk cpos := by exact ⟨rfl, rfl, rfl, rfl⟩) :
    PE X (.Call (.Attribute o "get" apos) [xk] [] cpos) (tE X C (ZX X) (.me1 .get r a)) := by
  refine ⟨fun pins s σ H Q I h => ?_⟩
  obtain ⟨H0, A0, At, n, ρ, fp, rl, h⟩ := h
  rw [evE, out_bind] at h
  refine wpAny_Call_method m.base m.few m.line PySem.F.plainAttrs_dict PySem.F.slot_dict_get PySem.F.type_dict_get (un1 ho I rl h fun u s1 x dx S H1 n1 I1 rx one q => ?_)
  rw [out_bind] at q
  replace q := out_noX q
  have hx : ∃ kvs, dx = .dict kvs := out_exists q fun dy n2 q => by
    rw [out_lft] at q
    obtain ⟨d, e, _⟩ := q
    cases dx with
    | dict kvs => exact ⟨kvs, rfl⟩
    | _ => cases e
  obtain ⟨kvs, rfl⟩ := hx
  obtain ⟨c, T, rfl, rfl⟩ : ∃ c T, x = .ref c ∧ S = c :: T := by
    have rep := one.p.rep
    generalize hdx : PyData.dict kvs = dx at rep
    cases rep <;> first | exact ⟨_, _, rfl, rfl⟩ | cases hdx
  obtain rfl : u = Value.ref c := rx
  obtain ⟨_, _, _, _, _, _, _, _, raw, _, _⟩ := one.p.rep.raw I1
  have ti := raw.typeIs
  obtain ⟨ob, hg, hx, hdt⟩ := raw
  refine ⟨ti, fun b eb => by cases eb; exact ⟨ob, hg, hx.2.1⟩, ?_⟩
  rw [m.trees]
  refine Calls.callWith_builtin rfl (Calls.evalArgs_plain (Calls.spliced_cons (un1 hk I1 one.rl (out_no q) fun u2 s2 y dy S2 H2 n2 I2 ry one2 q3 => Calls.spliced_nil ?_)))
  rw [out_lft] at q3
  obtain ⟨d, e, q3⟩ := q3
  obtain ⟨hk', e⟩ := lftIf_some e
  subst e
  have r1 := Rep.step one.p.rep one.p.cell one2.p.pres (rl.avoid one.p.from_)
  obtain ⟨v, U, rv, sub, run⟩ := dict_get1 (A := X.A) (E := X.xe) hu I2 r1 hk' one2.p.rep ry
  refine run _ fun w' s' I' rw' => ⟨v, H2, I', rw', q3 v H2 U (.mk' rv (one.p.pres.trans one2.p.pres) one2.p.cell rfl (fun a ha => ?_) fun z => by cases z)⟩
  exact (one.p.elem a (sub a ha)).imp id fun z => z
end
end MP

/-! PL: the evaluator in equations: straight code by simp, loops by invariants. -/
namespace MP
open PySem

section
variable {α β γ : Type}
@[simp] theorem pure_b (a : α) (f : α → M β) : ((pure a : M α) >>= f) = f a := rfl
@[simp] theorem fail_b (f : α → M β) : ((fail : M α) >>= f) = fail := rfl
@[simp] theorem assoc_b (m : M α) (f : α → M β) (g : β → M γ) : ((m >>= f) >>= g) = (m >>= fun a => f a >>= g) := by
  funext n
  show M.bind (M.bind m f) g n = M.bind m (fun a => M.bind (f a) g) n
  unfold M.bind
  cases m n <;> rfl
@[simp] theorem lft_s (a : α) : lft (some a) = (pure a : M α) := rfl
@[simp] theorem lft_n : lft (none : Option α) = (fail : M α) := rfl
def throwM (e : Exn) : M α := fun n => .exc e n
@[simp] theorem throw_b (e : Exn) (f : α → M β) : ((throwM e : M α) >>= f) = throwM e := rfl
@[simp] theorem ite_b (c : Prop) [Decidable c] (a b : M α) (f : α → M β) : ((if c then a else b) >>= f) = if c then a >>= f else b >>= f := by
  split <;> rfl
@[simp] theorem lft_ite (c : Prop) [Decidable c] (a b : Option α) : lft (if c then a else b) = (if c then lft a else lft b : M α) := by
  split <;> rfl

/-- ends with a value for which P holds, or with an error for which Q holds (a structure: it is never unfolded by chance) -/
structure Wq (Q : Exn → Option Int → Prop) (m : M α) (n : Option Int) (P : α → Option Int → Prop) : Prop where
  out : (∃ a n', m n = .ok a n' ∧ P a n') ∨ ∃ e n', m n = .exc e n' ∧ Q e n'
/-- no error -/
abbrev NoE : Exn → Option Int → Prop := fun _ _ => False
abbrev Wp (m : M α) (n : Option Int) (P : α → Option Int → Prop) : Prop := Wq NoE m n P
theorem Wq.ok {m : M α} {n : Option Int} {P : α → Option Int → Prop} (h : Wq NoE m n P) : ∃ a n', m n = .ok a n' ∧ P a n' := h.out.elim id fun ⟨_, _, _, z⟩ => z.elim
variable {Q : Exn → Option Int → Prop}
theorem wpp {a : α} {n : Option Int} {P : α → Option Int → Prop} (h : P a n) : Wq Q (pure a) n P := ⟨.inl ⟨a, n, rfl, h⟩⟩
theorem wp_pure {a : α} {n : Option Int} {P : α → Option Int → Prop} : Wq Q (pure a) n P ↔ P a n := by
  refine ⟨fun h => ?_, wpp⟩
  rcases h.out with ⟨b, k, e, h⟩ | ⟨_, _, e, _⟩
  · cases e
    exact h
  · cases e
theorem wp_bind {m : M α} {f : α → M β} {n : Option Int} {P : β → Option Int → Prop} : Wq Q (m >>= f) n P ↔ Wq Q m n fun a n' => Wq Q (f a) n' P := by
  have e : (m >>= f) n = M.bind m f n := rfl
  unfold M.bind at e
  constructor
  · intro h
    cases q : m n with
    | ok a n1 =>
      rw [q] at e
      have e : (m >>= f) n = f a n1 := e
      exact ⟨.inl ⟨a, n1, q, ⟨by rw [← e]; exact h.out⟩⟩⟩
    | exc x n1 =>
      rw [q] at e
      have e : (m >>= f) n = .exc x n1 := e
      rcases h.out with ⟨_, _, z, _⟩ | ⟨x', n', z, hq⟩
      · rw [e] at z; cases z
      · rw [e] at z; cases z; exact ⟨.inr ⟨_, _, q, hq⟩⟩
    | bad =>
      rw [q] at e
      have e : (m >>= f) n = .bad := e
      rcases h.out with ⟨_, _, z, _⟩ | ⟨_, _, z, _⟩ <;> (rw [e] at z; cases z)
  · intro h
    rcases h.out with ⟨a, n1, e1, h⟩ | ⟨x, n1, e1, h⟩
    · rw [e1] at e
      have e : (m >>= f) n = f a n1 := e
      exact ⟨by rw [e]; exact h.out⟩
    · rw [e1] at e
      have e : (m >>= f) n = .exc x n1 := e
      exact ⟨.inr ⟨x, n1, e, h⟩⟩
theorem Wq.imp {m : M α} {n : Option Int} {P P' : α → Option Int → Prop} (h : Wq Q m n P) (hi : ∀ a n, P a n → P' a n) : Wq Q m n P' := by
  rcases h.out with ⟨a, k, e, p⟩ | z
  · exact ⟨.inl ⟨a, k, e, hi _ _ p⟩⟩
  · exact ⟨.inr z⟩
theorem Wq.bind {m : M α} {f : α → M β} {n : Option Int} {P : β → Option Int → Prop} {P' : α → Option Int → Prop} (h : Wq Q m n P') (hi : ∀ a n, P' a n → Wq Q (f a) n P) : Wq Q (m >>= f) n P := wp_bind.mpr (h.imp hi)
theorem Wp.imp {m : M α} {n : Option Int} {P P' : α → Option Int → Prop} (h : Wp m n P) (hi : ∀ a n, P a n → P' a n) : Wp m n P' := Wq.imp h hi
theorem Wp.bind {m : M α} {f : α → M β} {n : Option Int} {P : β → Option Int → Prop} {P' : α → Option Int → Prop} (h : Wp m n P') (hi : ∀ a n, P' a n → Wp (f a) n P) : Wp (m >>= f) n P := Wq.bind h hi
/-- without an error it keeps any wish -/
theorem Wq.any {m : M α} {n : Option Int} {P : α → Option Int → Prop} (h : Wq NoE m n P) : Wq Q m n P := ⟨.inl h.ok⟩
theorem Wq.impQ {Q' : Exn → Option Int → Prop} {m : M α} {n : Option Int} {P : α → Option Int → Prop} (h : Wq Q m n P) (hi : ∀ e n, Q e n → Q' e n) : Wq Q' m n P := by
  rcases h.out with z | ⟨e, k, z, q⟩
  · exact ⟨.inl z⟩
  · exact ⟨.inr ⟨e, k, z, hi _ _ q⟩⟩
theorem w_noX {m : M α} {n : Option Int} {P : α → Option Int → Prop} (h : Wq NoE m n P) : Wq Q (noX m) n P := by
  obtain ⟨a, k, e, p⟩ := h.ok
  exact ⟨.inl ⟨a, k, by unfold noX; rw [e], p⟩⟩
theorem wp_eq {m : M α} {n n' : Option Int} {a : α} (h : Wq NoE m n fun b k => b = a ∧ k = n') : m n = .ok a n' := by
  obtain ⟨b, k, e, rfl, rfl⟩ := h.ok
  exact e
theorem eq_wp {m : M α} {n n' : Option Int} {a : α} (h : m n = .ok a n') {P : α → Option Int → Prop} (p : P a n') : Wq Q m n P := ⟨.inl ⟨a, n', h, p⟩⟩
/-- it ends with the error e -/
theorem wq_throw {e : Exn} {n : Option Int} {P : α → Option Int → Prop} (h : Q e n) : Wq Q (fun n => .exc e n : M α) n P := ⟨.inr ⟨e, n, rfl, h⟩⟩
/-- the same value whatever the counter -/
theorem pure_of {m : M α} {a : α} (h : ∀ n, Wp m n fun b k => b = a ∧ k = n) : m = pure a := funext fun n => wp_eq (h n)
end

/-! ### loops -/
section
variable {Q : Exn → Option Int → Prop}
/-- what a turn has to bring: I behind it, or P where it leaves -/
def Kp (I : Ev → Option Int → Prop) (P : Ev × Fl → Option Int → Prop) (r : Ev × Fl) (n : Option Int) : Prop := match r.2 with
  | .next => I r.1 n
  | .cont => I r.1 n
  | .brk => P (r.1, .next) n
  | .ret d => P (r.1, .ret d) n
@[simp] theorem kp_next {I P ρ n} : Kp I P (ρ, .next) n = I ρ n := rfl
@[simp] theorem kp_cont {I P ρ n} : Kp I P (ρ, .cont) n = I ρ n := rfl
@[simp] theorem kp_brk {I P ρ n} : Kp I P (ρ, .brk) n = P (ρ, .next) n := rfl
@[simp] theorem kp_ret {I P ρ n d} : Kp I P (ρ, .ret d) n = P (ρ, .ret d) n := rfl
theorem wp_forS {body : D → Ev → M (Ev × Fl)} {P : Ev × Fl → Option Int → Prop} (I : List D → Ev → Option Int → Prop)
    (hs : ∀ x xs ρ n, I (x :: xs) ρ n → Wq Q (body x ρ) n (Kp (I xs) P)) (he : ∀ ρ n, I [] ρ n → P (ρ, .next) n) : ∀ (xs : List D) (ρ : Ev) (n : Option Int), I xs ρ n → Wq Q (forS body xs ρ) n P
  | [], ρ, n, h => wpp (he ρ n h)
  | x :: xs, ρ, n, h => by
    unfold forS
    refine (hs x xs ρ n h).bind fun r n' q => ?_
    obtain ⟨ρ', f⟩ := r
    cases f with
    | next => exact wp_forS I hs he xs ρ' n' q
    | cont => exact wp_forS I hs he xs ρ' n' q
    | brk => exact wpp q
    | ret d => exact wpp q
/-- I k: at most k turns are left -/
theorem wp_whileN {test : Ev → M Bool} {body : Ev → M (Ev × Fl)} {P : Ev × Fl → Option Int → Prop} (I : Nat → Ev → Option Int → Prop)
    (hs : ∀ k ρ n, I k ρ n → Wq Q (test ρ) n fun b n' => if b then Wq Q (body ρ) n' (Kp (fun ρ' n'' => ∃ j, j < k ∧ I j ρ' n'') P) else P (ρ, .next) n') :
    ∀ (fu k : Nat) (ρ : Ev) (n : Option Int), k < fu → I k ρ n → Wq Q (whileN test body fu ρ) n P
  | 0, _, _, _, hk, _ => absurd hk (Nat.not_lt_zero _)
  | fu + 1, k, ρ, n, hk, h => by
    unfold whileN
    refine (hs k ρ n h).bind fun b n' q => ?_
    cases b with
    | false => exact wpp q
    | true =>
      simp only [if_true] at q ⊢
      refine q.bind fun r n'' z => ?_
      obtain ⟨ρ', f⟩ := r
      cases f with
      | next => obtain ⟨j, hj, z⟩ := z; exact wp_whileN I hs fu j ρ' n'' (by omega) z
      | cont => obtain ⟨j, hj, z⟩ := z; exact wp_whileN I hs fu j ρ' n'' (by omega) z
      | brk => exact wpp z
      | ret d => exact wpp z
theorem forM_map {α : Type} {body : D → M (Option D)} (enc : α → D) (g : α → Option D) (l : List α) (h : ∀ x ∈ l, body (enc x) = pure (g x)) : forM' body (l.map enc) = pure (l.filterMap g) := by
  induction l with
  | nil => rfl
  | cons x l ih =>
    rw [List.map_cons]
    unfold forM'
    rw [h x List.mem_cons_self, pure_b, ih fun y hy => h y (List.mem_cons_of_mem _ hy), pure_b]
    cases q : g x <;> simp [List.filterMap_cons, q]
theorem forM_pure {body : D → M (Option D)} (g : D → Option D) (l : List D) (h : ∀ x ∈ l, body x = pure (g x)) : forM' body l = pure (l.filterMap g) := by
  have := forM_map (body := body) (fun d => d) g l h
  rwa [List.map_id'] at this
/-- with the counter -/
theorem wp_forM {body : D → M (Option D)} {P : List D → Option Int → Prop} (I : List D → List D → Option Int → Prop)
    (hs : ∀ x xs ys n, I (x :: xs) ys n → Wq Q (body x) n fun o n' => I xs (ys ++ o.toList) n') (he : ∀ ys n, I [] ys n → P ys n) : ∀ (xs ys : List D) (n : Option Int), I xs ys n → Wq Q (forM' body xs) n fun zs n' => P (ys ++ zs) n'
  | [], ys, n, h => by
    unfold forM'
    rw [wp_pure, List.append_nil]
    exact he _ _ h
  | x :: xs, ys, n, h => by
    unfold forM'
    refine (hs x xs ys n h).bind fun o n' q => (wp_forM I hs he xs (ys ++ o.toList) n' q).bind fun zs n'' z => ?_
    rw [wp_pure]
    cases o with
    | none => simpa using z
    | some v => simpa using z
end
end MP

/-! PL2: the evaluator's equations for simp; dicts over encoded keys. -/
namespace MP
open PySem
theorem runDef_pure {C : Cxt} {d : Def} {args : List Slot} {x : D} (h : bodyDef C d args = pure x) : runDef C d args = pure x := by
  funext n
  unfold runDef
  rw [h]
  show (if (n.isSome == n.isSome) = true then Rs.ok x n else Rs.bad) = Rs.ok x n
  simp
theorem callN_at {defs : List Def} {flds wf k f args} {d : Def} (h : defs[f]? = some d) : callN defs flds wf (k + 1) f args = runDef ⟨callN defs flds wf k, wf, flds⟩ d args := by
  simp only [callN, h]
theorem call_pure {defs : List Def} {flds wf k f args} {x : D} (d : Def) (h : defs[f]? = some d) (hb : bodyDef ⟨callN defs flds wf k, wf, flds⟩ d args = pure x) : callN defs flds wf (k + 1) f args = pure x := (callN_at h).trans (runDef_pure hb)
theorem wq_runDef {C : Cxt} {d : Def} {args : List Slot} {n : Option Int} {P : D → Option Int → Prop} {Q : Exn → Option Int → Prop} (h : Wq (fun e n' => n'.isSome = n.isSome ∧ Q e n') (bodyDef C d args) n fun x n' => n'.isSome = n.isSome ∧ P x n') : Wq Q (runDef C d args) n P := by
  rcases h.out with ⟨x, n', e, h1, h2⟩ | ⟨x, n', e, h1, h2⟩
  · refine ⟨.inl ⟨x, n', ?_, h2⟩⟩
    unfold runDef
    rw [e]
    simp only [h1, beq_self_eq_true, if_true]
  · refine ⟨.inr ⟨x, n', ?_, h2⟩⟩
    unfold runDef
    rw [e]
    simp only [h1, beq_self_eq_true, if_true]
theorem wp_runDef {C : Cxt} {d : Def} {args : List Slot} {n : Option Int} {P : D → Option Int → Prop} (h : Wp (bodyDef C d args) n fun x n' => n'.isSome = n.isSome ∧ P x n') : Wp (runDef C d args) n P := wq_runDef (h.impQ fun _ _ z => z.elim)
theorem wp_call {defs : List Def} {flds wf k f args} (d : Def) {n : Option Int} {P : D → Option Int → Prop} (h : defs[f]? = some d) (hb : Wp (bodyDef ⟨callN defs flds wf k, wf, flds⟩ d args) n fun x n' => n'.isSome = n.isSome ∧ P x n') : Wp (callN defs flds wf (k + 1) f args) n P := by
  rw [callN_at h]; exact wp_runDef hb
theorem wq_call {defs : List Def} {flds wf k f args} (d : Def) {n : Option Int} {P : D → Option Int → Prop} {Q : Exn → Option Int → Prop} (h : defs[f]? = some d) (hb : Wq (fun e n' => n'.isSome = n.isSome ∧ Q e n') (bodyDef ⟨callN defs flds wf k, wf, flds⟩ d args) n fun x n' => n'.isSome = n.isSome ∧ P x n') : Wq Q (callN defs flds wf (k + 1) f args) n P := by
  rw [callN_at h]; exact wq_runDef hb
/-- what a body gives behind its flow -/
def outF : Ev × Fl → M D
  | (_, .ret x) => pure x
  | (_, .next) => pure .none
  | _ => fail
theorem bodyDef_eq (C : Cxt) (d : Def) (args : List Slot) : bodyDef C d args = (lft (d.start args) >>= fun ρ => evSs C d.body ρ >>= outF) := by
  unfold bodyDef
  congr
  funext ρ
  congr
  funext r
  obtain ⟨ρ', f⟩ := r
  cases f <;> rfl
@[simp] theorem outF_ret {ρ x} : outF (ρ, .ret x) = pure x := rfl
@[simp] theorem outF_next {ρ} : outF (ρ, .next) = pure .none := rfl
/-- what follows a statement -/
def thenS (C : Cxt) (ss : List S) : Ev × Fl → M (Ev × Fl)
  | (ρ, .next) => evSs C ss ρ
  | r => pure r
@[simp] theorem thenS_next {C ss ρ} : thenS C ss (ρ, .next) = evSs C ss ρ := rfl
@[simp] theorem thenS_ret {C ss ρ d} : thenS C ss (ρ, .ret d) = pure (ρ, .ret d) := rfl
@[simp] theorem thenS_brk {C ss ρ} : thenS C ss (ρ, .brk) = pure (ρ, .brk) := rfl
@[simp] theorem thenS_cont {C ss ρ} : thenS C ss (ρ, .cont) = pure (ρ, .cont) := rfl
theorem evSs_cons (C : Cxt) (s : S) (ss : List S) (ρ : Ev) : evSs C (s :: ss) ρ = (evS C s ρ >>= thenS C ss) := by
  rw [evSs]
  congr
  funext r
  obtain ⟨ρ', f⟩ := r
  cases f <;> rfl
@[simp] theorem evSs_nil (C : Cxt) (ρ : Ev) : evSs C [] ρ = pure (ρ, .next) := by rw [evSs]

/-! ### dicts over keys -/
structure Kd {α : Type} [DecidableEq α] (enc : α → D) (t : Bool) : Prop where
  eq : ∀ a b, PyData.eqv (enc a) (enc b) = decide (a = b)
  fit : ∀ a, keyFit (enc a) = true
  tup : ∀ a, isTup (enc a) = t
section
variable {α : Type} [DecidableEq α] {enc : α → D} {t : Bool} {β : Type}
def eD (enc : α → D) (v : β → D) (l : List (α × β)) : List (D × D) := l.map fun p => (enc p.1, v p.2)
theorem Kd.keyOk (K : Kd enc t) (v : β → D) (l : List (α × β)) (a : α) : keyOk (eD enc v l) (enc a) = true := by
  unfold MP.keyOk
  rw [K.fit]
  cases l with
  | nil => rfl
  | cons p l => simp [eD, K.tup]
theorem Kd.has (K : Kd enc t) (v : β → D) (l : List (α × β)) (a : α) : dHas (eD enc v l) (enc a) = decide (a ∈ l.map (·.1)) := by
  unfold dHas eD
  induction l with
  | nil => rfl
  | cons p l ih =>
    rw [List.map_cons, List.any_cons, ih, K.eq, List.map_cons]
    by_cases h : p.1 = a
    · subst h; simp
    · have h' : ¬ a = p.1 := fun z => h z.symm
      simp [h, h']
def look [BEq α] (l : List (α × β)) (a : α) : Option β := (l.find? fun p => p.1 == a).map (·.2)
theorem Kd.get (K : Kd enc t) (v : β → D) {i : BEq α} [LawfulBEq α] (l : List (α × β)) (a : α) : dGet (eD enc v l) (enc a) = (@List.lookup α β i a l).map v := by
  unfold dGet eD
  induction l with
  | nil => rfl
  | cons p l ih =>
    rw [List.map_cons, List.find?_cons, K.eq]
    obtain ⟨b, y⟩ := p
    by_cases h : b = a
    · subst h; simp [List.lookup]
    · have h' : ¬ a = b := fun z => h z.symm
      have hb : (a == b) = false := by simpa using h'
      simp only [h, decide_false]
      rw [ih]
      simp [List.lookup, hb]
/-- put: in its place, or at the end -/
def aput (l : List (α × β)) (a : α) (y : β) : List (α × β) := if a ∈ l.map (·.1) then l.map fun p => if p.1 = a then (p.1, y) else p else l ++ [(a, y)]
theorem Kd.set (K : Kd enc t) (v : β → D) (l : List (α × β)) (a : α) (y : β) : dSet (eD enc v l) (enc a) (v y) = eD enc v (aput l a y) := by
  unfold dSet aput
  rw [K.has]
  by_cases h : a ∈ l.map (·.1)
  · simp only [h, decide_true, if_true]
    unfold eD
    rw [List.map_map, List.map_map]
    refine List.map_congr_left fun p _ => ?_
    simp only [Function.comp, K.eq]
    by_cases q : p.1 = a <;> simp [q]
  · simp only [h, decide_false, if_false]
    simp [eD]
theorem Kd.set? (K : Kd enc t) (v : β → D) (l : List (α × β)) (a : α) (y : β) (hl : l.length < 1000000) : dSet? (eD enc v l) (enc a) (v y) = some (eD enc v (aput l a y)) := by
  unfold dSet? lftIf
  rw [K.keyOk, K.set]
  have : (eD enc v l).length < 1000000 := by simpa [eD] using hl
  simp [this]
end
theorem eqv_int (a b : Int) : PyData.eqv (.int a) (.int b) = decide (a = b) := rfl
theorem kd_int : Kd (fun i : Int => PyData.int i) false := ⟨eqv_int, fun a => rfl, fun a => rfl⟩
theorem kd_nat : Kd (fun i : Nat => PyData.int i) false := ⟨fun a b => by rw [eqv_int]; exact decide_eq_decide.mpr Int.ofNat_inj, fun a => rfl, fun a => rfl⟩
end MP

/-! PL3: the evaluator's rules, one a construct (Wp). -/
namespace MP
open PySem
section
variable {Q : Exn → Option Int → Prop}
variable {C : Cxt} {ρ : Ev} {n : Option Int} {P : D → Option Int → Prop}
theorem ite_t {b : Bool} {A B : Prop} (h : b = true) (a : A) : if b = true then A else B := by rw [if_pos h]; exact a
theorem ite_f {b : Bool} {A B : Prop} (h : b = false) (a : B) : if b = true then A else B := by rw [if_neg (by rw [h]; decide)]; exact a
theorem ite_c {b : Bool} {A B : Prop} (h1 : b = true → A) (h2 : b = false → B) : if b = true then A else B := by
  cases b
  · exact ite_f rfl (h2 rfl)
  · exact ite_t rfl (h1 rfl)
theorem ite_imp {b : Bool} {A B A' B' : Prop} (h1 : A → A') (h2 : B → B') (h : if b = true then A else B) : if b = true then A' else B' := by
  cases b
  · exact h2 h
  · exact h1 h
theorem ex_imp {α : Type} {p q r : α → Prop} (h : ∀ a, q a → r a) (e : ∃ a, p a ∧ q a) : ∃ a, p a ∧ r a := by
  obtain ⟨a, h1, h2⟩ := e; exact ⟨a, h1, h a h2⟩
theorem wp_lft {α : Type} {o : Option α} {P : α → Option Int → Prop} (h : ∃ z, o = some z ∧ P z n) : Wq Q (lft o) n P := by
  obtain ⟨z, rfl, q⟩ := h; exact wpp q
theorem wp_lftb {α β : Type} {o : Option α} {f : α → M β} {P : β → Option Int → Prop} (h : ∃ z, o = some z ∧ Wq Q (f z) n P) : Wq Q (lft o >>= f) n P := by
  obtain ⟨z, rfl, q⟩ := h; exact q
theorem wp_ite {α : Type} {b : Bool} {x y : M α} {P : α → Option Int → Prop} (h : if b = true then Wq Q x n P else Wq Q y n P) : Wq Q (if b = true then x else y) n P := by
  cases b <;> exact h
theorem pl_frz {ρ : Ev} {i j : Nat} {d : D} (h : getS (frz ρ j) i = some (.o d)) : getS ρ i = some (.o d) := by
  unfold frz at h
  split at h
  · unfold getS at h ⊢
    rw [List.getElem?_set] at h
    split at h
    · split at h <;> simp at h
    · exact h
  · unfold getS at h ⊢
    rw [List.getElem?_set] at h
    split at h
    · split at h <;> simp at h
    · exact h
  · exact h
theorem pl_frz2 {ρ : Ev} {i j : Nat} {d : D} (h : getS (frz2 ρ j) i = some (.o d)) : getS ρ i = some (.o d) := by
  unfold frz2 at h
  split at h
  · unfold getS at h ⊢
    rw [List.getElem?_set] at h
    split at h
    · split at h <;> simp at h
    · exact h
  · exact h
theorem pl_frzAll {is js : List Nat} {i : Nat} {d : D} : ∀ {ρ : Ev}, getS (frzAll ρ is js) i = some (.o d) → getS ρ i = some (.o d) := by
  have h1 : ∀ (l : List Nat) (ρ : Ev), getS (l.foldl frz ρ) i = some (.o d) → getS ρ i = some (.o d) := by
    intro l
    induction l with
    | nil => exact fun _ h => h
    | cons j l ih => exact fun ρ h => pl_frz (ih _ h)
  have h2 : ∀ (l : List Nat) (ρ : Ev), getS (l.foldl frz2 ρ) i = some (.o d) → getS ρ i = some (.o d) := by
    intro l
    induction l with
    | nil => exact fun _ h => h
    | cons j l ih => exact fun ρ h => pl_frz2 (ih _ h)
  exact fun {ρ} h => h1 _ _ (h2 _ _ h)
theorem pl_chg {ρ ρ' : Ev} {is js : List Nat} {i : Nat} {f : D → Option D} (h : chg (frzAll ρ is js) i f = some ρ') : ∃ d d', getS ρ i = some (.o d) ∧ f d = some d' := by
  unfold chg at h
  cases q : getS (frzAll ρ is js) i with
  | none => rw [q] at h; cases h
  | some s =>
    rw [q] at h
    cases s with
    | o d =>
      cases z : f d with
      | none => simp [z] at h
      | some d' => exact ⟨d, d', pl_frzAll q, z⟩
    | _ => cases h
/-! expressions -/
theorem w_cst {d : D} (h : P d n) : Wq Q (evE C (.cst d) ρ) n P := by rw [evE]; exact wpp h
theorem w_var {i : Nat} {d : D} (hd : getD ρ i = some d) (h : P d n) : Wq Q (evE C (.var i) ρ) n P := by rw [evE, hd]; exact wpp h
theorem w_bin {o : Op} {a b : E} (h : Wq Q (evE C a ρ) n fun x n1 => Wq Q (evE C b ρ) n1 fun y n2 => ∃ z, opE o x y = some z ∧ P z n2) : Wq Q (evE C (.bin o a b) ρ) n P := by
  rw [evE]
  exact h.bind fun x n1 h1 => h1.bind fun y n2 q => wp_lft q
theorem w_neg {a : E} (h : Wq Q (evE C a ρ) n fun x n1 => ∃ i, x = .int i ∧ P (.int (-i)) n1) : Wq Q (evE C (.neg a) ρ) n P := by
  rw [evE]
  exact h.bind fun x n1 ⟨i, e, q⟩ => by subst e; exact wpp q
theorem w_not {a : E} (h : Wq Q (evE C a ρ) n fun x n1 => P (.bool (!tru x)) n1) : Wq Q (evE C (.not a) ρ) n P := by
  rw [evE]
  exact h.bind fun x n1 q => (by first | exact q | exact wpp q)
theorem w_and {a b : E} (h : Wq Q (evE C a ρ) n fun x n1 => if tru x = true then Wq Q (evE C b ρ) n1 P else P x n1) : Wq Q (evE C (.and a b) ρ) n P := by
  rw [evE]
  exact h.bind fun x n1 q => wp_ite (ite_imp (fun z => z) wpp q)
theorem w_or {a b : E} (h : Wq Q (evE C a ρ) n fun x n1 => if tru x = true then P x n1 else Wq Q (evE C b ρ) n1 P) : Wq Q (evE C (.or a b) ρ) n P := by
  rw [evE]
  exact h.bind fun x n1 q => wp_ite (ite_imp wpp (fun z => z) q)
theorem w_cmp {o : Cp} {a b : E} (h : Wq Q (evE C a ρ) n fun x n1 => Wq Q (evE C b ρ) n1 fun y n2 => ∃ z, cpE o x y = some z ∧ P (.bool z) n2) : Wq Q (evE C (.cmp o a b) ρ) n P := by
  rw [evE]
  exact h.bind fun x n1 h1 => h1.bind fun y n2 q => wp_lftb (ex_imp (fun _ => wpp) q)
theorem w_cmp2 {o1 o2 : Cp} {a b c : E} (h : Wq Q (evE C a ρ) n fun x n1 => Wq Q (evE C b ρ) n1 fun y n2 => ∃ z, cpE o1 x y = some z ∧ if z = true then Wq Q (evE C c ρ) n2 fun w n3 => ∃ z, cpE o2 y w = some z ∧ P (.bool z) n3 else P (.bool false) n2) : Wq Q (evE C (.cmp2 o1 o2 a b c) ρ) n P := by
  rw [evE]
  refine h.bind fun x n1 h1 => h1.bind fun y n2 ⟨z, e, q⟩ => wp_lftb ⟨z, e, ?_⟩
  cases z with
  | false => exact wpp q
  | true =>
    have q : Wq Q (evE C c ρ) n2 fun w n3 => ∃ z, cpE o2 y w = some z ∧ P (.bool z) n3 := q
    exact q.bind fun w n3 q => wp_lftb (ex_imp (fun _ => wpp) q)
theorem w_ife {t a b : E} (h : Wq Q (evE C t ρ) n fun x n1 => if tru x = true then Wq Q (evE C a ρ) n1 P else Wq Q (evE C b ρ) n1 P) : Wq Q (evE C (.ife t a b) ρ) n P := by
  rw [evE]
  exact h.bind fun x n1 q => wp_ite q
theorem w_nil {P : List D → Option Int → Prop} (h : P [] n) : Wq Q (evEs C [] ρ) n P := by rw [evEs]; exact wpp h
theorem w_cons {P : List D → Option Int → Prop} {e : E} {es : List E} (h : Wq Q (evE C e ρ) n fun x n1 => Wq Q (evEs C es ρ) n1 fun xs n2 => P (x :: xs) n2) : Wq Q (evEs C (e :: es) ρ) n P := by
  rw [evEs]
  exact h.bind fun x n1 h1 => h1.bind fun y n2 q => (by first | exact q | exact wpp q)
theorem w_tup {es : List E} (h : Wq Q (evEs C es ρ) n fun xs n1 => P (.tuple xs) n1) : Wq Q (evE C (.tup es) ρ) n P := by
  rw [evE]; exact h.bind fun x n1 q => (by first | exact q | exact wpp q)
theorem w_lst {es : List E} (h : Wq Q (evEs C es ρ) n fun xs n1 => P (.list xs) n1) : Wq Q (evE C (.lst es) ρ) n P := by
  rw [evE]; exact h.bind fun x n1 q => (by first | exact q | exact wpp q)
def dctE (xs : List D) : Option D := do let ps ← pairUp xs; let r ← dPut [] ps; some (.dict r)
theorem w_dct {es : List E} (h : Wq NoE (evEs C es ρ) n fun xs n1 => ∃ z, dctE xs = some z ∧ P z n1) : Wq Q (evE C (.dct es) ρ) n P := by
  rw [evE]; exact (w_noX h).bind fun x n1 q => wp_lft q
theorem w_ix {a i : E} (h : Wq Q (evE C a ρ) n fun x n1 => Wq Q (evE C i ρ) n1 fun y n2 => ∃ z, ixE x y = some z ∧ P z n2) : Wq Q (evE C (.ix a i) ρ) n P := by
  rw [evE]
  exact h.bind fun x n1 h1 => h1.bind fun y n2 q => wp_lft q
theorem w_cget {i : Nat} {k : Int} (hs : getS ρ i = some .cell) (h : P (.int k) (some k)) : Wq Q (evE C (.cget i) ρ) (some k) P := by
  exact ⟨.inl ⟨.int k, some k, by simp only [evE, hs], h⟩⟩
theorem w_none {P : Option Int → Option Int → Prop} (h : P none n) : Wq Q (evO C none ρ) n P := by rw [evO]; exact wpp h
theorem w_some {P : Option Int → Option Int → Prop} {e : E} (h : Wq Q (evE C e ρ) n fun x n1 => ∃ i, x = .int i ∧ P (some i) n1) : Wq Q (evO C (some e) ρ) n P := by
  rw [evO]; exact h.bind fun x n1 ⟨i, e, q⟩ => by subst e; exact wpp q
theorem w_sl {a : E} {lo hi : Option E} (h : Wq Q (evE C a ρ) n fun x n1 => Wq Q (evO C lo ρ) n1 fun l n2 => Wq Q (evO C hi ρ) n2 fun u n3 => ∃ z, slE x l u = some z ∧ P z n3) : Wq Q (evE C (.sl a lo hi) ρ) n P := by
  rw [evE]
  exact h.bind fun x n1 h1 => h1.bind fun y n2 h2 => h2.bind fun z n3 q => wp_lft q
theorem w_rev {a : E} (h : Wq Q (evE C a ρ) n fun x n1 => ∃ z, revE x = some z ∧ P z n1) : Wq Q (evE C (.rev a) ρ) n P := by
  rw [evE]; exact h.bind fun x n1 q => wp_lft q
theorem w_call {f : Nat} {es : List E} (h : Wq Q (evAs C es ρ) n fun xs n1 => Wq Q (C.call f xs) n1 P) : Wq Q (evE C (.call f es) ρ) n P := by
  rw [evE]; exact h.bind fun x n1 q => (by first | exact q | exact wpp q)
theorem w_isi {e : E} {t : Ty} (h : Wq Q (evE C e ρ) n fun x n1 => P (.bool (isiE t x)) n1) : Wq Q (evE C (.isi e t) ρ) n P := by
  rw [evE]; exact h.bind fun x n1 q => (by first | exact q | exact wpp q)
theorem w_b0 {b : B0} {e : E} (h : Wq Q (evE C e ρ) n fun x n1 => ∃ z, b0E b x = some z ∧ P z n1) : Wq Q (evE C (.b0 b e) ρ) n P := by
  rw [evE]; exact h.bind fun x n1 q => wp_lft q
theorem w_mm2 {b : Bool} {a c : E} (h : Wq Q (evE C a ρ) n fun x n1 => Wq Q (evE C c ρ) n1 fun y n2 => ∃ z, mm2E b x y = some z ∧ P z n2) : Wq Q (evE C (.mm2 b a c) ρ) n P := by
  rw [evE]
  exact h.bind fun x n1 h1 => h1.bind fun y n2 q => wp_lft q
theorem w_me1 {m : Me1} {a c : E} (h : Wq Q (evE C a ρ) n fun x n1 => Wq NoE (evE C c ρ) n1 fun y n2 => ∃ z, me1E m x y = some z ∧ P z n2) : Wq Q (evE C (.me1 m a c) ρ) n P := by
  rw [evE]
  exact h.bind fun x n1 h1 => (w_noX h1).bind fun y n2 q => wp_lft q
def get2E : D → D → D → Option D
  | .dict kvs, y, z => lftIf (keyOk kvs y) ((dGet kvs y).getD z)
  | _, _, _ => none
theorem w_get2 {r a b : E} (h : Wq Q (evE C r ρ) n fun x n1 => Wq NoE (evE C a ρ) n1 fun y n2 => Wq NoE (evE C b ρ) n2 fun z n3 => ∃ u, get2E x y z = some u ∧ P u n3) : Wq Q (evE C (.get2 r a b) ρ) n P := by
  rw [evE]
  refine h.bind fun x n1 h1 => (w_noX (h1.imp fun y n2 h2 => (w_noX (Q := Q) h2))).bind fun y n2 h2 => h2.bind fun z n3 ⟨u, e, q⟩ => wp_lft ⟨u, ?_, q⟩
  cases x <;> exact e
theorem w_b1d {e : E} (h : Wq Q (evE C e ρ) n fun x n1 => ∃ z, b1S .dict e x = some z ∧ P z n1) : Wq Q (evE C (.b1 .dict (.of e)) ρ) n P := by
  rw [evE]
  exact h.bind fun x n1 q => wp_lft q
theorem w_b1 {b : B1} (hb : (match b with | .dict => false | _ => true) = true) {e : E} (h : Wq Q (evE C e ρ) n fun x n1 => ∃ z, b1S b e x = some z ∧ P z n1) : Wq Q (evE C (.b1 b (.of e)) ρ) n P := by
  have : evE C (.b1 b (.of e)) ρ = (evE C e ρ >>= fun x => lft (b1S b e x)) := by
    rw [evE]
  rw [this]
  exact h.bind fun x n1 q => wp_lft q
/-! arguments -/
theorem w_anil {P : List Slot → Option Int → Prop} (h : P [] n) : Wq Q (evAs C [] ρ) n P := by rw [evAs]; exact wpp h
theorem w_acell {P : List Slot → Option Int → Prop} {i : Nat} {es : List E} (hs : getS ρ i = some .cell) (h : Wq Q (evAs C es ρ) n fun xs n2 => P (.cell :: xs) n2) : Wq Q (evAs C (.cellv i :: es) ρ) n P := by
  rw [evAs, hs]
  exact h.bind fun x n1 q => (by first | exact q | exact wpp q)
def isCl : E → Bool
  | .cellv _ => true
  | _ => false
theorem w_acons {P : List Slot → Option Int → Prop} {e : E} {es : List E} (he : isCl e = false) (h : Wq Q (evE C e ρ) n fun x n1 => Wq Q (evAs C es ρ) n1 fun xs n2 => P (.p x :: xs) n2) : Wq Q (evAs C (e :: es) ρ) n P := by
  have : evAs C (e :: es) ρ = (evE C e ρ >>= fun x => evAs C es ρ >>= fun xs => pure (.p x :: xs)) := by
    rw [evAs]
    · simp
    · intro i q; subst q; cases he
  rw [this]
  exact h.bind fun x n1 h1 => h1.bind fun y n2 q => (by first | exact q | exact wpp q)
/-! what is walked -/
def itE (e : E) (x : D) : Option (List D) := if itOk e x then itemsE x else none
theorem w_of {P : List D → Option Int → Prop} {e : E} (h : Wq Q (evE C e ρ) n fun x n1 => ∃ z, itE e x = some z ∧ P z n1) : Wq Q (evIt C (.of e) ρ) n P := by
  rw [evIt]; exact h.bind fun x n1 q => wp_lft q
theorem w_rng {P : List D → Option Int → Prop} {es : List E} (h : Wq Q (evEs C es ρ) n fun x n1 => ∃ z, rngE x = some z ∧ P z n1) : Wq Q (evIt C (.rng es) ρ) n P := by
  rw [evIt]; exact h.bind fun x n1 q => wp_lft q
theorem w_enum {P : List D → Option Int → Prop} {e : E} (h : Wq Q (evE C e ρ) n fun x n1 => ∃ z, seqE x = some z ∧ P (enumL 0 z) n1) : Wq Q (evIt C (.enum e) ρ) n P := by
  rw [evIt]; exact h.bind fun x n1 q => wp_lftb (ex_imp (fun _ => wpp) q)
theorem w_zip {P : List D → Option Int → Prop} {a b : E} (h : Wq Q (evE C a ρ) n fun x n1 => Wq Q (evE C b ρ) n1 fun y n2 => ∃ z, seqE x = some z ∧ ∃ w, seqE y = some w ∧ P (zipL z w) n2) : Wq Q (evIt C (.zip a b) ρ) n P := by
  rw [evIt]; exact h.bind fun x n1 h1 => h1.bind fun y n2 ⟨z, e, w, e2, q⟩ => wp_lftb ⟨z, e, wp_lftb ⟨w, e2, wpp q⟩⟩
def itemsD : D → Option (List D)
  | .dict kvs => some (kvs.map fun kv => .tuple [kv.1, kv.2])
  | _ => none
def valsD : D → Option (List D)
  | .dict kvs => some (kvs.map (·.2))
  | _ => none
theorem w_items {P : List D → Option Int → Prop} {e : E} (h : Wq Q (evE C e ρ) n fun x n1 => itOk e x = true ∧ ∃ z, itemsD x = some z ∧ P z n1) : Wq Q (evIt C (.items e) ρ) n P := by
  rw [evIt]
  refine h.bind fun x n1 ⟨ok, z, e, q⟩ => wp_lft ⟨z, ?_, q⟩
  rw [if_pos ok]
  cases x <;> exact e
theorem w_vals {P : List D → Option Int → Prop} {e : E} (h : Wq Q (evE C e ρ) n fun x n1 => itOk e x = true ∧ ∃ z, valsD x = some z ∧ P z n1) : Wq Q (evIt C (.vals e) ρ) n P := by
  rw [evIt]
  refine h.bind fun x n1 ⟨ok, z, e, q⟩ => wp_lft ⟨z, ?_, q⟩
  rw [if_pos ok]
  cases x <;> exact e
theorem w_cnone {P : Bool → Option Int → Prop} (h : P true n) : Wq Q (evC C none ρ) n P := by rw [evC]; exact wpp h
theorem w_csome {P : Bool → Option Int → Prop} {e : E} (h : Wq Q (evE C e ρ) n fun x n1 => P (tru x) n1) : Wq Q (evC C (some e) ρ) n P := by
  rw [evC]; exact h.bind fun x n1 q => (by first | exact q | exact wpp q)
/-- one turn of a list comprehension -/
def lcB (C : Cxt) (elt : E) (tg : Tg) (cond : Option E) (own : List Nat) (ρ : Ev) (x : D) : M (Option D) := do
  let ρ' ← lft (bindT tg x (wipeE (frzE ρ) own))
  let b ← evC C cond ρ'
  if b then do let y ← evE C elt ρ'; pure (some y) else pure none
theorem w_lc {elt : E} {tg : Tg} {it : It} {cond : Option E} {own : List Nat} (h : Wq Q (evIt C it ρ) n fun xs n1 => fits xs.length = true ∧ Wq NoE (forM' (lcB C elt tg cond own ρ) xs) n1 fun ys n2 => P (.list ys) n2) : Wq Q (evE C (.lc elt tg it cond own) ρ) n P := by
  rw [evE]
  refine h.bind fun xs n1 ⟨f, q⟩ => wp_lftb ⟨xs, by unfold lftIf; rw [if_pos f], ?_⟩
  exact (w_noX q).bind fun ys n2 q => (by first | exact q | exact wpp q)
theorem w_lcB {elt : E} {tg : Tg} {cond : Option E} {own : List Nat} {x : D} {P : Option D → Option Int → Prop} {ρ' : Ev} (hb : bindT tg x (wipeE (frzE ρ) own) = some ρ')
    (h : Wq Q (evC C cond ρ') n fun b n1 => if b = true then Wq Q (evE C elt ρ') n1 fun y n2 => P (some y) n2 else P none n1) : Wq Q (lcB C elt tg cond own ρ x) n P := by
  unfold lcB
  refine wp_lftb ⟨_, hb, h.bind fun b n1 q => ?_⟩
  cases b with
  | false => exact wpp q
  | true => exact Wq.bind (show Wq _ _ _ _ from q) fun y n2 q => wpp q
/-- a list comprehension without a change: each turn gives g -/
theorem w_lcP {elt : E} {tg : Tg} {it : It} {cond : Option E} {own : List Nat} {xs : List D} (g : D → Option D) (hi : Wq Q (evIt C it ρ) n fun ys n1 => ys = xs ∧ n1 = n) (hf : fits xs.length = true)
    (hg : ∀ x ∈ xs, ∀ k, Wq NoE (lcB C elt tg cond own ρ x) k fun o k' => o = g x ∧ k' = k) (h : P (.list (xs.filterMap g)) n) : Wq Q (evE C (.lc elt tg it cond own) ρ) n P := by
  refine w_lc (hi.imp fun ys n1 ⟨e1, e2⟩ => ?_)
  subst e1 e2
  refine ⟨hf, ?_⟩
  rw [forM_pure g ys fun x hx => pure_of (hg x hx)]
  exact wpp h
/-- one turn of a dict comprehension -/
def dcT (C : Cxt) (k v : E) (tg : Tg) (cond : Option E) (own : List Nat) (ρ : Ev) (x : D) : M (Option D) := do
  let ρ' ← lft (bindT tg x (wipeE (frzE ρ) own))
  let b ← evC C cond ρ'
  if b then do let y ← evE C k ρ'; let z ← evE C v ρ'; pure (some (.tuple [y, z])) else pure none
def dcE (ys : List D) : Option D := do let ps ← asPairs ys; let r ← dPut [] ps; some (.dict r)
theorem w_dc {k v : E} {tg : Tg} {it : It} {cond : Option E} {own : List Nat} (h : Wq Q (evIt C it ρ) n fun xs n1 => fits xs.length = true ∧ Wq NoE (forM' (dcT C k v tg cond own ρ) xs) n1 fun ys n2 => ∃ z, dcE ys = some z ∧ P z n2) : Wq Q (evE C (.dc k v tg it cond own) ρ) n P := by
  rw [evE]
  refine h.bind fun xs n1 ⟨f, q⟩ => wp_lftb ⟨xs, by unfold lftIf; rw [if_pos f], ?_⟩
  exact (w_noX q).bind fun ys n2 q => wp_lft q
theorem w_dcT {k v : E} {tg : Tg} {cond : Option E} {own : List Nat} {x : D} {P : Option D → Option Int → Prop} {ρ' : Ev} (hb : bindT tg x (wipeE (frzE ρ) own) = some ρ')
    (h : Wq Q (evC C cond ρ') n fun b n1 => if b = true then Wq Q (evE C k ρ') n1 fun y n2 => Wq Q (evE C v ρ') n2 fun z n3 => P (some (.tuple [y, z])) n3 else P none n1) : Wq Q (dcT C k v tg cond own ρ x) n P := by
  unfold dcT
  refine wp_lftb ⟨_, hb, h.bind fun b n1 q => ?_⟩
  cases b with
  | false => exact wpp q
  | true => exact Wq.bind (show Wq _ _ _ _ from q) fun y n2 q => q.bind fun z n3 q => wpp q
theorem w_dcP {k v : E} {tg : Tg} {it : It} {cond : Option E} {own : List Nat} {xs : List D} (g : D → Option D) {z : D} (hi : Wq Q (evIt C it ρ) n fun ys n1 => ys = xs ∧ n1 = n) (hf : fits xs.length = true)
    (hg : ∀ x ∈ xs, ∀ k', Wq NoE (dcT C k v tg cond own ρ x) k' fun o k2 => o = g x ∧ k2 = k') (hz : dcE (xs.filterMap g) = some z) (h : P z n) : Wq Q (evE C (.dc k v tg it cond own) ρ) n P := by
  refine w_dc (hi.imp fun ys n1 ⟨e1, e2⟩ => ?_)
  subst e1 e2
  refine ⟨hf, ?_⟩
  rw [forM_pure g ys fun x hx => pure_of (hg x hx)]
  exact wpp ⟨z, hz, h⟩
end
/-! ### statements -/
section
variable {Q : Exn → Option Int → Prop}
variable {C : Cxt} {ρ : Ev} {n : Option Int} {P : Ev × Fl → Option Int → Prop}
theorem y_nil (h : P (ρ, .next) n) : Wq Q (evSs C [] ρ) n P := by rw [evSs]; exact wpp h
theorem y_cons {s : S} {ss : List S} (h : Wq Q (evS C s ρ) n fun r n1 => Wq Q (thenS C ss r) n1 P) : Wq Q (evSs C (s :: ss) ρ) n P := by
  rw [evSs_cons]; exact h.bind fun r n1 q => (by first | exact q | exact wpp q)
theorem y_next {ss : List S} (h : Wq Q (evSs C ss ρ) n P) : Wq Q (thenS C ss (ρ, .next)) n P := h
theorem y_ret' {ss : List S} {d : D} (h : P (ρ, .ret d) n) : Wq Q (thenS C ss (ρ, .ret d)) n P := wpp h
theorem y_brk' {ss : List S} (h : P (ρ, .brk) n) : Wq Q (thenS C ss (ρ, .brk)) n P := wpp h
theorem y_cont' {ss : List S} (h : P (ρ, .cont) n) : Wq Q (thenS C ss (ρ, .cont)) n P := wpp h
theorem y_pass (h : P (ρ, .next) n) : Wq Q (evS C .pass ρ) n P := by rw [evS]; exact wpp h
theorem y_ex {e : E} (h : Wq Q (evE C e ρ) n fun d n1 => P (frzAll ρ e.esc e.al, .next) n1) : Wq Q (evS C (.ex e) ρ) n P := by
  rw [evS]; exact h.bind fun r n1 q => (by first | exact q | exact wpp q)
theorem y_asg {dp : Bool} {i : Nat} {e : E} (h : Wq Q (evE C e ρ) n fun d n1 => P (setS (frzAll ρ e.esc e.al) i (slotOf dp e.fresh d), .next) n1) : Wq Q (evS C (.asg dp i e) ρ) n P := by
  rw [evS]; exact h.bind fun r n1 q => (by first | exact q | exact wpp q)
theorem nrm_c {ρ t t' : Ev} {s : Option Slot} (h : ρ = s :: t) (h2 : t = t') : ρ = s :: t' := by rw [h, h2]
theorem y_nextN {ss : List S} {ρ' : Ev} (hr : ρ = ρ') (h : Wq Q (evSs C ss ρ') n P) : Wq Q (thenS C ss (ρ, .next)) n P := by rw [hr]; exact h
theorem y_asgP {dp : Bool} {i : Nat} {e : E} (h : Wq Q (evE C e ρ) n fun d n1 => slotOf dp e.fresh d = .p d ∧ P (setS (frzAll ρ e.esc e.al) i (.p d), .next) n1) : Wq Q (evS C (.asg dp i e) ρ) n P := y_asg (h.imp fun d n1 ⟨e, q⟩ => by rw [e]; exact q)
theorem y_asgO {dp : Bool} {i : Nat} {e : E} (h : Wq Q (evE C e ρ) n fun d n1 => slotOf dp e.fresh d = .o d ∧ P (setS (frzAll ρ e.esc e.al) i (.o d), .next) n1) : Wq Q (evS C (.asg dp i e) ρ) n P := y_asg (h.imp fun d n1 ⟨e, q⟩ => by rw [e]; exact q)
theorem y_asgOO {dp : Bool} {i : Nat} {e : E} (h : Wq Q (evE C e ρ) n fun d n1 => slotOf dp e.fresh d = .oo d ∧ P (setS (frzAll ρ e.esc e.al) i (.oo d), .next) n1) : Wq Q (evS C (.asg dp i e) ρ) n P := y_asg (h.imp fun d n1 ⟨e, q⟩ => by rw [e]; exact q)
theorem asgP_nf {i : Nat} {e : E} (hf : e.fresh = false) (h : Wq Q (evE C e ρ) n fun d n1 => P (setS (frzAll ρ e.esc e.al) i (.p d), .next) n1) {dp : Bool} : Wq Q (evS C (.asg dp i e) ρ) n P := y_asg (h.imp fun d n1 q => by rw [hf]; exact q)
theorem asgO_f {i : Nat} {e : E} (hf : e.fresh = true) (h : Wq Q (evE C e ρ) n fun d n1 => isCont d = true ∧ P (setS (frzAll ρ e.esc e.al) i (.o d), .next) n1) : Wq Q (evS C (.asg false i e) ρ) n P := y_asg (h.imp fun d n1 ⟨ic, q⟩ => by rw [hf]; unfold slotOf; rw [ic]; exact q)
theorem asgOO_f {i : Nat} {e : E} (hf : e.fresh = true) (h : Wq Q (evE C e ρ) n fun d n1 => (isCont d && isEmp d) = true ∧ P (setS (frzAll ρ e.esc e.al) i (.oo d), .next) n1) : Wq Q (evS C (.asg true i e) ρ) n P := y_asg (h.imp fun d n1 ⟨c, q⟩ => by
  obtain ⟨ic, ie⟩ := Bool.and_eq_true_iff.mp c
  rw [hf]; unfold slotOf; rw [ic, ie]; exact q)
theorem y_asgT {t : Tg} {e : E} (h : Wq Q (evE C e ρ) n fun d n1 => ∃ ρ', bindT t d (frzAll ρ e.esc e.al) = some ρ' ∧ P (ρ', .next) n1) : Wq Q (evS C (.asgT t e) ρ) n P := by
  rw [evS]; exact h.bind fun r n1 q => wp_lftb (ex_imp (fun _ => wpp) q)
theorem y_par {is : List Nat} {es : List E} (h : Wq Q (evEs C es ρ) n fun ds n1 => ∃ ρ', setAll false is es ds (frzAll ρ (escL es) (alL es)) = some ρ' ∧ P (ρ', .next) n1) : Wq Q (evS C (.par is es) ρ) n P := by
  rw [evS]; exact h.bind fun r n1 q => wp_lftb (ex_imp (fun _ => wpp) q)
theorem y_setIx {i : Nat} {k e : E} (h : Wq NoE (evE C e ρ) n fun d n1 => Wq NoE (evE C k ρ) n1 fun y n2 => ∃ ρ', chg (frzAll ρ e.esc e.al) i (fun x => setIxE x y d) = some ρ' ∧ P (ρ', .next) n2) : Wq Q (evS C (.setIx i k e) ρ) n P := by
  have ow : ownO ρ i = some () := by
    obtain ⟨d, n1, _, h1⟩ := h.ok
    obtain ⟨y, n2, _, ρ', hc, _⟩ := h1.ok
    obtain ⟨d0, _, g, _⟩ := pl_chg hc
    unfold ownO; rw [g]
  rw [evS]
  refine wp_lftb ⟨(), ow, ?_⟩
  exact (Wq.any h).bind fun r n1 h1 => (Wq.any h1).bind fun y n2 q => wp_lftb (ex_imp (fun _ => wpp) q)
theorem y_augP {i : Nat} {o : Op} {e : E} {d : D} (hs : getS ρ i = some (.p d)) (h : Wq Q (evE C e ρ) n fun y n1 => ∃ z, augE o d y = some z ∧ P (setS ρ i (.p z), .next) n1) : Wq Q (evS C (.aug i o e) ρ) n P := by
  rw [evS, hs]; exact h.bind fun y n1 q => wp_lftb (ex_imp (fun _ => wpp) q)
theorem y_augL {i : Nat} {e : E} {d : D} (hs : getS ρ i = some (.o d)) (h : Wq Q (evE C e ρ) n fun y n1 => ∃ ρ', chg (frzAll ρ e.esc e.al) i (extE y) = some ρ' ∧ P (ρ', .next) n1) : Wq Q (evS C (.aug i .add e) ρ) n P := by
  rw [evS, hs]; exact h.bind fun y n1 q => wp_lftb (ex_imp (fun _ => wpp) q)
def augIxE (v : D) (o : Op) (d : D) : Option D := match v with
  | .list _ => none
  | _ => opE o v d
theorem y_augIx {i : Nat} {o : Op} {k e : E} {x : D} (hs : getD ρ i = some x) (h : Wq Q (evE C k ρ) n fun y n1 => ∃ v, ixE x y = some v ∧ Wq Q (evE C e ρ) n1 fun d n2 => ∃ z, augIxE v o d = some z ∧ ∃ ρ', chg ρ i (fun x => setIxE x y z) = some ρ' ∧ P (ρ', .next) n2) : Wq Q (evS C (.augIx i k o e) ρ) n P := by
  rw [evS, hs]
  refine h.bind fun y n1 ⟨v, e1, q⟩ => wp_lftb ⟨v, e1, q.bind fun d n2 ⟨z, e2, ρ', e3, q⟩ => wp_lftb ⟨z, ?_, wp_lftb ⟨ρ', e3, wpp q⟩⟩⟩
  cases v <;> exact e2
theorem y_app {i : Nat} {e : E} (h : Wq NoE (evE C e ρ) n fun d n1 => ∃ ρ', chg (frzAll ρ e.esc e.al) i (appE d) = some ρ' ∧ P (ρ', .next) n1) : Wq Q (evS C (.app i e) ρ) n P := by
  have ow : lstO ρ i = some () := by
    obtain ⟨d, n1, _, ρ', hc, _⟩ := h.ok
    obtain ⟨d0, d1, g, f⟩ := pl_chg hc
    unfold lstO; rw [g]
    cases d0 with
    | list xs => rfl
    | _ => cases f
  rw [evS]
  refine wp_lftb ⟨(), ow, ?_⟩
  exact (Wq.any h).bind fun r n1 q => wp_lftb (ex_imp (fun _ => wpp) q)
theorem y_pop {t : Tg} {i : Nat} {x : D} {r : D × D} {ρ1 ρ2 : Ev} (hs : getD ρ i = some x) (hp : popE x = some r) (hc : chg ρ i (fun _ => some r.2) = some ρ1) (hb : bindT t r.1 ρ1 = some ρ2) (h : P (ρ2, .next) n) : Wq Q (evS C (.pop t i) ρ) n P := by
  rw [evS, hs]
  exact wp_lftb ⟨_, rfl, wp_lftb ⟨_, hp, wp_lftb ⟨_, hc, wp_lftb ⟨_, hb, wpp h⟩⟩⟩⟩
theorem y_popK {i : Nat} {e : E} (h : Wq Q (evE C e ρ) n fun d n1 => ∃ ρ', chg ρ i (popKE d) = some ρ' ∧ P (ρ', .next) n1) : Wq Q (evS C (.popK i e) ρ) n P := by
  rw [evS]; exact h.bind fun r n1 q => wp_lftb (ex_imp (fun _ => wpp) q)
theorem y_remove {i : Nat} {e : E} (h : Wq Q (evE C e ρ) n fun d n1 => ∃ ρ', chg ρ i (removeE d) = some ρ' ∧ P (ρ', .next) n1) : Wq Q (evS C (.remove i e) ρ) n P := by
  rw [evS]; exact h.bind fun r n1 q => wp_lftb (ex_imp (fun _ => wpp) q)
theorem y_update {i : Nat} {e : E} (h : Wq Q (evE C e ρ) n fun d n1 => ∃ ρ', chg (frzAll ρ e.esc e.al) i (updE d) = some ρ' ∧ P (ρ', .next) n1) : Wq Q (evS C (.update i e) ρ) n P := by
  rw [evS]; exact h.bind fun r n1 q => wp_lftb (ex_imp (fun _ => wpp) q)
theorem y_setdApp {i : Nat} {k e : E} (h : Wq NoE (evE C k ρ) n fun y n1 => ∃ ρ1, chg2 ρ i (sdE y) = some ρ1 ∧ Wq NoE (evE C e ρ1) n1 fun d n2 => isHash d = true ∧ ∃ ρ', chg2 (frzAll ρ1 e.esc e.al) i (inE y (appE d)) = some ρ' ∧ P (ρ', .next) n2) : Wq Q (evS C (.setdApp i k e) ρ) n P := by
  rw [evS]
  exact (w_noX h).bind fun y n1 ⟨ρ1, e1, q⟩ => wp_lftb ⟨ρ1, e1, (w_noX q).bind fun d n2 ⟨hd, q⟩ => by rw [if_pos hd]; exact wp_lftb (ex_imp (fun _ => wpp) q)⟩
theorem y_appIx {i : Nat} {k e : E} (h : Wq Q (evE C k ρ) n fun y n1 => Wq Q (evE C e ρ) n1 fun d n2 => ∃ ρ', chg2 (frzAll ρ e.esc e.al) i (inE y (appE d)) = some ρ' ∧ P (ρ', .next) n2) : Wq Q (evS C (.appIx i k e) ρ) n P := by
  rw [evS]
  exact h.bind fun y n1 h1 => h1.bind fun d n2 q => wp_lftb (ex_imp (fun _ => wpp) q)
theorem y_mkCell {i : Nat} (h : P (setS ρ i .cell, .next) (some 0)) : Wq Q (evS C (.mkCell i) ρ) none P := by
  rw [evS]; exact ⟨.inl ⟨_, _, rfl, h⟩⟩
theorem y_cset {i : Nat} {e : E} (hs : getS ρ i = some .cell) (h : Wq Q (evE C e ρ) n fun d n1 => ∃ k, d = .int k ∧ n1.isSome = true ∧ P (ρ, .next) (some k)) : Wq Q (evS C (.cset i e) ρ) n P := by
  rw [evS]
  refine wp_lftb ⟨(), by unfold celO; rw [hs], ?_⟩
  refine h.bind fun d n1 ⟨k, e, z, q⟩ => ?_
  subst e
  cases n1 with
  | none => cases z
  | some j => exact ⟨.inl ⟨(ρ, .next), some k, by simp only [hs], q⟩⟩
theorem y_ife {t : E} {a b : List S} (h : Wq Q (evE C t ρ) n fun x n1 => if tru x = true then Wq Q (evSs C a ρ) n1 P else Wq Q (evSs C b ρ) n1 P) : Wq Q (evS C (.ife t a b) ρ) n P := by
  rw [evS]; exact h.bind fun x n1 q => wp_ite q
/-- raise, and a caught error -/
theorem y_raise {c : Nat} {es : List E} {r : XRow} (hr : C.flds[c]? = some r) (h : Wq Q (evEs C es ρ) n fun ds n1 => (r.fds.length = ds.length ∧ ds.all plainD = true) ∧ Q ⟨r.nm, r.ans, r.fds.zip ds⟩ n1) : Wq Q (evS C (.raise c es) ρ) n P := by
  rw [evS]
  refine wp_lftb ⟨r, hr, h.bind fun ds n1 ⟨z, q⟩ => ?_⟩
  exact ⟨.inr ⟨_, n1, if_pos z, q⟩⟩
theorem y_try {body : List S} {hs : List Hd} (hρ : ρ.all notErr = true) (h : Wq (fun e n1 => Wq Q (evHs C hs e ρ) n1 P) (evSs C body ρ) n P) : Wq Q (evS C (.tryE body hs) ρ) n P := by
  rw [evS]
  rcases h.out with ⟨r, n1, e, q⟩ | ⟨x, n1, e, q⟩
  · refine ⟨.inl ⟨r, n1, ?_, q⟩⟩
    rw [if_pos hρ, e]
  · refine ⟨?_⟩
    rw [if_pos hρ, e]
    exact q.out
theorem y_hnil {x : Exn} (h : Q x n) : Wq Q (evHs C [] x ρ) n P := by
  rw [evHs]; exact ⟨.inr ⟨_, _, rfl, h⟩⟩
theorem y_hd {x : Exn} {c : Str} {v : Nat} {body : List S} {hs : List Hd} {b : Bool} (hb : x.ans.lookup c = some b) (ht : b = true → Wq NoE (evSs C body (setS (List.replicate ρ.length none) v (.err x))) n fun r n1 => ∃ d, r.2 = .ret d ∧ P r n1) (hf : b = false → Wq Q (evHs C hs x ρ) n P) : Wq Q (evHs C (.mk c v body :: hs) x ρ) n P := by
  rw [evHs]
  refine wp_lftb ⟨b, hb, ?_⟩
  cases b with
  | false => exact hf rfl
  | true =>
    obtain ⟨⟨ρ1, f⟩, n1, e, d, hd, q⟩ := (ht rfl).ok
    have hd : f = .ret d := hd
    subst hd
    refine ⟨.inl ⟨(ρ1, .ret d), n1, ?_, q⟩⟩
    show onlyRet _ n = _
    unfold onlyRet
    rw [e]
theorem w_exa {i : Nat} {f : Str} {x : Exn} {d : D} {P : D → Option Int → Prop} (hs : getS ρ i = some (.err x)) (hd : x.flds.lookup f = some d) (h : P d n) : Wq Q (evE C (.exa i f) ρ) n P := by
  rw [evE, hs]
  exact wp_lft ⟨d, hd, h⟩
theorem w_exi {i : Nat} {c : Str} {x : Exn} {b : Bool} {P : D → Option Int → Prop} (hs : getS ρ i = some (.err x)) (hd : x.ans.lookup c = some b) (h : P (.bool b) n) : Wq Q (evE C (.exi i c) ρ) n P := by
  rw [evE, hs]
  exact wp_lft ⟨.bool b, by show (x.ans.lookup c).map _ = _; rw [hd]; rfl, h⟩
def forB (C : Cxt) (t : Tg) (body : List S) (x : D) (ρ : Ev) : M (Ev × Fl) := do let ρ' ← lft (bindT t x ρ); evSs C body ρ'
theorem y_for {t : Tg} {it : It} {body : List S} (h : Wq Q (evIt C it ρ) n fun xs n1 => Wq Q (forS (forB C t body) xs (frzAll ρ it.escF it.al)) n1 P) : Wq Q (evS C (.for t it body) ρ) n P := by
  rw [evS]; exact h.bind fun x n1 q => (by first | exact q | exact wpp q)
theorem y_forB {t : Tg} {body : List S} {x : D} (h : ∃ ρ', bindT t x ρ = some ρ' ∧ Wq Q (evSs C body ρ') n P) : Wq Q (forB C t body x ρ) n P := wp_lftb h
theorem y_while {t : E} {body : List S} (I : Nat → Ev → Option Int → Prop) (k : Nat) (hk : k < C.wf) (h0 : I k ρ n)
    (hs : ∀ k ρ n, I k ρ n → Wq Q (evE C t ρ) n fun x n1 => if tru x = true then Wq Q (evSs C body ρ) n1 (Kp (fun ρ' n' => ∃ j, j < k ∧ I j ρ' n') P) else P (ρ, .next) n1) : Wq Q (evS C (.while t body) ρ) n P := by
  rw [evS]
  refine wp_whileN I (fun k ρ n i => ?_) C.wf k ρ n hk h0
  exact (hs k ρ n i).bind fun x n1 q => (by first | exact q | exact wpp q)
theorem y_ret {e : E} (h : Wq Q (evE C e ρ) n fun d n1 => P (ρ, .ret d) n1) : Wq Q (evS C (.ret e) ρ) n P := by
  rw [evS]; exact h.bind fun r n1 q => (by first | exact q | exact wpp q)
theorem y_retN (h : P (ρ, .ret .none) n) : Wq Q (evS C .retN ρ) n P := by rw [evS]; exact wpp h
theorem y_brk (h : P (ρ, .brk) n) : Wq Q (evS C .brk ρ) n P := by rw [evS]; exact wpp h
theorem y_cont (h : P (ρ, .cont) n) : Wq Q (evS C .cont ρ) n P := by rw [evS]; exact wpp h
theorem k_ret {I : Ev → Option Int → Prop} {d : D} (h : P (ρ, .ret d) n) : Kp I P (ρ, .ret d) n := h
theorem k_brk {I : Ev → Option Int → Prop} (h : P (ρ, .next) n) : Kp I P (ρ, .brk) n := h
theorem k_next {I : Ev → Option Int → Prop} (h : I ρ n) : Kp I P (ρ, .next) n := h
theorem k_cont {I : Ev → Option Int → Prop} (h : I ρ n) : Kp I P (ρ, .cont) n := h
theorem y_body {d : Def} {args : List Slot} {P : D → Option Int → Prop} {ρ0 : Ev} (hs : d.start args = some ρ0) (h : Wq Q (evSs C d.body ρ0) n fun r n1 => Wq Q (outF r) n1 P) : Wq Q (bodyDef C d args) n P := by
  rw [bodyDef_eq, hs]
  exact h.bind fun r n1 q => (by first | exact q | exact wpp q)
end
theorem w_outR {ρ : Ev} {d : D} {n : Option Int} {P : D → Option Int → Prop} (h : P d n) : Wq Q (outF (ρ, .ret d)) n P := wpp h
theorem w_outN {ρ : Ev} {n : Option Int} {P : D → Option Int → Prop} (h : P .none n) : Wq Q (outF (ρ, .next)) n P := wpp h
theorem chg_eq {ρ : Ev} {i : Nat} {f : D → Option D} {d d' : D} (h1 : getS ρ i = some (.o d)) (h2 : f d = some d') : chg ρ i f = some (setS ρ i (.o d')) := by
  unfold chg
  rw [h1]
  show (f d >>= fun z => some (setS ρ i (.o z))) = _
  rw [h2]; rfl
theorem chg2_eq {ρ : Ev} {i : Nat} {f : D → Option D} {d d' : D} (h1 : getS ρ i = some (.oo d)) (h2 : f d = some d') : chg2 ρ i f = some (setS ρ i (.oo d')) := by
  unfold chg2
  rw [h1]
  show (f d >>= fun z => some (setS ρ i (.oo z))) = _
  rw [h2]; rfl
theorem fits_of {n : Nat} (h : n ≤ 16777216) : fits n = true := decide_eq_true h
theorem app_eq {x : D} {xs : List D} (h : xs.length + 1 ≤ 16777216) : appE x (.list xs) = some (.list (xs ++ [x])) := by
  show lftIf (fits (xs.length + 1)) _ = _
  rw [fits_of h]; rfl
theorem ext_eq {ys xs : List D} (h : xs.length + ys.length ≤ 16777216) : extE (.list ys) (.list xs) = some (.list (xs ++ ys)) := by
  show lftIf (fits (xs.length + ys.length)) _ = _
  rw [fits_of h]; rfl
theorem asB_map {α : Type} (l : List α) (f : α → Bool) : asBools (l.map fun a => PyData.bool (f a)) = some (l.map f) := by
  induction l with
  | nil => rfl
  | cons a l ih =>
    rw [List.map_cons]
    show (do let r ← asBools (l.map fun a => PyData.bool (f a)); some (f a :: r)) = _
    rw [ih]; rfl
theorem asP_map {α : Type} (l : List α) (f g : α → D) : asPairs (l.map fun a => PyData.tuple [f a, g a]) = some (l.map fun a => (f a, g a)) := by
  induction l with
  | nil => rfl
  | cons a l ih =>
    rw [List.map_cons]
    show (do let r ← asPairs (l.map fun a => PyData.tuple [f a, g a]); some ((f a, g a) :: r)) = _
    rw [ih]; rfl
/-- putting keys that are unlike -/
theorem dPut_nodup {α : Type} [DecidableEq α] {enc : α → D} {t : Bool} (K : Kd enc t) {β : Type} (v : β → D) : ∀ (l acc : List (α × β)), (acc.map (·.1) ++ l.map (·.1)).Nodup → acc.length + l.length < 1000000 → dPut (eD enc v acc) (eD enc v l) = some (eD enc v (acc ++ l))
  | [], acc, _, _ => by rw [List.append_nil]; rfl
  | (a, y) :: l, acc, nd, hl => by
    show (do dPut (← dSet? (eD enc v acc) (enc a) (v y)) (eD enc v l)) = _
    simp only [List.length_cons] at hl
    rw [K.set? v acc a y (by omega)]
    have hn : a ∉ acc.map (·.1) := fun h => by
      rw [List.map_cons, List.nodup_append] at nd
      exact nd.2.2 a h a List.mem_cons_self rfl
    have ha : aput acc a y = acc ++ [(a, y)] := by unfold aput; rw [if_neg hn]
    show dPut (eD enc v (aput acc a y)) (eD enc v l) = _
    rw [ha, dPut_nodup K v l (acc ++ [(a, y)]) (by simpa using nd) (by simp; omega)]
    simp
/-- a dict comprehension over unlike keys -/
theorem dcE_nodup {α γ : Type} [DecidableEq α] {enc : α → D} {t : Bool} (K : Kd enc t) {β : Type} (v : β → D) (l : List γ) (k : γ → α) (y : γ → β) (nd : (l.map k).Nodup) (hl : l.length < 1000000) : dcE (l.map fun c => PyData.tuple [enc (k c), v (y c)]) = some (.dict (eD enc v (l.map fun c => (k c, y c)))) := by
  unfold dcE
  rw [asP_map]
  have e : (l.map fun c => (enc (k c), v (y c))) = eD enc v (l.map fun c => (k c, y c)) := by simp [eD]
  have q := dPut_nodup K v (l.map fun c => (k c, y c)) [] (by simpa [List.map_map, Function.comp_def] using nd) (by simpa using hl)
  rw [List.nil_append] at q
  show (do let r ← dPut [] (l.map fun c => (enc (k c), v (y c))); some (PyData.dict r)) = _
  rw [e]
  show (do let r ← dPut (eD enc v []) _; some (PyData.dict r)) = _
  rw [q]; rfl
theorem fm_map {α β γ : Type} (l : List α) (f : α → β) (g : β → Option γ) (h : α → γ) (e : ∀ a ∈ l, g (f a) = some (h a)) : (l.map f).filterMap g = l.map h := by
  induction l with
  | nil => rfl
  | cons a l ih => rw [List.map_cons, List.filterMap_cons, e a List.mem_cons_self, List.map_cons, ih fun b hb => e b (List.mem_cons_of_mem _ hb)]
end MP

/-! PLS: sorted in the plain law: a list that is put in order strictly is what sorted gives. -/
namespace MP
open PySem
theorem sortedE_eq (e : E) {xs ys : List D} (hp : xs.Perm ys) (hs : ys.Pairwise fun a b => W.dataLt a b = true) (hok : sortOk xs = true) (hf : xs.length ≤ 16777216) : b1S .sorted e (.list xs) = some (.list ys) := by
  show lftIf (sortOk xs && fits xs.length) (PyData.list (xs.mergeSort (W.dataLe false fun d => d))) = _
  rw [hok, fits_of hf, sort_eq hp hs]; rfl
end MP

/-! PLW: the evaluator's rules as instances: one step of a walk is found by its goal's head. -/
namespace MP
open PySem
class WR (G : Prop) (S : outParam Prop) : Prop where
  out : S → G
theorem wr {G S : Prop} [i : WR G S] (h : S) : G := i.out h
section
variable {Q : Exn → Option Int → Prop}
variable {C : Cxt} {ρ : Ev} {n : Option Int} {P : D → Option Int → Prop}
instance {d : D} : WR (Wq Q (evE C (.cst d) ρ) n P) (P d n) := ⟨w_cst⟩
instance {i : Nat} : WR (Wq Q (evE C (.var i) ρ) n P) (∃ d, getD ρ i = some d ∧ P d n) := ⟨fun ⟨_, h, q⟩ => w_var h q⟩
instance {o : Op} {a b : E} : WR (Wq Q (evE C (.bin o a b) ρ) n P) (Wq Q (evE C a ρ) n fun x n1 => Wq Q (evE C b ρ) n1 fun y n2 => ∃ z, opE o x y = some z ∧ P z n2) := ⟨w_bin⟩
instance {a : E} : WR (Wq Q (evE C (.neg a) ρ) n P) (Wq Q (evE C a ρ) n fun x n1 => ∃ i, x = .int i ∧ P (.int (-i)) n1) := ⟨w_neg⟩
instance {a : E} : WR (Wq Q (evE C (.not a) ρ) n P) (Wq Q (evE C a ρ) n fun x n1 => P (.bool (!tru x)) n1) := ⟨w_not⟩
instance {a b : E} : WR (Wq Q (evE C (.and a b) ρ) n P) (Wq Q (evE C a ρ) n fun x n1 => if tru x = true then Wq Q (evE C b ρ) n1 P else P x n1) := ⟨w_and⟩
instance {a b : E} : WR (Wq Q (evE C (.or a b) ρ) n P) (Wq Q (evE C a ρ) n fun x n1 => if tru x = true then P x n1 else Wq Q (evE C b ρ) n1 P) := ⟨w_or⟩
instance {o : Cp} {a b : E} : WR (Wq Q (evE C (.cmp o a b) ρ) n P) (Wq Q (evE C a ρ) n fun x n1 => Wq Q (evE C b ρ) n1 fun y n2 => ∃ z, cpE o x y = some z ∧ P (.bool z) n2) := ⟨w_cmp⟩
instance {o1 o2 : Cp} {a b c : E} : WR (Wq Q (evE C (.cmp2 o1 o2 a b c) ρ) n P) (Wq Q (evE C a ρ) n fun x n1 => Wq Q (evE C b ρ) n1 fun y n2 => ∃ z, cpE o1 x y = some z ∧ if z = true then Wq Q (evE C c ρ) n2 fun w n3 => ∃ z, cpE o2 y w = some z ∧ P (.bool z) n3 else P (.bool false) n2) := ⟨w_cmp2⟩
instance {t a b : E} : WR (Wq Q (evE C (.ife t a b) ρ) n P) (Wq Q (evE C t ρ) n fun x n1 => if tru x = true then Wq Q (evE C a ρ) n1 P else Wq Q (evE C b ρ) n1 P) := ⟨w_ife⟩
instance {P : List D → Option Int → Prop} : WR (Wq Q (evEs C [] ρ) n P) (P [] n) := ⟨w_nil⟩
instance {P : List D → Option Int → Prop} {e : E} {es : List E} : WR (Wq Q (evEs C (e :: es) ρ) n P) (Wq Q (evE C e ρ) n fun x n1 => Wq Q (evEs C es ρ) n1 fun xs n2 => P (x :: xs) n2) := ⟨w_cons⟩
instance {es : List E} : WR (Wq Q (evE C (.tup es) ρ) n P) (Wq Q (evEs C es ρ) n fun xs n1 => P (.tuple xs) n1) := ⟨w_tup⟩
instance {es : List E} : WR (Wq Q (evE C (.lst es) ρ) n P) (Wq Q (evEs C es ρ) n fun xs n1 => P (.list xs) n1) := ⟨w_lst⟩
instance {es : List E} : WR (Wq Q (evE C (.dct es) ρ) n P) (Wq NoE (evEs C es ρ) n fun xs n1 => ∃ z, dctE xs = some z ∧ P z n1) := ⟨w_dct⟩
instance {a i : E} : WR (Wq Q (evE C (.ix a i) ρ) n P) (Wq Q (evE C a ρ) n fun x n1 => Wq Q (evE C i ρ) n1 fun y n2 => ∃ z, ixE x y = some z ∧ P z n2) := ⟨w_ix⟩
instance {P : Option Int → Option Int → Prop} : WR (Wq Q (evO C none ρ) n P) (P none n) := ⟨w_none⟩
instance {P : Option Int → Option Int → Prop} {e : E} : WR (Wq Q (evO C (some e) ρ) n P) (Wq Q (evE C e ρ) n fun x n1 => ∃ i, x = .int i ∧ P (some i) n1) := ⟨w_some⟩
instance {a : E} {lo hi : Option E} : WR (Wq Q (evE C (.sl a lo hi) ρ) n P) (Wq Q (evE C a ρ) n fun x n1 => Wq Q (evO C lo ρ) n1 fun l n2 => Wq Q (evO C hi ρ) n2 fun u n3 => ∃ z, slE x l u = some z ∧ P z n3) := ⟨w_sl⟩
instance {a : E} : WR (Wq Q (evE C (.rev a) ρ) n P) (Wq Q (evE C a ρ) n fun x n1 => ∃ z, revE x = some z ∧ P z n1) := ⟨w_rev⟩
instance {f : Nat} {es : List E} : WR (Wq Q (evE C (.call f es) ρ) n P) (Wq Q (evAs C es ρ) n fun xs n1 => Wq Q (C.call f xs) n1 P) := ⟨w_call⟩
instance {e : E} {t : Ty} : WR (Wq Q (evE C (.isi e t) ρ) n P) (Wq Q (evE C e ρ) n fun x n1 => P (.bool (isiE t x)) n1) := ⟨w_isi⟩
instance {b : B0} {e : E} : WR (Wq Q (evE C (.b0 b e) ρ) n P) (Wq Q (evE C e ρ) n fun x n1 => ∃ z, b0E b x = some z ∧ P z n1) := ⟨w_b0⟩
instance {b : Bool} {a c : E} : WR (Wq Q (evE C (.mm2 b a c) ρ) n P) (Wq Q (evE C a ρ) n fun x n1 => Wq Q (evE C c ρ) n1 fun y n2 => ∃ z, mm2E b x y = some z ∧ P z n2) := ⟨w_mm2⟩
instance {m : Me1} {a c : E} : WR (Wq Q (evE C (.me1 m a c) ρ) n P) (Wq Q (evE C a ρ) n fun x n1 => Wq NoE (evE C c ρ) n1 fun y n2 => ∃ z, me1E m x y = some z ∧ P z n2) := ⟨w_me1⟩
instance {r a b : E} : WR (Wq Q (evE C (.get2 r a b) ρ) n P) (Wq Q (evE C r ρ) n fun x n1 => Wq NoE (evE C a ρ) n1 fun y n2 => Wq NoE (evE C b ρ) n2 fun z n3 => ∃ u, get2E x y z = some u ∧ P u n3) := ⟨w_get2⟩
instance {e : E} : WR (Wq Q (evE C (.b1 .dict (.of e)) ρ) n P) (Wq Q (evE C e ρ) n fun x n1 => ∃ z, b1S .dict e x = some z ∧ P z n1) := ⟨w_b1d⟩
instance {e : E} : WR (Wq Q (evE C (.b1 .list (.of e)) ρ) n P) (Wq Q (evE C e ρ) n fun x n1 => ∃ z, b1S .list e x = some z ∧ P z n1) := ⟨w_b1 rfl⟩
instance {e : E} : WR (Wq Q (evE C (.b1 .tuple (.of e)) ρ) n P) (Wq Q (evE C e ρ) n fun x n1 => ∃ z, b1S .tuple e x = some z ∧ P z n1) := ⟨w_b1 rfl⟩
instance {e : E} : WR (Wq Q (evE C (.b1 .sorted (.of e)) ρ) n P) (Wq Q (evE C e ρ) n fun x n1 => ∃ z, b1S .sorted e x = some z ∧ P z n1) := ⟨w_b1 rfl⟩
instance {e : E} : WR (Wq Q (evE C (.b1 .sum (.of e)) ρ) n P) (Wq Q (evE C e ρ) n fun x n1 => ∃ z, b1S .sum e x = some z ∧ P z n1) := ⟨w_b1 rfl⟩
instance {e : E} : WR (Wq Q (evE C (.b1 .any (.of e)) ρ) n P) (Wq Q (evE C e ρ) n fun x n1 => ∃ z, b1S .any e x = some z ∧ P z n1) := ⟨w_b1 rfl⟩
instance {e : E} : WR (Wq Q (evE C (.b1 .all (.of e)) ρ) n P) (Wq Q (evE C e ρ) n fun x n1 => ∃ z, b1S .all e x = some z ∧ P z n1) := ⟨w_b1 rfl⟩
instance {e : E} : WR (Wq Q (evE C (.b1 .min (.of e)) ρ) n P) (Wq Q (evE C e ρ) n fun x n1 => ∃ z, b1S .min e x = some z ∧ P z n1) := ⟨w_b1 rfl⟩
instance {e : E} : WR (Wq Q (evE C (.b1 .max (.of e)) ρ) n P) (Wq Q (evE C e ρ) n fun x n1 => ∃ z, b1S .max e x = some z ∧ P z n1) := ⟨w_b1 rfl⟩
/-! arguments, things that are walked -/
instance {P : List Slot → Option Int → Prop} : WR (Wq Q (evAs C [] ρ) n P) (P [] n) := ⟨w_anil⟩
instance {P : List D → Option Int → Prop} {e : E} : WR (Wq Q (evIt C (.of e) ρ) n P) (Wq Q (evE C e ρ) n fun x n1 => ∃ z, itE e x = some z ∧ P z n1) := ⟨w_of⟩
instance {P : List D → Option Int → Prop} {es : List E} : WR (Wq Q (evIt C (.rng es) ρ) n P) (Wq Q (evEs C es ρ) n fun x n1 => ∃ z, rngE x = some z ∧ P z n1) := ⟨w_rng⟩
instance {P : List D → Option Int → Prop} {e : E} : WR (Wq Q (evIt C (.enum e) ρ) n P) (Wq Q (evE C e ρ) n fun x n1 => ∃ z, seqE x = some z ∧ P (enumL 0 z) n1) := ⟨w_enum⟩
instance {P : List D → Option Int → Prop} {a b : E} : WR (Wq Q (evIt C (.zip a b) ρ) n P) (Wq Q (evE C a ρ) n fun x n1 => Wq Q (evE C b ρ) n1 fun y n2 => ∃ z, seqE x = some z ∧ ∃ w, seqE y = some w ∧ P (zipL z w) n2) := ⟨w_zip⟩
instance {P : List D → Option Int → Prop} {e : E} : WR (Wq Q (evIt C (.items e) ρ) n P) (Wq Q (evE C e ρ) n fun x n1 => itOk e x = true ∧ ∃ z, itemsD x = some z ∧ P z n1) := ⟨w_items⟩
instance {P : List D → Option Int → Prop} {e : E} : WR (Wq Q (evIt C (.vals e) ρ) n P) (Wq Q (evE C e ρ) n fun x n1 => itOk e x = true ∧ ∃ z, valsD x = some z ∧ P z n1) := ⟨w_vals⟩
instance {P : Bool → Option Int → Prop} : WR (Wq Q (evC C none ρ) n P) (P true n) := ⟨w_cnone⟩
instance {P : Bool → Option Int → Prop} {e : E} : WR (Wq Q (evC C (some e) ρ) n P) (Wq Q (evE C e ρ) n fun x n1 => P (tru x) n1) := ⟨w_csome⟩
end
section
variable {Q : Exn → Option Int → Prop}
variable {C : Cxt} {ρ : Ev} {n : Option Int} {P : Ev × Fl → Option Int → Prop}
instance : WR (Wq Q (evSs C [] ρ) n P) (P (ρ, .next) n) := ⟨y_nil⟩
instance {s : S} {ss : List S} : WR (Wq Q (evSs C (s :: ss) ρ) n P) (Wq Q (evS C s ρ) n fun r n1 => Wq Q (thenS C ss r) n1 P) := ⟨y_cons⟩
instance {ss : List S} {d : D} : WR (Wq Q (thenS C ss (ρ, .ret d)) n P) (P (ρ, .ret d) n) := ⟨y_ret'⟩
instance {ss : List S} : WR (Wq Q (thenS C ss (ρ, .brk)) n P) (P (ρ, .brk) n) := ⟨y_brk'⟩
instance {ss : List S} : WR (Wq Q (thenS C ss (ρ, .cont)) n P) (P (ρ, .cont) n) := ⟨y_cont'⟩
instance : WR (Wq Q (evS C .pass ρ) n P) (P (ρ, .next) n) := ⟨y_pass⟩
instance {e : E} : WR (Wq Q (evS C (.ex e) ρ) n P) (Wq Q (evE C e ρ) n fun d n1 => P (frzAll ρ e.esc e.al, .next) n1) := ⟨y_ex⟩
instance {t : Tg} {e : E} : WR (Wq Q (evS C (.asgT t e) ρ) n P) (Wq Q (evE C e ρ) n fun d n1 => ∃ ρ', bindT t d (frzAll ρ e.esc e.al) = some ρ' ∧ P (ρ', .next) n1) := ⟨y_asgT⟩
instance {is : List Nat} {es : List E} : WR (Wq Q (evS C (.par is es) ρ) n P) (Wq Q (evEs C es ρ) n fun ds n1 => ∃ ρ', setAll false is es ds (frzAll ρ (escL es) (alL es)) = some ρ' ∧ P (ρ', .next) n1) := ⟨y_par⟩
instance {i : Nat} {k e : E} : WR (Wq Q (evS C (.setIx i k e) ρ) n P) (Wq NoE (evE C e ρ) n fun d n1 => Wq NoE (evE C k ρ) n1 fun y n2 => ∃ ρ', chg (frzAll ρ e.esc e.al) i (fun x => setIxE x y d) = some ρ' ∧ P (ρ', .next) n2) := ⟨y_setIx⟩
instance {i : Nat} {e : E} : WR (Wq Q (evS C (.app i e) ρ) n P) (Wq NoE (evE C e ρ) n fun d n1 => ∃ ρ', chg (frzAll ρ e.esc e.al) i (appE d) = some ρ' ∧ P (ρ', .next) n1) := ⟨y_app⟩
instance {i : Nat} {e : E} : WR (Wq Q (evS C (.popK i e) ρ) n P) (Wq Q (evE C e ρ) n fun d n1 => ∃ ρ', chg ρ i (popKE d) = some ρ' ∧ P (ρ', .next) n1) := ⟨y_popK⟩
instance {i : Nat} {e : E} : WR (Wq Q (evS C (.remove i e) ρ) n P) (Wq Q (evE C e ρ) n fun d n1 => ∃ ρ', chg ρ i (removeE d) = some ρ' ∧ P (ρ', .next) n1) := ⟨y_remove⟩
instance {i : Nat} {e : E} : WR (Wq Q (evS C (.update i e) ρ) n P) (Wq Q (evE C e ρ) n fun d n1 => ∃ ρ', chg (frzAll ρ e.esc e.al) i (updE d) = some ρ' ∧ P (ρ', .next) n1) := ⟨y_update⟩
instance {i : Nat} {k e : E} : WR (Wq Q (evS C (.setdApp i k e) ρ) n P) (Wq NoE (evE C k ρ) n fun y n1 => ∃ ρ1, chg2 ρ i (sdE y) = some ρ1 ∧ Wq NoE (evE C e ρ1) n1 fun d n2 => isHash d = true ∧ ∃ ρ', chg2 (frzAll ρ1 e.esc e.al) i (inE y (appE d)) = some ρ' ∧ P (ρ', .next) n2) := ⟨y_setdApp⟩
instance {i : Nat} {k e : E} : WR (Wq Q (evS C (.appIx i k e) ρ) n P) (Wq Q (evE C k ρ) n fun y n1 => Wq Q (evE C e ρ) n1 fun d n2 => ∃ ρ', chg2 (frzAll ρ e.esc e.al) i (inE y (appE d)) = some ρ' ∧ P (ρ', .next) n2) := ⟨y_appIx⟩
instance {t : E} {a b : List S} : WR (Wq Q (evS C (.ife t a b) ρ) n P) (Wq Q (evE C t ρ) n fun x n1 => if tru x = true then Wq Q (evSs C a ρ) n1 P else Wq Q (evSs C b ρ) n1 P) := ⟨y_ife⟩
instance {t : Tg} {it : It} {body : List S} : WR (Wq Q (evS C (.for t it body) ρ) n P) (Wq Q (evIt C it ρ) n fun xs n1 => Wq Q (forS (forB C t body) xs (frzAll ρ it.escF it.al)) n1 P) := ⟨y_for⟩
instance {e : E} : WR (Wq Q (evS C (.ret e) ρ) n P) (Wq Q (evE C e ρ) n fun d n1 => P (ρ, .ret d) n1) := ⟨y_ret⟩
instance : WR (Wq Q (evS C .retN ρ) n P) (P (ρ, .ret .none) n) := ⟨y_retN⟩
instance : WR (Wq Q (evS C .brk ρ) n P) (P (ρ, .brk) n) := ⟨y_brk⟩
instance : WR (Wq Q (evS C .cont ρ) n P) (P (ρ, .cont) n) := ⟨y_cont⟩
instance {i : Nat} : WR (Wq Q (evS C (.mkCell i) ρ) none P) (P (setS ρ i .cell, .next) (some 0)) := ⟨y_mkCell⟩
instance {I : Ev → Option Int → Prop} {d : D} : WR (Kp I P (ρ, .ret d) n) (P (ρ, .ret d) n) := ⟨k_ret⟩
instance {I : Ev → Option Int → Prop} : WR (Kp I P (ρ, .brk) n) (P (ρ, .next) n) := ⟨k_brk⟩
instance {P : D → Option Int → Prop} {d : D} : WR (Wq Q (outF (ρ, .ret d)) n P) (P d n) := ⟨w_outR⟩
instance {P : D → Option Int → Prop} : WR (Wq Q (outF (ρ, .next)) n P) (P .none n) := ⟨w_outN⟩
instance {x : Exn} : WR (Wq Q (evHs C [] x ρ) n P) (Q x n) := ⟨y_hnil⟩
end
theorem w_lcM {Q : Exn → Option Int → Prop} {C : Cxt} {ρ : Ev} {n : Option Int} {P : D → Option Int → Prop} {elt : E} {tg : Tg} {it : It} {cond : Option E} {own : List Nat} {α : Type} (enc : α → D) (l : List α) (g : α → Option D) (hi : Wq Q (evIt C it ρ) n fun ys n1 => ys = l.map enc ∧ n1 = n) (hf : fits l.length = true)
    (hg : ∀ x ∈ l, ∀ k, Wq NoE (lcB C elt tg cond own ρ (enc x)) k fun o k' => o = g x ∧ k' = k) (h : P (.list (l.filterMap g)) n) : Wq Q (evE C (.lc elt tg it cond own) ρ) n P := by
  refine w_lc (hi.imp fun ys n1 ⟨e1, e2⟩ => ?_)
  subst e1 e2
  refine ⟨by rw [List.length_map]; exact hf, ?_⟩
  rw [forM_map enc g l fun x hx => pure_of (hg x hx)]
  exact wpp h
theorem nrm_n {ρ : Ev} (h : ρ = []) : ρ = [] := h
theorem y_bodyN {Q : Exn → Option Int → Prop} {C : Cxt} {n : Option Int} {d : Def} {args : List Slot} {P : D → Option Int → Prop} {ρ1 ρ0 : Ev} (hs : d.start args = some ρ1) (hn : ρ1 = ρ0) (h : Wq Q (evSs C d.body ρ0) n fun r n1 => Wq Q (outF r) n1 P) : Wq Q (bodyDef C d args) n P := by
  subst hn
  exact y_body hs h
end MP

/-! LC: the laws' draws: what all laws share. -/
namespace LC
open PySem MP
local macro_rules | `(tactic| walk_at "x1") => `(tactic| first
  | ((with_reducible refine' y_nextN ?w1 ?_); (case w1 => ((repeat (apply nrm_c rfl)); first | exact nrm_n rfl | exact rfl)))
  | ((with_reducible refine' asgP_nf ?w1 ?_); (case w1 => exact rfl))
  | ((with_reducible refine' asgO_f ?w1 ?_); (case w1 => exact rfl))
  | ((with_reducible refine' asgOO_f ?w1 ?_); (case w1 => exact rfl))
  | ((with_reducible refine' w_acell ?w1 ?_); (case w1 => exact rfl))
  | (with_reducible refine w_acons rfl ?_)
  | ((with_reducible refine' y_augP ?w1 ?_); (case w1 => exact rfl))
  | ((with_reducible refine' y_augL ?w1 ?_); (case w1 => exact rfl))
  | ((with_reducible refine' y_augIx ?w1 ?_); (case w1 => exact rfl)))
local macro_rules | `(tactic| walk_at "e") => `(tactic| ((with_reducible refine' Exists.intro _ (And.intro ?w1 ?_)); (case w1 => first | with_reducible assumption | ((with_reducible refine' chg_eq ?c1 ?c2); (case c1 => exact rfl); (case c2 => first | with_reducible assumption | exact rfl)) | ((with_reducible refine' chg2_eq ?c1 ?c2); (case c1 => exact rfl); (case c2 => first | with_reducible assumption | exact rfl)) | exact rfl | (with_reducible apply_assumption))))
local macro_rules | `(tactic| walk_at "i") => `(tactic| first | ((with_reducible refine' ite_t ?w1 ?_); (case w1 => with_reducible assumption)) | ((with_reducible refine' ite_f ?w1 ?_); (case w1 => with_reducible assumption)) | ((with_reducible refine' ite_t ?w1 ?_); (case w1 => exact rfl)) | ((with_reducible refine' ite_f ?w1 ?_); (case w1 => exact rfl)))
local macro_rules | `(tactic| walk_at "a") => `(tactic| ((with_reducible refine' And.intro ?w1 ?_); (case w1 => first | exact rfl | with_reducible assumption)))
local macro_rules | `(tactic| walk_at "b") => `(tactic| (refine' y_bodyN ?w1 ?w2 ?_; (case w1 => exact rfl); (case w2 => ((repeat (apply nrm_c rfl)); first | exact nrm_n rfl | exact rfl))))
local macro_rules | `(tactic| walk_at "st") => `(tactic| (unfold st; simp only [d_law, List.getD_cons_succ, List.getD_cons_zero]))
local macro_rules | `(tactic| walk_at "w") => `(tactic| repeat (first | (with_reducible refine wr ?_) | walk_at "e" | walk_at "i" | walk_at "x1" | walk_at "a"))
def dDraws : Def := ⟨1, 6, [],
 [(.asg false 1 (.lst [])),
 (.for (.nm 2) (.of (.sl (.var 0) none (some (.cst (.int 63))))) [(.asg false 3 (.b0 .abs (.var 2))),
 (.ife (.cmp .ge (.var 3) (.bin .pow (.cst (.int 10)) (.cst (.int 18)))) [(.for (.nm 4) (.rng [(.cst (.int 60))]) [(.ife (.cmp .gt (.var 3) (.cst (.int 0))) [(.app 1 (.bin .mod (.b0 .int (.var 3)) (.cst (.int 1009)))),
 (.asg false 3 (.bin .fdiv (.var 3) (.cst (.int 1009))))] [])])] [(.asg false 5 (.bin .mod (.b0 .int (.bin .add (.bin .mul (.var 3) (.cst (.int 48271))) (.cst (.int 11)))) (.cst (.int 2147483647)))),
 (.for (.nm 4) (.rng [(.cst (.int 12))]) [(.asg false 5 (.bin .mod (.b0 .int (.bin .add (.bin .add (.bin .mul (.var 5) (.cst (.int 16807))) (.bin .mul (.cst (.int 69621)) (.var 4))) (.cst (.int 5)))) (.cst (.int 2147483629)))),
 (.app 1 (.bin .fdiv (.var 5) (.cst (.int 1009))))])])]),
 (.ret (.var 1))]⟩
def dMore : Def := ⟨2, 4, [],
 [(.asg false 2 (.bin .mod (.b0 .int (.bin .add (.bin .add (.bin .mul (.var 1) (.cst (.int 48271))) (.b0 .len (.var 0))) (.cst (.int 11)))) (.cst (.int 2147483629)))),
 (.for (.nm 3) (.rng [(.cst (.int 3))]) [(.ife (.var 0) [(.asg false 2 (.bin .add (.var 2) (.ix (.var 0) (.bin .mod (.b0 .int (.bin .add (.bin .mul (.var 1) (.bin .add (.var 3) (.cst (.int 5)))) (.var 3))) (.b0 .len (.var 0))))))] []),
 (.asg false 2 (.bin .mod (.b0 .int (.bin .add (.bin .add (.bin .mul (.var 2) (.cst (.int 16807))) (.bin .mul (.cst (.int 69621)) (.var 3))) (.cst (.int 5)))) (.cst (.int 2147483629))))]),
 (.ret (.bin .fdiv (.var 2) (.cst (.int 1009))))]⟩
def dTake (more : Nat) : Def := ⟨3, 4, [],
 [(.asg false 3 (.cget 1)),
 (.cset 1 (.bin .add (.var 3) (.cst (.int 1)))),
 (.ret (.bin .mod (.b0 .int (.ife (.cmp .lt (.var 3) (.b0 .len (.var 0))) (.ix (.var 0) (.var 3)) (.call more [(.var 0), (.var 3)]))) (.var 2)))]⟩
def dOne (take : Nat) : Def := ⟨3, 3, [],
 [(.ret (.ix (.var 0) (.call take [(.var 1), (.cellv 2), (.b0 .len (.var 0))])))]⟩
abbrev SN : Nat → PyData := fun i => .int (i : Int)
abbrev eIs (l : List Int) : PyData := .list (l.map PyData.int)
theorem mul_r (a b : Int) (h : -(2 ^ 64) < b ∧ b < 2 ^ 64) : opE .mul (.int a) (.int b) = some (.int (a * b)) := by
  show lftIf (big64 a || big64 b) _ = _
  have : big64 b = true := decide_eq_true h
  rw [this, Bool.or_true]; rfl
theorem mul_l (a b : Int) (h : -(2 ^ 64) < a ∧ a < 2 ^ 64) : opE .mul (.int a) (.int b) = some (.int (a * b)) := by
  show lftIf (big64 a || big64 b) _ = _
  have : big64 a = true := decide_eq_true h
  rw [this, Bool.true_or]; rfl
theorem mod_r (a b : Int) (h : b ≠ 0) : opE .mod (.int a) (.int b) = some (.int (a.fmod b)) := by
  show lftIf (decide (b ≠ 0)) _ = _
  rw [decide_eq_true h]; rfl
theorem div_r (a b : Int) (h : b ≠ 0 ∧ b.natAbs < 1073741824) : opE .fdiv (.int a) (.int b) = some (.int (a.fdiv b)) := by
  show lftIf (decide (b ≠ 0 ∧ b.natAbs < 1073741824)) _ = _
  rw [decide_eq_true h]; rfl
theorem rng_c (n : Nat) (h : n ≤ 1000000) : rngE [.int (n : Int)] = some ((List.range n).map SN) := by
  have : sm62 n = true := by
    unfold sm62
    have h1 : -(2 ^ 62) ≤ (n : Int) := Int.le_trans (by decide) (Int.natCast_nonneg n)
    have h2 : (n : Int) < 2 ^ 62 := Int.lt_of_le_of_lt (Int.ofNat_le.mpr h) (by decide)
    exact decide_eq_true ⟨h1, h2⟩
  show lftIf (sm62 n) (rngL 0 1 (n : Int).toNat) = _
  rw [this]
  show some (rngL 0 1 _) = _
  unfold rngL
  rw [Int.toNat_natCast]
  simp
theorem len_is (l : List Int) : b0E .len (eIs l) = some (.int (l.length : Int)) := by
  show some (PyData.int ((l.map PyData.int).length : Int)) = _
  rw [List.length_map]
theorem ix_is (l : List Int) (i : Nat) (h : i < l.length) : ixE (eIs l) (.int (i : Int)) = some (.int l[i]) := by
  show (do (l.map PyData.int)[← ixN (l.map PyData.int).length (i : Int)]?) = _
  have e : ixN (l.map PyData.int).length (i : Int) = some i := by
    unfold ixN
    rw [if_pos (Int.natCast_nonneg i), if_pos (by rw [List.length_map]; omega)]
    rfl
  rw [e]
  show (l.map PyData.int)[i]? = _
  rw [List.getElem?_map, List.getElem?_eq_getElem h]; rfl
theorem fmod_nat (a : Int) (b : Nat) (h : 0 < b) : ∃ i : Nat, i < b ∧ a.fmod (b : Int) = (i : Int) := by
  have h1 : 0 ≤ a.fmod (b : Int) := Int.fmod_nonneg_of_pos a (by omega)
  have h2 : a.fmod (b : Int) < (b : Int) := Int.fmod_lt_of_pos a (by omega)
  exact ⟨(a.fmod b).toNat, by omega, by omega⟩
theorem w_more (C : Cxt) (ds : List Int) (place : Int) (n : Option Int) (P : MP.D → Option Int → Prop) (h : ∀ z : Int, P (.int z) n) : Wp (bodyDef C dMore [.p (eIs ds), .p (.int place)]) n P := by
  refine y_body rfl ?_
  rw [dMore]
  have hl := len_is ds
  have m1 : opE .mul (.int place) (.int 48271) = some (.int (place * 48271)) := mul_r _ _ (by decide)
  walk_at "w"
  have hr : rngE [.int 3] = some ((List.range 3).map SN) := rng_c 3 (by decide)
  walk_at "w"
  clear hr
  refine wp_forS (fun xs ρ n' => n' = n ∧ ∃ (l : List Nat) (z : Int) (j : Option MP.Slot), xs = l.map SN ∧ (∀ k ∈ l, k < 3) ∧ ρ = [some (.p (eIs ds)), some (.p (.int place)), some (.p (.int z)), j]) ?_ ?_ _ _ _ ⟨rfl, List.range 3, _, _, rfl, fun k hk => List.mem_range.mp hk, rfl⟩
  · rintro x xs ρ n ⟨rfl, l, z, j, ex, hlt, rfl⟩
    match l, ex with
    | k :: l, ex =>
      rw [List.map_cons] at ex
      obtain ⟨rfl, rfl⟩ := List.cons.inj ex
      have hk := hlt k List.mem_cons_self
      refine y_forB ⟨_, rfl, ?_⟩
      have m2 : opE .mul (.int place) (.int ((k : Int) + 5)) = some (.int (place * ((k : Int) + 5))) := mul_r _ _ (by omega)
      have m3 : ∀ z : Int, opE .mul (.int z) (.int 16807) = some (.int (z * 16807)) := fun z => mul_r _ _ (by decide)
      have m4 : opE .mul (.int 69621) (.int (k : Int)) = some (.int (69621 * (k : Int))) := mul_l _ _ (by decide)
      refine y_cons (y_ife ?_)
      walk_at "w"
      have fin : ∀ z : Int, Wp (thenS C [(.asg false 2 (.bin .mod (.b0 .int (.bin .add (.bin .add (.bin .mul (.var 2) (.cst (.int 16807))) (.bin .mul (.cst (.int 69621)) (.var 3))) (.cst (.int 5)))) (.cst (.int 2147483629))))] ([some (.p (eIs ds)), some (.p (.int place)), some (.p (.int z)), some (.p (.int (k : Int)))], .next)) n (Kp (fun ρ n' => n' = n ∧ ∃ (l' : List Nat) (z : Int) (j : Option MP.Slot), l.map SN = l'.map SN ∧ (∀ k ∈ l', k < 3) ∧ ρ = [some (.p (eIs ds)), some (.p (.int place)), some (.p (.int z)), j]) fun r n1 => Wp (thenS C [(.ret (.bin .fdiv (.var 2) (.cst (.int 1009))))] r) n1 fun r n1 => Wp (outF r) n1 P) := by
        intro z
        have m3 := m3 z
        walk_at "w"
        exact ⟨rfl, l, _, _, rfl, fun k hk => hlt k (List.mem_cons_of_mem _ hk), rfl⟩
      cases hds : ds with
      | nil =>
        subst hds
        refine ite_f rfl ?_
        refine y_nil ?_
        exact fin z
      | cons d0 ds0 =>
        rw [← hds]
        have hpos : 0 < ds.length := by rw [hds]; simp
        obtain ⟨i, hi, ei⟩ := fmod_nat (place * ((k : Int) + 5) + (k : Int)) ds.length hpos
        have hmod : opE .mod (.int (place * ((k : Int) + 5) + (k : Int))) (.int (ds.length : Int)) = some (.int (i : Int)) := by
          rw [mod_r _ _ (by omega), ei]
        have hix := ix_is ds i hi
        refine ite_t (by rw [hds]; rfl) ?_
        have m3 := m3 (z + ds[i])
        walk_at "w"
        exact ⟨rfl, l, _, _, rfl, fun k hk => hlt k (List.mem_cons_of_mem _ hk), rfl⟩
  · rintro ρ n ⟨rfl, l, z, j, ex, hlt, rfl⟩
    walk_at "w"
    exact h _
theorem w_take (C : Cxt) (more : Nat) (hm : ∀ (ds : List Int) (place : Int) (n : Option Int) (P : MP.D → Option Int → Prop), (∀ z : Int, P (.int z) n) → Wp (C.call more [.p (eIs ds), .p (.int place)]) n P) (ds : List Int) (many : Nat) (hp : 0 < many) (k : Nat) (P : MP.D → Option Int → Prop)
    (h : ∀ v : Nat, v < many → P (.int (v : Int)) (some ((k + 1 : Nat) : Int))) : Wp (bodyDef C (dTake more) [.p (eIs ds), .cell, .p (.int (many : Int))]) (some (k : Int)) P := by
  refine y_body rfl ?_
  rw [dTake]
  have hl := len_is ds
  have fin : ∀ z : Int, ∃ v : Int, opE .mod (.int z) (.int (many : Int)) = some (.int v) ∧ P (.int v) (some ((k + 1 : Nat) : Int)) := fun z => by
    obtain ⟨i, hi, ei⟩ := fmod_nat z many hp
    exact ⟨i, by rw [mod_r _ _ (by omega), ei], h i hi⟩
  refine y_cons (asgP_nf rfl (w_cget rfl ?_))
  walk_at "w"
  refine y_cset rfl ?_
  walk_at "w"
  by_cases hlt : k < ds.length
  · have hix := ix_is ds k hlt
    refine ite_t (by show decide ((k : Int) < (ds.length : Int)) = true; exact decide_eq_true (by omega)) ?_
    walk_at "w"
    obtain ⟨v, e, p⟩ := fin ds[k]
    refine ⟨_, e, ?_⟩
    walk_at "w"
    exact p
  · refine ite_f (by show decide ((k : Int) < (ds.length : Int)) = false; exact decide_eq_false (by omega)) ?_
    walk_at "w"
    refine hm ds _ _ _ fun z => ?_
    walk_at "w"
    obtain ⟨v, e, p⟩ := fin z
    refine ⟨_, e, ?_⟩
    walk_at "w"
    exact p
theorem w_one (C : Cxt) (take : Nat) (rows : List PyData) (draws : PyData) (hr : 0 < rows.length) (k : Nat) (hm : ∀ (P : MP.D → Option Int → Prop), (∀ v : Nat, v < rows.length → P (.int (v : Int)) (some ((k + 1 : Nat) : Int))) → Wp (C.call take [.p draws, .cell, .p (.int (rows.length : Int))]) (some (k : Int)) P) (P : MP.D → Option Int → Prop)
    (h : ∀ (v : Nat) (x : PyData), rows[v]? = some x → P x (some ((k + 1 : Nat) : Int))) : Wp (bodyDef C (dOne take) [.p (.list rows), .p draws, .cell]) (some (k : Int)) P := by
  refine y_body rfl ?_
  rw [dOne]
  walk_at "w"
  refine hm _ fun v hv => ?_
  have hix : ixE (.list rows) (.int (v : Int)) = some rows[v] := by
    show (do rows[← ixN rows.length (v : Int)]?) = _
    have e : ixN rows.length (v : Int) = some v := by
      unfold ixN
      rw [if_pos (Int.natCast_nonneg v), if_pos (by omega)]
      rfl
    rw [e]
    show rows[v]? = _
    rw [List.getElem?_eq_getElem hv]
  walk_at "w"
  exact h v _ (List.getElem?_eq_getElem hv)
theorem w_draws (C : Cxt) (script : List Int) (hs : script.length ≤ 63) (n : Option Int) (P : MP.D → Option Int → Prop) (h : ∀ ds : List Int, P (eIs ds) n) : Wp (bodyDef C dDraws [.p (eIs script)]) n P := by
  refine y_body rfl ?_
  rw [dDraws]
  have hsl : ∃ l : List Int, slE (eIs script) none (some 63) = some (eIs l) ∧ l.length ≤ 63 := by
    refine ⟨script, ?_, hs⟩
    show some (PyData.list (cutL (script.map PyData.int) 0 (bnd (script.map PyData.int).length (script.map PyData.int).length (some 63)))) = _
    unfold cutL
    rw [List.drop_zero, Nat.sub_zero]
    have e : bnd (script.map PyData.int).length (script.map PyData.int).length (some 63) = script.length := by
      simp only [bnd]
      rw [if_neg (by decide), List.length_map]
      show min 63 script.length = script.length
      omega
    rw [e, List.take_of_length_le (by rw [List.length_map]; exact Nat.le_refl _)]
  obtain ⟨l, hsl, hl⟩ := hsl
  walk_at "w"
  refine wp_forS (fun xs ρ n' => n' = n ∧ ∃ (rest ds : List Int) (j2 j3 j4 j5 : Option MP.Slot), xs = rest.map PyData.int ∧ ds.length + 60 * rest.length ≤ 3780 ∧ ρ = [some (.p (eIs script)), some (.o (eIs ds)), j2, j3, j4, j5]) ?_ ?_ _ _ _ ⟨rfl, l, [], none, none, none, none, rfl, by simp; omega, rfl⟩
  · rintro x xs ρ n ⟨rfl, rest, ds, j2, j3, j4, j5, ex, hb, rfl⟩
    match rest, ex with
    | cell :: rest, ex =>
      rw [List.map_cons] at ex
      obtain ⟨rfl, rfl⟩ := List.cons.inj ex
      rw [List.length_cons] at hb
      refine y_forB ⟨_, rfl, ?_⟩
      have hpow : opE .pow (.int 10) (.int 18) = some (.int (10 ^ 18)) := by
        show lftIf (decide _) _ = _
        rw [decide_eq_true (by decide)]; rfl
      refine y_cons (asgP_nf rfl (w_b0 (w_var rfl ⟨_, rfl, ?_⟩)))
      generalize hz : (if cell < 0 then -cell else cell) = z
      refine y_nextN (ρ' := [some (.p (eIs script)), some (.o (eIs ds)), some (.p (.int cell)), some (.p (.int z)), j4, j5]) rfl ?_
      refine y_cons (y_ife ?_)
      refine w_cmp (w_var rfl (w_bin (w_cst (w_cst ⟨_, hpow, _, rfl, ?_⟩))))
      have app : ∀ (ds : List Int) (v : Int), ds.length ≤ 4000 → appE (.int v) (eIs ds) = some (eIs (ds ++ [v])) := fun ds v hd => by
        rw [app_eq (by rw [List.length_map]; omega)]
        simp
      refine ite_c (fun _ => ?_) (fun _ => ?_)
      · have hr : rngE [.int 60] = some ((List.range 60).map SN) := rng_c 60 (by decide)
        walk_at "w"
        clear hr
        refine wp_forS (fun xs ρ n' => n' = n ∧ ∃ (l : List Nat) (ds2 : List Int) (z : Int) (j4 j5 : Option MP.Slot), xs = l.map SN ∧ ds2.length + l.length ≤ ds.length + 60 ∧ ρ = [some (.p (eIs script)), some (.o (eIs ds2)), some (.p (.int cell)), some (.p (.int z)), j4, j5]) ?_ ?_ _ _ _ ⟨rfl, List.range 60, ds, z, j4, j5, rfl, by simp, rfl⟩
        · rintro x xs ρ n ⟨rfl, l, ds2, z, j4, j5, ex, hb2, rfl⟩
          match l, ex with
          | k :: l, ex =>
            rw [List.map_cons] at ex
            obtain ⟨rfl, rfl⟩ := List.cons.inj ex
            rw [List.length_cons] at hb2
            refine y_forB ⟨_, rfl, ?_⟩
            have happ := app ds2 (z.fmod 1009) (by omega)
            refine y_cons (y_ife (w_cmp (w_var rfl (w_cst ⟨_, rfl, ?_⟩))))
            refine ite_c (fun _ => ?_) (fun _ => ?_)
            · walk_at "w"
              exact ⟨rfl, l, ds2 ++ [z.fmod 1009], _, _, _, rfl, by rw [List.length_append, List.length_singleton]; omega, rfl⟩
            · walk_at "w"
              exact ⟨rfl, l, ds2, _, _, _, rfl, by omega, rfl⟩
        · rintro ρ n ⟨rfl, l, ds2, z, j4, j5, ex, hb2, rfl⟩
          walk_at "w"
          exact ⟨rfl, rest, ds2, _, _, _, _, rfl, by omega, rfl⟩
      · have m1 : opE .mul (.int z) (.int 48271) = some (.int (z * 48271)) := mul_r _ _ (by decide)
        have hr : rngE [.int 12] = some ((List.range 12).map SN) := rng_c 12 (by decide)
        walk_at "w"
        clear hr
        refine wp_forS (fun xs ρ n' => n' = n ∧ ∃ (l : List Nat) (ds2 : List Int) (y : Int) (j4 : Option MP.Slot), xs = l.map SN ∧ (∀ k ∈ l, k < 12) ∧ ds2.length + l.length ≤ ds.length + 60 ∧ ρ = [some (.p (eIs script)), some (.o (eIs ds2)), some (.p (.int cell)), some (.p (.int z)), j4, some (.p (.int y))]) ?_ ?_ _ _ _ ⟨rfl, List.range 12, ds, _, j4, rfl, fun k hk => List.mem_range.mp hk, by simp, rfl⟩
        · rintro x xs ρ n ⟨rfl, l, ds2, y, j4, ex, hk, hb2, rfl⟩
          match l, ex with
          | k :: l, ex =>
            rw [List.map_cons] at ex
            obtain ⟨rfl, rfl⟩ := List.cons.inj ex
            rw [List.length_cons] at hb2
            refine y_forB ⟨_, rfl, ?_⟩
            have m3 : opE .mul (.int y) (.int 16807) = some (.int (y * 16807)) := mul_r _ _ (by decide)
            have m4 : opE .mul (.int 69621) (.int (k : Int)) = some (.int (69621 * (k : Int))) := mul_l _ _ (by decide)
            have happ := app ds2 (((y * 16807 + 69621 * (k : Int) + 5).fmod 2147483629).fdiv 1009) (by omega)
            walk_at "w"
            exact ⟨rfl, l, ds2 ++ [_], _, _, rfl, fun k hk' => hk k (List.mem_cons_of_mem _ hk'), by rw [List.length_append, List.length_singleton]; omega, rfl⟩
        · rintro ρ n ⟨rfl, l, ds2, y, j4, ex, hk, hb2, rfl⟩
          walk_at "w"
          exact ⟨rfl, rest, ds2, _, _, _, _, rfl, by omega, rfl⟩
  · rintro ρ n ⟨rfl, rest, ds, j2, j3, j4, j5, ex, hb, rfl⟩
    walk_at "w"
    exact h ds
end LC

namespace Lk00
open PySem MP
def c_MAX_NAME : D := .int 12
def c_MAX_KEYS : D := .int 8
def c_MAX_LAYERS : D := .int 5
def c_MAX_DEADS : D := .int 24
def c_MAX_WAIT : D := .int 1000
def c_MAX_MACRO : D := .int 8
def c_MAX_DOWN : D := .int 3
def c_MAX_STATES : D := .int 4000
def c_MAX_EVENTS : D := .int 200
def c_MAX_TIME : D := .int 1000000
def c_MAX_TEXT : D := .int 6000
def c_MAX_PAIRS : D := .int 4000
def c_MAX_ROW_OF : D := .int 60
def c_MAX_TYPED : D := .int 12
def c_MAX_PLACES : D := .int 20000
def c_MAX_READ : D := .int 10
def c_MAX_WAYS_OF : D := .int 4000
def c_MAX_EFFORT : D := .int 1000
def c_MAX_NESTED : D := .int 12
def c_MAX_ROWED : D := .int 40
def c_MAX_REPEATS : D := .int 1000
def c_MAX_SPELT : D := .int 4000
def c_MAX_FOLDED : D := .int 24
def c_MAX_LONG : D := .int 20
def c_MAX_SHORT : D := .int 6
def c_MAX_SHORTS : D := .int 10
def c_MAX_WRITTEN : D := .int 40
def c_MAX_ROW_SIGNS : D := .int 5
def c_MAX_TABLE : D := .int 24
def c_MAX_SOUGHT : D := .int 20000
def c_MAX_OUTLINE : D := .int 4
def c_MAX_OUTLINES : D := .int 24
def c_MAX_STROKES : D := .int 24
def c_MAX_LOGS : D := .int 8
def c_MAX_SETS : D := .int 6
def c_MAX_EDITS : D := .int 200
def c_MAX_LINES : D := .int 200
def c_MAX_TESTS : D := .int 24
def c_MAX_CHANGED_ONES : D := .int 60
def c_MAX_ASKED : D := .int 40000
def c_MAX_LOOKED : D := .int 20000
def c_MAX_TEXTS : D := .int 4
def c_MAX_PRESSES : D := .int 40
def c_MAX_REST : D := .int 10
def c_MAX_ROWS : D := .int 8
def c_MAX_ACTIONS : D := .int 24
def c_MAX_LEARNT : D := .int 400
def c_MAX_ALPHABET : D := .int 40
def c_MAX_WORDS : D := .int 6
def c_MAX_FLIPS : D := .int 40
def c_MAX_COMMANDS : D := .int 60
def c_MAX_PLAYED : D := .int 4000
def c_MAX_RECORDED : D := .int 20
def c_MAX_WIRES : D := .int 8
def c_MAX_CROSSED : D := .int 10
def c_MAX_SUBSETS : D := .int 2000
def c_MAX_EDITED : D := .int 12
def c_MAX_SCREENS : D := .int 20000
def c_MAX_STROKED : D := .int 40
def c_MAX_PADS : D := .int 10
def c_MAX_LETTERS : D := .int 12
def c_MAX_WORD_SIGNS : D := .int 12
def c_MAX_WORDS_KNOWN : D := .int 20
def c_MAX_FORETOLD : D := .int 20
def c_MAX_LEARNED : D := .int 60
def c_MAX_SHOWN : D := .int 5
def c_MAX_GRID : D := .int 5
def c_MAX_GLIDE : D := .int 40
def c_MAX_SCANNED : D := .int 30
def c_MAX_FREQUENCY : D := .int 1000000
def c_MAX_MERGED : D := .int 6
def c_MAX_EXERCISE : D := .int 24
def c_MAX_WORDS_OF : D := .int 12
def c_MAX_ABBREVIATED : D := .int 400
def c_MAX_CODED : D := .int 4
def c_MAX_ARRANGED : D := .int 10
def c_MAX_ORDERED : D := .int 6
def c_MAX_CAPS : D := .int 12
def c_MAX_ROUNDS : D := .int 1000000
def c_MAX_REPEATED : D := .int 2000
def c_MAX_TYPED_OF : D := .int 200
def d_law_draws : Def := ⟨1, 6, [],
 [(.asg false 1 (.lst [])),
 (.for (.nm 2) (.of (.sl (.var 0) none (some (.cst (.int 63))))) [(.asg false 3 (.b0 .abs (.var 2))),
 (.ife (.cmp .ge (.var 3) (.bin .pow (.cst (.int 10)) (.cst (.int 18)))) [(.for (.nm 4) (.rng [(.cst (.int 60))]) [(.ife (.cmp .gt (.var 3) (.cst (.int 0))) [(.app 1 (.bin .mod (.b0 .int (.var 3)) (.cst (.int 1009)))),
 (.asg false 3 (.bin .fdiv (.var 3) (.cst (.int 1009))))] [])])] [(.asg false 5 (.bin .mod (.b0 .int (.bin .add (.bin .mul (.var 3) (.cst (.int 48271))) (.cst (.int 11)))) (.cst (.int 2147483647)))),
 (.for (.nm 4) (.rng [(.cst (.int 12))]) [(.asg false 5 (.bin .mod (.b0 .int (.bin .add (.bin .add (.bin .mul (.var 5) (.cst (.int 16807))) (.bin .mul (.cst (.int 69621)) (.var 4))) (.cst (.int 5)))) (.cst (.int 2147483629)))),
 (.app 1 (.bin .fdiv (.var 5) (.cst (.int 1009))))])])]),
 (.ret (.var 1))]⟩
-- calls of _law_draws: 
-- slots of _law_draws: 0:script 1:draws 2:cell 3:rest 4:k 5:mixed
def d_law_more : Def := ⟨2, 4, [],
 [(.asg false 2 (.bin .mod (.b0 .int (.bin .add (.bin .add (.bin .mul (.var 1) (.cst (.int 48271))) (.b0 .len (.var 0))) (.cst (.int 11)))) (.cst (.int 2147483629)))),
 (.for (.nm 3) (.rng [(.cst (.int 3))]) [(.ife (.var 0) [(.asg false 2 (.bin .add (.var 2) (.ix (.var 0) (.bin .mod (.b0 .int (.bin .add (.bin .mul (.var 1) (.bin .add (.var 3) (.cst (.int 5)))) (.var 3))) (.b0 .len (.var 0))))))] []),
 (.asg false 2 (.bin .mod (.b0 .int (.bin .add (.bin .add (.bin .mul (.var 2) (.cst (.int 16807))) (.bin .mul (.cst (.int 69621)) (.var 3))) (.cst (.int 5)))) (.cst (.int 2147483629))))]),
 (.ret (.bin .fdiv (.var 2) (.cst (.int 1009))))]⟩
-- calls of _law_more: 
-- slots of _law_more: 0:draws 1:place 2:mixed 3:k
def d_law_take : Def := ⟨3, 4, [],
 [(.asg false 3 (.cget 1)),
 (.cset 1 (.bin .add (.var 3) (.cst (.int 1)))),
 (.ret (.bin .mod (.b0 .int (.ife (.cmp .lt (.var 3) (.b0 .len (.var 0))) (.ix (.var 0) (.var 3)) (.call 1 [(.var 0), (.var 3)]))) (.var 2)))]⟩
-- calls of _law_take: 1:_law_more
-- slots of _law_take: 0:draws 1:at 2:many 3:place
def d_law_one : Def := ⟨3, 3, [],
 [(.ret (.ix (.var 0) (.call 2 [(.var 1), (.cellv 2), (.b0 .len (.var 0))])))]⟩
-- calls of _law_one: 2:_law_take
-- slots of _law_one: 0:rows 1:draws 2:at
def d_law_limits_right : Def := ⟨0, 2, [],
 [(.asg false 0 (.lst [(.cst c_MAX_NAME), (.cst c_MAX_KEYS), (.cst c_MAX_LAYERS), (.cst c_MAX_DEADS), (.cst c_MAX_WAIT), (.cst c_MAX_MACRO), (.cst c_MAX_DOWN), (.cst c_MAX_STATES), (.cst c_MAX_EVENTS)])),
 (.asg false 0 (.bin .add (.var 0) (.lst [(.cst c_MAX_TIME), (.cst c_MAX_TEXT), (.cst c_MAX_PAIRS), (.cst c_MAX_ROW_OF), (.cst c_MAX_TYPED), (.cst c_MAX_PLACES), (.cst c_MAX_READ), (.cst c_MAX_WAYS_OF), (.cst c_MAX_EFFORT)]))),
 (.asg false 0 (.bin .add (.var 0) (.lst [(.cst c_MAX_NESTED), (.cst c_MAX_ROWED), (.cst c_MAX_REPEATS), (.cst c_MAX_SPELT), (.cst c_MAX_FOLDED), (.cst c_MAX_LONG), (.cst c_MAX_SHORT), (.cst c_MAX_SHORTS), (.cst c_MAX_WRITTEN)]))),
 (.asg false 0 (.bin .add (.var 0) (.lst [(.cst c_MAX_ROW_SIGNS), (.cst c_MAX_TABLE), (.cst c_MAX_SOUGHT), (.cst c_MAX_OUTLINE), (.cst c_MAX_OUTLINES), (.cst c_MAX_STROKES), (.cst c_MAX_LOGS), (.cst c_MAX_SETS), (.cst c_MAX_EDITS)]))),
 (.asg false 0 (.bin .add (.var 0) (.lst [(.cst c_MAX_LINES), (.cst c_MAX_TESTS), (.cst c_MAX_CHANGED_ONES), (.cst c_MAX_ASKED), (.cst c_MAX_LOOKED), (.cst c_MAX_TEXTS), (.cst c_MAX_PRESSES), (.cst c_MAX_REST), (.cst c_MAX_ROWS)]))),
 (.asg false 0 (.bin .add (.var 0) (.lst [(.cst c_MAX_ACTIONS), (.cst c_MAX_LEARNT), (.cst c_MAX_ALPHABET), (.cst c_MAX_WORDS), (.cst c_MAX_FLIPS), (.cst c_MAX_COMMANDS), (.cst c_MAX_PLAYED), (.cst c_MAX_RECORDED), (.cst c_MAX_WIRES)]))),
 (.asg false 0 (.bin .add (.var 0) (.lst [(.cst c_MAX_CROSSED), (.cst c_MAX_SUBSETS), (.cst c_MAX_EDITED), (.cst c_MAX_SCREENS), (.cst c_MAX_STROKED), (.cst c_MAX_PADS), (.cst c_MAX_LETTERS), (.cst c_MAX_WORD_SIGNS), (.cst c_MAX_WORDS_KNOWN)]))),
 (.asg false 0 (.bin .add (.var 0) (.lst [(.cst c_MAX_FORETOLD), (.cst c_MAX_LEARNED), (.cst c_MAX_SHOWN), (.cst c_MAX_GRID), (.cst c_MAX_GLIDE), (.cst c_MAX_SCANNED), (.cst c_MAX_FREQUENCY), (.cst c_MAX_MERGED), (.cst c_MAX_EXERCISE)]))),
 (.asg false 0 (.bin .add (.var 0) (.lst [(.cst c_MAX_WORDS_OF), (.cst c_MAX_ABBREVIATED), (.cst c_MAX_CODED), (.cst c_MAX_ARRANGED), (.cst c_MAX_ORDERED), (.cst c_MAX_CAPS), (.cst c_MAX_ROUNDS), (.cst c_MAX_REPEATED), (.cst c_MAX_TYPED_OF)]))),
 (.asg false 1 (.lst [(.cst (.int 12)), (.cst (.int 8)), (.cst (.int 5)), (.cst (.int 24)), (.cst (.int 1000)), (.cst (.int 8)), (.cst (.int 3)), (.cst (.int 4000)), (.cst (.int 200)), (.cst (.int 1000000)), (.cst (.int 6000)), (.cst (.int 4000)), (.cst (.int 60)), (.cst (.int 12)), (.cst (.int 20000)), (.cst (.int 10)), (.cst (.int 4000)), (.cst (.int 1000)), (.cst (.int 12)), (.cst (.int 40)), (.cst (.int 1000)), (.cst (.int 4000))])),
 (.asg false 1 (.bin .add (.var 1) (.lst [(.cst (.int 24)), (.cst (.int 20)), (.cst (.int 6)), (.cst (.int 10)), (.cst (.int 40)), (.cst (.int 5)), (.cst (.int 24)), (.cst (.int 20000)), (.cst (.int 4)), (.cst (.int 24)), (.cst (.int 24)), (.cst (.int 8)), (.cst (.int 6)), (.cst (.int 200)), (.cst (.int 200)), (.cst (.int 24)), (.cst (.int 60)), (.cst (.int 40000)), (.cst (.int 20000)), (.cst (.int 4)), (.cst (.int 40)), (.cst (.int 10))]))),
 (.asg false 1 (.bin .add (.var 1) (.lst [(.cst (.int 8)), (.cst (.int 24)), (.cst (.int 400)), (.cst (.int 40)), (.cst (.int 6)), (.cst (.int 40)), (.cst (.int 60)), (.cst (.int 4000)), (.cst (.int 20)), (.cst (.int 8)), (.cst (.int 10)), (.cst (.int 2000)), (.cst (.int 12)), (.cst (.int 20000)), (.cst (.int 40)), (.cst (.int 10)), (.cst (.int 12)), (.cst (.int 12)), (.cst (.int 20)), (.cst (.int 20)), (.cst (.int 60)), (.cst (.int 5))]))),
 (.asg false 1 (.bin .add (.var 1) (.lst [(.cst (.int 5)), (.cst (.int 40)), (.cst (.int 30)), (.cst (.int 1000000)), (.cst (.int 6)), (.cst (.int 24)), (.cst (.int 12)), (.cst (.int 400)), (.cst (.int 4)), (.cst (.int 10)), (.cst (.int 6)), (.cst (.int 12)), (.cst (.int 1000000)), (.cst (.int 2000)), (.cst (.int 200))]))),
 (.ret (.cmp .eq (.b0 .repr (.var 0)) (.b0 .repr (.var 1))))]⟩
-- calls of _law_limits_right: 
-- slots of _law_limits_right: 0:told 1:due
def d_law_raise : Def := ⟨3, 3, [],
 [(.ife (.cmp .eq (.var 0) (.cst (.int 0))) [(.raise 2 [(.var 1)])] []),
 (.ife (.cmp .eq (.var 0) (.cst (.int 1))) [(.raise 3 [(.var 1)])] []),
 (.ife (.cmp .eq (.var 0) (.cst (.int 2))) [(.raise 4 [(.var 1)])] []),
 (.ife (.cmp .eq (.var 0) (.cst (.int 3))) [(.raise 5 [(.var 1)])] []),
 (.ife (.cmp .eq (.var 0) (.cst (.int 4))) [(.raise 6 [(.var 1)])] []),
 (.ife (.cmp .eq (.var 0) (.cst (.int 5))) [(.raise 7 [(.var 1), (.var 2)])] []),
 (.raise 8 [(.var 1)])]⟩
-- calls of _law_raise: 
-- slots of _law_raise: 0:k 1:one 2:other
def d_law_kinds : Def := ⟨1, 2, [],
 [(.asg false 1 (.lst [(.exi 0 "ArgumentError"), (.exi 0 "PaperError"), (.exi 0 "TooMany"), (.exi 0 "CheckError")])),
 (.ret (.bin .add (.var 1) (.lst [(.exi 0 "TextError"), (.exi 0 "LogError"), (.exi 0 "CommandError")])))]⟩
-- calls of _law_kinds: 
-- slots of _law_kinds: 0:e 1:plain
def d_law_caught : Def := ⟨3, 4, [],
 [(.tryE [(.ex (.call 5 [(.var 0), (.var 1), (.var 2)]))] [(.mk "KeysError" 3 [(.ret (.ife (.exi 3 "ValueError") (.callX 6 3) (.lst [])))])]),
 (.ret (.lst []))]⟩
-- calls of _law_caught: 5:_law_raise 6:_law_kinds
-- slots of _law_caught: 0:k 1:one 2:other 3:e
def d_law_fields : Def := ⟨3, 4, [],
 [(.tryE [(.ex (.call 5 [(.var 0), (.var 1), (.var 2)]))] [(.mk "ArgumentError" 3 [(.ret (.tup [(.exa 3 "reason")]))]), (.mk "PaperError" 3 [(.ret (.tup [(.exa 3 "reason")]))]), (.mk "TooMany" 3 [(.ret (.tup [(.exa 3 "reason")]))]), (.mk "CheckError" 3 [(.ret (.tup [(.exa 3 "reason")]))]), (.mk "TextError" 3 [(.ret (.tup [(.exa 3 "at")]))]), (.mk "LogError" 3 [(.ret (.tup [(.exa 3 "number"), (.exa 3 "reason")]))]), (.mk "CommandError" 3 [(.ret (.tup [(.exa 3 "line")]))])]),
 (.ret (.cst (.none)))]⟩
-- calls of _law_fields: 5:_law_raise
-- slots of _law_fields: 0:k 1:one 2:other 3:e
def d_law : Def := ⟨1, 8, [],
 [(.asg false 1 (.call 0 [(.var 0)])),
 (.mkCell 2),
 (.ife (.not (.call 4 [])) [(.ret (.cst (.bool false)))] []),
 (.asg false 3 (.lst [(.cst (.str "word")), (.cst (.str "")), (.cst (.str "form")), (.cst (.int 0)), (.cst (.int 17)), (.neg (.cst (.int 3))), (.cst (.none)), (.tup [(.cst (.str "a")), (.cst (.int 5))]), (.cst (.str "a line")), (.cst (.bool true))])),
 (.for (.nm 4) (.rng [(.cst (.int 7))]) [(.par [5, 6] [(.call 3 [(.var 3), (.var 1), (.cellv 2)]), (.call 3 [(.var 3), (.var 1), (.cellv 2)])]),
 (.ife (.cmp .ne (.call 7 [(.var 4), (.var 5), (.var 6)]) (.lc (.cmp .eq (.var 7) (.var 4)) (.nm 7) (.rng [(.cst (.int 7))]) none [7])) [(.ret (.cst (.bool false)))] []),
 (.ife (.cmp .ne (.b0 .repr (.call 8 [(.var 4), (.var 5), (.var 6)])) (.b0 .repr (.ife (.cmp .eq (.var 4) (.cst (.int 5))) (.tup [(.var 5), (.var 6)]) (.tup [(.var 5)])))) [(.ret (.cst (.bool false)))] [])]),
 (.ret (.cst (.bool true)))]⟩
-- calls of law: 0:_law_draws 3:_law_one 4:_law_limits_right 7:_law_caught 8:_law_fields
-- slots of law: 0:script 1:draws 2:at 3:values 4:k 5:one 6:other 7:j
def row_0 : XRow := ⟨"KeysError", [("KeysError", true), ("ReasonError", false), ("ArgumentError", false), ("PaperError", false), ("TooMany", false), ("CheckError", false), ("TextError", false), ("LogError", false), ("CommandError", false), ("ValueError", true)], []⟩
def row_1 : XRow := ⟨"ReasonError", [("KeysError", true), ("ReasonError", true), ("ArgumentError", false), ("PaperError", false), ("TooMany", false), ("CheckError", false), ("TextError", false), ("LogError", false), ("CommandError", false), ("ValueError", true)], ["reason"]⟩
def row_2 : XRow := ⟨"ArgumentError", [("KeysError", true), ("ReasonError", true), ("ArgumentError", true), ("PaperError", false), ("TooMany", false), ("CheckError", false), ("TextError", false), ("LogError", false), ("CommandError", false), ("ValueError", true)], ["reason"]⟩
def row_3 : XRow := ⟨"PaperError", [("KeysError", true), ("ReasonError", true), ("ArgumentError", false), ("PaperError", true), ("TooMany", false), ("CheckError", false), ("TextError", false), ("LogError", false), ("CommandError", false), ("ValueError", true)], ["reason"]⟩
def row_4 : XRow := ⟨"TooMany", [("KeysError", true), ("ReasonError", true), ("ArgumentError", false), ("PaperError", false), ("TooMany", true), ("CheckError", false), ("TextError", false), ("LogError", false), ("CommandError", false), ("ValueError", true)], ["reason"]⟩
def row_5 : XRow := ⟨"CheckError", [("KeysError", true), ("ReasonError", true), ("ArgumentError", false), ("PaperError", false), ("TooMany", false), ("CheckError", true), ("TextError", false), ("LogError", false), ("CommandError", false), ("ValueError", true)], ["reason"]⟩
def row_6 : XRow := ⟨"TextError", [("KeysError", true), ("ReasonError", false), ("ArgumentError", false), ("PaperError", false), ("TooMany", false), ("CheckError", false), ("TextError", true), ("LogError", false), ("CommandError", false), ("ValueError", true)], ["at"]⟩
def row_7 : XRow := ⟨"LogError", [("KeysError", true), ("ReasonError", false), ("ArgumentError", false), ("PaperError", false), ("TooMany", false), ("CheckError", false), ("TextError", false), ("LogError", true), ("CommandError", false), ("ValueError", true)], ["number", "reason"]⟩
def row_8 : XRow := ⟨"CommandError", [("KeysError", true), ("ReasonError", false), ("ArgumentError", false), ("PaperError", false), ("TooMany", false), ("CheckError", false), ("TextError", false), ("LogError", false), ("CommandError", true), ("ValueError", true)], ["line"]⟩
-- own 0:ValueError
-- own 1:ReasonError
-- own 2:ReasonError
-- own 3:ReasonError
-- own 4:ReasonError
-- own 5:ReasonError
-- own 6:TextError
-- own 7:LogError
-- own 8:CommandError
def flds : List XRow := [row_0, row_1, row_2, row_3, row_4, row_5, row_6, row_7, row_8]
-- classes: KeysError ReasonError ArgumentError PaperError TooMany CheckError TextError LogError CommandError
-- defs: 0:_law_draws 1:_law_more 2:_law_take 3:_law_one 4:_law_limits_right 5:_law_raise 6:_law_kinds 7:_law_caught 8:_law_fields 9:law
def defs : List Def := [d_law_draws, d_law_more, d_law_take, d_law_one, d_law_limits_right, d_law_raise, d_law_kinds, d_law_caught, d_law_fields, d_law]
end Lk00

namespace K00
open PySem MP Lk00 LC
local macro_rules | `(tactic| walk_at "x1") => `(tactic| first
  | ((with_reducible refine' y_nextN ?w1 ?_); (case w1 => ((repeat (apply nrm_c rfl)); first | exact nrm_n rfl | exact rfl)))
  | ((with_reducible refine' asgP_nf ?w1 ?_); (case w1 => exact rfl))
  | ((with_reducible refine' asgO_f ?w1 ?_); (case w1 => exact rfl))
  | ((with_reducible refine' asgOO_f ?w1 ?_); (case w1 => exact rfl))
  | ((with_reducible refine' w_acell ?w1 ?_); (case w1 => exact rfl))
  | (with_reducible refine w_acons rfl ?_)
  | ((with_reducible refine' y_augP ?w1 ?_); (case w1 => exact rfl))
  | ((with_reducible refine' y_augL ?w1 ?_); (case w1 => exact rfl))
  | ((with_reducible refine' y_augIx ?w1 ?_); (case w1 => exact rfl)))
local macro_rules | `(tactic| walk_at "e") => `(tactic| ((with_reducible refine' Exists.intro _ (And.intro ?w1 ?_)); (case w1 => first | with_reducible assumption | ((with_reducible refine' chg_eq ?c1 ?c2); (case c1 => exact rfl); (case c2 => first | with_reducible assumption | exact rfl)) | ((with_reducible refine' chg2_eq ?c1 ?c2); (case c1 => exact rfl); (case c2 => first | with_reducible assumption | exact rfl)) | exact rfl | (with_reducible apply_assumption))))
local macro_rules | `(tactic| walk_at "i") => `(tactic| first | ((with_reducible refine' ite_t ?w1 ?_); (case w1 => with_reducible assumption)) | ((with_reducible refine' ite_f ?w1 ?_); (case w1 => with_reducible assumption)) | ((with_reducible refine' ite_t ?w1 ?_); (case w1 => exact rfl)) | ((with_reducible refine' ite_f ?w1 ?_); (case w1 => exact rfl)))
local macro_rules | `(tactic| walk_at "a") => `(tactic| ((with_reducible refine' And.intro ?w1 ?_); (case w1 => first | exact rfl | with_reducible assumption)))
local macro_rules | `(tactic| walk_at "b") => `(tactic| (refine' y_bodyN ?w1 ?w2 ?_; (case w1 => exact rfl); (case w2 => ((repeat (apply nrm_c rfl)); first | exact nrm_n rfl | exact rfl))))
local macro_rules | `(tactic| walk_at "st") => `(tactic| (unfold st; simp only [d_law, List.getD_cons_succ, List.getD_cons_zero]))
local macro_rules | `(tactic| walk_at "w") => `(tactic| repeat (first | (with_reducible refine wr ?_) | walk_at "e" | walk_at "i" | walk_at "x1" | walk_at "a"))
theorem le_ex {a m : Nat} (h : a ≤ m) : ∃ k, m = k + a := ⟨m - a, by omega⟩
theorem r_more (wf m : Nat) (hm : 1 ≤ m) (ds : List Int) (place : Int) (n : Option Int) (P : MP.D → Option Int → Prop) (h : ∀ z : Int, P (.int z) n) : Wp (callN defs flds wf m 1 [.p (eIs ds), .p (.int place)]) n P := by
  obtain ⟨m, rfl⟩ := le_ex hm
  exact wp_call d_law_more rfl (w_more _ ds place n _ fun z => ⟨rfl, h z⟩)
theorem r_take (wf m : Nat) (hm : 2 ≤ m) (ds : List Int) (many : Nat) (hp : 0 < many) (k : Nat) (P : MP.D → Option Int → Prop) (h : ∀ v : Nat, v < many → P (SN v) (some ((k + 1 : Nat) : Int))) : Wp (callN defs flds wf m 2 [.p (eIs ds), .cell, .p (SN many)]) (some (k : Int)) P := by
  obtain ⟨m, rfl⟩ := le_ex (show 1 ≤ m by omega)
  exact wp_call d_law_take rfl (w_take _ 1 (fun ds place n P h => r_more wf m (by omega) ds place n P h) ds many hp k _ fun v hv => ⟨rfl, h v hv⟩)
theorem r_one (wf m : Nat) (hm : 3 ≤ m) (rows : List PyData) (hr : 0 < rows.length) (ds : List Int) (k : Nat) (P : MP.D → Option Int → Prop) (h : ∀ x ∈ rows, P x (some ((k + 1 : Nat) : Int))) : Wp (callN defs flds wf m 3 [.p (.list rows), .p (eIs ds), .cell]) (some (k : Int)) P := by
  obtain ⟨m, rfl⟩ := le_ex (show 1 ≤ m by omega)
  exact wp_call d_law_one rfl (w_one _ 2 rows (eIs ds) hr k (fun P h => r_take wf m (by omega) ds rows.length hr k P h) _ fun v x e => ⟨rfl, h x (List.mem_of_getElem? e)⟩)
theorem r_draws (wf m : Nat) (hm : 1 ≤ m) (script : List Int) (hs : script.length ≤ 63) (n : Option Int) (P : MP.D → Option Int → Prop) (h : ∀ ds : List Int, P (eIs ds) n) : Wp (callN defs flds wf m 0 [.p (eIs script)]) n P := by
  obtain ⟨m, rfl⟩ := le_ex hm
  exact wp_call d_law_draws rfl (w_draws _ script hs n _ fun ds => ⟨rfl, h ds⟩)
def values : List PyData := [.str "word", .str "", .str "form", .int 0, .int 17, .int (-3), .none, .tuple [.str "a", .int 5], .str "a line", .bool true]
theorem limits (wf m : Nat) (q : Int) : callN defs flds wf (m + 1) 4 [] (some q) = .ok (.bool true) (some q) := by kernel_rfl
theorem seven {k : Nat} (h : k < 7) : k = 0 ∨ k = 1 ∨ k = 2 ∨ k = 3 ∨ k = 4 ∨ k = 5 ∨ k = 6 := by omega
def kinds (k : Nat) : PyData := .list ((List.range 7).map fun j => .bool (decide (j = k)))
theorem caught (wf m : Nat) (q : Int) (k : Nat) (hk : k < 7) (one other : PyData) (h1 : one ∈ values) (h2 : other ∈ values) : callN defs flds wf (m + 3) 7 [.p (SN k), .p one, .p other] (some q) = .ok (kinds k) (some q) := by
  simp only [values, List.mem_cons, List.not_mem_nil, or_false] at h1 h2
  rcases seven hk with rfl | rfl | rfl | rfl | rfl | rfl | rfl <;> rcases h1 with rfl | rfl | rfl | rfl | rfl | rfl | rfl | rfl | rfl | rfl <;> rcases h2 with rfl | rfl | rfl | rfl | rfl | rfl | rfl | rfl | rfl | rfl <;> kernel_rfl
def fieldsD (k : Nat) (one other : PyData) : PyData := if k = 5 then .tuple [one, other] else .tuple [one]
theorem fields (wf m : Nat) (q : Int) (k : Nat) (hk : k < 7) (one other : PyData) (h1 : one ∈ values) (h2 : other ∈ values) : callN defs flds wf (m + 3) 8 [.p (SN k), .p one, .p other] (some q) = .ok (fieldsD k one other) (some q) := by
  simp only [values, List.mem_cons, List.not_mem_nil, or_false] at h1 h2
  rcases seven hk with rfl | rfl | rfl | rfl | rfl | rfl | rfl <;> rcases h1 with rfl | rfl | rfl | rfl | rfl | rfl | rfl | rfl | rfl | rfl <;> rcases h2 with rfl | rfl | rfl | rfl | rfl | rfl | rfl | rfl | rfl | rfl <;> kernel_rfl
theorem repr2 (one other : PyData) (h1 : one ∈ values) (h2 : other ∈ values) : b0E .repr (.tuple [one, other]) = some (.str (PyData.tuple [one, other]).shown) := by
  simp only [values, List.mem_cons, List.not_mem_nil, or_false] at h1 h2
  rcases h1 with rfl | rfl | rfl | rfl | rfl | rfl | rfl | rfl | rfl | rfl <;> rcases h2 with rfl | rfl | rfl | rfl | rfl | rfl | rfl | rfl | rfl | rfl <;> kernel_rfl
theorem repr1 (one : PyData) (h1 : one ∈ values) : b0E .repr (.tuple [one]) = some (.str (PyData.tuple [one]).shown) := by
  simp only [values, List.mem_cons, List.not_mem_nil, or_false] at h1
  rcases h1 with rfl | rfl | rfl | rfl | rfl | rfl | rfl | rfl | rfl | rfl <;> kernel_rfl
end K00

namespace K00
open PySem MP Lk00 LC
local macro_rules | `(tactic| walk_at "x1") => `(tactic| first
  | ((with_reducible refine' y_nextN ?w1 ?_); (case w1 => ((repeat (apply nrm_c rfl)); first | exact nrm_n rfl | exact rfl)))
  | ((with_reducible refine' asgP_nf ?w1 ?_); (case w1 => exact rfl))
  | ((with_reducible refine' asgO_f ?w1 ?_); (case w1 => exact rfl))
  | ((with_reducible refine' asgOO_f ?w1 ?_); (case w1 => exact rfl))
  | ((with_reducible refine' w_acell ?w1 ?_); (case w1 => exact rfl))
  | (with_reducible refine w_acons rfl ?_)
  | ((with_reducible refine' y_augP ?w1 ?_); (case w1 => exact rfl))
  | ((with_reducible refine' y_augL ?w1 ?_); (case w1 => exact rfl))
  | ((with_reducible refine' y_augIx ?w1 ?_); (case w1 => exact rfl)))
local macro_rules | `(tactic| walk_at "e") => `(tactic| ((with_reducible refine' Exists.intro _ (And.intro ?w1 ?_)); (case w1 => first | with_reducible assumption | ((with_reducible refine' chg_eq ?c1 ?c2); (case c1 => exact rfl); (case c2 => first | with_reducible assumption | exact rfl)) | ((with_reducible refine' chg2_eq ?c1 ?c2); (case c1 => exact rfl); (case c2 => first | with_reducible assumption | exact rfl)) | exact rfl | (with_reducible apply_assumption))))
local macro_rules | `(tactic| walk_at "i") => `(tactic| first | ((with_reducible refine' ite_t ?w1 ?_); (case w1 => with_reducible assumption)) | ((with_reducible refine' ite_f ?w1 ?_); (case w1 => with_reducible assumption)) | ((with_reducible refine' ite_t ?w1 ?_); (case w1 => exact rfl)) | ((with_reducible refine' ite_f ?w1 ?_); (case w1 => exact rfl)))
local macro_rules | `(tactic| walk_at "a") => `(tactic| ((with_reducible refine' And.intro ?w1 ?_); (case w1 => first | exact rfl | with_reducible assumption)))
local macro_rules | `(tactic| walk_at "b") => `(tactic| (refine' y_bodyN ?w1 ?w2 ?_; (case w1 => exact rfl); (case w2 => ((repeat (apply nrm_c rfl)); first | exact nrm_n rfl | exact rfl))))
local macro_rules | `(tactic| walk_at "st") => `(tactic| (unfold st; simp only [d_law, List.getD_cons_succ, List.getD_cons_zero]))
local macro_rules | `(tactic| walk_at "w") => `(tactic| repeat (first | (with_reducible refine wr ?_) | walk_at "e" | walk_at "i" | walk_at "x1" | walk_at "a"))
theorem ne_str (a b : Str) : cpE .ne (PyData.str a) (PyData.str b) = some (!decide (a = b)) := by
  show lftIf (dNoDict (PyData.str a) && dNoDict (PyData.str b)) (!PyData.eqv (PyData.str a) (PyData.str b)) = _
  simp [PyData.eqv, dNoDict, PyData.hasDict, PyData.depth, lftIf, Bool.beq_eq_decide_eq]
def lawB : List S := match d_law.body with
  | [_, _, _, _, .for _ _ b, _] => b
  | _ => []
theorem turn (wf m : Nat) (hm : 3 ≤ m) (S0 : PyData) (ds : List Int) (k : Nat) (hk : k < 7) (s3 : MP.Slot) (hs3 : s3 = .o (.list values) ∨ s3 = .p (.list values)) (j5 j6 j7 : Option MP.Slot) (q : Nat) (P : Ev × Fl → Option Int → Prop)
    (h : ∀ (q : Nat) j5 j6, P ([some (.p S0), some (.p (eIs ds)), some .cell, some (.p (.list values)), some (.p (SN k)), j5, j6, j7], .next) (some (q : Int))) :
    Wp (evSs ⟨callN defs flds wf m, wf, flds⟩ lawB [some (.p S0), some (.p (eIs ds)), some .cell, some s3, some (.p (SN k)), j5, j6, j7]) (some (q : Int)) P := by
  rw [lawB, d_law]
  have hr7 : rngE [.int 7] = some ((List.range 7).map SN) := rng_c 7 (by decide)
  have he : ∀ k : Nat, cpE .eq (SN k) (.int 5) = some (decide (k = 5)) := fun k => by
    show some (decide ((k : Int) = 5)) = _
    congr 1
    exact decide_eq_decide.mpr (by omega)
  have hek := he k
  have go : ∀ s3 : MP.Slot, getD [some (.p S0), some (.p (eIs ds)), some .cell, some s3, some (.p (SN k)), j5, j6, j7] 3 = some (.list values) → (frzAll [some (.p S0), some (.p (eIs ds)), some .cell, some s3, some (.p (SN k)), j5, j6, j7] (escL [(.call 3 [(.var 3), (.var 1), (.cellv 2)]), (.call 3 [(.var 3), (.var 1), (.cellv 2)])]) (alL [(.call 3 [(.var 3), (.var 1), (.cellv 2)]), (.call 3 [(.var 3), (.var 1), (.cellv 2)])])) = [some (.p S0), some (.p (eIs ds)), some .cell, some (.p (.list values)), some (.p (SN k)), j5, j6, j7] →
      Wp (evSs ⟨callN defs flds wf m, wf, flds⟩ [(.par [5, 6] [(.call 3 [(.var 3), (.var 1), (.cellv 2)]), (.call 3 [(.var 3), (.var 1), (.cellv 2)])]),
 (.ife (.cmp .ne (.call 7 [(.var 4), (.var 5), (.var 6)]) (.lc (.cmp .eq (.var 7) (.var 4)) (.nm 7) (.rng [(.cst (.int 7))]) none [7])) [(.ret (.cst (.bool false)))] []),
 (.ife (.cmp .ne (.b0 .repr (.call 8 [(.var 4), (.var 5), (.var 6)])) (.b0 .repr (.ife (.cmp .eq (.var 4) (.cst (.int 5))) (.tup [(.var 5), (.var 6)]) (.tup [(.var 5)])))) [(.ret (.cst (.bool false)))] [])] [some (.p S0), some (.p (eIs ds)), some .cell, some s3, some (.p (SN k)), j5, j6, j7]) (some (q : Int)) P := by
    intro s3 g3 fz
    refine y_cons (y_par (w_cons (w_call (w_acons rfl (w_var g3 (w_acons rfl (w_var rfl (w_acell rfl (w_anil ?_)))))))))
    refine r_one wf m hm values (by decide) ds q _ fun one h1 => ?_
    refine w_cons (w_call (w_acons rfl (w_var g3 (w_acons rfl (w_var rfl (w_acell rfl (w_anil ?_)))))))
    refine r_one wf m hm values (by decide) ds _ _ fun other h2 => ?_
    rw [fz]
    refine w_nil ⟨_, rfl, ?_⟩
    refine y_nextN (ρ' := [some (.p S0), some (.p (eIs ds)), some .cell, some (.p (.list values)), some (.p (SN k)), some (.p one), some (.p other), j7]) rfl ?_
    have hne : cpE .ne (kinds k) (kinds k) = some false := by
      rcases seven hk with rfl | rfl | rfl | rfl | rfl | rfl | rfl <;> rfl
    obtain ⟨m, rfl⟩ := le_ex hm
    refine y_cons (y_ife (w_cmp (w_call ?_)))
    walk_at "w"
    refine eq_wp (caught wf m _ k hk one other h1 h2) ?_
    refine w_lcM SN (List.range 7) (fun j => some (.bool (decide (j = k)))) (w_rng (w_cons (w_cst (w_nil ⟨_, hr7, rfl, rfl⟩)))) rfl (fun j hj n => ?_) ?_
    · refine w_lcB rfl ?_
      have e : cpE .eq (SN j) (SN k) = some (decide (j = k)) := by
        show some (decide ((j : Int) = (k : Int))) = _
        congr 1
        exact decide_eq_decide.mpr Int.ofNat_inj
      walk_at "w"
      first | rfl | exact ⟨rfl, rfl⟩
    · rw [List.filterMap_eq_map']
      refine ⟨_, hne, ite_f rfl (y_nil (y_next ?_))⟩
      refine y_cons (y_ife (w_cmp (w_b0 (w_call ?_))))
      walk_at "w"
      refine eq_wp (fields wf m _ k hk one other h1 h2) ?_
      have hs := ne_str (fieldsD k one other).shown (fieldsD k one other).shown
      rw [decide_eq_true rfl] at hs
      by_cases e5 : k = 5
      · rw [decide_eq_true e5] at hek
        have e : fieldsD k one other = .tuple [one, other] := by unfold fieldsD; rw [if_pos e5]
        have hrep := repr2 one other h1 h2
        rw [e] at hs ⊢
        refine ⟨_, hrep, w_b0 ?_⟩
        walk_at "w"
        exact h _ _ _
      · rw [decide_eq_false e5] at hek
        have e : fieldsD k one other = .tuple [one] := by unfold fieldsD; rw [if_neg e5]
        have hrep := repr1 one h1
        rw [e] at hs ⊢
        refine ⟨_, hrep, w_b0 ?_⟩
        walk_at "w"
        exact h _ _ _
  rcases hs3 with rfl | rfl
  · exact go _ rfl rfl
  · exact go _ rfl rfl
theorem law_gen (wf m : Nat) (hm : 3 ≤ m) (ns : List Int) (hl : ns.length ≤ 63) : Wp (bodyDef ⟨callN defs flds wf m, wf, flds⟩ d_law [.p (eIs ns)]) none fun d _ => d = .bool true := by
  refine y_body (ρ0 := [some (.p (eIs ns)), none, none, none, none, none, none, none]) rfl ?_
  rw [d_law]
  refine y_cons (asgP_nf rfl (w_call ?_))
  walk_at "w"
  refine r_draws wf m (by omega) ns hl _ _ fun ds => ?_
  refine y_nextN (ρ' := [some (.p (eIs ns)), some (.p (eIs ds)), none, none, none, none, none, none]) rfl ?_
  refine y_cons (y_mkCell ?_)
  refine y_nextN (ρ' := [some (.p (eIs ns)), some (.p (eIs ds)), some .cell, none, none, none, none, none]) rfl ?_
  refine y_cons (y_ife (w_not (w_call (w_anil ?_))))
  obtain ⟨m, rfl⟩ := le_ex (show 1 ≤ m by omega)
  refine eq_wp (limits wf m 0) ?_
  refine ite_f rfl (y_nil ?_)
  have hr7 : rngE [.int 7] = some ((List.range 7).map SN) := rng_c 7 (by decide)
  walk_at "w"
  clear hr7
  refine wp_forS (fun xs ρ n' => ∃ (q : Nat) (rest : List Nat) (s3 : MP.Slot) (j4 j5 j6 : Option MP.Slot), n' = some (q : Int) ∧ xs = rest.map SN ∧ (∀ k ∈ rest, k < 7) ∧ (s3 = .o (.list values) ∨ s3 = .p (.list values)) ∧ ρ = [some (.p (eIs ns)), some (.p (eIs ds)), some .cell, some s3, j4, j5, j6, none]) ?_ ?_ _ _ _ ⟨0, List.range 7, .o (.list values), none, none, none, rfl, rfl, fun k hk => List.mem_range.mp hk, .inl rfl, rfl⟩
  · rintro x xs ρ n ⟨q, rest, s3, j4, j5, j6, rfl, ex, hr, hs3, rfl⟩
    match rest, ex with
    | k :: rest, ex =>
      rw [List.map_cons] at ex
      obtain ⟨rfl, rfl⟩ := List.cons.inj ex
      refine y_forB ⟨_, rfl, ?_⟩
      exact turn wf (m + 1) (by omega) (eIs ns) ds k (hr k List.mem_cons_self) s3 hs3 j5 j6 none q _ fun q j5 j6 => ⟨q, rest, _, _, _, _, rfl, rfl, fun z hz => hr z (List.mem_cons_of_mem _ hz), .inr rfl, rfl⟩
  · rintro ρ n ⟨q, rest, s3, j4, j5, j6, rfl, ex, hr, hs3, rfl⟩
    walk_at "w"
    rfl
theorem law_true (ns : List Int) (hl : ns.length ≤ 63) : Wp (bodyDef ⟨callN defs flds 300 4, 300, flds⟩ d_law [.p (eIs ns)]) none fun d _ => d = .bool true := law_gen 300 4 (by omega) ns hl
end K00

namespace Tk00
open PySem PySem.Spec L2 MP
open PyProof.Rows hiding St
def top (i : Nat) : Stmt := PySem.Challenge.pw_keywrought_k00_errors_and_limits.main.body.getD i (.Pass ⟨0, 0, 0, 0⟩)
abbrev FnP (K : PySem.W.Frag) (x : Str) (st : Stmt) (dvs : List V) (f : Addr) (fd : FuncData) : Prop := FunD K x x (defArgs st) (defBody st) (defScope st) dvs [] f fd
section
variable {P : Program} {w : World} {K : PySem.W.Frag} {mg : Str → Option Value} {base : Heap} {f fT : Addr} {dvs : List V} {fd fdT : FuncData} {defs : List MP.Def} {flds : List XRow} {wf : Nat}
theorem sc_law_draws : FnScope ["script", "draws", "cell", "rest", "k", "mixed"] ["script"] (defScope (top 92)) := ⟨rfl, rfl, rfl, by decide +kernel, rfl, by decide +kernel, by decide +kernel⟩
theorem ok_law_draws (F : FnP K "_law_draws" (top 92) dvs f fd) (g_abs : mg "abs" = none) (g_int : mg "int" = none) (g_range : mg "range" = none) (hd : defs[0]? = some Lk00.d_law_draws) : ∀ m, FnG P w K mg base 1 f fd ["script"] (spF P w K mg 1 (callN defs flds wf m 0)) := by
  refine fn_ok (k := 0) F sc_law_draws hd rfl (by decide) rfl fun m cdv A outer s H E hr => ?_
  have hu := room_u hr
  have hgd := hr.g
  have hN := sc_law_draws.nd
  have hp := hp_of (P := P) (w := w) (K := K) (mg := mg) (base := base) (N := ["script", "draws", "cell", "rest", "k", "mixed"]) (qual := "_law_draws") (scope := defScope (top 92)) (f := f) (cdv := cdv) (A := A) (outer := outer) (s := s) (H := H) (E := E)
  exact (xs_cons (rasg 1 hN (rlst ss_nil))
 (xs_cons (rfor0 rfl hp rfl (si_of (rsl (rvar 0) so_none (so_some rint)) rfl) (gnm 2 hN)
 (xs_cons (rasg 3 hN (rabs (rvar 2) g_abs))
 (xs_cons (rife' (tcmp (c_ge) (rvar 3) (rbin v_pow rint rint))
 (xs_cons (rfor0 rfl hp rfl (si_rng1 rfl g_range (rcons rint ss_nil)) (gnm 4 hN)
 (xs_cons (rife' (tcmp (c_gt) (rvar 3) rint)
 (xs_cons (rapp 1 (rbin v_mod (rintc (rvar 3) g_int) rint))
 (xs_cons (rasg 3 hN (rbin v_fdiv (rvar 3) rint))
 xs_nil))
 xs_nil)
 xs_nil))
 xs_nil)
 (xs_cons (rasg 5 hN (rbin v_mod (rintc (rbin v_add (rbin v_mul (rvar 3) rint) rint) g_int) rint))
 (xs_cons (rfor0 rfl hp rfl (si_rng1 rfl g_range (rcons rint ss_nil)) (gnm 4 hN)
 (xs_cons (rasg 5 hN (rbin v_mod (rintc (rbin v_add (rbin v_add (rbin v_mul (rvar 5) rint) (rbin v_mul rint (rvar 4))) rint) g_int) rint))
 (xs_cons (rapp 1 (rbin v_fdiv (rvar 5) rint))
 xs_nil)))
 xs_nil)))
 xs_nil)))
 (xs_cons (x_ret (rvar 1))
 xs_nil)))
theorem sc_law_more : FnScope ["draws", "place", "mixed", "k"] ["draws", "place"] (defScope (top 93)) := ⟨rfl, rfl, rfl, by decide +kernel, rfl, by decide +kernel, by decide +kernel⟩
theorem ok_law_more (F : FnP K "_law_more" (top 93) dvs f fd) (g_int : mg "int" = none) (g_len : mg "len" = none) (g_range : mg "range" = none) (hd : defs[1]? = some Lk00.d_law_more) : ∀ m, FnG P w K mg base 1 f fd ["draws", "place"] (spF P w K mg 2 (callN defs flds wf m 1)) := by
  refine fn_ok (k := 0) F sc_law_more hd rfl (by decide) rfl fun m cdv A outer s H E hr => ?_
  have hu := room_u hr
  have hgd := hr.g
  have hN := sc_law_more.nd
  have hp := hp_of (P := P) (w := w) (K := K) (mg := mg) (base := base) (N := ["draws", "place", "mixed", "k"]) (qual := "_law_more") (scope := defScope (top 93)) (f := f) (cdv := cdv) (A := A) (outer := outer) (s := s) (H := H) (E := E)
  exact (xs_cons (rasg 2 hN (rbin v_mod (rintc (rbin v_add (rbin v_add (rbin v_mul (rvar 1) rint) (rlen (rvar 0) g_len)) rint) g_int) rint))
 (xs_cons (rfor0 rfl hp rfl (si_rng1 rfl g_range (rcons rint ss_nil)) (gnm 3 hN)
 (xs_cons (rife' (rtruth (rvar 0))
 (xs_cons (rasg 2 hN (rbin v_add (rvar 2) (rix hu (rvar 0) (rbin v_mod (rintc (rbin v_add (rbin v_mul (rvar 1) (rbin v_add (rvar 3) rint)) (rvar 3)) g_int) (rlen (rvar 0) g_len)))))
 xs_nil)
 xs_nil)
 (xs_cons (rasg 2 hN (rbin v_mod (rintc (rbin v_add (rbin v_add (rbin v_mul (rvar 2) rint) (rbin v_mul rint (rvar 3))) rint) g_int) rint))
 xs_nil)))
 (xs_cons (x_ret (rbin v_fdiv (rvar 2) rint))
 xs_nil)))
theorem sc_law_take : FnScope ["draws", "at", "many", "place"] ["draws", "at", "many"] (defScope (top 94)) := ⟨rfl, rfl, rfl, by decide +kernel, rfl, by decide +kernel, by decide +kernel⟩
theorem ok_law_take (F : FnP K "_law_take" (top 94) dvs f fd) (g_int : mg "int" = none) (g_len : mg "len" = none) (G1 : DefOk P w K mg base defs flds wf "_law_more" 1 2 1) (hd : defs[2]? = some Lk00.d_law_take) : ∀ m, FnG P w K mg base 2 f fd ["draws", "at", "many"] (spF P w K mg 3 (callN defs flds wf m 2)) := by
  refine fn_ok (k := 1) F sc_law_take hd rfl (by decide) rfl fun m cdv A outer s H E hr => ?_
  have hu := room_u hr
  have hgd := hr.g
  have hN := sc_law_take.nd
  have hp := hp_of (P := P) (w := w) (K := K) (mg := mg) (base := base) (N := ["draws", "at", "many", "place"]) (qual := "_law_take") (scope := defScope (top 94)) (f := f) (cdv := cdv) (A := A) (outer := outer) (s := s) (H := H) (E := E)
  exact (xs_cons (rasg 3 hN (rcget 1 pe_int))
 (xs_cons (rcset 1 (rbin v_add (rvar 3) rint) pe_int)
 (xs_cons (x_ret (rbin v_mod (rintc (rife (tcmp (c_lt) (rvar 3) (rlen (rvar 0) g_len)) (rix hu (rvar 0) (rvar 3)) (rcall G1 (hr.mono (by decide)) (racons (rvar 0) (racons (rvar 3) sa_nil)))) g_int) (rvar 2)))
 xs_nil)))
theorem sc_law_one : FnScope ["rows", "draws", "at"] ["rows", "draws", "at"] (defScope (top 95)) := ⟨rfl, rfl, rfl, by decide +kernel, rfl, by decide +kernel, by decide +kernel⟩
theorem ok_law_one (F : FnP K "_law_one" (top 95) dvs f fd) (g_len : mg "len" = none) (G2 : DefOk P w K mg base defs flds wf "_law_take" 2 3 2) (hd : defs[3]? = some Lk00.d_law_one) : ∀ m, FnG P w K mg base 3 f fd ["rows", "draws", "at"] (spF P w K mg 3 (callN defs flds wf m 3)) := by
  refine fn_ok (k := 2) F sc_law_one hd rfl (by decide) rfl fun m cdv A outer s H E hr => ?_
  have hu := room_u hr
  have hgd := hr.g
  have hN := sc_law_one.nd
  have hp := hp_of (P := P) (w := w) (K := K) (mg := mg) (base := base) (N := ["rows", "draws", "at"]) (qual := "_law_one") (scope := defScope (top 95)) (f := f) (cdv := cdv) (A := A) (outer := outer) (s := s) (H := H) (E := E)
  exact (xs_cons (x_ret (rix hu (rvar 0) (rcall G2 (hr.mono (by decide)) (racons (rvar 1) (racell 2 (racons (rlen (rvar 0) g_len) sa_nil))))))
 xs_nil)
theorem sc_law_limits_right : FnScope ["told", "due"] [] (defScope (top 96)) := ⟨rfl, rfl, rfl, by decide +kernel, rfl, by decide +kernel, by decide +kernel⟩
theorem ok_law_limits_right (F : FnP K "_law_limits_right" (top 96) dvs f fd) (g_repr : mg "repr" = none) {t_MAX_ABBREVIATED : Tok} (k_MAX_ABBREVIATED : mg "MAX_ABBREVIATED" = some (.int 400 t_MAX_ABBREVIATED)) {t_MAX_ACTIONS : Tok} (k_MAX_ACTIONS : mg "MAX_ACTIONS" = some (.int 24 t_MAX_ACTIONS)) {t_MAX_ALPHABET : Tok} (k_MAX_ALPHABET : mg "MAX_ALPHABET" = some (.int 40 t_MAX_ALPHABET)) {t_MAX_ARRANGED : Tok} (k_MAX_ARRANGED : mg "MAX_ARRANGED" = some (.int 10 t_MAX_ARRANGED)) {t_MAX_ASKED : Tok} (k_MAX_ASKED : mg "MAX_ASKED" = some (.int 40000 t_MAX_ASKED)) {t_MAX_CAPS : Tok} (k_MAX_CAPS : mg "MAX_CAPS" = some (.int 12 t_MAX_CAPS)) {t_MAX_CHANGED_ONES : Tok} (k_MAX_CHANGED_ONES : mg "MAX_CHANGED_ONES" = some (.int 60 t_MAX_CHANGED_ONES)) {t_MAX_CODED : Tok} (k_MAX_CODED : mg "MAX_CODED" = some (.int 4 t_MAX_CODED)) {t_MAX_COMMANDS : Tok} (k_MAX_COMMANDS : mg "MAX_COMMANDS" = some (.int 60 t_MAX_COMMANDS)) {t_MAX_CROSSED : Tok} (k_MAX_CROSSED : mg "MAX_CROSSED" = some (.int 10 t_MAX_CROSSED)) {t_MAX_DEADS : Tok} (k_MAX_DEADS : mg "MAX_DEADS" = some (.int 24 t_MAX_DEADS)) {t_MAX_DOWN : Tok} (k_MAX_DOWN : mg "MAX_DOWN" = some (.int 3 t_MAX_DOWN)) {t_MAX_EDITED : Tok} (k_MAX_EDITED : mg "MAX_EDITED" = some (.int 12 t_MAX_EDITED)) {t_MAX_EDITS : Tok} (k_MAX_EDITS : mg "MAX_EDITS" = some (.int 200 t_MAX_EDITS)) {t_MAX_EFFORT : Tok} (k_MAX_EFFORT : mg "MAX_EFFORT" = some (.int 1000 t_MAX_EFFORT)) {t_MAX_EVENTS : Tok} (k_MAX_EVENTS : mg "MAX_EVENTS" = some (.int 200 t_MAX_EVENTS)) {t_MAX_EXERCISE : Tok} (k_MAX_EXERCISE : mg "MAX_EXERCISE" = some (.int 24 t_MAX_EXERCISE)) {t_MAX_FLIPS : Tok} (k_MAX_FLIPS : mg "MAX_FLIPS" = some (.int 40 t_MAX_FLIPS)) {t_MAX_FOLDED : Tok} (k_MAX_FOLDED : mg "MAX_FOLDED" = some (.int 24 t_MAX_FOLDED)) {t_MAX_FORETOLD : Tok} (k_MAX_FORETOLD : mg "MAX_FORETOLD" = some (.int 20 t_MAX_FORETOLD)) {t_MAX_FREQUENCY : Tok} (k_MAX_FREQUENCY : mg "MAX_FREQUENCY" = some (.int 1000000 t_MAX_FREQUENCY)) {t_MAX_GLIDE : Tok} (k_MAX_GLIDE : mg "MAX_GLIDE" = some (.int 40 t_MAX_GLIDE)) {t_MAX_GRID : Tok} (k_MAX_GRID : mg "MAX_GRID" = some (.int 5 t_MAX_GRID)) {t_MAX_KEYS : Tok} (k_MAX_KEYS : mg "MAX_KEYS" = some (.int 8 t_MAX_KEYS)) {t_MAX_LAYERS : Tok} (k_MAX_LAYERS : mg "MAX_LAYERS" = some (.int 5 t_MAX_LAYERS)) {t_MAX_LEARNED : Tok} (k_MAX_LEARNED : mg "MAX_LEARNED" = some (.int 60 t_MAX_LEARNED)) {t_MAX_LEARNT : Tok} (k_MAX_LEARNT : mg "MAX_LEARNT" = some (.int 400 t_MAX_LEARNT)) {t_MAX_LETTERS : Tok} (k_MAX_LETTERS : mg "MAX_LETTERS" = some (.int 12 t_MAX_LETTERS)) {t_MAX_LINES : Tok} (k_MAX_LINES : mg "MAX_LINES" = some (.int 200 t_MAX_LINES)) {t_MAX_LOGS : Tok} (k_MAX_LOGS : mg "MAX_LOGS" = some (.int 8 t_MAX_LOGS)) {t_MAX_LONG : Tok} (k_MAX_LONG : mg "MAX_LONG" = some (.int 20 t_MAX_LONG)) {t_MAX_LOOKED : Tok} (k_MAX_LOOKED : mg "MAX_LOOKED" = some (.int 20000 t_MAX_LOOKED)) {t_MAX_MACRO : Tok} (k_MAX_MACRO : mg "MAX_MACRO" = some (.int 8 t_MAX_MACRO)) {t_MAX_MERGED : Tok} (k_MAX_MERGED : mg "MAX_MERGED" = some (.int 6 t_MAX_MERGED)) {t_MAX_NAME : Tok} (k_MAX_NAME : mg "MAX_NAME" = some (.int 12 t_MAX_NAME)) {t_MAX_NESTED : Tok} (k_MAX_NESTED : mg "MAX_NESTED" = some (.int 12 t_MAX_NESTED)) {t_MAX_ORDERED : Tok} (k_MAX_ORDERED : mg "MAX_ORDERED" = some (.int 6 t_MAX_ORDERED)) {t_MAX_OUTLINE : Tok} (k_MAX_OUTLINE : mg "MAX_OUTLINE" = some (.int 4 t_MAX_OUTLINE)) {t_MAX_OUTLINES : Tok} (k_MAX_OUTLINES : mg "MAX_OUTLINES" = some (.int 24 t_MAX_OUTLINES)) {t_MAX_PADS : Tok} (k_MAX_PADS : mg "MAX_PADS" = some (.int 10 t_MAX_PADS)) {t_MAX_PAIRS : Tok} (k_MAX_PAIRS : mg "MAX_PAIRS" = some (.int 4000 t_MAX_PAIRS)) {t_MAX_PLACES : Tok} (k_MAX_PLACES : mg "MAX_PLACES" = some (.int 20000 t_MAX_PLACES)) {t_MAX_PLAYED : Tok} (k_MAX_PLAYED : mg "MAX_PLAYED" = some (.int 4000 t_MAX_PLAYED)) {t_MAX_PRESSES : Tok} (k_MAX_PRESSES : mg "MAX_PRESSES" = some (.int 40 t_MAX_PRESSES)) {t_MAX_READ : Tok} (k_MAX_READ : mg "MAX_READ" = some (.int 10 t_MAX_READ)) {t_MAX_RECORDED : Tok} (k_MAX_RECORDED : mg "MAX_RECORDED" = some (.int 20 t_MAX_RECORDED)) {t_MAX_REPEATED : Tok} (k_MAX_REPEATED : mg "MAX_REPEATED" = some (.int 2000 t_MAX_REPEATED)) {t_MAX_REPEATS : Tok} (k_MAX_REPEATS : mg "MAX_REPEATS" = some (.int 1000 t_MAX_REPEATS)) {t_MAX_REST : Tok} (k_MAX_REST : mg "MAX_REST" = some (.int 10 t_MAX_REST)) {t_MAX_ROUNDS : Tok} (k_MAX_ROUNDS : mg "MAX_ROUNDS" = some (.int 1000000 t_MAX_ROUNDS)) {t_MAX_ROWED : Tok} (k_MAX_ROWED : mg "MAX_ROWED" = some (.int 40 t_MAX_ROWED)) {t_MAX_ROWS : Tok} (k_MAX_ROWS : mg "MAX_ROWS" = some (.int 8 t_MAX_ROWS)) {t_MAX_ROW_OF : Tok} (k_MAX_ROW_OF : mg "MAX_ROW_OF" = some (.int 60 t_MAX_ROW_OF)) {t_MAX_ROW_SIGNS : Tok} (k_MAX_ROW_SIGNS : mg "MAX_ROW_SIGNS" = some (.int 5 t_MAX_ROW_SIGNS)) {t_MAX_SCANNED : Tok} (k_MAX_SCANNED : mg "MAX_SCANNED" = some (.int 30 t_MAX_SCANNED)) {t_MAX_SCREENS : Tok} (k_MAX_SCREENS : mg "MAX_SCREENS" = some (.int 20000 t_MAX_SCREENS)) {t_MAX_SETS : Tok} (k_MAX_SETS : mg "MAX_SETS" = some (.int 6 t_MAX_SETS)) {t_MAX_SHORT : Tok} (k_MAX_SHORT : mg "MAX_SHORT" = some (.int 6 t_MAX_SHORT)) {t_MAX_SHORTS : Tok} (k_MAX_SHORTS : mg "MAX_SHORTS" = some (.int 10 t_MAX_SHORTS)) {t_MAX_SHOWN : Tok} (k_MAX_SHOWN : mg "MAX_SHOWN" = some (.int 5 t_MAX_SHOWN)) {t_MAX_SOUGHT : Tok} (k_MAX_SOUGHT : mg "MAX_SOUGHT" = some (.int 20000 t_MAX_SOUGHT)) {t_MAX_SPELT : Tok} (k_MAX_SPELT : mg "MAX_SPELT" = some (.int 4000 t_MAX_SPELT)) {t_MAX_STATES : Tok} (k_MAX_STATES : mg "MAX_STATES" = some (.int 4000 t_MAX_STATES)) {t_MAX_STROKED : Tok} (k_MAX_STROKED : mg "MAX_STROKED" = some (.int 40 t_MAX_STROKED)) {t_MAX_STROKES : Tok} (k_MAX_STROKES : mg "MAX_STROKES" = some (.int 24 t_MAX_STROKES)) {t_MAX_SUBSETS : Tok} (k_MAX_SUBSETS : mg "MAX_SUBSETS" = some (.int 2000 t_MAX_SUBSETS)) {t_MAX_TABLE : Tok} (k_MAX_TABLE : mg "MAX_TABLE" = some (.int 24 t_MAX_TABLE)) {t_MAX_TESTS : Tok} (k_MAX_TESTS : mg "MAX_TESTS" = some (.int 24 t_MAX_TESTS)) {t_MAX_TEXT : Tok} (k_MAX_TEXT : mg "MAX_TEXT" = some (.int 6000 t_MAX_TEXT)) {t_MAX_TEXTS : Tok} (k_MAX_TEXTS : mg "MAX_TEXTS" = some (.int 4 t_MAX_TEXTS)) {t_MAX_TIME : Tok} (k_MAX_TIME : mg "MAX_TIME" = some (.int 1000000 t_MAX_TIME)) {t_MAX_TYPED : Tok} (k_MAX_TYPED : mg "MAX_TYPED" = some (.int 12 t_MAX_TYPED)) {t_MAX_TYPED_OF : Tok} (k_MAX_TYPED_OF : mg "MAX_TYPED_OF" = some (.int 200 t_MAX_TYPED_OF)) {t_MAX_WAIT : Tok} (k_MAX_WAIT : mg "MAX_WAIT" = some (.int 1000 t_MAX_WAIT)) {t_MAX_WAYS_OF : Tok} (k_MAX_WAYS_OF : mg "MAX_WAYS_OF" = some (.int 4000 t_MAX_WAYS_OF)) {t_MAX_WIRES : Tok} (k_MAX_WIRES : mg "MAX_WIRES" = some (.int 8 t_MAX_WIRES)) {t_MAX_WORDS : Tok} (k_MAX_WORDS : mg "MAX_WORDS" = some (.int 6 t_MAX_WORDS)) {t_MAX_WORDS_KNOWN : Tok} (k_MAX_WORDS_KNOWN : mg "MAX_WORDS_KNOWN" = some (.int 20 t_MAX_WORDS_KNOWN)) {t_MAX_WORDS_OF : Tok} (k_MAX_WORDS_OF : mg "MAX_WORDS_OF" = some (.int 12 t_MAX_WORDS_OF)) {t_MAX_WORD_SIGNS : Tok} (k_MAX_WORD_SIGNS : mg "MAX_WORD_SIGNS" = some (.int 12 t_MAX_WORD_SIGNS)) {t_MAX_WRITTEN : Tok} (k_MAX_WRITTEN : mg "MAX_WRITTEN" = some (.int 40 t_MAX_WRITTEN)) (hd : defs[4]? = some Lk00.d_law_limits_right) : ∀ m, FnG P w K mg base 1 f fd [] (spF P w K mg 0 (callN defs flds wf m 4)) := by
  refine fn_ok (k := 0) F sc_law_limits_right hd rfl (by decide) rfl fun m cdv A outer s H E hr => ?_
  have hu := room_u hr
  have hgd := hr.g
  have hN := sc_law_limits_right.nd
  have hp := hp_of (P := P) (w := w) (K := K) (mg := mg) (base := base) (N := ["told", "due"]) (qual := "_law_limits_right") (scope := defScope (top 96)) (f := f) (cdv := cdv) (A := A) (outer := outer) (s := s) (H := H) (E := E)
  exact (xs_cons (rasg 0 hN (rlst (rcons (rgint k_MAX_NAME) (rcons (rgint k_MAX_KEYS) (rcons (rgint k_MAX_LAYERS) (rcons (rgint k_MAX_DEADS) (rcons (rgint k_MAX_WAIT) (rcons (rgint k_MAX_MACRO) (rcons (rgint k_MAX_DOWN) (rcons (rgint k_MAX_STATES) (rcons (rgint k_MAX_EVENTS) ss_nil)))))))))))
 (xs_cons (rasg 0 hN (rbin v_add (rvar 0) (rlst (rcons (rgint k_MAX_TIME) (rcons (rgint k_MAX_TEXT) (rcons (rgint k_MAX_PAIRS) (rcons (rgint k_MAX_ROW_OF) (rcons (rgint k_MAX_TYPED) (rcons (rgint k_MAX_PLACES) (rcons (rgint k_MAX_READ) (rcons (rgint k_MAX_WAYS_OF) (rcons (rgint k_MAX_EFFORT) ss_nil))))))))))))
 (xs_cons (rasg 0 hN (rbin v_add (rvar 0) (rlst (rcons (rgint k_MAX_NESTED) (rcons (rgint k_MAX_ROWED) (rcons (rgint k_MAX_REPEATS) (rcons (rgint k_MAX_SPELT) (rcons (rgint k_MAX_FOLDED) (rcons (rgint k_MAX_LONG) (rcons (rgint k_MAX_SHORT) (rcons (rgint k_MAX_SHORTS) (rcons (rgint k_MAX_WRITTEN) ss_nil))))))))))))
 (xs_cons (rasg 0 hN (rbin v_add (rvar 0) (rlst (rcons (rgint k_MAX_ROW_SIGNS) (rcons (rgint k_MAX_TABLE) (rcons (rgint k_MAX_SOUGHT) (rcons (rgint k_MAX_OUTLINE) (rcons (rgint k_MAX_OUTLINES) (rcons (rgint k_MAX_STROKES) (rcons (rgint k_MAX_LOGS) (rcons (rgint k_MAX_SETS) (rcons (rgint k_MAX_EDITS) ss_nil))))))))))))
 (xs_cons (rasg 0 hN (rbin v_add (rvar 0) (rlst (rcons (rgint k_MAX_LINES) (rcons (rgint k_MAX_TESTS) (rcons (rgint k_MAX_CHANGED_ONES) (rcons (rgint k_MAX_ASKED) (rcons (rgint k_MAX_LOOKED) (rcons (rgint k_MAX_TEXTS) (rcons (rgint k_MAX_PRESSES) (rcons (rgint k_MAX_REST) (rcons (rgint k_MAX_ROWS) ss_nil))))))))))))
 (xs_cons (rasg 0 hN (rbin v_add (rvar 0) (rlst (rcons (rgint k_MAX_ACTIONS) (rcons (rgint k_MAX_LEARNT) (rcons (rgint k_MAX_ALPHABET) (rcons (rgint k_MAX_WORDS) (rcons (rgint k_MAX_FLIPS) (rcons (rgint k_MAX_COMMANDS) (rcons (rgint k_MAX_PLAYED) (rcons (rgint k_MAX_RECORDED) (rcons (rgint k_MAX_WIRES) ss_nil))))))))))))
 (xs_cons (rasg 0 hN (rbin v_add (rvar 0) (rlst (rcons (rgint k_MAX_CROSSED) (rcons (rgint k_MAX_SUBSETS) (rcons (rgint k_MAX_EDITED) (rcons (rgint k_MAX_SCREENS) (rcons (rgint k_MAX_STROKED) (rcons (rgint k_MAX_PADS) (rcons (rgint k_MAX_LETTERS) (rcons (rgint k_MAX_WORD_SIGNS) (rcons (rgint k_MAX_WORDS_KNOWN) ss_nil))))))))))))
 (xs_cons (rasg 0 hN (rbin v_add (rvar 0) (rlst (rcons (rgint k_MAX_FORETOLD) (rcons (rgint k_MAX_LEARNED) (rcons (rgint k_MAX_SHOWN) (rcons (rgint k_MAX_GRID) (rcons (rgint k_MAX_GLIDE) (rcons (rgint k_MAX_SCANNED) (rcons (rgint k_MAX_FREQUENCY) (rcons (rgint k_MAX_MERGED) (rcons (rgint k_MAX_EXERCISE) ss_nil))))))))))))
 (xs_cons (rasg 0 hN (rbin v_add (rvar 0) (rlst (rcons (rgint k_MAX_WORDS_OF) (rcons (rgint k_MAX_ABBREVIATED) (rcons (rgint k_MAX_CODED) (rcons (rgint k_MAX_ARRANGED) (rcons (rgint k_MAX_ORDERED) (rcons (rgint k_MAX_CAPS) (rcons (rgint k_MAX_ROUNDS) (rcons (rgint k_MAX_REPEATED) (rcons (rgint k_MAX_TYPED_OF) ss_nil))))))))))))
 (xs_cons (rasg 1 hN (rlst (rcons rint (rcons rint (rcons rint (rcons rint (rcons rint (rcons rint (rcons rint (rcons rint (rcons rint (rcons rint (rcons rint (rcons rint (rcons rint (rcons rint (rcons rint (rcons rint (rcons rint (rcons rint (rcons rint (rcons rint (rcons rint (rcons rint ss_nil))))))))))))))))))))))))
 (xs_cons (rasg 1 hN (rbin v_add (rvar 1) (rlst (rcons rint (rcons rint (rcons rint (rcons rint (rcons rint (rcons rint (rcons rint (rcons rint (rcons rint (rcons rint (rcons rint (rcons rint (rcons rint (rcons rint (rcons rint (rcons rint (rcons rint (rcons rint (rcons rint (rcons rint (rcons rint (rcons rint ss_nil)))))))))))))))))))))))))
 (xs_cons (rasg 1 hN (rbin v_add (rvar 1) (rlst (rcons rint (rcons rint (rcons rint (rcons rint (rcons rint (rcons rint (rcons rint (rcons rint (rcons rint (rcons rint (rcons rint (rcons rint (rcons rint (rcons rint (rcons rint (rcons rint (rcons rint (rcons rint (rcons rint (rcons rint (rcons rint (rcons rint ss_nil)))))))))))))))))))))))))
 (xs_cons (rasg 1 hN (rbin v_add (rvar 1) (rlst (rcons rint (rcons rint (rcons rint (rcons rint (rcons rint (rcons rint (rcons rint (rcons rint (rcons rint (rcons rint (rcons rint (rcons rint (rcons rint (rcons rint (rcons rint ss_nil))))))))))))))))))
 (xs_cons (x_ret (rcmp (c_eq hu) (rrepr hgd hu (rvar 0) g_repr) (rrepr hgd hu (rvar 1) g_repr)))
 xs_nil))))))))))))))
theorem sc_law_raise : FnScope ["k", "one", "other"] ["k", "one", "other"] (defScope (top 97)) := ⟨rfl, rfl, rfl, by decide +kernel, rfl, by decide +kernel, by decide +kernel⟩
theorem ok_law_raise (F : FnP K "_law_raise" (top 97) dvs f fd) (hr_2 : flds[2]? = some Lk00.row_2) (X_2 : ClsOk P w K mg base Lk00.row_2) (hr_3 : flds[3]? = some Lk00.row_3) (X_3 : ClsOk P w K mg base Lk00.row_3) (hr_4 : flds[4]? = some Lk00.row_4) (X_4 : ClsOk P w K mg base Lk00.row_4) (hr_5 : flds[5]? = some Lk00.row_5) (X_5 : ClsOk P w K mg base Lk00.row_5) (hr_6 : flds[6]? = some Lk00.row_6) (X_6 : ClsOk P w K mg base Lk00.row_6) (hr_7 : flds[7]? = some Lk00.row_7) (X_7 : ClsOk P w K mg base Lk00.row_7) (hr_8 : flds[8]? = some Lk00.row_8) (X_8 : ClsOk P w K mg base Lk00.row_8) (hd : defs[5]? = some Lk00.d_law_raise) : ∀ m, FnG P w K mg base 3 f fd ["k", "one", "other"] (spF P w K mg 3 (callN defs flds wf m 5)) := by
  refine fn_ok (k := 2) F sc_law_raise hd rfl (by decide) rfl fun m cdv A outer s H E hr => ?_
  have hu := room_u hr
  have hgd := hr.g
  have hN := sc_law_raise.nd
  have hp := hp_of (P := P) (w := w) (K := K) (mg := mg) (base := base) (N := ["k", "one", "other"]) (qual := "_law_raise") (scope := defScope (top 97)) (f := f) (cdv := cdv) (A := A) (outer := outer) (s := s) (H := H) (E := E)
  exact (xs_cons (rife' (tcmp (c_eq hu) (rvar 0) rint)
 (xs_cons (rraiseC hr_2 X_2 rfl (hr.mono (by decide)) rfl (rcons (rvar 1) ss_nil))
 xs_nil)
 xs_nil)
 (xs_cons (rife' (tcmp (c_eq hu) (rvar 0) rint)
 (xs_cons (rraiseC hr_3 X_3 rfl (hr.mono (by decide)) rfl (rcons (rvar 1) ss_nil))
 xs_nil)
 xs_nil)
 (xs_cons (rife' (tcmp (c_eq hu) (rvar 0) rint)
 (xs_cons (rraiseC hr_4 X_4 rfl (hr.mono (by decide)) rfl (rcons (rvar 1) ss_nil))
 xs_nil)
 xs_nil)
 (xs_cons (rife' (tcmp (c_eq hu) (rvar 0) rint)
 (xs_cons (rraiseC hr_5 X_5 rfl (hr.mono (by decide)) rfl (rcons (rvar 1) ss_nil))
 xs_nil)
 xs_nil)
 (xs_cons (rife' (tcmp (c_eq hu) (rvar 0) rint)
 (xs_cons (rraiseC hr_6 X_6 rfl (hr.mono (by decide)) rfl (rcons (rvar 1) ss_nil))
 xs_nil)
 xs_nil)
 (xs_cons (rife' (tcmp (c_eq hu) (rvar 0) rint)
 (xs_cons (rraiseC hr_7 X_7 rfl (hr.mono (by decide)) rfl (rcons (rvar 1) (rcons (rvar 2) ss_nil)))
 xs_nil)
 xs_nil)
 (xs_cons (rraiseC hr_8 X_8 rfl (hr.mono (by decide)) rfl (rcons (rvar 1) ss_nil))
 xs_nil)))))))
theorem sc_law_kinds : FnScope ["e", "plain"] ["e"] (defScope (top 98)) := ⟨rfl, rfl, rfl, by decide +kernel, rfl, by decide +kernel, by decide +kernel⟩
theorem ok_law_kinds (F : FnP K "_law_kinds" (top 98) dvs f fd) (g_isinstance : mg "isinstance" = none) (c_ArgumentError : ∃ C0, mg "ArgumentError" = some (.ref C0)) (c_CheckError : ∃ C0, mg "CheckError" = some (.ref C0)) (c_CommandError : ∃ C0, mg "CommandError" = some (.ref C0)) (c_LogError : ∃ C0, mg "LogError" = some (.ref C0)) (c_PaperError : ∃ C0, mg "PaperError" = some (.ref C0)) (c_TextError : ∃ C0, mg "TextError" = some (.ref C0)) (c_TooMany : ∃ C0, mg "TooMany" = some (.ref C0)) (hd : defs[6]? = some Lk00.d_law_kinds) : ∀ m, FnE P w K mg base 1 f fd "e" (callN defs flds wf m 6) := by
  refine fnE_ok (k := 0) F sc_law_kinds hd rfl rfl (by decide) fun m cd A fr t H E p hu => ?_
  have hN := sc_law_kinds.nd
  exact (xs_cons (rasg 1 hN (rlst (rcons (rexi 0 rfl g_isinstance c_ArgumentError) (rcons (rexi 0 rfl g_isinstance c_PaperError) (rcons (rexi 0 rfl g_isinstance c_TooMany) (rcons (rexi 0 rfl g_isinstance c_CheckError) ss_nil))))))
 (xs_cons (x_ret (rbin v_add (rvar 1) (rlst (rcons (rexi 0 rfl g_isinstance c_TextError) (rcons (rexi 0 rfl g_isinstance c_LogError) (rcons (rexi 0 rfl g_isinstance c_CommandError) ss_nil))))))
 xs_nil))
theorem sc_law_caught : FnScope ["k", "one", "other", "e"] ["k", "one", "other"] (defScope (top 99)) := ⟨rfl, rfl, rfl, by decide +kernel, rfl, by decide +kernel, by decide +kernel⟩
theorem ok_law_caught (F : FnP K "_law_caught" (top 99) dvs f fd) (g_ValueError : mg "ValueError" = none) (g_isinstance : mg "isinstance" = none) (G5 : DefOk P w K mg base defs flds wf "_law_raise" 5 3 3) (GE6 : DefOkE P w K mg base defs flds wf "_law_kinds" 6 1) (c_KeysError : ∃ C0, mg "KeysError" = some (.ref C0)) (hd : defs[7]? = some Lk00.d_law_caught) : ∀ m, FnG P w K mg base 4 f fd ["k", "one", "other"] (spF P w K mg 3 (callN defs flds wf m 7)) := by
  refine fn_ok (k := 3) F sc_law_caught hd rfl (by decide) rfl fun m cdv A outer s H E hr => ?_
  have hu := room_u hr
  have hgd := hr.g
  have hN := sc_law_caught.nd
  have hp := hp_of (P := P) (w := w) (K := K) (mg := mg) (base := base) (N := ["k", "one", "other", "e"]) (qual := "_law_caught") (scope := defScope (top 99)) (f := f) (cdv := cdv) (A := A) (outer := outer) (s := s) (H := H) (E := E)
  exact (xs_cons (rtry rfl rfl hN rfl (fun _ _ hp =>
 (xs_cons (rex (rcall G5 (hr.mono (by decide)) (racons (rvar 0) (racons (rvar 1) (racons (rvar 2) sa_nil)))))
 xs_nil)) (.cons rfl rfl (clsv c_KeysError) rfl rfl (fun _ _ _ =>
 (xs_cons (x_ret (rife (rtruth (rexiB 3 rfl g_isinstance g_ValueError MP.bt_ValueError)) (rcallX 3 GE6 (roomH_mark (hr.mono (by decide)) _) hgd rfl) (rlst ss_nil)))
 xs_nil)) .nil))
 (xs_cons (x_ret (rlst ss_nil))
 xs_nil))
theorem sc_law_fields : FnScope ["k", "one", "other", "e"] ["k", "one", "other"] (defScope (top 100)) := ⟨rfl, rfl, rfl, by decide +kernel, rfl, by decide +kernel, by decide +kernel⟩
theorem ok_law_fields (F : FnP K "_law_fields" (top 100) dvs f fd) (G5 : DefOk P w K mg base defs flds wf "_law_raise" 5 3 3) (c_ArgumentError : ∃ C0, mg "ArgumentError" = some (.ref C0)) (c_CheckError : ∃ C0, mg "CheckError" = some (.ref C0)) (c_CommandError : ∃ C0, mg "CommandError" = some (.ref C0)) (c_LogError : ∃ C0, mg "LogError" = some (.ref C0)) (c_PaperError : ∃ C0, mg "PaperError" = some (.ref C0)) (c_TextError : ∃ C0, mg "TextError" = some (.ref C0)) (c_TooMany : ∃ C0, mg "TooMany" = some (.ref C0)) (hd : defs[8]? = some Lk00.d_law_fields) : ∀ m, FnG P w K mg base 4 f fd ["k", "one", "other"] (spF P w K mg 3 (callN defs flds wf m 8)) := by
  refine fn_ok (k := 3) F sc_law_fields hd rfl (by decide) rfl fun m cdv A outer s H E hr => ?_
  have hu := room_u hr
  have hgd := hr.g
  have hN := sc_law_fields.nd
  have hp := hp_of (P := P) (w := w) (K := K) (mg := mg) (base := base) (N := ["k", "one", "other", "e"]) (qual := "_law_fields") (scope := defScope (top 100)) (f := f) (cdv := cdv) (A := A) (outer := outer) (s := s) (H := H) (E := E)
  exact (xs_cons (rtry rfl rfl hN rfl (fun _ _ hp =>
 (xs_cons (rex (rcall G5 (hr.mono (by decide)) (racons (rvar 0) (racons (rvar 1) (racons (rvar 2) sa_nil)))))
 xs_nil)) (.cons rfl rfl (clsv c_ArgumentError) rfl rfl (fun _ _ _ =>
 (xs_cons (x_ret (rtup (rcons (rexa 3 rfl) ss_nil)))
 xs_nil)) (.cons rfl rfl (clsv c_PaperError) rfl rfl (fun _ _ _ =>
 (xs_cons (x_ret (rtup (rcons (rexa 3 rfl) ss_nil)))
 xs_nil)) (.cons rfl rfl (clsv c_TooMany) rfl rfl (fun _ _ _ =>
 (xs_cons (x_ret (rtup (rcons (rexa 3 rfl) ss_nil)))
 xs_nil)) (.cons rfl rfl (clsv c_CheckError) rfl rfl (fun _ _ _ =>
 (xs_cons (x_ret (rtup (rcons (rexa 3 rfl) ss_nil)))
 xs_nil)) (.cons rfl rfl (clsv c_TextError) rfl rfl (fun _ _ _ =>
 (xs_cons (x_ret (rtup (rcons (rexa 3 rfl) ss_nil)))
 xs_nil)) (.cons rfl rfl (clsv c_LogError) rfl rfl (fun _ _ _ =>
 (xs_cons (x_ret (rtup (rcons (rexa 3 rfl) (rcons (rexa 3 rfl) ss_nil))))
 xs_nil)) (.cons rfl rfl (clsv c_CommandError) rfl rfl (fun _ _ _ =>
 (xs_cons (x_ret (rtup (rcons (rexa 3 rfl) ss_nil)))
 xs_nil)) .nil))))))))
 (xs_cons (x_ret rnone)
 xs_nil))
theorem sc_law : FnScope ["script", "draws", "at", "values", "k", "one", "other", "j"] ["script"] (defScope (top 101)) := ⟨rfl, rfl, rfl, by decide +kernel, rfl, by decide +kernel, by decide +kernel⟩
theorem ok_law (F : FnP K "law" (top 101) dvs f fd) (g_range : mg "range" = none) (g_repr : mg "repr" = none) (G0 : DefOk P w K mg base defs flds wf "_law_draws" 0 1 1) (G3 : DefOk P w K mg base defs flds wf "_law_one" 3 3 3) (G4 : DefOk P w K mg base defs flds wf "_law_limits_right" 4 0 1) (G7 : DefOk P w K mg base defs flds wf "_law_caught" 7 3 4) (G8 : DefOk P w K mg base defs flds wf "_law_fields" 8 3 4) : ∀ m, FnG P w K mg base 5 f fd ["script"] (spTop P w K ⟨callN defs flds wf m, wf, flds⟩ Lk00.d_law) := by
  intro m
  refine top_fn (k := 4) F sc_law rfl (by decide) rfl fun cdv A outer s H E hr => ?_
  have hu := room_u hr
  have hgd := hr.g
  have hN := sc_law.nd
  exact (xs_cons (rasg 1 hN (rcall G0 (hr.mono (by decide)) (racons (rvar 0) sa_nil)))
 (xs_cons (rmkCell 2 hN (pa_cons pe_int pa_nil))
 (xs_cons (rife' (st_not (rtruth (rcall0 G4 (hr.mono (by decide)))))
 (xs_cons (x_ret rbool)
 xs_nil)
 xs_nil)
 (xs_cons (rasg 3 hN (rlst (rcons rstr (rcons rstr (rcons rstr (rcons rint (rcons rint (rcons (rneg rint) (rcons rnone (rcons (rtup (rcons rstr (rcons rint ss_nil))) (rcons rstr (rcons rbool ss_nil))))))))))))
 (xs_cons (rfor0 rfl .never rfl (si_rng1 rfl g_range (rcons rint ss_nil)) (gnm 4 hN)
 (xs_cons (rpar2 5 6 rfl hN (rcall G3 (hr.mono (by decide)) (racons (rvar 3) (racons (rvar 1) (racell 2 sa_nil)))) (rcall G3 (hr.mono (by decide)) (racons (rvar 3) (racons (rvar 1) (racell 2 sa_nil)))))
 (xs_cons (rife' (tcmp (c_ne hu) (rcall G7 (hr.mono (by decide)) (racons (rvar 4) (racons (rvar 5) (racons (rvar 6) sa_nil)))) (rlc [("j", 7)] rfl hN (si_rng1 rfl g_range (rcons rint ss_nil)) (fun _ _ _ _ _ => (gnm 7 hN)) (fun _ _ _ _ _ => sc_none) (fun _ _ _ _ _ => (rcmp (c_eq hu) (rvar 7) (rvar 4)))))
 (xs_cons (x_ret rbool)
 xs_nil)
 xs_nil)
 (xs_cons (rife' (tcmp (c_ne hu) (rrepr hgd hu (rcall G8 (hr.mono (by decide)) (racons (rvar 4) (racons (rvar 5) (racons (rvar 6) sa_nil)))) g_repr) (rrepr hgd hu (rife (tcmp (c_eq hu) (rvar 4) rint) (rtup (rcons (rvar 5) (rcons (rvar 6) ss_nil))) (rtup (rcons (rvar 5) ss_nil))) g_repr))
 (xs_cons (x_ret rbool)
 xs_nil)
 xs_nil)
 xs_nil))))
 (xs_cons (x_ret rbool)
 xs_nil))))))
end
def D_law_draws : He.DefD := ⟨("_law_draws", none), "_law_draws", "_law_draws", defArgs (top 92), defBody (top 92), defScope (top 92), [], []⟩
def D_law_more : He.DefD := ⟨("_law_more", none), "_law_more", "_law_more", defArgs (top 93), defBody (top 93), defScope (top 93), [], []⟩
def D_law_take : He.DefD := ⟨("_law_take", none), "_law_take", "_law_take", defArgs (top 94), defBody (top 94), defScope (top 94), [], []⟩
def D_law_one : He.DefD := ⟨("_law_one", none), "_law_one", "_law_one", defArgs (top 95), defBody (top 95), defScope (top 95), [], []⟩
def D_law_limits_right : He.DefD := ⟨("_law_limits_right", none), "_law_limits_right", "_law_limits_right", defArgs (top 96), defBody (top 96), defScope (top 96), [], []⟩
def D_law_raise : He.DefD := ⟨("_law_raise", none), "_law_raise", "_law_raise", defArgs (top 97), defBody (top 97), defScope (top 97), [], []⟩
def D_law_kinds : He.DefD := ⟨("_law_kinds", none), "_law_kinds", "_law_kinds", defArgs (top 98), defBody (top 98), defScope (top 98), [], []⟩
def D_law_caught : He.DefD := ⟨("_law_caught", none), "_law_caught", "_law_caught", defArgs (top 99), defBody (top 99), defScope (top 99), [], []⟩
def D_law_fields : He.DefD := ⟨("_law_fields", none), "_law_fields", "_law_fields", defArgs (top 100), defBody (top 100), defScope (top 100), [], []⟩
def D_law : He.DefD := ⟨("law", none), "law", "law", defArgs (top 101), defBody (top 101), defScope (top 101), [], []⟩
def fnl : List He.DefD := [D_law_draws, D_law_more, D_law_take, D_law_one, D_law_limits_right, D_law_raise, D_law_kinds, D_law_caught, D_law_fields, D_law]
def fal : List He.Fa := [.glo "_law_draws", .free "abs", .free "int", .free "range", .glo "_law_more", .free "len", .glo "_law_take", .glo "_law_one", .glo "_law_limits_right", .free "repr", .int "MAX_ABBREVIATED" 400, .int "MAX_ACTIONS" 24, .int "MAX_ALPHABET" 40, .int "MAX_ARRANGED" 10, .int "MAX_ASKED" 40000, .int "MAX_CAPS" 12, .int "MAX_CHANGED_ONES" 60, .int "MAX_CODED" 4, .int "MAX_COMMANDS" 60, .int "MAX_CROSSED" 10, .int "MAX_DEADS" 24, .int "MAX_DOWN" 3, .int "MAX_EDITED" 12, .int "MAX_EDITS" 200, .int "MAX_EFFORT" 1000, .int "MAX_EVENTS" 200, .int "MAX_EXERCISE" 24, .int "MAX_FLIPS" 40, .int "MAX_FOLDED" 24, .int "MAX_FORETOLD" 20, .int "MAX_FREQUENCY" 1000000, .int "MAX_GLIDE" 40, .int "MAX_GRID" 5, .int "MAX_KEYS" 8, .int "MAX_LAYERS" 5, .int "MAX_LEARNED" 60, .int "MAX_LEARNT" 400, .int "MAX_LETTERS" 12, .int "MAX_LINES" 200, .int "MAX_LOGS" 8, .int "MAX_LONG" 20, .int "MAX_LOOKED" 20000, .int "MAX_MACRO" 8, .int "MAX_MERGED" 6, .int "MAX_NAME" 12, .int "MAX_NESTED" 12, .int "MAX_ORDERED" 6, .int "MAX_OUTLINE" 4, .int "MAX_OUTLINES" 24, .int "MAX_PADS" 10, .int "MAX_PAIRS" 4000, .int "MAX_PLACES" 20000, .int "MAX_PLAYED" 4000, .int "MAX_PRESSES" 40, .int "MAX_READ" 10, .int "MAX_RECORDED" 20, .int "MAX_REPEATED" 2000, .int "MAX_REPEATS" 1000, .int "MAX_REST" 10, .int "MAX_ROUNDS" 1000000, .int "MAX_ROWED" 40, .int "MAX_ROWS" 8, .int "MAX_ROW_OF" 60, .int "MAX_ROW_SIGNS" 5, .int "MAX_SCANNED" 30, .int "MAX_SCREENS" 20000, .int "MAX_SETS" 6, .int "MAX_SHORT" 6, .int "MAX_SHORTS" 10, .int "MAX_SHOWN" 5, .int "MAX_SOUGHT" 20000, .int "MAX_SPELT" 4000, .int "MAX_STATES" 4000, .int "MAX_STROKED" 40, .int "MAX_STROKES" 24, .int "MAX_SUBSETS" 2000, .int "MAX_TABLE" 24, .int "MAX_TESTS" 24, .int "MAX_TEXT" 6000, .int "MAX_TEXTS" 4, .int "MAX_TIME" 1000000, .int "MAX_TYPED" 12, .int "MAX_TYPED_OF" 200, .int "MAX_WAIT" 1000, .int "MAX_WAYS_OF" 4000, .int "MAX_WIRES" 8, .int "MAX_WORDS" 6, .int "MAX_WORDS_KNOWN" 20, .int "MAX_WORDS_OF" 12, .int "MAX_WORD_SIGNS" 12, .int "MAX_WRITTEN" 40, .glo "_law_raise", .glo "_law_kinds", .free "isinstance", .glo "ArgumentError", .glo "CheckError", .glo "CommandError", .glo "LogError", .glo "PaperError", .glo "TextError", .glo "TooMany", .glo "_law_caught", .free "ValueError", .glo "KeysError", .glo "_law_fields", .glo "law"]
abbrev R : PySem.W.OpenRow := PySem.W.OpenLaw.row PySem.Challenge.rw_keywrought_k00_errors_and_limits
def ini (i : Nat) : Stmt := match top i with
  | .ClassDef _ _ _ b _ _ _ _ _ _ _ => b.getD 0 (.Pass ⟨0, 0, 0, 0⟩)
  | s => s
def CR_2 : MP.CRow := ⟨Lk00.row_2, "ReasonError", "__init__", "ReasonError.__init__", defArgs (ini 2), defBody (ini 2), defScope (ini 2)⟩
def CR_3 : MP.CRow := ⟨Lk00.row_3, "ReasonError", "__init__", "ReasonError.__init__", defArgs (ini 2), defBody (ini 2), defScope (ini 2)⟩
def CR_4 : MP.CRow := ⟨Lk00.row_4, "ReasonError", "__init__", "ReasonError.__init__", defArgs (ini 2), defBody (ini 2), defScope (ini 2)⟩
def CR_5 : MP.CRow := ⟨Lk00.row_5, "ReasonError", "__init__", "ReasonError.__init__", defArgs (ini 2), defBody (ini 2), defScope (ini 2)⟩
def CR_6 : MP.CRow := ⟨Lk00.row_6, "TextError", "__init__", "TextError.__init__", defArgs (ini 7), defBody (ini 7), defScope (ini 7)⟩
def CR_7 : MP.CRow := ⟨Lk00.row_7, "LogError", "__init__", "LogError.__init__", defArgs (ini 8), defBody (ini 8), defScope (ini 8)⟩
def CR_8 : MP.CRow := ⟨Lk00.row_8, "CommandError", "__init__", "CommandError.__init__", defArgs (ini 9), defBody (ini 9), defScope (ini 9)⟩
def csl : List MP.CRow := [CR_2, CR_3, CR_4, CR_5, CR_6, CR_7, CR_8]
def fileS : Str := PySem.Challenge.pw_keywrought_k00_errors_and_limits.main.file
def tsl : List MP.Tp := []
abbrev hk : PySem.W.Hook := MP.hookE 4 fal fnl tsl csl fileS
def ob (s : PySem.W.SharedT) : MP.ObE := MP.obsEG 4 fal fnl tsl csl fileS (HandSHeadRun.getT s)
theorem ob_eq (s : PySem.W.SharedT) : ob s = hk.obs s.abs := MP.obsEG_eq (HandSHeadRun.getT_eq s)
def loose0 : List PySem.Str := ["KeysError", "ReasonError", "ArgumentError", "PaperError", "TooMany", "CheckError", "TextError", "LogError", "CommandError", "MAX_NAME", "MAX_KEYS", "MAX_LAYERS", "MAX_DEADS", "MAX_WAIT", "MAX_MACRO", "MAX_DOWN", "MAX_STATES", "MAX_EVENTS", "MAX_TIME", "MAX_TEXT", "MAX_PAIRS", "MAX_ROW_OF", "MAX_TYPED", "MAX_PLACES", "MAX_READ", "MAX_WAYS_OF", "MAX_EFFORT", "MAX_NESTED", "MAX_ROWED", "MAX_REPEATS"]
def loose1 : List PySem.Str := ["MAX_SPELT", "MAX_FOLDED", "MAX_LONG", "MAX_SHORT", "MAX_SHORTS", "MAX_WRITTEN", "MAX_ROW_SIGNS", "MAX_TABLE", "MAX_SOUGHT", "MAX_OUTLINE", "MAX_OUTLINES", "MAX_STROKES", "MAX_LOGS", "MAX_SETS", "MAX_EDITS", "MAX_LINES", "MAX_TESTS", "MAX_CHANGED_ONES", "MAX_ASKED", "MAX_LOOKED", "MAX_TEXTS", "MAX_PRESSES", "MAX_REST", "MAX_ROWS", "MAX_ACTIONS", "MAX_LEARNT", "MAX_ALPHABET", "MAX_WORDS", "MAX_FLIPS", "MAX_COMMANDS"]
def loose2 : List PySem.Str := ["MAX_PLAYED", "MAX_RECORDED", "MAX_WIRES", "MAX_CROSSED", "MAX_SUBSETS", "MAX_EDITED", "MAX_SCREENS", "MAX_STROKED", "MAX_PADS", "MAX_LETTERS", "MAX_WORD_SIGNS", "MAX_WORDS_KNOWN", "MAX_FORETOLD", "MAX_LEARNED", "MAX_SHOWN", "MAX_GRID", "MAX_GLIDE", "MAX_SCANNED", "MAX_FREQUENCY", "MAX_MERGED", "MAX_EXERCISE", "MAX_WORDS_OF", "MAX_ABBREVIATED", "MAX_CODED", "MAX_ARRANGED", "MAX_ORDERED", "MAX_CAPS", "MAX_ROUNDS", "MAX_REPEATED", "MAX_TYPED_OF"]
def loose3 : List PySem.Str := ["_law_draws", "_law_more", "_law_take", "_law_one", "_law_limits_right", "_law_raise", "_law_kinds", "_law_caught", "_law_fields"]
def loose : List PySem.Str := loose0 ++ loose1 ++ loose2 ++ loose3
def LAWPL : Nat := 101
theorem run (w : World) : HandSHeadRun.RunEq R (PySem.W.view R.prog [101]) hk ob 4000 loose w := by
  intro os
  kernel_rfl
theorem facts {P : Program} {w : World} {K0 : PySem.W.Frag} {h : Heap} {mg : Str → Option Value} {fa a : Addr} {vs : List Value} {ns : List Int} (m wf : Nat) (X0 : K0.In h) (G : h.Ns mainGlobals mg) (hfa : mg ("law" : Str) = some (.ref fa)) (c00 : MP.SaysE fal fnl tsl csl fileS K0) (nl : ∀ p ∈ K0, MP.notL p.2 = true) (hf : ((P.main.file : Str) == fileS) = true) (htop : (P.main.scope.names.lookup ("super" : Str)).isSome = false) (ha : h.get? a = some { cls := .type "list", data := .seq vs.toArray }) (are : IntsAre vs ns) :
    ∃ fd : FuncData, (∀ (s : Shared) (v : Value), BindsTo s fd ⟨[v], []⟩ [("script", v)]) ∧ ∀ base : Heap, (cutK K0 a).In base → base.Ns mainGlobals mg → FnG P w (cutK K0 a) mg base 5 fa fd ["script"] (spTop P w (cutK K0 a) ⟨callN Lk00.defs Lk00.flds wf m, wf, Lk00.flds⟩ Lk00.d_law) := by
  have c0 := c00.saysX
  have c := c0.says
  have hl : ∀ o, K0.lookup a = some o → o = { cls := .type "list", data := .seq vs.toArray } := fun o e => by
    have q := X0 a o e
    rw [ha] at q
    exact (Option.some.inj q).symm
  obtain ⟨fd_law_draws, F0_law_draws⟩ := c.def_ 0 (d := D_law_draws) rfl
  have F_law_draws : FnP (cutK K0 a) "_law_draws" (top 92) (D_law_draws.dvs K0) (He.fAd K0 D_law_draws.at_) fd_law_draws := funD_cut F0_law_draws hl are (by first | exact .inl rfl | exact .inr ⟨_, rfl⟩)
  have m_law_draws : mg "_law_draws" = some (.ref (He.fAd K0 D_law_draws.at_)) := He.glo_ok X0 G (c.fact 0 (f := .glo "_law_draws") rfl)
  obtain ⟨fd_law_more, F0_law_more⟩ := c.def_ 1 (d := D_law_more) rfl
  have F_law_more : FnP (cutK K0 a) "_law_more" (top 93) (D_law_more.dvs K0) (He.fAd K0 D_law_more.at_) fd_law_more := funD_cut F0_law_more hl are (by first | exact .inl rfl | exact .inr ⟨_, rfl⟩)
  have m_law_more : mg "_law_more" = some (.ref (He.fAd K0 D_law_more.at_)) := He.glo_ok X0 G (c.fact 4 (f := .glo "_law_more") rfl)
  obtain ⟨fd_law_take, F0_law_take⟩ := c.def_ 2 (d := D_law_take) rfl
  have F_law_take : FnP (cutK K0 a) "_law_take" (top 94) (D_law_take.dvs K0) (He.fAd K0 D_law_take.at_) fd_law_take := funD_cut F0_law_take hl are (by first | exact .inl rfl | exact .inr ⟨_, rfl⟩)
  have m_law_take : mg "_law_take" = some (.ref (He.fAd K0 D_law_take.at_)) := He.glo_ok X0 G (c.fact 6 (f := .glo "_law_take") rfl)
  obtain ⟨fd_law_one, F0_law_one⟩ := c.def_ 3 (d := D_law_one) rfl
  have F_law_one : FnP (cutK K0 a) "_law_one" (top 95) (D_law_one.dvs K0) (He.fAd K0 D_law_one.at_) fd_law_one := funD_cut F0_law_one hl are (by first | exact .inl rfl | exact .inr ⟨_, rfl⟩)
  have m_law_one : mg "_law_one" = some (.ref (He.fAd K0 D_law_one.at_)) := He.glo_ok X0 G (c.fact 7 (f := .glo "_law_one") rfl)
  obtain ⟨fd_law_limits_right, F0_law_limits_right⟩ := c.def_ 4 (d := D_law_limits_right) rfl
  have F_law_limits_right : FnP (cutK K0 a) "_law_limits_right" (top 96) (D_law_limits_right.dvs K0) (He.fAd K0 D_law_limits_right.at_) fd_law_limits_right := funD_cut F0_law_limits_right hl are (by first | exact .inl rfl | exact .inr ⟨_, rfl⟩)
  have m_law_limits_right : mg "_law_limits_right" = some (.ref (He.fAd K0 D_law_limits_right.at_)) := He.glo_ok X0 G (c.fact 8 (f := .glo "_law_limits_right") rfl)
  obtain ⟨fd_law_raise, F0_law_raise⟩ := c.def_ 5 (d := D_law_raise) rfl
  have F_law_raise : FnP (cutK K0 a) "_law_raise" (top 97) (D_law_raise.dvs K0) (He.fAd K0 D_law_raise.at_) fd_law_raise := funD_cut F0_law_raise hl are (by first | exact .inl rfl | exact .inr ⟨_, rfl⟩)
  have m_law_raise : mg "_law_raise" = some (.ref (He.fAd K0 D_law_raise.at_)) := He.glo_ok X0 G (c.fact 91 (f := .glo "_law_raise") rfl)
  obtain ⟨fd_law_kinds, F0_law_kinds⟩ := c.def_ 6 (d := D_law_kinds) rfl
  have F_law_kinds : FnP (cutK K0 a) "_law_kinds" (top 98) (D_law_kinds.dvs K0) (He.fAd K0 D_law_kinds.at_) fd_law_kinds := funD_cut F0_law_kinds hl are (by first | exact .inl rfl | exact .inr ⟨_, rfl⟩)
  have m_law_kinds : mg "_law_kinds" = some (.ref (He.fAd K0 D_law_kinds.at_)) := He.glo_ok X0 G (c.fact 92 (f := .glo "_law_kinds") rfl)
  obtain ⟨fd_law_caught, F0_law_caught⟩ := c.def_ 7 (d := D_law_caught) rfl
  have F_law_caught : FnP (cutK K0 a) "_law_caught" (top 99) (D_law_caught.dvs K0) (He.fAd K0 D_law_caught.at_) fd_law_caught := funD_cut F0_law_caught hl are (by first | exact .inl rfl | exact .inr ⟨_, rfl⟩)
  have m_law_caught : mg "_law_caught" = some (.ref (He.fAd K0 D_law_caught.at_)) := He.glo_ok X0 G (c.fact 101 (f := .glo "_law_caught") rfl)
  obtain ⟨fd_law_fields, F0_law_fields⟩ := c.def_ 8 (d := D_law_fields) rfl
  have F_law_fields : FnP (cutK K0 a) "_law_fields" (top 100) (D_law_fields.dvs K0) (He.fAd K0 D_law_fields.at_) fd_law_fields := funD_cut F0_law_fields hl are (by first | exact .inl rfl | exact .inr ⟨_, rfl⟩)
  have m_law_fields : mg "_law_fields" = some (.ref (He.fAd K0 D_law_fields.at_)) := He.glo_ok X0 G (c.fact 104 (f := .glo "_law_fields") rfl)
  obtain ⟨fd_law, F0_law⟩ := c.def_ 9 (d := D_law) rfl
  have F_law : FnP (cutK K0 a) "law" (top 101) (D_law.dvs K0) (He.fAd K0 D_law.at_) fd_law := funD_cut F0_law hl are (by first | exact .inl rfl | exact .inr ⟨_, rfl⟩)
  have m_law : mg "law" = some (.ref (He.fAd K0 D_law.at_)) := He.glo_ok X0 G (c.fact 105 (f := .glo "law") rfl)
  have g_abs : mg "abs" = none := He.free_ok X0 G (c.fact 1 (f := .free "abs") rfl)
  have g_int : mg "int" = none := He.free_ok X0 G (c.fact 2 (f := .free "int") rfl)
  have g_range : mg "range" = none := He.free_ok X0 G (c.fact 3 (f := .free "range") rfl)
  have g_len : mg "len" = none := He.free_ok X0 G (c.fact 5 (f := .free "len") rfl)
  have g_repr : mg "repr" = none := He.free_ok X0 G (c.fact 9 (f := .free "repr") rfl)
  obtain ⟨t_MAX_ABBREVIATED, k_MAX_ABBREVIATED⟩ := He.int_ok X0 G (c.fact 10 (f := .int "MAX_ABBREVIATED" 400) rfl)
  obtain ⟨t_MAX_ACTIONS, k_MAX_ACTIONS⟩ := He.int_ok X0 G (c.fact 11 (f := .int "MAX_ACTIONS" 24) rfl)
  obtain ⟨t_MAX_ALPHABET, k_MAX_ALPHABET⟩ := He.int_ok X0 G (c.fact 12 (f := .int "MAX_ALPHABET" 40) rfl)
  obtain ⟨t_MAX_ARRANGED, k_MAX_ARRANGED⟩ := He.int_ok X0 G (c.fact 13 (f := .int "MAX_ARRANGED" 10) rfl)
  obtain ⟨t_MAX_ASKED, k_MAX_ASKED⟩ := He.int_ok X0 G (c.fact 14 (f := .int "MAX_ASKED" 40000) rfl)
  obtain ⟨t_MAX_CAPS, k_MAX_CAPS⟩ := He.int_ok X0 G (c.fact 15 (f := .int "MAX_CAPS" 12) rfl)
  obtain ⟨t_MAX_CHANGED_ONES, k_MAX_CHANGED_ONES⟩ := He.int_ok X0 G (c.fact 16 (f := .int "MAX_CHANGED_ONES" 60) rfl)
  obtain ⟨t_MAX_CODED, k_MAX_CODED⟩ := He.int_ok X0 G (c.fact 17 (f := .int "MAX_CODED" 4) rfl)
  obtain ⟨t_MAX_COMMANDS, k_MAX_COMMANDS⟩ := He.int_ok X0 G (c.fact 18 (f := .int "MAX_COMMANDS" 60) rfl)
  obtain ⟨t_MAX_CROSSED, k_MAX_CROSSED⟩ := He.int_ok X0 G (c.fact 19 (f := .int "MAX_CROSSED" 10) rfl)
  obtain ⟨t_MAX_DEADS, k_MAX_DEADS⟩ := He.int_ok X0 G (c.fact 20 (f := .int "MAX_DEADS" 24) rfl)
  obtain ⟨t_MAX_DOWN, k_MAX_DOWN⟩ := He.int_ok X0 G (c.fact 21 (f := .int "MAX_DOWN" 3) rfl)
  obtain ⟨t_MAX_EDITED, k_MAX_EDITED⟩ := He.int_ok X0 G (c.fact 22 (f := .int "MAX_EDITED" 12) rfl)
  obtain ⟨t_MAX_EDITS, k_MAX_EDITS⟩ := He.int_ok X0 G (c.fact 23 (f := .int "MAX_EDITS" 200) rfl)
  obtain ⟨t_MAX_EFFORT, k_MAX_EFFORT⟩ := He.int_ok X0 G (c.fact 24 (f := .int "MAX_EFFORT" 1000) rfl)
  obtain ⟨t_MAX_EVENTS, k_MAX_EVENTS⟩ := He.int_ok X0 G (c.fact 25 (f := .int "MAX_EVENTS" 200) rfl)
  obtain ⟨t_MAX_EXERCISE, k_MAX_EXERCISE⟩ := He.int_ok X0 G (c.fact 26 (f := .int "MAX_EXERCISE" 24) rfl)
  obtain ⟨t_MAX_FLIPS, k_MAX_FLIPS⟩ := He.int_ok X0 G (c.fact 27 (f := .int "MAX_FLIPS" 40) rfl)
  obtain ⟨t_MAX_FOLDED, k_MAX_FOLDED⟩ := He.int_ok X0 G (c.fact 28 (f := .int "MAX_FOLDED" 24) rfl)
  obtain ⟨t_MAX_FORETOLD, k_MAX_FORETOLD⟩ := He.int_ok X0 G (c.fact 29 (f := .int "MAX_FORETOLD" 20) rfl)
  obtain ⟨t_MAX_FREQUENCY, k_MAX_FREQUENCY⟩ := He.int_ok X0 G (c.fact 30 (f := .int "MAX_FREQUENCY" 1000000) rfl)
  obtain ⟨t_MAX_GLIDE, k_MAX_GLIDE⟩ := He.int_ok X0 G (c.fact 31 (f := .int "MAX_GLIDE" 40) rfl)
  obtain ⟨t_MAX_GRID, k_MAX_GRID⟩ := He.int_ok X0 G (c.fact 32 (f := .int "MAX_GRID" 5) rfl)
  obtain ⟨t_MAX_KEYS, k_MAX_KEYS⟩ := He.int_ok X0 G (c.fact 33 (f := .int "MAX_KEYS" 8) rfl)
  obtain ⟨t_MAX_LAYERS, k_MAX_LAYERS⟩ := He.int_ok X0 G (c.fact 34 (f := .int "MAX_LAYERS" 5) rfl)
  obtain ⟨t_MAX_LEARNED, k_MAX_LEARNED⟩ := He.int_ok X0 G (c.fact 35 (f := .int "MAX_LEARNED" 60) rfl)
  obtain ⟨t_MAX_LEARNT, k_MAX_LEARNT⟩ := He.int_ok X0 G (c.fact 36 (f := .int "MAX_LEARNT" 400) rfl)
  obtain ⟨t_MAX_LETTERS, k_MAX_LETTERS⟩ := He.int_ok X0 G (c.fact 37 (f := .int "MAX_LETTERS" 12) rfl)
  obtain ⟨t_MAX_LINES, k_MAX_LINES⟩ := He.int_ok X0 G (c.fact 38 (f := .int "MAX_LINES" 200) rfl)
  obtain ⟨t_MAX_LOGS, k_MAX_LOGS⟩ := He.int_ok X0 G (c.fact 39 (f := .int "MAX_LOGS" 8) rfl)
  obtain ⟨t_MAX_LONG, k_MAX_LONG⟩ := He.int_ok X0 G (c.fact 40 (f := .int "MAX_LONG" 20) rfl)
  obtain ⟨t_MAX_LOOKED, k_MAX_LOOKED⟩ := He.int_ok X0 G (c.fact 41 (f := .int "MAX_LOOKED" 20000) rfl)
  obtain ⟨t_MAX_MACRO, k_MAX_MACRO⟩ := He.int_ok X0 G (c.fact 42 (f := .int "MAX_MACRO" 8) rfl)
  obtain ⟨t_MAX_MERGED, k_MAX_MERGED⟩ := He.int_ok X0 G (c.fact 43 (f := .int "MAX_MERGED" 6) rfl)
  obtain ⟨t_MAX_NAME, k_MAX_NAME⟩ := He.int_ok X0 G (c.fact 44 (f := .int "MAX_NAME" 12) rfl)
  obtain ⟨t_MAX_NESTED, k_MAX_NESTED⟩ := He.int_ok X0 G (c.fact 45 (f := .int "MAX_NESTED" 12) rfl)
  obtain ⟨t_MAX_ORDERED, k_MAX_ORDERED⟩ := He.int_ok X0 G (c.fact 46 (f := .int "MAX_ORDERED" 6) rfl)
  obtain ⟨t_MAX_OUTLINE, k_MAX_OUTLINE⟩ := He.int_ok X0 G (c.fact 47 (f := .int "MAX_OUTLINE" 4) rfl)
  obtain ⟨t_MAX_OUTLINES, k_MAX_OUTLINES⟩ := He.int_ok X0 G (c.fact 48 (f := .int "MAX_OUTLINES" 24) rfl)
  obtain ⟨t_MAX_PADS, k_MAX_PADS⟩ := He.int_ok X0 G (c.fact 49 (f := .int "MAX_PADS" 10) rfl)
  obtain ⟨t_MAX_PAIRS, k_MAX_PAIRS⟩ := He.int_ok X0 G (c.fact 50 (f := .int "MAX_PAIRS" 4000) rfl)
  obtain ⟨t_MAX_PLACES, k_MAX_PLACES⟩ := He.int_ok X0 G (c.fact 51 (f := .int "MAX_PLACES" 20000) rfl)
  obtain ⟨t_MAX_PLAYED, k_MAX_PLAYED⟩ := He.int_ok X0 G (c.fact 52 (f := .int "MAX_PLAYED" 4000) rfl)
  obtain ⟨t_MAX_PRESSES, k_MAX_PRESSES⟩ := He.int_ok X0 G (c.fact 53 (f := .int "MAX_PRESSES" 40) rfl)
  obtain ⟨t_MAX_READ, k_MAX_READ⟩ := He.int_ok X0 G (c.fact 54 (f := .int "MAX_READ" 10) rfl)
  obtain ⟨t_MAX_RECORDED, k_MAX_RECORDED⟩ := He.int_ok X0 G (c.fact 55 (f := .int "MAX_RECORDED" 20) rfl)
  obtain ⟨t_MAX_REPEATED, k_MAX_REPEATED⟩ := He.int_ok X0 G (c.fact 56 (f := .int "MAX_REPEATED" 2000) rfl)
  obtain ⟨t_MAX_REPEATS, k_MAX_REPEATS⟩ := He.int_ok X0 G (c.fact 57 (f := .int "MAX_REPEATS" 1000) rfl)
  obtain ⟨t_MAX_REST, k_MAX_REST⟩ := He.int_ok X0 G (c.fact 58 (f := .int "MAX_REST" 10) rfl)
  obtain ⟨t_MAX_ROUNDS, k_MAX_ROUNDS⟩ := He.int_ok X0 G (c.fact 59 (f := .int "MAX_ROUNDS" 1000000) rfl)
  obtain ⟨t_MAX_ROWED, k_MAX_ROWED⟩ := He.int_ok X0 G (c.fact 60 (f := .int "MAX_ROWED" 40) rfl)
  obtain ⟨t_MAX_ROWS, k_MAX_ROWS⟩ := He.int_ok X0 G (c.fact 61 (f := .int "MAX_ROWS" 8) rfl)
  obtain ⟨t_MAX_ROW_OF, k_MAX_ROW_OF⟩ := He.int_ok X0 G (c.fact 62 (f := .int "MAX_ROW_OF" 60) rfl)
  obtain ⟨t_MAX_ROW_SIGNS, k_MAX_ROW_SIGNS⟩ := He.int_ok X0 G (c.fact 63 (f := .int "MAX_ROW_SIGNS" 5) rfl)
  obtain ⟨t_MAX_SCANNED, k_MAX_SCANNED⟩ := He.int_ok X0 G (c.fact 64 (f := .int "MAX_SCANNED" 30) rfl)
  obtain ⟨t_MAX_SCREENS, k_MAX_SCREENS⟩ := He.int_ok X0 G (c.fact 65 (f := .int "MAX_SCREENS" 20000) rfl)
  obtain ⟨t_MAX_SETS, k_MAX_SETS⟩ := He.int_ok X0 G (c.fact 66 (f := .int "MAX_SETS" 6) rfl)
  obtain ⟨t_MAX_SHORT, k_MAX_SHORT⟩ := He.int_ok X0 G (c.fact 67 (f := .int "MAX_SHORT" 6) rfl)
  obtain ⟨t_MAX_SHORTS, k_MAX_SHORTS⟩ := He.int_ok X0 G (c.fact 68 (f := .int "MAX_SHORTS" 10) rfl)
  obtain ⟨t_MAX_SHOWN, k_MAX_SHOWN⟩ := He.int_ok X0 G (c.fact 69 (f := .int "MAX_SHOWN" 5) rfl)
  obtain ⟨t_MAX_SOUGHT, k_MAX_SOUGHT⟩ := He.int_ok X0 G (c.fact 70 (f := .int "MAX_SOUGHT" 20000) rfl)
  obtain ⟨t_MAX_SPELT, k_MAX_SPELT⟩ := He.int_ok X0 G (c.fact 71 (f := .int "MAX_SPELT" 4000) rfl)
  obtain ⟨t_MAX_STATES, k_MAX_STATES⟩ := He.int_ok X0 G (c.fact 72 (f := .int "MAX_STATES" 4000) rfl)
  obtain ⟨t_MAX_STROKED, k_MAX_STROKED⟩ := He.int_ok X0 G (c.fact 73 (f := .int "MAX_STROKED" 40) rfl)
  obtain ⟨t_MAX_STROKES, k_MAX_STROKES⟩ := He.int_ok X0 G (c.fact 74 (f := .int "MAX_STROKES" 24) rfl)
  obtain ⟨t_MAX_SUBSETS, k_MAX_SUBSETS⟩ := He.int_ok X0 G (c.fact 75 (f := .int "MAX_SUBSETS" 2000) rfl)
  obtain ⟨t_MAX_TABLE, k_MAX_TABLE⟩ := He.int_ok X0 G (c.fact 76 (f := .int "MAX_TABLE" 24) rfl)
  obtain ⟨t_MAX_TESTS, k_MAX_TESTS⟩ := He.int_ok X0 G (c.fact 77 (f := .int "MAX_TESTS" 24) rfl)
  obtain ⟨t_MAX_TEXT, k_MAX_TEXT⟩ := He.int_ok X0 G (c.fact 78 (f := .int "MAX_TEXT" 6000) rfl)
  obtain ⟨t_MAX_TEXTS, k_MAX_TEXTS⟩ := He.int_ok X0 G (c.fact 79 (f := .int "MAX_TEXTS" 4) rfl)
  obtain ⟨t_MAX_TIME, k_MAX_TIME⟩ := He.int_ok X0 G (c.fact 80 (f := .int "MAX_TIME" 1000000) rfl)
  obtain ⟨t_MAX_TYPED, k_MAX_TYPED⟩ := He.int_ok X0 G (c.fact 81 (f := .int "MAX_TYPED" 12) rfl)
  obtain ⟨t_MAX_TYPED_OF, k_MAX_TYPED_OF⟩ := He.int_ok X0 G (c.fact 82 (f := .int "MAX_TYPED_OF" 200) rfl)
  obtain ⟨t_MAX_WAIT, k_MAX_WAIT⟩ := He.int_ok X0 G (c.fact 83 (f := .int "MAX_WAIT" 1000) rfl)
  obtain ⟨t_MAX_WAYS_OF, k_MAX_WAYS_OF⟩ := He.int_ok X0 G (c.fact 84 (f := .int "MAX_WAYS_OF" 4000) rfl)
  obtain ⟨t_MAX_WIRES, k_MAX_WIRES⟩ := He.int_ok X0 G (c.fact 85 (f := .int "MAX_WIRES" 8) rfl)
  obtain ⟨t_MAX_WORDS, k_MAX_WORDS⟩ := He.int_ok X0 G (c.fact 86 (f := .int "MAX_WORDS" 6) rfl)
  obtain ⟨t_MAX_WORDS_KNOWN, k_MAX_WORDS_KNOWN⟩ := He.int_ok X0 G (c.fact 87 (f := .int "MAX_WORDS_KNOWN" 20) rfl)
  obtain ⟨t_MAX_WORDS_OF, k_MAX_WORDS_OF⟩ := He.int_ok X0 G (c.fact 88 (f := .int "MAX_WORDS_OF" 12) rfl)
  obtain ⟨t_MAX_WORD_SIGNS, k_MAX_WORD_SIGNS⟩ := He.int_ok X0 G (c.fact 89 (f := .int "MAX_WORD_SIGNS" 12) rfl)
  obtain ⟨t_MAX_WRITTEN, k_MAX_WRITTEN⟩ := He.int_ok X0 G (c.fact 90 (f := .int "MAX_WRITTEN" 40) rfl)
  have g_isinstance : mg "isinstance" = none := He.free_ok X0 G (c.fact 93 (f := .free "isinstance") rfl)
  have g_ValueError : mg "ValueError" = none := He.free_ok X0 G (c.fact 102 (f := .free "ValueError") rfl)
  have eK : cutK K0 a = K0 := cut_id X0 nl ha rfl
  have X_2 : ∀ base, ClsOk P w (cutK K0 a) mg base Lk00.row_2 := fun base => by
    rw [eK]
    exact clsOk1 X0 G (c00.cls 0 (r := CR_2) rfl) (c00.init 0 (r := CR_2) rfl) ⟨rfl, rfl, rfl, by decide +kernel, by decide +kernel, rfl, rfl, by decide +kernel⟩ hf htop rfl rfl rfl rfl (by decide) (fun _ _ _ _ => rfl) (fun _ _ _ _ => rfl) (fun _ _ _ _ => rfl) (fun _ _ _ _ => rfl) (fun _ _ _ _ => rfl) (fun _ _ _ _ => rfl) (fun _ _ _ _ _ _ us hl => match us, hl with | [_, _], _ => rfl)
  have X_3 : ∀ base, ClsOk P w (cutK K0 a) mg base Lk00.row_3 := fun base => by
    rw [eK]
    exact clsOk1 X0 G (c00.cls 1 (r := CR_3) rfl) (c00.init 1 (r := CR_3) rfl) ⟨rfl, rfl, rfl, by decide +kernel, by decide +kernel, rfl, rfl, by decide +kernel⟩ hf htop rfl rfl rfl rfl (by decide) (fun _ _ _ _ => rfl) (fun _ _ _ _ => rfl) (fun _ _ _ _ => rfl) (fun _ _ _ _ => rfl) (fun _ _ _ _ => rfl) (fun _ _ _ _ => rfl) (fun _ _ _ _ _ _ us hl => match us, hl with | [_, _], _ => rfl)
  have X_4 : ∀ base, ClsOk P w (cutK K0 a) mg base Lk00.row_4 := fun base => by
    rw [eK]
    exact clsOk1 X0 G (c00.cls 2 (r := CR_4) rfl) (c00.init 2 (r := CR_4) rfl) ⟨rfl, rfl, rfl, by decide +kernel, by decide +kernel, rfl, rfl, by decide +kernel⟩ hf htop rfl rfl rfl rfl (by decide) (fun _ _ _ _ => rfl) (fun _ _ _ _ => rfl) (fun _ _ _ _ => rfl) (fun _ _ _ _ => rfl) (fun _ _ _ _ => rfl) (fun _ _ _ _ => rfl) (fun _ _ _ _ _ _ us hl => match us, hl with | [_, _], _ => rfl)
  have X_5 : ∀ base, ClsOk P w (cutK K0 a) mg base Lk00.row_5 := fun base => by
    rw [eK]
    exact clsOk1 X0 G (c00.cls 3 (r := CR_5) rfl) (c00.init 3 (r := CR_5) rfl) ⟨rfl, rfl, rfl, by decide +kernel, by decide +kernel, rfl, rfl, by decide +kernel⟩ hf htop rfl rfl rfl rfl (by decide) (fun _ _ _ _ => rfl) (fun _ _ _ _ => rfl) (fun _ _ _ _ => rfl) (fun _ _ _ _ => rfl) (fun _ _ _ _ => rfl) (fun _ _ _ _ => rfl) (fun _ _ _ _ _ _ us hl => match us, hl with | [_, _], _ => rfl)
  have X_6 : ∀ base, ClsOk P w (cutK K0 a) mg base Lk00.row_6 := fun base => by
    rw [eK]
    exact clsOk1 X0 G (c00.cls 4 (r := CR_6) rfl) (c00.init 4 (r := CR_6) rfl) ⟨rfl, rfl, rfl, by decide +kernel, by decide +kernel, rfl, rfl, by decide +kernel⟩ hf htop rfl rfl rfl rfl (by decide) (fun _ _ _ _ => rfl) (fun _ _ _ _ => rfl) (fun _ _ _ _ => rfl) (fun _ _ _ _ => rfl) (fun _ _ _ _ => rfl) (fun _ _ _ _ => rfl) (fun _ _ _ _ _ _ us hl => match us, hl with | [_, _], _ => rfl)
  have X_7 : ∀ base, ClsOk P w (cutK K0 a) mg base Lk00.row_7 := fun base => by
    rw [eK]
    exact clsOk2 X0 G (c00.cls 5 (r := CR_7) rfl) (c00.init 5 (r := CR_7) rfl) ⟨rfl, rfl, rfl, by decide +kernel, by decide +kernel, rfl, rfl, by decide +kernel⟩ hf htop rfl rfl rfl rfl (by decide) (by decide) (by decide) (by decide) (fun _ _ _ _ => rfl) (fun _ _ _ _ => rfl) (fun _ _ _ _ => rfl) (fun _ _ _ _ => rfl) (fun _ _ _ _ => rfl) (fun _ _ _ _ => rfl) (fun _ _ _ _ => rfl) (fun _ _ _ _ => rfl) (fun _ _ _ _ _ _ us hl => match us, hl with | [_, _, _], _ => rfl)
  have X_8 : ∀ base, ClsOk P w (cutK K0 a) mg base Lk00.row_8 := fun base => by
    rw [eK]
    exact clsOk1 X0 G (c00.cls 6 (r := CR_8) rfl) (c00.init 6 (r := CR_8) rfl) ⟨rfl, rfl, rfl, by decide +kernel, by decide +kernel, rfl, rfl, by decide +kernel⟩ hf htop rfl rfl rfl rfl (by decide) (fun _ _ _ _ => rfl) (fun _ _ _ _ => rfl) (fun _ _ _ _ => rfl) (fun _ _ _ _ => rfl) (fun _ _ _ _ => rfl) (fun _ _ _ _ => rfl) (fun _ _ _ _ _ _ us hl => match us, hl with | [_, _], _ => rfl)
  have c_ArgumentError : ∃ C0, mg "ArgumentError" = some (.ref C0) := ⟨_, He.glo_ok X0 G (c.fact 94 (f := .glo "ArgumentError") rfl)⟩
  have c_CheckError : ∃ C0, mg "CheckError" = some (.ref C0) := ⟨_, He.glo_ok X0 G (c.fact 95 (f := .glo "CheckError") rfl)⟩
  have c_CommandError : ∃ C0, mg "CommandError" = some (.ref C0) := ⟨_, He.glo_ok X0 G (c.fact 96 (f := .glo "CommandError") rfl)⟩
  have c_KeysError : ∃ C0, mg "KeysError" = some (.ref C0) := ⟨_, He.glo_ok X0 G (c.fact 103 (f := .glo "KeysError") rfl)⟩
  have c_LogError : ∃ C0, mg "LogError" = some (.ref C0) := ⟨_, He.glo_ok X0 G (c.fact 97 (f := .glo "LogError") rfl)⟩
  have c_PaperError : ∃ C0, mg "PaperError" = some (.ref C0) := ⟨_, He.glo_ok X0 G (c.fact 98 (f := .glo "PaperError") rfl)⟩
  have c_TextError : ∃ C0, mg "TextError" = some (.ref C0) := ⟨_, He.glo_ok X0 G (c.fact 99 (f := .glo "TextError") rfl)⟩
  have c_TooMany : ∃ C0, mg "TooMany" = some (.ref C0) := ⟨_, He.glo_ok X0 G (c.fact 100 (f := .glo "TooMany") rfl)⟩
  have e := hfa.symm.trans m_law
  cases e
  refine ⟨fd_law, fun s v => FunD.bindsA (ps := ["script"]) F_law (fun _ _ _ _ _ _ us hl => match us, hl with | [_], _ => rfl) s [v] rfl, fun base _ _ => ?_⟩
  have O_law_draws := ok_law_draws (P := P) (w := w) (mg := mg) (base := base) (defs := Lk00.defs) (flds := Lk00.flds) (wf := wf) F_law_draws g_abs g_int g_range rfl
  have G0 : DefOk P w (cutK K0 a) mg base Lk00.defs Lk00.flds wf "_law_draws" 0 1 1 := ⟨_, _, ["script"], O_law_draws, m_law_draws, F_law_draws.kp, FunD.bindsN F_law_draws fun _ _ _ _ _ _ us hl => match us, hl with | [_], _ => rfl⟩
  have O_law_more := ok_law_more (P := P) (w := w) (mg := mg) (base := base) (defs := Lk00.defs) (flds := Lk00.flds) (wf := wf) F_law_more g_int g_len g_range rfl
  have G1 : DefOk P w (cutK K0 a) mg base Lk00.defs Lk00.flds wf "_law_more" 1 2 1 := ⟨_, _, ["draws", "place"], O_law_more, m_law_more, F_law_more.kp, FunD.bindsN F_law_more fun _ _ _ _ _ _ us hl => match us, hl with | [_, _], _ => rfl⟩
  have O_law_take := ok_law_take (P := P) (w := w) (mg := mg) (base := base) (defs := Lk00.defs) (flds := Lk00.flds) (wf := wf) F_law_take g_int g_len G1 rfl
  have G2 : DefOk P w (cutK K0 a) mg base Lk00.defs Lk00.flds wf "_law_take" 2 3 2 := ⟨_, _, ["draws", "at", "many"], O_law_take, m_law_take, F_law_take.kp, FunD.bindsN F_law_take fun _ _ _ _ _ _ us hl => match us, hl with | [_, _, _], _ => rfl⟩
  have O_law_one := ok_law_one (P := P) (w := w) (mg := mg) (base := base) (defs := Lk00.defs) (flds := Lk00.flds) (wf := wf) F_law_one g_len G2 rfl
  have G3 : DefOk P w (cutK K0 a) mg base Lk00.defs Lk00.flds wf "_law_one" 3 3 3 := ⟨_, _, ["rows", "draws", "at"], O_law_one, m_law_one, F_law_one.kp, FunD.bindsN F_law_one fun _ _ _ _ _ _ us hl => match us, hl with | [_, _, _], _ => rfl⟩
  have O_law_limits_right := ok_law_limits_right (P := P) (w := w) (mg := mg) (base := base) (defs := Lk00.defs) (flds := Lk00.flds) (wf := wf) F_law_limits_right g_repr k_MAX_ABBREVIATED k_MAX_ACTIONS k_MAX_ALPHABET k_MAX_ARRANGED k_MAX_ASKED k_MAX_CAPS k_MAX_CHANGED_ONES k_MAX_CODED k_MAX_COMMANDS k_MAX_CROSSED k_MAX_DEADS k_MAX_DOWN k_MAX_EDITED k_MAX_EDITS k_MAX_EFFORT k_MAX_EVENTS k_MAX_EXERCISE k_MAX_FLIPS k_MAX_FOLDED k_MAX_FORETOLD k_MAX_FREQUENCY k_MAX_GLIDE k_MAX_GRID k_MAX_KEYS k_MAX_LAYERS k_MAX_LEARNED k_MAX_LEARNT k_MAX_LETTERS k_MAX_LINES k_MAX_LOGS k_MAX_LONG k_MAX_LOOKED k_MAX_MACRO k_MAX_MERGED k_MAX_NAME k_MAX_NESTED k_MAX_ORDERED k_MAX_OUTLINE k_MAX_OUTLINES k_MAX_PADS k_MAX_PAIRS k_MAX_PLACES k_MAX_PLAYED k_MAX_PRESSES k_MAX_READ k_MAX_RECORDED k_MAX_REPEATED k_MAX_REPEATS k_MAX_REST k_MAX_ROUNDS k_MAX_ROWED k_MAX_ROWS k_MAX_ROW_OF k_MAX_ROW_SIGNS k_MAX_SCANNED k_MAX_SCREENS k_MAX_SETS k_MAX_SHORT k_MAX_SHORTS k_MAX_SHOWN k_MAX_SOUGHT k_MAX_SPELT k_MAX_STATES k_MAX_STROKED k_MAX_STROKES k_MAX_SUBSETS k_MAX_TABLE k_MAX_TESTS k_MAX_TEXT k_MAX_TEXTS k_MAX_TIME k_MAX_TYPED k_MAX_TYPED_OF k_MAX_WAIT k_MAX_WAYS_OF k_MAX_WIRES k_MAX_WORDS k_MAX_WORDS_KNOWN k_MAX_WORDS_OF k_MAX_WORD_SIGNS k_MAX_WRITTEN rfl
  have G4 : DefOk P w (cutK K0 a) mg base Lk00.defs Lk00.flds wf "_law_limits_right" 4 0 1 := ⟨_, _, [], O_law_limits_right, m_law_limits_right, F_law_limits_right.kp, FunD.bindsN F_law_limits_right fun _ _ _ _ _ _ us hl => match us, hl with | [], _ => rfl⟩
  have O_law_raise := ok_law_raise (P := P) (w := w) (mg := mg) (base := base) (defs := Lk00.defs) (flds := Lk00.flds) (wf := wf) F_law_raise rfl (X_2 base) rfl (X_3 base) rfl (X_4 base) rfl (X_5 base) rfl (X_6 base) rfl (X_7 base) rfl (X_8 base) rfl
  have G5 : DefOk P w (cutK K0 a) mg base Lk00.defs Lk00.flds wf "_law_raise" 5 3 3 := ⟨_, _, ["k", "one", "other"], O_law_raise, m_law_raise, F_law_raise.kp, FunD.bindsN F_law_raise fun _ _ _ _ _ _ us hl => match us, hl with | [_, _, _], _ => rfl⟩
  have O_law_kinds := ok_law_kinds (P := P) (w := w) (mg := mg) (base := base) (defs := Lk00.defs) (flds := Lk00.flds) (wf := wf) F_law_kinds g_isinstance c_ArgumentError c_CheckError c_CommandError c_LogError c_PaperError c_TextError c_TooMany rfl
  have GE6 : DefOkE P w (cutK K0 a) mg base Lk00.defs Lk00.flds wf "_law_kinds" 6 1 := ⟨_, _, "e", m_law_kinds, F_law_kinds.kp, FunD.bindsN F_law_kinds fun _ _ _ _ _ _ us hl => match us, hl with | [_], _ => rfl, O_law_kinds⟩
  have O_law_caught := ok_law_caught (P := P) (w := w) (mg := mg) (base := base) (defs := Lk00.defs) (flds := Lk00.flds) (wf := wf) F_law_caught g_ValueError g_isinstance G5 GE6 c_KeysError rfl
  have G7 : DefOk P w (cutK K0 a) mg base Lk00.defs Lk00.flds wf "_law_caught" 7 3 4 := ⟨_, _, ["k", "one", "other"], O_law_caught, m_law_caught, F_law_caught.kp, FunD.bindsN F_law_caught fun _ _ _ _ _ _ us hl => match us, hl with | [_, _, _], _ => rfl⟩
  have O_law_fields := ok_law_fields (P := P) (w := w) (mg := mg) (base := base) (defs := Lk00.defs) (flds := Lk00.flds) (wf := wf) F_law_fields G5 c_ArgumentError c_CheckError c_CommandError c_LogError c_PaperError c_TextError c_TooMany rfl
  have G8 : DefOk P w (cutK K0 a) mg base Lk00.defs Lk00.flds wf "_law_fields" 8 3 4 := ⟨_, _, ["k", "one", "other"], O_law_fields, m_law_fields, F_law_fields.kp, FunD.bindsN F_law_fields fun _ _ _ _ _ _ us hl => match us, hl with | [_, _, _], _ => rfl⟩
  exact ok_law F_law g_range g_repr G0 G3 G4 G7 G8 m
end Tk00

set_option maxHeartbeats 0
open PySem PySem.W PySem.Calls PyProof.Rows
theorem repl_ints' {P : Program} {w : World} {K : PySem.W.Frag} {H : L2.Hp} (ys : List Int) : MP.RepL P w K H (ys.map L2.V.int) (ys.map PyData.int) [] := by
  induction ys with
  | nil => exact .nil
  | cons y ys ih => exact .cons (S := []) (T := []) (.int y) ih
theorem PySem.Challenge.cw_keywrought_k00_errors_and_limits_holds : PySem.Challenge.rw_keywrought_k00_errors_and_limits.Holds := by
  w_on; o_law
  refine HandSHeadRun.head_any (r := OpenLaw.row PySem.Challenge.rw_keywrought_k00_errors_and_limits) (q := view (OpenLaw.row PySem.Challenge.rw_keywrought_k00_errors_and_limits).prog [101]) (H := Tk00.hk) (ob := Tk00.ob) (M := 4000) (loose := Tk00.loose) (d := HandSHeadRun.topDef (OpenLaw.row PySem.Challenge.rw_keywrought_k00_errors_and_limits).prog 101) (kwd := []) Tk00.ob_eq
    (by kernel_rfl) (fun s => by kernel_rfl) Tk00.run (by kernel_rfl) (by kernel_rfl) (by kernel_rfl) (by rfl) (by first | assumption | decide +kernel) (by decide +kernel) ⟨rfl, rfl, rfl, rfl, rfl, by decide +kernel⟩ ?hw ?hc
  case hw => w_witness2
  case hc =>
    refine MP.walk_G (l := PySem.Challenge.rw_keywrought_k00_errors_and_limits) (n := 63) (k := 5) (x := "script") rfl (by decide) (by kernel_rfl) ⟨rfl, by decide, by decide⟩ ?F
    intro w mg fa a h vs ns Y G hmg0 ha are hlen
    obtain ⟨K, KX, nl, c⟩ := Y
    have hmg : mg ("law" : PySem.Str) = some (.ref fa) := by
      have e : (HandSHeadRun.topDef (OpenLaw.row PySem.Challenge.rw_keywrought_k00_errors_and_limits).prog 101).name = ("law" : PySem.Str) := by kernel_rfl
      rw [← e]
      exact hmg0
    obtain ⟨fd, hb, hF⟩ := Tk00.facts (P := (PySem.Challenge.rw_keywrought_k00_errors_and_limits).prog) (w := w) 4 300 KX G hmg c nl (by kernel_rfl) (by kernel_rfl) ha are
    refine ⟨MP.cutK K a, fd, _, by rw [MP.cutK_look, if_pos rfl], MP.cutK_in KX, hb, fun H _ hS => ?_, hF⟩
    refine ⟨[.p (.list (ns.map .int))], [a] ++ [], rfl, .dat (.lst hS (repl_ints' ns)) .nil, ?_⟩
    obtain ⟨d, n', e, ed⟩ := (K00.law_true ns hlen).ok
    rw [e]
    intro v H' T r
    subst ed
    cases r
    rfl
