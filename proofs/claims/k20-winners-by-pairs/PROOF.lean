import PyProof.Rows.All
import Wide.All
import OpenK.AllK
import Wide.FinOn
import HandS.ForMost
import HandS.ForExc
import HandS.TryMany
import HandS.CallSlots
import KE.DataMinMax
import KE.DataCmp
import KE.KTupSum
import KE.DataFind
import HandS.TupAny
import HandS.Deep
import HandS.Style
import HandS.IsInst
import HandS.Conv
import HandS.Text
import PyProof.Rows.SeqMore
import HandS.SortInts
import KE.GoesNew
import HandS.Iter
import HandS.SetFor
import KE.GoesEnum
import HandS.WordsExc
import HandS.HeadEnd
import HandS.Set
import HandS.Strs
import PyProof.Rows.SetFrom
import HandS.ExcOwn
import HandS.TupMul
import HandS.WordsDict
import PySem.Challenge.RW_cardhands_k20_whole_winners_by_pairs
import PyProof.P3Eq
set_option Elab.async false
set_option linter.all false
set_option maxRecDepth 100000
set_option maxHeartbeats 4000000
/-! The small language: values, heap, interpreter -/
namespace Cd
open PySem L2

inductive Val where
  | p (d : PyData)
  | ref (n : Nat)
inductive Fld where
  | p (d : PyData)
  | l (ts : List PyData)
inductive Ob where
  | lst (ts : List PyData)
  | dct (kvs : List (Key × Fld))
  | ins (c : Nat) (fs : List Fld)
  | dead
abbrev Hi := List Ob
abbrev Ev := List (Option Val)
structure Ex where
  c : Nat
  fs : List PyData
/-- what an evaluation comes to -/
inductive R (α : Type) where
  | ok (a : α) (h : Hi)
  | exc (e : Ex) (h : Hi)
  | stuck
def R.bind {α β : Type} (r : R α) (k : α → Hi → R β) : R β :=
  match r with
  | .ok a h => k a h
  | .exc e h => .exc e h
  | .stuck => .stuck
def ofO {α : Type} (o : Option α) (h : Hi) : R α := match o with
  | some a => .ok a h
  | none => .stuck
@[simp] theorem R.bind_ok {α β : Type} (a : α) (h : Hi) (k : α → Hi → R β) : (R.ok a h).bind k = k a h := rfl
@[simp] theorem R.bind_exc {α β : Type} (e : Ex) (h : Hi) (k : α → Hi → R β) : (R.exc e h : R α).bind k = .exc e h := rfl
@[simp] theorem R.bind_stuck {α β : Type} (k : α → Hi → R β) : (R.stuck : R α).bind k = .stuck := rfl
@[simp] theorem ofO_some {α : Type} (a : α) (h : Hi) : ofO (some a) h = .ok a h := rfl
@[simp] theorem ofO_none {α : Type} (h : Hi) : ofO (none : Option α) h = .stuck := rfl

/-- unary operations on data -/
inductive O1 where
  | len | sum | max | min | any | all | sorted | sortedSet | lenSet | tuple | list | neg | isNone | notNone | rev | abs | truth | join0 | split0 | int
  | range | rangeT | lenDict | revT
  | look (kvs : List (List Int × Int))
/-- binary operations -/
inductive O2 where
  | add | addI | cat | sub | mul | rep | fdiv | mod | eq | ne | lt | le | gt | ge | isIn | notIn | ix | count | index | max2 | min2 | join | split | starts | from_ | upto | zipL | enumL | countT | repT
/-- ternary: a slice -/
inductive O3 where
  | slice (l u : Bool)
/-- what a name may be asked to be -/
inductive Ty where
  | int | bool | str | tuple | list | exc (c : Nat)
inductive Tg where
  | name (i : Nat)
  | tup (ts : List Tg)

mutual
inductive E where
  | var (i : Nat)
  | lit (d : PyData)
  | fld (i j : Nat)
  | key (i : Nat) (k : Key)
  | op1 (o : O1) (a : E)
  | op2 (o : O2) (a b : E)
  | op2b (o : O2) (a b : E)
  | op2d (o : O2) (a b : E)
  | op3 (o : O3) (a b c : E)
  | op3b (o : O3) (a b c : E)
  | and_ (a b : E)
  | or_ (a b : E)
  | not_ (a : E)
  | ite (c : Te) (a b : E)
  | tup (es : List E)
  | lst (es : List E)
  | call (f : Nat) (es : List E)
  | meth (c f i : Nat) (es : List E)
  | new (c f : Nat) (es : List E)
  | comp (own : List Nat) (t : Tg) (src : Src) (cond : List Te) (elt : E)
  | compB (i : Nat) (own : List Nat) (t : Tg) (cond : List Te) (elt : E)
  | compI (i : Nat) (own : List Nat) (t : Tg) (cond : List Te) (elt : E)
  | isi (a : E) (t : Ty)
  | dget (i : Nat) (k : E)
  | dgetD (i : Nat) (k d : E)
  | din (i : Nat) (neg : Bool) (k : E)
  | pop (i : Nat) (a : E)
  | freeze (i : Nat)
  | mk (e : E)
  | excFld (i j : Nat)
inductive Te where
  | val (e : E)
  | and_ (a b : Te)
  | or_ (a b : Te)
  | not_ (a : Te)
inductive Src where
  | e (a : E)
  | rng1 (a : E)
  | rng2 (a b : E)
  | rng3 (a b : E)
  | enum (a : E)
  | zip (a b : E)
  | items (i : Nat)
end
inductive S where
  | set (i : Nat) (e : E)
  | newD (i : Nat) (kvs : List (Key × Bool × E))
  | set2 (i j : Nat) (a b : E)
  | unpack (t : Tg) (e : E)
  | setFld (i j : Nat) (e : E)
  | newFld (i j : Nat) (e : E)
  | setKey (i : Nat) (k : Key) (e : E)
  | newKey (i : Nat) (k : Key) (e : E)
  | setKeyD (i : Nat) (k e : E)
  | setIx (p : E) (i e : E)
  | setIx2 (i j : Nat) (k l a b : E)
  | app (p : E) (e : E)
  | ext (p : E) (e : E)
  | expr (e : E)
  | if_ (c : Te) (a b : List S)
  | for_ (t : Tg) (src : Src) (body : List S)
  | while_ (c : Te) (body : List S)
  | ret (e : E)
  | brk | cont | pass
  | raise_ (c : Nat) (es : List E)
  | forB (t : Tg) (i : Nat) (body : List S)
  | try_ (body : List S) (hs : List (Nat × List S))

/-! ### operations on data -/
def intsD : List PyData → Option (List Int)
  | [] => some []
  | .int i :: r => (intsD r).map (i :: ·)
  | _ :: _ => none
def boolsD : List PyData → Option (List Bool)
  | [] => some []
  | .bool b :: r => (boolsD r).map (b :: ·)
  | _ :: _ => none
def strsD : List PyData → Option (List Str)
  | [] => some []
  | .str x :: r => (strsD r).map (x :: ·)
  | _ :: _ => none
def insI (x : Int) : List Int → List Int
  | [] => [x]
  | y :: r => if x ≤ y then x :: y :: r else y :: insI x r
def sortI : List Int → List Int
  | [] => []
  | x :: r => insI x (sortI r)
def dedup {α : Type} [DecidableEq α] : List α → List α
  | [] => []
  | x :: r => if x ∈ r then dedup r else x :: dedup r
def truthD : PyData → Option Bool
  | .none => some false
  | .bool b => some b
  | .int i => some (i != 0)
  | .list ts => some (!ts.isEmpty)
  | .tuple ts => some (!ts.isEmpty)
  | .str x => if x.length ≤ sizeLine then some ((x.length : Int) != 0) else none
  | _ => none
def isNoneD : PyData → Bool
  | .none => true
  | _ => false
def cmpOk (x y : PyData) : Bool := PySem.W.alike x y && !isNoneD x && decide (min x.depth y.depth ≤ 64)
def maxOk (ts : List PyData) : Bool := ts.all (fun a => ts.all (PySem.W.alike a)) && ts.all (fun a => !isNoneD a) && decide (PyData.depthAll ts ≤ 60)
def seqD : PyData → Option (List PyData)
  | .list ts => some ts
  | .tuple ts => some ts
  | _ => none
def scalD : PyData → Bool
  | .none => true
  | .bool _ => true
  | .int _ => true
  | .str _ => true
  | _ => false
/-- x == y -/
def eqD (x y : PyData) : Option Bool :=
  if scalD x && scalD y then some (PyData.eqv x y)
  else if SeqAt.shaped x && SeqAt.shaped y then some (PyData.eqv x y) else none
/-- x in the items -/
def inD (x : PyData) (ys : List PyData) : Option Bool :=
  if x.plain && PyData.plainAll ys && decide (x.depth ≤ 60) then some (ys.any fun y => PyData.eqv y x) else none
def ltL (lt : PyData → PyData → Bool) : List PyData → List PyData → Bool
  | [], [] => false
  | [], _ :: _ => true
  | _ :: _, [] => false
  | x :: xs, y :: ys => if PyData.eqv x y then ltL lt xs ys else lt x y
def small64 (i : Int) : Bool := decide (i.natAbs < 18446744073709551616)
def strAt (x : Str) (i : Int) : Option PyData := if x.length ≤ sizeLine then (atI x.cps.toList i).map fun c => .str ⟨#[c]⟩ else none
def lenD : PyData → Option PyData
  | .list ts => some (.int ts.length)
  | .tuple ts => some (.int ts.length)
  | .str x => if x.length ≤ sizeLine then some (.int x.length) else none
  | _ => none
def sumD : PyData → Option PyData
  | .list ts => (intsD ts).map fun ns => .int ns.sum
  | .tuple ts => (intsD ts).map fun ns => .int ns.sum
  | _ => none
def maxS : List PyData → Option PyData
  | x :: xs => if maxOk (x :: xs) then some (PySem.W.maxD x xs) else none
  | [] => none
def minS : List PyData → Option PyData
  | x :: xs => if maxOk (x :: xs) then some (PySem.W.minD x xs) else none
  | [] => none
def anyS : PyData → Option PyData
  | .list ts => (boolsD ts).map fun bs => .bool (bs.any id)
  | _ => none
def allS : PyData → Option PyData
  | .list ts => (boolsD ts).map fun bs => .bool (bs.all id)
  | _ => none
def pairsD : List PyData → Option (List (Int × Int))
  | [] => some []
  | .tuple [.int a, .int b] :: r => (pairsD r).map ((a, b) :: ·)
  | _ :: _ => none
def pairD (p : Int × Int) : PyData := .tuple [.int p.1, .int p.2]
/-- p ≤ q, the first ahead of the second -/
def leP (p q : Int × Int) : Bool := decide (p.1 < q.1) || (decide (p.1 = q.1) && decide (p.2 ≤ q.2))
def insP (x : Int × Int) : List (Int × Int) → List (Int × Int)
  | [] => [x]
  | y :: r => if leP x y then x :: y :: r else y :: insP x r
def sortP : List (Int × Int) → List (Int × Int)
  | [] => []
  | x :: r => insP x (sortP r)
def sortedS : PyData → Option PyData
  | .list ts => match intsD ts with
    | some ns => some (.list ((sortI ns).map .int))
    | none => (pairsD ts).map fun ps => .list ((sortP ps).map pairD)
  | .tuple ts => (intsD ts).map fun ns => .list ((sortI ns).map .int)
  | _ => none
def sortedSetS : PyData → Option PyData
  | .list ts => (intsD ts).bind fun ns => if ns.length < 64 then some (.list ((sortI (dedup ns)).map .int)) else none
  | _ => none
def tupleS : PyData → Option PyData
  | .list ts => some (.tuple ts)
  | .tuple ts => some (.tuple ts)
  | _ => none
def listS : PyData → Option PyData
  | .list ts => some (.list ts)
  | .tuple ts => some (.list ts)
  | _ => none
def negS : PyData → Option PyData
  | .int i => some (.int (-i))
  | _ => none
def absS : PyData → Option PyData
  | .int i => some (.int (if i < 0 then -i else i))
  | _ => none
def revS : PyData → Option PyData
  | .list ts => some (.list ts.reverse)
  | _ => none
def revTS : PyData → Option PyData
  | .tuple ts => some (.tuple ts.reverse)
  | _ => none
/-- len(set(texts)) -/
def lenSetS : PyData → Option PyData
  | .list ts => (strsD ts).bind fun xs => if xs.length < 1000 then some (.int (dedup xs.reverse).length) else none
  | _ => none
/-- a module's table at a tuple of ints -/
def lookS (kvs : List (List Int × Int)) : PyData → Option PyData
  | .tuple ts => (intsD ts).bind fun ks => (kvs.lookup ks).map .int
  | _ => none
def rangeD (lo : Int) (n : Nat) (c : Int) : List PyData := (List.range n).map fun (i : Nat) => .int (lo + (i : Int) * c)
def rngOk (i : Int) : Bool := decide (i.natAbs < 4611686018427387904)
def rangeS : PyData → Option PyData
  | .int j => if rngOk j && decide (j.toNat ≤ 16777216) then some (.list (rangeD 0 j.toNat 1)) else none
  | _ => none
def fromS : PyData → PyData → Option PyData
  | .int i, .int j => if rngOk i && rngOk j && decide ((j - i).toNat ≤ 16777216) then some (.list (rangeD i (j - i).toNat 1)) else none
  | _, _ => none
def key0 : PyData → Option Key
  | .int i => some (.inl i)
  | .str x => some (.inr x)
  | _ => none
def pairKeys : List PyData → Option (List Key)
  | [] => some []
  | .tuple [k, _] :: r => (key0 k).bind fun q => (pairKeys r).map (q :: ·)
  | _ :: _ => none
/-- len(dict(pairs)) -/
def lenDictS : PyData → Option PyData
  | .list ts => (pairKeys ts).map fun ks => .int (dedup ks).length
  | _ => none
/-- int(x) of a truth or an int -/
def intS : PyData → Option PyData
  | .int i => some (.int i)
  | .bool k => some (.int (if k then 1 else 0))
  | _ => none
def opf1 (o : O1) (d : PyData) : Option PyData := match o with
  | .int => intS d
  | .range => rangeS d
  | .rangeT => (rangeS d).bind tupleS
  | .lenDict => lenDictS d
  | .lenSet => lenSetS d
  | .revT => revTS d
  | .look kvs => lookS kvs d
  | .len => lenD d
  | .sum => sumD d
  | .max => (seqD d).bind maxS
  | .min => (seqD d).bind minS
  | .any => anyS d
  | .all => allS d
  | .sorted => sortedS d
  | .sortedSet => sortedSetS d
  | .tuple => tupleS d
  | .list => listS d
  | .neg => negS d
  | .isNone => some (.bool (isNoneD d))
  | .notNone => some (.bool (!isNoneD d))
  | .rev => revS d
  | .abs => absS d
  | _ => none
def addD : PyData → PyData → Option PyData
  | .int i, .int j => some (.int (i + j))
  | .str x, .str y => if x.length + y.length ≤ sizeLine then some (.str (x ++ y)) else none
  | .tuple xs, .tuple ys => if xs.length + ys.length ≤ sizeLine then some (.tuple (xs ++ ys)) else none
  | .list xs, .list ys => if xs.length + ys.length ≤ sizeLine then some (.list (xs ++ ys)) else none
  | _, _ => none
def addI : PyData → PyData → Option PyData
  | .int i, .int j => some (.int (i + j))
  | _, _ => none
def catD : PyData → PyData → Option PyData
  | .list xs, .list ys => if xs.length + ys.length ≤ sizeLine then some (.list (xs ++ ys)) else none
  | _, _ => none
def subD : PyData → PyData → Option PyData
  | .int i, .int j => some (.int (i - j))
  | _, _ => none
def mulD : PyData → PyData → Option PyData
  | .int i, .int j => if small64 i || small64 j then some (.int (i * j)) else none
  | _, _ => none
def repD : PyData → PyData → Option PyData
  | .list xs, .int k => if decide (k.natAbs < 9223372036854775808) && decide (xs.length * k.toNat ≤ sizeLine) then some (.list (List.replicate k.toNat xs).flatten) else none
  | _, _ => none
def repTD : PyData → PyData → Option PyData
  | .tuple xs, .int k => if !xs.isEmpty && decide (2 ≤ k) && decide (k ≤ 1000) && decide (xs.length ≤ 1000) then some (.tuple (List.replicate k.toNat xs).flatten) else none
  | _, _ => none
def fdivD : PyData → PyData → Option PyData
  | .int i, .int j => if decide (j ≠ 0) && decide (j.natAbs < 1073741824) then some (.int (i.fdiv j)) else none
  | _, _ => none
def modD : PyData → PyData → Option PyData
  | .int i, .int j => if j = 0 then none else some (.int (i.fmod j))
  | _, _ => none
/-- a comparison: of ints, or of data -/
def cmpD (p : Int → Int → Bool) (f : PyData → PyData → Bool) : PyData → PyData → Option PyData
  | .int i, .int j => some (.bool (p i j))
  | x, y => if cmpOk x y then some (.bool (f x y)) else none
def ixD : PyData → PyData → Option PyData
  | .list xs, .int i => atI xs i
  | .tuple xs, .int i => atI xs i
  | .str x, .int i => strAt x i
  | _, _ => none
def max2D : PyData → PyData → Option PyData
  | .int i, .int j => some (.int (if j > i then j else i))
  | _, _ => none
def min2D : PyData → PyData → Option PyData
  | .int i, .int j => some (.int (if j < i then j else i))
  | _, _ => none
def countD : PyData → PyData → Option PyData
  | .list xs, y => if scalD y && xs.all scalD then some (.int (xs.countP fun x => PyData.eqv x y)) else none
  | _, _ => none
def countTD : PyData → PyData → Option PyData
  | .tuple xs, y => if scalD y && xs.all scalD then some (.int (xs.countP fun x => PyData.eqv x y)) else none
  | _, _ => none
def opf2 (o : O2) (x y : PyData) : Option PyData := match o with
  | .add => addD x y
  | .addI => addI x y
  | .cat => catD x y
  | .sub => subD x y
  | .mul => mulD x y
  | .rep => repD x y
  | .repT => repTD x y
  | .fdiv => fdivD x y
  | .mod => modD x y
  | .eq => (eqD x y).map .bool
  | .ne => (eqD x y).map fun b => .bool !b
  | .lt => cmpD (fun i j => decide (i < j)) (fun x y => PySem.W.dataLt x y) x y
  | .le => cmpD (fun i j => decide (i ≤ j)) (fun x y => !PySem.W.dataLt y x) x y
  | .gt => cmpD (fun i j => decide (j < i)) (fun x y => PySem.W.dataLt y x) x y
  | .ge => cmpD (fun i j => decide (j ≤ i)) (fun x y => !PySem.W.dataLt x y) x y
  | .isIn => (seqD y).bind fun ys => (inD x ys).map .bool
  | .notIn => (seqD y).bind fun ys => (inD x ys).map fun b => .bool !b
  | .ix => ixD x y
  | .max2 => max2D x y
  | .min2 => min2D x y
  | .count => countD x y
  | .from_ => fromS x y
  | .countT => countTD x y
  | _ => none
def cutD (xs : List PyData) (lo hi : Option Int) : List PyData := (xs.drop (HT.sIx xs.length 0 lo)).take (HT.sIx xs.length xs.length hi - HT.sIx xs.length 0 lo)
def partD : Bool → PyData → Option (Option Int)
  | false, .none => some none
  | true, .int i => some (some i)
  | _, _ => none
def opf3 : O3 → PyData → PyData → PyData → Option PyData
  | .slice l u, .list xs, a, b => (partD l a).bind fun lo => (partD u b).map fun hi => .list (cutD xs lo hi)
  | .slice l u, .tuple xs, a, b => (partD l a).bind fun lo => (partD u b).map fun hi => .tuple (cutD xs lo hi)
  | _, _, _, _ => none

/-! ### places -/
def slot : Ev → Nat → Option Val
  | [], _ => none
  | v :: _, 0 => v
  | _ :: r, i + 1 => slot r i
def setSlot : Ev → Nat → Option Val → Ev
  | [], _, _ => []
  | _ :: r, 0, v => v :: r
  | x :: r, i + 1, v => x :: setSlot r i v
def wipeE (env : Ev) : List Nat → Ev
  | [] => env
  | v :: vs => setSlot (wipeE env vs) v none
mutual
def bindT : Tg → PyData → Ev → Option Ev
  | .name i, d, env => some (setSlot env i (some (.p d)))
  | .tup ts, .tuple ds, env => bindTs ts ds env
  | .tup _, _, _ => none
def bindTs : List Tg → List PyData → Ev → Option Ev
  | [], [], env => some env
  | t :: ts, d :: ds, env => (bindT t d env).bind (bindTs ts ds)
  | _, _, _ => none
end
def enumFrom (k : Nat) : List PyData → List PyData
  | [] => []
  | x :: r => .tuple [.int k, x] :: enumFrom (k + 1) r
def zipD : List PyData → List PyData → List PyData
  | x :: xs, y :: ys => .tuple [x, y] :: zipD xs ys
  | _, _ => []
def itemsOf : PyData → Option (List PyData)
  | .list ts => some ts
  | .tuple ts => some ts
  | .str x => some (x.cps.toList.map fun c => .str ⟨#[c]⟩)
  | _ => none
def listAt (h : Hi) (n : Nat) : Option (List PyData) := match h[n]? with
  | some (.lst ts) => some ts
  | _ => none
def insAt (h : Hi) (n : Nat) : Option (Nat × List Fld) := match h[n]? with
  | some (.ins c fs) => some (c, fs)
  | _ => none
def dctAt (h : Hi) (n : Nat) : Option (List (Key × Fld)) := match h[n]? with
  | some (.dct kvs) => some kvs
  | _ => none
def slotRef (env : Ev) (i : Nat) : Option Nat := match slot env i with
  | some (.ref n) => some n
  | _ => none
def dctOf (env : Ev) (h : Hi) (i : Nat) : Option (Nat × List (Key × Fld)) := (slotRef env i).bind fun n => (dctAt h n).map fun kvs => (n, kvs)
def insOf (env : Ev) (h : Hi) (i : Nat) : Option (Nat × Nat × List Fld) := (slotRef env i).bind fun n => (insAt h n).map fun p => (n, p)
def lstOf (env : Ev) (h : Hi) (i : Nat) : Option (Nat × List PyData) := (slotRef env i).bind fun n => (listAt h n).map fun ts => (n, ts)
/-- what a list source holds that is not a value: a list of the heap, a list of an instance's or a dict's own -/
def peek (env : Ev) (h : Hi) : E → Option PyData
  | .var i => (lstOf env h i).map fun p => .list p.2
  | .fld i j => (insOf env h i).bind fun p => match p.2.2[j]? with | some (.l ts) => some (.list ts) | _ => none
  | .key i k => (dctOf env h i).bind fun p => match p.2.lookup k with | some (.l ts) => some (.list ts) | _ => none
  | _ => none
def unP (v : Val) (h : Hi) : R PyData := match v with
  | .p d => .ok d h
  | .ref _ => .stuck
def bor (env : Ev) (h : Hi) (a : E) (r : R Val) : R PyData := match peek env h a with
  | some d => .ok d h
  | none => r.bind unP
def keyOf : PyData → Option Key
  | .int i => some (.inl i)
  | .str x => some (.inr x)
  | _ => none
def compL (elt : Ev → Hi → R PyData) (cond : Ev → Hi → R Bool) (bt : PyData → Ev → Option Ev) (env : Ev) : List PyData → Hi → R (List PyData)
  | [], h => .ok [] h
  | x :: r, h => match bt x env with
    | none => .stuck
    | some env1 => (cond env1 h).bind fun b h1 =>
      if b then (elt env1 h1).bind fun y h2 => (compL elt cond bt env r h2).bind fun ys h3 => .ok (y :: ys) h3
      else compL elt cond bt env r h1
def isTy : Ty → PyData → Bool
  | .int, .int _ => true
  | .int, .bool _ => true
  | .bool, .bool _ => true
  | .str, .str _ => true
  | .tuple, .tuple _ => true
  | .list, .list _ => true
  | _, _ => false
def andK (ev : Hi → R Val) (v : Val) (h : Hi) : R Val := match v with
  | .p (.bool true) => ev h
  | .p (.bool false) => .ok (.p (.bool false)) h
  | _ => .stuck
def orK (ev : Hi → R Val) (v : Val) (h : Hi) : R Val := match v with
  | .p (.bool true) => .ok (.p (.bool true)) h
  | .p (.bool false) => ev h
  | _ => .stuck
def notK (v : Val) (h : Hi) : R Val := match v with
  | .p (.bool b) => .ok (.p (.bool !b)) h
  | _ => .stuck
def ifK {α : Type} (a b : Hi → R α) (k : Bool) (h : Hi) : R α := if k = true then a h else b h
def newK (n : Nat) (v : Val) (h : Hi) : R Val := match v with
  | .p .none => .ok (.ref n) h
  | _ => .stuck
def noX {α : Type} (r : R α) : R α := match r with
  | .ok a h => .ok a h
  | _ => .stuck
def mkK (d : PyData) (h : Hi) : R Val := match d with
  | .list ts => .ok (.ref h.length) (h ++ [.lst ts])
  | _ => .stuck
def compK (r : R (List PyData)) : R Val := match r with
  | .ok ys h => .ok (.p (.list ys)) h
  | _ => .stuck
def rng1K (d : PyData) (h : Hi) : R (List PyData) := match d with
  | .int j => if rngOk j = true then .ok (rangeD 0 j.toNat 1) h else .stuck
  | _ => .stuck
def rng2K (d e : PyData) (h : Hi) : R (List PyData) := match d, e with
  | .int i, .int j => if rngOk i = true ∧ rngOk j = true then .ok (rangeD i (j - i).toNat 1) h else .stuck
  | _, _ => .stuck
def rng3K (d e : PyData) (h : Hi) : R (List PyData) := match d, e with
  | .int i, .int j => if rngOk i = true ∧ rngOk j = true then .ok (rangeD i (i - j).toNat (-1)) h else .stuck
  | _, _ => .stuck
def fldK : Option Fld → Option Val
  | some (.p d) => some (.p d)
  | _ => none
def dgetK (env : Ev) (i : Nat) (d : PyData) (h : Hi) : R Val := match dctOf env h i, keyOf d with
  | some p, some k => ofO (fldK (p.2.lookup k)) h
  | _, _ => .stuck
def dgetDK (env : Ev) (i : Nat) (d e : PyData) (h : Hi) : R Val := match dctOf env h i, keyOf d with
  | some p, some k => match p.2.lookup k with
    | none => .ok (.p e) h
    | some f => ofO (fldK (some f)) h
  | _, _ => .stuck
def dinK (env : Ev) (i : Nat) (neg : Bool) (d : PyData) (h : Hi) : R Val := match dctOf env h i, keyOf d with
  | some p, some k => .ok (.p (.bool (if neg = true then !(p.2.lookup k).isSome else (p.2.lookup k).isSome))) h
  | _, _ => .stuck
def popK (env : Ev) (i : Nat) (d : PyData) (h : Hi) : R Val := match lstOf env h i, d with
  | some p, .int k => match ixN p.2.length k with
    | some j => match p.2[j]? with
      | some x => if k.natAbs < 9223372036854775808 then .ok (.p x) (h.set p.1 (.lst (p.2.eraseIdx j))) else .stuck
      | none => .stuck
    | none => .stuck
  | _, _ => .stuck
def freezeK (env : Ev) (i : Nat) (h : Hi) : R Val := match lstOf env h i with
  | some p => .ok (.p (.list p.2)) (h.set p.1 .dead)
  | none => .stuck
def methOk (env : Ev) (h : Hi) (c i : Nat) : Option Nat := match insOf env h i with
  | some p => if p.2.1 = c then some p.1 else none
  | none => none
def compK2 (run : List PyData → Hi → R (List PyData)) (items : List PyData) (h : Hi) : R Val := if items.length < sizeLine then compK (run items h) else .stuck
abbrev Calls := Nat → List Val → Hi → R Val
mutual
def sameD : PyData → PyData → Bool
  | .none, .none => true
  | .bool a, .bool b => a == b
  | .int a, .int b => decide (a = b)
  | .str a, .str b => decide (a = b)
  | .list xs, .list ys => sameL xs ys
  | .tuple xs, .tuple ys => sameL xs ys
  | _, _ => false
def sameL : List PyData → List PyData → Bool
  | [], [] => true
  | x :: xs, y :: ys => sameD x y && sameL xs ys
  | _, _ => false
end
/-- the list at n is still ts -/
def stillL (h : Hi) (n : Nat) (ts : List PyData) : Bool := match listAt h n with
  | some us => sameL us ts
  | none => false
def keyD : Key → PyData
  | .inl i => .int i
  | .inr x => .str x
def itemsD : List (Key × Fld) → Option (List PyData)
  | [] => some []
  | (k, .p d) :: r => if scalD d then (itemsD r).map (.tuple [keyD k, d] :: ·) else none
  | (_, .l _) :: _ => none
/-- a comprehension over a list of the heap, that its parts leave alone -/
def compLB (ok : Hi → Bool) (elt : Ev → Hi → R PyData) (cond : Ev → Hi → R Bool) (bt : PyData → Ev → Option Ev) (env : Ev) : List PyData → Hi → R (List PyData)
  | [], h => if ok h then .ok [] h else .stuck
  | x :: r, h => if ok h then match bt x env with
    | none => .stuck
    | some env1 => (cond env1 h).bind fun b h1 =>
      if b then (elt env1 h1).bind fun y h2 => (compLB ok elt cond bt env r h2).bind fun ys h3 => .ok (y :: ys) h3
      else compLB ok elt cond bt env r h1
    else .stuck
mutual
def evalE (cf : Calls) (env : Ev) : E → Hi → R Val
  | .var i, h => ofO (slot env i) h
  | .lit d, h => .ok (.p d) h
  | .fld i j, h => ofO ((insOf env h i).bind fun p => fldK p.2.2[j]?) h
  | .key i k, h => ofO ((dctOf env h i).bind fun p => fldK (p.2.lookup k)) h
  | .op1 o a, h => (bor env h a (evalE cf env a h)).bind fun x h1 => ofO ((opf1 o x).map .p) h1
  | .op2 o a b, h => ((evalE cf env a h).bind unP).bind fun x h1 => (bor env h1 b (evalE cf env b h1)).bind fun y h2 => ofO ((opf2 o x y).map .p) h2
  | .op2b o a b, h => (bor env h a (evalE cf env a h)).bind fun x h1 => ((evalE cf env b h1).bind unP).bind fun y h2 => ofO ((opf2 o x y).map .p) h2
  | .op2d o a b, h => ((evalE cf env a h).bind unP).bind fun x h1 => ((evalE cf env b h1).bind unP).bind fun y h2 => ofO ((opf2 o x y).map .p) h2
  | .op3 o a b c, h => ((evalE cf env a h).bind unP).bind fun x h1 => ((evalE cf env b h1).bind unP).bind fun y h2 => ((evalE cf env c h2).bind unP).bind fun z h3 => ofO ((opf3 o x y z).map .p) h3
  | .op3b o a b c, h => (bor env h a (evalE cf env a h)).bind fun x h1 => ((evalE cf env b h1).bind unP).bind fun y h2 => ((evalE cf env c h2).bind unP).bind fun z h3 => ofO ((opf3 o x y z).map .p) h3
  | .and_ a b, h => (evalE cf env a h).bind fun v h1 => andK (fun h2 => evalE cf env b h2) v h1
  | .or_ a b, h => (evalE cf env a h).bind fun v h1 => orK (fun h2 => evalE cf env b h2) v h1
  | .not_ a, h => (evalE cf env a h).bind notK
  | .ite c a b, h => (evalT cf env c h).bind fun k h1 => ifK (fun h2 => evalE cf env a h2) (fun h2 => evalE cf env b h2) k h1
  | .tup es, h => (evalPs cf env es h).bind fun ds h1 => .ok (.p (.tuple ds)) h1
  | .lst es, h => (evalPs cf env es h).bind fun ds h1 => .ok (.p (.list ds)) h1
  | .call f es, h => (evalEs cf env es h).bind fun vs h1 => cf f vs h1
  | .meth c f i es, h => match methOk env h c i with
    | none => .stuck
    | some n => (evalEs cf env es h).bind fun vs h1 => cf f (.ref n :: vs) h1
  | .new c f es, h => (evalEs cf env es h).bind fun vs h1 => (noX (cf f (.ref h1.length :: vs) (h1 ++ [.ins c []]))).bind fun v h2 => newK h1.length v h2
  | .comp own t src cond elt, h => (evalSrc cf env src h).bind fun items h1 =>
    compK2 (compL (fun e h => (evalE cf e elt h).bind unP) (fun e h => evalTs cf e cond h) (fun x e => bindT t x e) (wipeE env own)) items h1
  | .compB i own t cond elt, h => match lstOf env h i with
    | none => .stuck
    | some p => compK2 (compLB (fun h => stillL h p.1 p.2) (fun e h => (evalE cf e elt h).bind unP) (fun e h => evalTs cf e cond h) (fun x e => bindT t x e) (wipeE env own)) p.2 h
  | .compI i own t cond elt, h => match dctOf env h i with
    | none => .stuck
    | some p => match itemsD p.2 with
      | none => .stuck
      | some items => (compK2 (compL (fun e h => (evalE cf e elt h).bind unP) (fun e h => evalTs cf e cond h) (fun x e => bindT t x e) (wipeE env own)) items (h.set p.1 .dead)).bind fun v h2 => .ok v (h2.set p.1 (.dct p.2))
  | .isi a t, h => ((evalE cf env a h).bind unP).bind fun d h1 => .ok (.p (.bool (isTy t d))) h1
  | .dget i k, h => ((evalE cf env k h).bind unP).bind fun d h1 => dgetK env i d h1
  | .dgetD i k d, h => ((evalE cf env k h).bind unP).bind fun kd h1 => ((evalE cf env d h1).bind unP).bind fun dd h2 => dgetDK env i kd dd h2
  | .din i neg k, h => ((evalE cf env k h).bind unP).bind fun kd h1 => dinK env i neg kd h1
  | .pop i a, h => match lstOf env h i with
    | none => .stuck
    | some _ => ((evalE cf env a h).bind unP).bind fun d h1 => popK env i d h1
  | .freeze i, h => freezeK env i h
  | .mk e, h => ((evalE cf env e h).bind unP).bind mkK
  | .excFld _ _, _ => .stuck
def evalT (cf : Calls) (env : Ev) : Te → Hi → R Bool
  | .and_ a b, h => (evalT cf env a h).bind fun k h1 => ifK (fun h2 => evalT cf env b h2) (fun h2 => .ok false h2) k h1
  | .or_ a b, h => (evalT cf env a h).bind fun k h1 => ifK (fun h2 => .ok true h2) (fun h2 => evalT cf env b h2) k h1
  | .not_ a, h => (evalT cf env a h).bind fun k h1 => .ok (!k) h1
  | .val e, h => (bor env h e (evalE cf env e h)).bind fun d h1 => ofO (truthD d) h1
def evalTs (cf : Calls) (env : Ev) : List Te → Hi → R Bool
  | [], h => .ok true h
  | t :: ts, h => (evalT cf env t h).bind fun k h1 => ifK (fun h2 => evalTs cf env ts h2) (fun h2 => .ok false h2) k h1
def evalEs (cf : Calls) (env : Ev) : List E → Hi → R (List Val)
  | [], h => .ok [] h
  | e :: es, h => (evalE cf env e h).bind fun v h1 => (evalEs cf env es h1).bind fun vs h2 => .ok (v :: vs) h2
def evalPs (cf : Calls) (env : Ev) : List E → Hi → R (List PyData)
  | [], h => .ok [] h
  | e :: es, h => ((evalE cf env e h).bind unP).bind fun v h1 => (evalPs cf env es h1).bind fun vs h2 => .ok (v :: vs) h2
def evalSrc (cf : Calls) (env : Ev) : Src → Hi → R (List PyData)
  | .e a, h => ((evalE cf env a h).bind unP).bind fun d h1 => ofO (itemsOf d) h1
  | .rng1 a, h => ((evalE cf env a h).bind unP).bind rng1K
  | .rng2 a b, h => ((evalE cf env a h).bind unP).bind fun d h1 => ((evalE cf env b h1).bind unP).bind fun e h2 => rng2K d e h2
  | .rng3 a b, h => ((evalE cf env a h).bind unP).bind fun d h1 => ((evalE cf env b h1).bind unP).bind fun e h2 => rng3K d e h2
  | .enum a, h => ((evalE cf env a h).bind unP).bind fun d h1 => ofO ((itemsOf d).map (enumFrom 0)) h1
  | .zip a b, h => ((evalE cf env a h).bind unP).bind fun d h1 => ((evalE cf env b h1).bind unP).bind fun e h2 => ofO ((itemsOf d).bind fun xs => (itemsOf e).map fun ys => zipD xs ys) h2
  | .items _, _ => .stuck
end
end Cd

namespace Cd
open PySem L2
inductive Fl where
  | nx | bk | ct
  | rt (v : Val)
inductive RS where
  | ok (f : Fl) (env : Ev) (h : Hi)
  | exc (e : Ex) (env : Ev) (h : Hi)
  | stuck
def RS.bind (r : RS) (k : Ev → Hi → RS) : RS := match r with
  | .ok .nx env h => k env h
  | .ok f env h => .ok f env h
  | .exc e env h => .exc e env h
  | .stuck => .stuck
/-- go on from an expression's end -/
def R.toS {α : Type} (r : R α) (env : Ev) (k : α → Hi → RS) : RS := match r with
  | .ok a h => k a h
  | .exc e h => .exc e env h
  | .stuck => .stuck
@[simp] theorem RS.bind_nx (env : Ev) (h : Hi) (k : Ev → Hi → RS) : (RS.ok .nx env h).bind k = k env h := rfl
@[simp] theorem RS.bind_bk (env : Ev) (h : Hi) (k : Ev → Hi → RS) : (RS.ok .bk env h).bind k = .ok .bk env h := rfl
@[simp] theorem RS.bind_ct (env : Ev) (h : Hi) (k : Ev → Hi → RS) : (RS.ok .ct env h).bind k = .ok .ct env h := rfl
@[simp] theorem RS.bind_rt (v : Val) (env : Ev) (h : Hi) (k : Ev → Hi → RS) : (RS.ok (.rt v) env h).bind k = .ok (.rt v) env h := rfl
@[simp] theorem RS.bind_exc (e : Ex) (env : Ev) (h : Hi) (k : Ev → Hi → RS) : (RS.exc e env h).bind k = .exc e env h := rfl
@[simp] theorem R.toS_ok {α : Type} (a : α) (h : Hi) (env : Ev) (k : α → Hi → RS) : (R.ok a h).toS env k = k a h := rfl
@[simp] theorem R.toS_exc {α : Type} (e : Ex) (h : Hi) (env : Ev) (k : α → Hi → RS) : (R.exc e h : R α).toS env k = .exc e env h := rfl
def getL (env : Ev) (h : Hi) (p : E) : Option (List PyData) := match peek env h p with
  | some (.list ts) => some ts
  | _ => none
def setKV (kvs : List (Key × Fld)) (k : Key) (f : Fld) : List (Key × Fld) := match kvs with
  | [] => [(k, f)]
  | (q, g) :: r => if q = k then (q, f) :: r else (q, g) :: setKV r k f
def storeL (env : Ev) (h : Hi) (p : E) (ts : List PyData) : Option Hi := match p with
  | .var i => (slotRef env i).map fun n => h.set n (.lst ts)
  | .fld i j => (slotRef env i).bind fun n => (insAt h n).map fun q => h.set n (.ins q.1 (q.2.set j (.l ts)))
  | .key i k => (slotRef env i).bind fun n => (dctAt h n).map fun kvs => h.set n (.dct (setKV kvs k (.l ts)))
  | _ => none
def putFl (fs : List Fld) (j : Nat) (f : Fld) : Option (List Fld) := if j < fs.length then some (fs.set j f) else if j = fs.length then some (fs ++ [f]) else none
def ofH (env : Ev) : Option Hi → RS
  | some h => .ok .nx env h
  | none => .stuck
def listD : PyData → Option (List PyData)
  | .list ts => some ts
  | _ => none
def setFldH (env : Ev) (i j : Nat) (f : Fld) (h : Hi) : Option Hi := (insOf env h i).bind fun p => (putFl p.2.2 j f).map fun fs => h.set p.1 (.ins p.2.1 fs)
def setKeyH (env : Ev) (i : Nat) (k : Key) (f : Fld) (h : Hi) : Option Hi := (dctOf env h i).bind fun p => if p.2.length < 1000 then some (h.set p.1 (.dct (setKV p.2 k f))) else none
def setIxH (env : Ev) (p : E) (k d : PyData) (h : Hi) : Option Hi := match k with
  | .int k => (getL env h p).bind fun ts => (ixN ts.length k).bind fun j => storeL env h p (ts.set j d)
  | _ => none
def appH (env : Ev) (p : E) (d : PyData) (h : Hi) : Option Hi := (getL env h p).bind fun ts => if ts.length < sizeLine then storeL env h p (ts ++ [d]) else none
def extH (env : Ev) (p : E) (d : PyData) (h : Hi) : Option Hi := (listD d).bind fun ds => (getL env h p).bind fun ts => if ts.length + ds.length ≤ sizeLine then storeL env h p (ts ++ ds) else none
/-- a store of a thing that is had: the index, then the store -/
def stIx (ek : Ev → Hi → R Val) (p : E) (d : PyData) (env : Ev) (h : Hi) : RS := match getL env h p with
  | none => .stuck
  | some _ => ((ek env h).bind unP).toS env fun k h2 => ofH env (setIxH env p k d h2)
def forL (body : Ev → Hi → RS) (bt : PyData → Ev → Option Ev) : List PyData → Ev → Hi → RS
  | [], env, h => .ok .nx env h
  | x :: r, env, h => match bt x env with
    | none => .stuck
    | some env1 => match body env1 h with
      | .ok .nx env2 h2 => forL body bt r env2 h2
      | .ok .ct env2 h2 => forL body bt r env2 h2
      | .ok .bk env2 h2 => .ok .nx env2 h2
      | .ok (.rt v) env2 h2 => .ok (.rt v) env2 h2
      | .exc e env2 h2 => .exc e env2 h2
      | .stuck => .stuck
def whileL (c : Ev → Hi → R Bool) (body : Ev → Hi → RS) : Nat → Ev → Hi → RS
  | 0, _, _ => .stuck
  | n + 1, env, h => (c env h).toS env fun b h1 => if b then
      match body env h1 with
      | .ok .nx env2 h2 => whileL c body n env2 h2
      | .ok .ct env2 h2 => whileL c body n env2 h2
      | .ok .bk env2 h2 => .ok .nx env2 h2
      | .ok (.rt v) env2 h2 => .ok (.rt v) env2 h2
      | .exc e env2 h2 => .exc e env2 h2
      | .stuck => .stuck
    else .ok .nx env h1
/-- a for over a list of the heap, that the body leaves alone -/
def forLB (ok : Hi → Bool) (body : Ev → Hi → RS) (bt : PyData → Ev → Option Ev) : List PyData → Ev → Hi → RS
  | [], env, h => if ok h then .ok .nx env h else .stuck
  | x :: r, env, h => if ok h then match bt x env with
    | none => .stuck
    | some env1 => match body env1 h with
      | .ok .nx env2 h2 => forLB ok body bt r env2 h2
      | .ok .ct env2 h2 => forLB ok body bt r env2 h2
      | .ok .bk env2 h2 => .ok .nx env2 h2
      | .ok (.rt v) env2 h2 => .ok (.rt v) env2 h2
      | .exc e env2 h2 => .exc e env2 h2
      | .stuck => .stuck
    else .stuck
def wFuel : Nat := 1000000
/-- the classes of refusals: 0 CardError, 1 BadCards, 2 BadRank, 3 BadDeed, 4 Over -/
def subC (c d : Nat) : Bool := c == d || (d == 0 && decide (c ≤ 4))
def evalKVs (cf : Calls) (env : Ev) : List (Key × Bool × E) → List (Key × Fld) → Hi → R (List (Key × Fld))
  | [], acc, h => .ok acc h
  | (k, b, e) :: r, acc, h => ((evalE cf env e h).bind unP).bind fun d h1 =>
    if b then match d with
      | .list ts => evalKVs cf env r (setKV acc k (.l ts)) h1
      | _ => .stuck
    else evalKVs cf env r (setKV acc k (.p d)) h1
mutual
def evalS (cf : Calls) : S → Ev → Hi → RS
  | .set i e, env, h => (evalE cf env e h).toS env fun v h1 => .ok .nx (setSlot env i (some v)) h1
  | .newD i kvs, env, h => (evalKVs cf env kvs [] h).toS env fun es h1 => .ok .nx (setSlot env i (some (.ref h1.length))) (h1 ++ [.dct es])
  | .set2 i j a b, env, h => (evalE cf env a h).toS env fun v h1 => (evalE cf env b h1).toS env fun w h2 => .ok .nx (setSlot (setSlot env i (some v)) j (some w)) h2
  | .unpack t e, env, h => ((evalE cf env e h).bind unP).toS env fun d h1 => match bindT t d env with
    | some env1 => .ok .nx env1 h1
    | none => .stuck
  | .setFld i j e, env, h => ((evalE cf env e h).bind unP).toS env fun d h1 => ofH env (setFldH env i j (.p d) h1)
  | .newFld i j e, env, h => ((evalE cf env e h).bind unP).toS env fun d h1 => ofH env ((listD d).bind fun ts => setFldH env i j (.l ts) h1)
  | .setKey i k e, env, h => ((evalE cf env e h).bind unP).toS env fun d h1 => ofH env (setKeyH env i k (.p d) h1)
  | .newKey i k e, env, h => ((evalE cf env e h).bind unP).toS env fun d h1 => ofH env ((listD d).bind fun ts => setKeyH env i k (.l ts) h1)
  | .setKeyD i k e, env, h => ((evalE cf env e h).bind unP).toS env fun d h1 => ((evalE cf env k h1).bind unP).toS env fun kd h2 => ofH env ((keyOf kd).bind fun q => setKeyH env i q (.p d) h2)
  | .setIx p i e, env, h => ((evalE cf env e h).bind unP).toS env fun d h1 => match getL env h1 p with
    | none => .stuck
    | some _ => ((evalE cf env i h1).bind unP).toS env fun k h2 => ofH env (setIxH env p k d h2)
  | .setIx2 i j k l a b, env, h => ((evalE cf env a h).bind unP).toS env fun d h1 => ((evalE cf env b h1).bind unP).toS env fun d2 h2 =>
    (stIx (fun env h => evalE cf env k h) (.var i) d env h2).bind fun env2 h3 => stIx (fun env h => evalE cf env l h) (.var j) d2 env2 h3
  | .app p e, env, h => match getL env h p with
    | none => .stuck
    | some _ => ((evalE cf env e h).bind unP).toS env fun d h1 => ofH env (appH env p d h1)
  | .ext p e, env, h => match getL env h p with
    | none => .stuck
    | some _ => ((evalE cf env e h).bind unP).toS env fun d h1 => ofH env (extH env p d h1)
  | .expr e, env, h => (evalE cf env e h).toS env fun _ h1 => .ok .nx env h1
  | .if_ c a b, env, h => (evalT cf env c h).toS env fun k h1 => if k then evalSs cf a env h1 else evalSs cf b env h1
  | .for_ t src body, env, h => (evalSrc cf env src h).toS env fun items h1 => forL (evalSs cf body) (bindT t) items env h1
  | .forB t i body, env, h => match lstOf env h i with
    | none => .stuck
    | some p => forLB (fun h => stillL h p.1 p.2) (evalSs cf body) (bindT t) p.2 env h
  | .while_ c body, env, h => whileL (fun e h => evalT cf e c h) (evalSs cf body) wFuel env h
  | .ret e, env, h => (evalE cf env e h).toS env fun v h1 => .ok (.rt v) env h1
  | .brk, env, h => .ok .bk env h
  | .cont, env, h => .ok .ct env h
  | .pass, env, h => .ok .nx env h
  | .raise_ c es, env, h => (evalPs cf env es h).toS env fun ds h1 => .exc ⟨c, ds⟩ env h1
  | .try_ body hs, env, h => match evalSs cf body env h with
    | .exc e env1 h1 => evalHs cf hs e env1 h1
    | r => r
def evalSs (cf : Calls) : List S → Ev → Hi → RS
  | [], env, h => .ok .nx env h
  | s :: r, env, h => (evalS cf s env h).bind (evalSs cf r)
def evalHs (cf : Calls) : List (Nat × List S) → Ex → Ev → Hi → RS
  | [], e, env, h => .exc e env h
  | (c, body) :: r, e, env, h => if subC e.c c then evalSs cf body env h else evalHs cf r e env h
end
structure FnD where
  np : Nat
  ns : Nat
  body : List S
def startE (d : FnD) (args : List Val) : Ev := args.map some ++ List.replicate (d.ns - args.length) none
/-- behind a call: what it made goes, where it hands back data -/
def finF (n : Nat) : RS → R Val
  | .ok (.rt (.p d)) _ h => .ok (.p d) (h.take n)
  | .ok (.rt (.ref m)) _ h => .ok (.ref m) h
  | .ok .nx _ h => .ok (.p .none) (h.take n)
  | .ok _ _ _ => .stuck
  | .exc e _ h => .exc e (h.take n)
  | .stuck => .stuck
def callF (fns : Nat → Option FnD) : Nat → Calls
  | 0, _, _, _ => .stuck
  | n + 1, f, args, h => match fns f with
    | none => .stuck
    | some d => if args.length = d.np then finF h.length (evalSs (callF fns n) d.body (startE d args) h) else .stuck
end Cd
set_option Elab.async false
set_option linter.all false
set_option maxRecDepth 100000
set_option maxHeartbeats 4000000
namespace Cd
open PySem PySem.Spec PyProof.Rows L2

/-- a list that will not change: a frozen one, or one of the written part -/
def LQ (K : PySem.W.Frag) (F : Addr → Prop) (H : Hp) (a : Addr) (xs : List V) : Prop := (F a ∧ Rd H a (.lst xs)) ∨
  ∃ (o : Obj) (its : Array Value) (n : Nat), K.lookup a = some o ∧ o.cls = .type "list" ∧ o.dict = none ∧ o.data = .seq its n ∧ its.size ≤ sizeLine ∧ Vals xs its.toList
theorem LQ.sq {K : PySem.W.Frag} {F : Addr → Prop} {H : Hp} {a : Addr} {xs : List V} (h : LQ K F H a xs) : SqL K H a xs := h.elim (fun h => .inl h.2) .inr
mutual
inductive RF (K : PySem.W.Frag) (F : Addr → Prop) (H : Hp) : PyData → V → Prop
  | non : RF K F H .none .non
  | bl (b : Bool) : RF K F H (.bool b) (.bl b)
  | int (i : Int) : RF K F H (.int i) (.int i)
  | str (x : Str) : RF K F H (.str x) (.str x)
  | lst {a : Addr} {xs : List V} {ts : List PyData} : LQ K F H a xs → RFs K F H ts xs → RF K F H (.list ts) (.ref a)
  | tup {a : Addr} {xs : List V} {ts : List PyData} : SqT K H a xs → RFs K F H ts xs → RF K F H (.tuple ts) (.ref a)
inductive RFs (K : PySem.W.Frag) (F : Addr → Prop) (H : Hp) : List PyData → List V → Prop
  | nil : RFs K F H [] []
  | cons {d : PyData} {v : V} {ds : List PyData} {vs : List V} : RF K F H d v → RFs K F H ds vs → RFs K F H (d :: ds) (v :: vs)
end

/-- the state: where the objects stand, what will not change, the small heap, the abstract heap -/
structure Sx where
  φ : Nat → Nat → Addr
  F : Addr → Prop
  h : Hi
  H : Hp
  B : Addr → Prop

/-- what frozen things lean on is kept -/
structure KeepF (F : Addr → Prop) (H : Hp) (F' : Addr → Prop) (H' : Hp) : Prop where
  up : ∀ a, F a → F' a
  fz : ∀ a o, F a → H a = some o → H' a = some o
  tp : ∀ a xs, H a = some (.tup xs) → H' a = some (.tup xs)
  zz : ∀ a o u, H a = some (.frz o u) → H' a = some (.frz o u)
theorem KeepF.refl {F : Addr → Prop} {H : Hp} : KeepF F H F H := ⟨fun _ h => h, fun _ _ _ h => h, fun _ _ h => h, fun _ _ _ h => h⟩
theorem KeepF.trans {F F' F'' : Addr → Prop} {H H' H'' : Hp} (a : KeepF F H F' H') (b : KeepF F' H' F'' H'') : KeepF F H F'' H'' :=
  ⟨fun c h => b.up c (a.up c h), fun c o f h => b.fz c o (a.up c f) (a.fz c o f h), fun c xs h => b.tp c xs (a.tp c xs h), fun c o u h => b.zz c o u (a.zz c o u h)⟩
theorem KeepF.sqT {K : PySem.W.Frag} {F F' : Addr → Prop} {H H' : Hp} (k : KeepF F H F' H') {a : Addr} {xs : List V} (h : SqT K H a xs) : SqT K H' a xs := by
  rcases h with (h | ⟨o, h⟩) | h
  · exact .inl (.inl (k.tp _ _ h))
  · exact .inl (.inr ⟨o, k.zz _ _ _ h⟩)
  · exact .inr h
theorem KeepF.sqL {F F' : Addr → Prop} {H H' : Hp} (k : KeepF F H F' H') {a : Addr} {u : HO} (f : F a) (h : Rd H a u) : Rd H' a u := by
  rcases h with h | ⟨o, h⟩
  · exact .inl (k.fz _ _ f h)
  · exact .inr ⟨o, k.zz _ _ _ h⟩
theorem KeepF.lq {K : PySem.W.Frag} {F F' : Addr → Prop} {H H' : Hp} (k : KeepF F H F' H') {a : Addr} {xs : List V} (h : LQ K F H a xs) : LQ K F' H' a xs := h.elim (fun h => .inl ⟨k.up _ h.1, k.sqL h.1 h.2⟩) .inr
mutual
theorem RF.keep {K : PySem.W.Frag} {F F' : Addr → Prop} {H H' : Hp} (k : KeepF F H F' H') : ∀ {d : PyData} {v : V}, RF K F H d v → RF K F' H' d v
  | _, _, .non => .non
  | _, _, .bl b => .bl b
  | _, _, .int i => .int i
  | _, _, .str x => .str x
  | _, _, .lst s r => .lst (k.lq s) (RFs.keep k r)
  | _, _, .tup s r => .tup (k.sqT s) (RFs.keep k r)
theorem RFs.keep {K : PySem.W.Frag} {F F' : Addr → Prop} {H H' : Hp} (k : KeepF F H F' H') : ∀ {ds : List PyData} {vs : List V}, RFs K F H ds vs → RFs K F' H' ds vs
  | _, _, .nil => .nil
  | _, _, .cons r t => .cons (RF.keep k r) (RFs.keep k t)
end
mutual
/-- the same, forgetting what is frozen -/
theorem RF.loose {K : PySem.W.Frag} {F : Addr → Prop} {H : Hp} : ∀ {d : PyData} {v : V}, RF K F H d v → RF K (fun _ => True) H d v
  | _, _, .non => .non
  | _, _, .bl b => .bl b
  | _, _, .int i => .int i
  | _, _, .str x => .str x
  | _, _, .lst s r => .lst (s.elim (fun h => .inl ⟨trivial, h.2⟩) .inr) (RFs.loose r)
  | _, _, .tup s r => .tup s (RFs.loose r)
theorem RFs.loose {K : PySem.W.Frag} {F : Addr → Prop} {H : Hp} : ∀ {ds : List PyData} {vs : List V}, RFs K F H ds vs → RFs K (fun _ => True) H ds vs
  | _, _, .nil => .nil
  | _, _, .cons r t => .cons (RF.loose r) (RFs.loose t)
end
mutual
theorem RF.dp {K : PySem.W.Frag} {F : Addr → Prop} {H : Hp} : ∀ {d : PyData} {v : V}, RF K F H d v → Dp K H v d
  | _, _, .non => .non
  | _, _, .bl b => .bl b
  | _, _, .int i => .int i
  | _, _, .str x => .str x
  | _, _, .lst s r => .lst s.sq (RFs.dp r)
  | _, _, .tup s r => .tup s (RFs.dp r)
theorem RFs.dp {K : PySem.W.Frag} {F : Addr → Prop} {H : Hp} : ∀ {ds : List PyData} {vs : List V}, RFs K F H ds vs → DpAll K H vs ds
  | _, _, .nil => .nil
  | _, _, .cons r t => .cons (RF.dp r) (RFs.dp t)
end
section
variable {K : PySem.W.Frag} {F F' : Addr → Prop} {H H' : Hp}
theorem RFs.length : ∀ {ds : List PyData} {vs : List V}, RFs K F H ds vs → ds.length = vs.length
  | _, _, .nil => rfl
  | _, _, .cons _ t => by simp [RFs.length t]
theorem RFs.append : ∀ {ds es : List PyData} {vs us : List V}, RFs K F H ds vs → RFs K F H es us → RFs K F H (ds ++ es) (vs ++ us)
  | _, _, _, _, .nil, s => s
  | _, _, _, _, .cons r t, s => .cons r (RFs.append t s)
theorem RFs.get : ∀ {ds : List PyData} {vs : List V} {i : Nat} {d : PyData}, RFs K F H ds vs → ds[i]? = some d → ∃ v, vs[i]? = some v ∧ RF K F H d v
  | _, _, _, _, .nil, e => by simp at e
  | _, _, 0, _, .cons r _, e => by simp at e; subst e; exact ⟨_, rfl, r⟩
  | _, _, i + 1, d, .cons _ t, e => by
    obtain ⟨v, h1, h2⟩ := RFs.get (i := i) (d := d) t (by simpa using e)
    exact ⟨v, by simpa using h1, h2⟩
theorem RFs.get' : ∀ {ds : List PyData} {vs : List V} {i : Nat} {v : V}, RFs K F H ds vs → vs[i]? = some v → ∃ d, ds[i]? = some d ∧ RF K F H d v
  | _, _, _, _, .nil, e => by simp at e
  | _, _, 0, _, .cons r _, e => by simp at e; subst e; exact ⟨_, rfl, r⟩
  | _, _, i + 1, v, .cons _ t, e => by
    obtain ⟨d, h1, h2⟩ := RFs.get' (i := i) (v := v) t (by simpa using e)
    exact ⟨d, by simpa using h1, h2⟩
theorem RFs.set {d : PyData} {v : V} (r : RF K F H d v) : ∀ {ds : List PyData} {vs : List V} (i : Nat), RFs K F H ds vs → RFs K F H (ds.set i d) (vs.set i v)
  | _, _, _, .nil => .nil
  | _, _, 0, .cons _ t => .cons r t
  | _, _, i + 1, .cons q t => .cons q (RFs.set r i t)
theorem RFs.take : ∀ {ds : List PyData} {vs : List V} (n : Nat), RFs K F H ds vs → RFs K F H (ds.take n) (vs.take n)
  | _, _, 0, _ => by simp; exact .nil
  | _, _, _ + 1, .nil => .nil
  | _, _, n + 1, .cons r t => .cons r (RFs.take n t)
theorem RFs.drop : ∀ {ds : List PyData} {vs : List V} (n : Nat), RFs K F H ds vs → RFs K F H (ds.drop n) (vs.drop n)
  | _, _, 0, r => r
  | _, _, _ + 1, .nil => .nil
  | _, _, n + 1, .cons _ t => RFs.drop n t
theorem RFs.eraseIdx : ∀ {ds : List PyData} {vs : List V} (n : Nat), RFs K F H ds vs → RFs K F H (ds.eraseIdx n) (vs.eraseIdx n)
  | _, _, _, .nil => .nil
  | _, _, 0, .cons _ t => t
  | _, _, n + 1, .cons r t => .cons r (RFs.eraseIdx n t)
theorem RFs.reverse : ∀ {ds : List PyData} {vs : List V}, RFs K F H ds vs → RFs K F H ds.reverse vs.reverse
  | _, _, .nil => .nil
  | _, _, .cons r t => by
    rw [List.reverse_cons, List.reverse_cons]
    exact (RFs.reverse t).append (.cons r .nil)
theorem RFs.rep (n : Nat) {ds : List PyData} {vs : List V} (r : RFs K F H ds vs) : RFs K F H (List.replicate n ds).flatten (List.replicate n vs).flatten := by
  induction n with
  | zero => exact .nil
  | succ n ih => rw [List.replicate_succ, List.replicate_succ, List.flatten_cons, List.flatten_cons]; exact r.append ih
theorem RFs.ofInts : ∀ (ns : List Int), RFs K F H (ns.map .int) (ns.map V.int)
  | [] => .nil
  | n :: r => .cons (.int n) (RFs.ofInts r)
theorem RFs.ints' : ∀ {ds : List PyData} {vs : List V} {ns : List Int}, RFs K F H ds vs → intsD ds = some ns → vs = ns.map V.int ∧ ds = ns.map .int
  | _, _, _, .nil, e => by simp [intsD] at e; subst e; exact ⟨rfl, rfl⟩
  | _, _, ns, .cons (d := d) (ds := ds) r t, e => by
    cases r with
    | int i =>
      simp only [intsD, Option.map_eq_some_iff] at e
      obtain ⟨ms, e1, rfl⟩ := e
      obtain ⟨h1, h2⟩ := RFs.ints' t e1
      exact ⟨by rw [h1]; rfl, by rw [h2]; rfl⟩
    | _ => simp [intsD] at e
theorem RFs.bools' : ∀ {ds : List PyData} {vs : List V} {ns : List Bool}, RFs K F H ds vs → boolsD ds = some ns → vs = ns.map V.bl ∧ ds = ns.map .bool
  | _, _, _, .nil, e => by simp [boolsD] at e; subst e; exact ⟨rfl, rfl⟩
  | _, _, ns, .cons (d := d) (ds := ds) r t, e => by
    cases r with
    | bl i =>
      simp only [boolsD, Option.map_eq_some_iff] at e
      obtain ⟨ms, e1, rfl⟩ := e
      obtain ⟨h1, h2⟩ := RFs.bools' t e1
      exact ⟨by rw [h1]; rfl, by rw [h2]; rfl⟩
    | _ => simp [boolsD] at e
theorem RF.int_inv {i : Int} {v : V} (r : RF K F H (.int i) v) : v = .int i := by cases r; rfl
theorem RF.bl_inv {b : Bool} {v : V} (r : RF K F H (.bool b) v) : v = .bl b := by cases r; rfl
theorem RF.non_inv {v : V} (r : RF K F H .none v) : v = .non := by cases r; rfl
theorem RF.str_inv {x : Str} {v : V} (r : RF K F H (.str x) v) : v = .str x := by cases r; rfl
theorem RF.lst_inv {ts : List PyData} {v : V} (r : RF K F H (.list ts) v) : ∃ a xs, v = .ref a ∧ LQ K F H a xs ∧ RFs K F H ts xs := by cases r with | lst s r => exact ⟨_, _, rfl, s, r⟩
theorem RF.tup_inv {ts : List PyData} {v : V} (r : RF K F H (.tuple ts) v) : ∃ a xs, v = .ref a ∧ SqT K H a xs ∧ RFs K F H ts xs := by cases r with | tup s r => exact ⟨_, _, rfl, s, r⟩
end

/-! ### objects -/
/-- a field, or an entry, of the object n: data, or a list of its own -/
def FlR (K : PySem.W.Frag) (s : Sx) (n j : Nat) : Fld → V → Prop
  | .p d, v => RF K s.F s.H d v
  | .l ts, v => v = .ref (s.φ n (j + 1)) ∧ ∃ xs, s.H (s.φ n (j + 1)) = some (.lst xs) ∧ RFs K s.F s.H ts xs
/-- the classes: where they stand, their fields' names -/
abbrev CInf := Nat → Option (Addr × List Str)
def ObR (K : PySem.W.Frag) (CI : CInf) (s : Sx) (n : Nat) : Ob → Prop
  | .lst ts => ∃ xs, s.H (s.φ n 0) = some (.lst xs) ∧ RFs K s.F s.H ts xs
  | .dct kvs => ∃ es : List (Key × V), s.H (s.φ n 0) = some (.dK es) ∧ es.map (·.1) = kvs.map (·.1) ∧ (kvs.map (·.1)).Nodup ∧ ∀ j k f, kvs[j]? = some (k, f) → ∃ v, es[j]? = some (k, v) ∧ FlR K s n j f v
  | .ins c fs => ∃ C names dx es, CI c = some (C, names) ∧ s.H (s.φ n 0) = some (.ins C dx es) ∧ es.map (·.1) = names.take fs.length ∧ fs.length ≤ names.length ∧
      ∀ j f, fs[j]? = some f → ∃ x v, names[j]? = some x ∧ es[j]? = some (x, v) ∧ FlR K s n j f v
  | .dead => True
/-- a place that is in use -/
def Live (h : Hi) (n : Nat) : Nat → Prop
  | 0 => ∃ o, h[n]? = some o ∧ o ≠ .dead
  | j + 1 => (∃ c fs ts, h[n]? = some (.ins c fs) ∧ fs[j]? = some (.l ts)) ∨ (∃ kvs k ts, h[n]? = some (.dct kvs) ∧ kvs[j]? = some (k, .l ts))
structure HR (K : PySem.W.Frag) (CI : CInf) (s : Sx) : Prop where
  ob : ∀ n o, s.h[n]? = some o → ObR K CI s n o
  inj : ∀ n j m k, Live s.h n j → Live s.h m k → s.φ n j = s.φ m k → n = m ∧ j = k
  nf : ∀ n j, Live s.h n j → ¬ s.F (s.φ n j)
  bt : ∀ b, s.B b → (∀ n j, Live s.h n j → s.φ n j ≠ b) ∧ ¬ s.F b ∧ ∃ o, s.H b = some o
  ft : ∀ b, s.F b → ∃ o, s.H b = some o
/-- no place of the small heap -/
def NotLive (s : Sx) (b : Addr) : Prop := ∀ n j, Live s.h n j → s.φ n j ≠ b
structure Le (s s' : Sx) : Prop where
  len : s.h.length ≤ s'.h.length
  ph : ∀ n, n < s.h.length → s'.φ n 0 = s.φ n 0
  kf : KeepF s.F s.H s'.F s'.H
  fr : ∀ b, s.B b → s'.B b ∧ s'.H b = s.H b
theorem Le.refl (s : Sx) : Le s s := ⟨Nat.le_refl _, fun _ _ => rfl, .refl, fun _ h => ⟨h, rfl⟩⟩
theorem Le.trans {s s' s'' : Sx} (a : Le s s') (b : Le s' s'') : Le s s'' :=
  ⟨Nat.le_trans a.len b.len, fun n h => (b.ph n (Nat.lt_of_lt_of_le h a.len)).trans (a.ph n h), a.kf.trans b.kf, fun c h =>
    let ⟨h1, e1⟩ := a.fr c h
    let ⟨h2, e2⟩ := b.fr c h1
    ⟨h2, e2.trans e1⟩⟩
def VR (K : PySem.W.Frag) (s : Sx) : Val → V → Prop
  | .p d, x => RF K s.F s.H d x
  | .ref n, x => n < s.h.length ∧ x = .ref (s.φ n 0)
theorem VR.le {K : PySem.W.Frag} {s s' : Sx} (l : Le s s') {v : Val} {x : V} (r : VR K s v x) : VR K s' v x := by
  cases v with
  | p d => exact RF.keep l.kf r
  | ref n => exact ⟨Nat.lt_of_lt_of_le r.1 l.len, by rw [l.ph n r.1]; exact r.2⟩
structure ER (K : PySem.W.Frag) (s : Sx) (env : Ev) (σ : L2.St) : Prop where
  len : env.length = σ.length
  at_ : ∀ i v, slot env i = some v → ∃ x, σ[i]? = some (some x) ∧ VR K s v x
theorem ER.le {K : PySem.W.Frag} {s s' : Sx} (l : Le s s') {env : Ev} {σ : L2.St} (r : ER K s env σ) : ER K s' env σ :=
  ⟨r.len, fun i v e => let ⟨x, h1, h2⟩ := r.at_ i v e; ⟨x, h1, h2.le l⟩⟩
theorem slot_set_same : ∀ {env : Ev} {i : Nat} {v : Option Val}, i < env.length → slot (setSlot env i v) i = v
  | [], _, _, h => by simp at h
  | _ :: _, 0, _, _ => rfl
  | _ :: r, i + 1, v, h => slot_set_same (env := r) (i := i) (by simpa using h)
theorem slot_set_ne : ∀ {env : Ev} {i j : Nat} {v : Option Val}, j ≠ i → slot (setSlot env i v) j = slot env j
  | [], _, _, _, _ => rfl
  | _ :: _, 0, 0, _, h => absurd rfl h
  | _ :: _, 0, j + 1, _, _ => rfl
  | _ :: _, i + 1, 0, _, _ => rfl
  | _ :: r, i + 1, j + 1, v, h => slot_set_ne (env := r) (i := i) (j := j) (fun e => h (by rw [e]))
theorem setSlot_length : ∀ {env : Ev} {i : Nat} {v : Option Val}, (setSlot env i v).length = env.length
  | [], _, _ => rfl
  | _ :: _, 0, _ => rfl
  | _ :: r, i + 1, v => by simp [setSlot, setSlot_length (env := r) (i := i) (v := v)]
theorem slot_lt : ∀ {env : Ev} {i : Nat} {v : Val}, slot env i = some v → i < env.length
  | [], _, _, h => by simp [slot] at h
  | _ :: _, 0, _, _ => by simp
  | _ :: r, i + 1, v, h => by have := slot_lt (env := r) (i := i) (v := v) h; simp; omega
theorem setSlot_out : ∀ {env : Ev} {i : Nat} {v : Option Val}, env.length ≤ i → setSlot env i v = env
  | [], _, _, _ => rfl
  | _ :: _, 0, _, h => by simp at h
  | x :: r, i + 1, v, h => by simp [setSlot, setSlot_out (env := r) (i := i) (v := v) (by simpa using h)]
theorem ER.set {K : PySem.W.Frag} {s : Sx} {env : Ev} {σ : L2.St} (r : ER K s env σ) {i : Nat} {v : Val} {x : V} (q : VR K s v x) : ER K s (setSlot env i (some v)) (σ.set i (some x)) where
  len := by rw [setSlot_length, List.length_set]; exact r.len
  at_ := fun j w e => by
    by_cases hj : j = i
    · subst hj
      by_cases hl : j < env.length
      · rw [slot_set_same hl] at e
        cases e
        exact ⟨x, by rw [List.getElem?_set_self (by rw [← r.len]; exact hl)], q⟩
      · rw [setSlot_out (by omega)] at e
        exact absurd (slot_lt e) hl
    · rw [slot_set_ne hj] at e
      obtain ⟨y, h1, h2⟩ := r.at_ j w e
      exact ⟨y, by rw [List.getElem?_set_ne (Ne.symm hj)]; exact h1, h2⟩
theorem ER.unset {K : PySem.W.Frag} {s : Sx} {env : Ev} {σ : L2.St} (r : ER K s env σ) {i : Nat} : ER K s (setSlot env i none) (σ.set i none) where
  len := by rw [setSlot_length, List.length_set]; exact r.len
  at_ := fun j w e => by
    by_cases hj : j = i
    · subst hj
      by_cases hl : j < env.length
      · rw [slot_set_same hl] at e
        cases e
      · rw [setSlot_out (by omega)] at e
        exact absurd (slot_lt e) hl
    · rw [slot_set_ne hj] at e
      obtain ⟨y, h1, h2⟩ := r.at_ j w e
      exact ⟨y, by rw [List.getElem?_set_ne (Ne.symm hj)]; exact h1, h2⟩
theorem ER.wipe {K : PySem.W.Frag} {s : Sx} {env : Ev} {σ : L2.St} (r : ER K s env σ) : ∀ vs : List Nat, ER K s (wipeE env vs) (wipe σ vs)
  | [] => r
  | v :: vs => (ER.wipe r vs).unset
/-- a new thing at p -/
def Sx.put (s : Sx) (p : Addr) (o : HO) (fz : Bool) : Sx := { s with H := upd s.H p o, F := fun a => s.F a ∨ (fz = true ∧ a = p) }
theorem KeepF.put {F : Addr → Prop} {H : Hp} {p : Addr} {o : HO} {fz : Bool} (h : H p = none) : KeepF F H (fun a => F a ∨ (fz = true ∧ a = p)) (upd H p o) where
  up := fun _ f => .inl f
  fz := fun a o' _ e => by rw [upd_ne (ne_of_none e h)]; exact e
  tp := fun a o' e => by rw [upd_ne (ne_of_none e h)]; exact e
  zz := fun a o' _ e => by rw [upd_ne (ne_of_none e h)]; exact e
section
variable {K : PySem.W.Frag} {CI : CInf} {s : Sx}
/-- what stands at a place in use -/
theorem HR.there (h : HR K CI s) {n j : Nat} (l : Live s.h n j) : ∃ o, s.H (s.φ n j) = some o := by
  cases j with
  | zero =>
    obtain ⟨o, e, nd⟩ := l
    have q := h.ob n o e
    cases o with
    | lst ts => obtain ⟨xs, e, _⟩ := q; exact ⟨_, e⟩
    | dct kvs => obtain ⟨es, e, _⟩ := q; exact ⟨_, e⟩
    | ins c fs => obtain ⟨C, names, dx, es, _, e, _⟩ := q; exact ⟨_, e⟩
    | dead => exact absurd rfl nd
  | succ j =>
    rcases l with ⟨c, fs, ts, e, ef⟩ | ⟨kvs, k, ts, e, ef⟩
    · obtain ⟨C, names, dx, es, _, _, _, _, q⟩ := h.ob n _ e
      obtain ⟨x, v, _, _, _, xs, e2, _⟩ := q j _ ef
      exact ⟨_, e2⟩
    · obtain ⟨es, _, _, _, q⟩ := h.ob n _ e
      obtain ⟨v, _, _, xs, e2, _⟩ := q j _ _ ef
      exact ⟨_, e2⟩
/-- the objects in another abstract heap, where what they lean on is kept -/
theorem FlR.move {s s' : Sx} {n j : Nat} {f : Fld} {v : V} (r : FlR K s n j f v) (k : KeepF s.F s.H s'.F s'.H)
    (ph : ∀ ts, f = .l ts → s'.φ n (j + 1) = s.φ n (j + 1) ∧ ∀ xs, s.H (s.φ n (j + 1)) = some (.lst xs) → s'.H (s.φ n (j + 1)) = some (.lst xs)) : FlR K s' n j f v := by
  cases f with
  | p d => exact RF.keep k r
  | l ts =>
    obtain ⟨e, xs, hx, q⟩ := r
    obtain ⟨e1, e2⟩ := ph ts rfl
    exact ⟨by rw [e1]; exact e, xs, by rw [e1]; exact e2 xs hx, q.keep k⟩
theorem ObR.move {s s' : Sx} {n : Nat} {o : Ob} (r : ObR K CI s n o) (k : KeepF s.F s.H s'.F s'.H) (hn : s.h[n]? = some o)
    (ph : ∀ j, Live s.h n j → s'.φ n j = s.φ n j ∧ ∀ u, s.H (s.φ n j) = some u → s'.H (s.φ n j) = some u) : ObR K CI s' n o := by
  cases o with
  | lst ts =>
    obtain ⟨xs, e, q⟩ := r
    obtain ⟨e1, e2⟩ := ph 0 ⟨_, hn, by intro z; cases z⟩
    exact ⟨xs, by rw [e1]; exact e2 _ e, q.keep k⟩
  | dct kvs =>
    obtain ⟨es, e, m, nd, q⟩ := r
    obtain ⟨e1, e2⟩ := ph 0 ⟨_, hn, by intro z; cases z⟩
    refine ⟨es, by rw [e1]; exact e2 _ e, m, nd, fun j y f ef => ?_⟩
    obtain ⟨v, h1, h2⟩ := q j y f ef
    refine ⟨v, h1, h2.move k fun ts eq => ?_⟩
    subst eq
    obtain ⟨a, b⟩ := ph (j + 1) (.inr ⟨kvs, y, ts, hn, ef⟩)
    exact ⟨a, fun xs => b _⟩
  | ins c fs =>
    obtain ⟨C, names, dx, es, ci, e, m, l, q⟩ := r
    obtain ⟨e1, e2⟩ := ph 0 ⟨_, hn, by intro z; cases z⟩
    refine ⟨C, names, dx, es, ci, by rw [e1]; exact e2 _ e, m, l, fun j f ef => ?_⟩
    obtain ⟨x, v, h0, h1, h2⟩ := q j f ef
    refine ⟨x, v, h0, h1, h2.move k fun ts eq => ?_⟩
    subst eq
    obtain ⟨a, b⟩ := ph (j + 1) (.inl ⟨c, fs, ts, hn, ef⟩)
    exact ⟨a, fun xs => b _⟩
  | dead => trivial
theorem HR.notLive (h : HR K CI s) {p : Addr} (hp : s.H p = none) : NotLive s p := fun n j l e => by
  obtain ⟨o, q⟩ := h.there l
  rw [e, hp] at q; cases q
theorem HR.put (h : HR K CI s) {p : Addr} {o : HO} {fz : Bool} (hp : s.H p = none) : HR K CI (s.put p o fz) where
  ob := fun n u e => (h.ob n u e).move (KeepF.put hp) e fun j l => ⟨rfl, fun w e => by
    show upd s.H p o (s.φ n j) = some w
    rw [upd_ne (ne_of_none e hp)]; exact e⟩
  inj := h.inj
  nf := fun n j l f => by
    rcases f with f | ⟨_, f⟩
    · exact h.nf n j l f
    · obtain ⟨u, e⟩ := h.there l
      exact ne_of_none e hp f
  bt := fun b hb => by
    obtain ⟨h1, h2, u, e⟩ := h.bt b hb
    exact ⟨h1, fun f => f.elim h2 fun z => ne_of_none e hp z.2, u, by show upd s.H p o b = some u; rw [upd_ne (ne_of_none e hp)]; exact e⟩
  ft := fun b hb => by
    rcases hb with hb | ⟨_, rfl⟩
    · obtain ⟨u, e⟩ := h.ft b hb
      exact ⟨u, by show upd s.H p o b = some u; rw [upd_ne (ne_of_none e hp)]; exact e⟩
    · exact ⟨o, upd_same⟩
theorem HR.put_le (h : HR K CI s) {p : Addr} {o : HO} {fz : Bool} (hp : s.H p = none) : Le s (s.put p o fz) := ⟨Nat.le_refl _, fun _ _ => rfl, .put hp, fun b hb => by
  obtain ⟨_, _, u, e⟩ := h.bt b hb
  exact ⟨hb, by show upd s.H p o b = s.H b; rw [upd_ne (ne_of_none e hp)]⟩⟩
end
end Cd
set_option Elab.async false
set_option linter.all false
set_option maxRecDepth 100000
set_option maxHeartbeats 4000000
namespace Cd
open PySem PySem.Spec PyProof.Rows L2

structure Inf where
  ci : CInf
  xi : Nat → Option Addr
def XR (K : PySem.W.Frag) (I : Inf) (s : Sx) (e : Ex) (cls : Value) (d : Option Addr) : Prop :=
  ∃ C, I.xi e.c = some C ∧ cls = .ref C ∧ match e.fs with
    | [] => True
    | [x] => ∃ dx v, d = some dx ∧ s.H dx = some (.xd [("at", v)]) ∧ RF K s.F s.H x v
    | _ => False
/-- an evaluation's end, from the state s on -/
def PR {α β : Type} (K : PySem.W.Frag) (I : Inf) (W : WX) (s : Sx) (σ : L2.St) (r : R α) (Rel : Sx → α → β → Prop) (Q : β → Hp → Prop) : Prop :=
  match r with
  | .ok a h' => ∀ s' x, Le s s' → s'.h = h' → HR K I.ci s' → Rel s' a x → Q x s'.H
  | .exc e h' => ∀ s' cls d, Le s s' → s'.h = h' → HR K I.ci s' → XR K I s' e cls d → W cls d σ s'.H
  | .stuck => False
theorem PR.le {α β : Type} {K : PySem.W.Frag} {I : Inf} {W : WX} {s s1 : Sx} {σ : L2.St} {r : R α} {Rel : Sx → α → β → Prop} {Q : β → Hp → Prop} (h : PR K I W s σ r Rel Q) (l : Le s s1) : PR K I W s1 σ r Rel Q := by
  cases r with
  | ok a h' => exact fun s' x l' => h s' x (l.trans l')
  | exc e h' => exact fun s' c d l' => h s' c d (l.trans l')
  | stuck => exact h
theorem PR.mono {α β : Type} {K : PySem.W.Frag} {I : Inf} {W : WX} {s : Sx} {σ : L2.St} {r : R α} {Rel : Sx → α → β → Prop} {Q Q' : β → Hp → Prop} (h : PR K I W s σ r Rel Q) (m : ∀ x H, Q x H → Q' x H) : PR K I W s σ r Rel Q' := by
  cases r with
  | ok a h' => exact fun s' x l e hr rel => m _ _ (h s' x l e hr rel)
  | exc e h' => exact h
  | stuck => exact h
def At {α β : Type} (K : PySem.W.Frag) (I : Inf) (W : WX) (σ : L2.St) (H : Hp) (G : Sx → Prop) (r : Ev → Hi → R α) (Rel : Sx → α → β → Prop) (Q : β → Hp → Prop) : Prop :=
  ∃ env s, s.H = H ∧ HR K I.ci s ∧ ER K s env σ ∧ G s ∧ PR K I W s σ (r env s.h) Rel Q
def tE {α β : Type} (K : PySem.W.Frag) (I : Inf) (W : WX) (r : Ev → Hi → R α) (Rel : Sx → α → β → Prop) : L2.St → Hp → (β → Hp → Prop) → Prop := fun σ H Q => At K I W σ H (fun _ => True) r Rel Q
theorem At.bind {α β γ δ : Type} {K : PySem.W.Frag} {I : Inf} {W : WX} {σ : L2.St} {H : Hp} {G G' : Sx → Prop} {ev1 : Ev → Hi → R α} {ev2 : α → Ev → Hi → R γ} {Rel1 : Sx → α → β → Prop} {Rel2 : Sx → γ → δ → Prop} {Q : δ → Hp → Prop}
    (h : At K I W σ H G (fun env h => (ev1 env h).bind fun a h1 => ev2 a env h1) Rel2 Q) (mono : ∀ s s', Le s s' → G s → G' s' := by intro _ _ _ g; exact g) :
    tE K I W ev1 Rel1 σ H (fun x H1 => ∃ a, At K I W σ H1 (fun s => G' s ∧ Rel1 s a x) (ev2 a) Rel2 Q) := by
  obtain ⟨env, s, eH, hr, er, g, pr⟩ := h
  refine ⟨env, s, eH, hr, er, trivial, ?_⟩
  replace pr : PR K I W s σ ((ev1 env s.h).bind fun a h1 => ev2 a env h1) Rel2 Q := pr
  generalize ev1 env s.h = r at pr ⊢
  cases r with
  | ok a h1 =>
    intro s' x l eh hr' rel
    subst eh
    exact ⟨a, env, s', rfl, hr', er.le l, ⟨mono s s' l g, rel⟩, PR.le (r := ev2 a env s'.h) pr l⟩
  | exc e h1 => exact pr
  | stuck => exact pr
theorem _root_.L2.PE.imp {X : Cx} {e : Expr} {t t' : TE} (h : PE X e t) (i : ∀ σ H Q, t' σ H Q → t σ H Q) : PE X e t' := ⟨fun pins s σ H Q I q => h.run pins s σ H Q I (i σ H Q q)⟩
theorem _root_.L2.PT.imp {X : Cx} {e : Expr} {t t' : TT} (h : PT X e t) (i : ∀ σ H Q, t' σ H Q → t σ H Q) : PT X e t' := ⟨fun pins s σ H Q I q => h.run pins s σ H Q I (i σ H Q q)⟩
theorem _root_.L2.PA.imp {X : Cx} {e : List Expr} {t t' : TA} (h : PA X e t) (i : ∀ σ H Q, t' σ H Q → t σ H Q) : PA X e t' := ⟨fun pos pins s σ H Q I q => h.run pos pins s σ H Q I (i σ H Q q)⟩
theorem _root_.L2.PS.imp {X : Cx} {e : Stmt} {t t' : TS} (h : PS X e t) (i : ∀ D σ H, t' D σ H → t D σ H) : PS X e t' := ⟨fun pins s σ H D I q => h.run pins s σ H D I (i D σ H q)⟩
theorem _root_.L2.PSs.imp {X : Cx} {e : List Stmt} {t t' : TS} (h : PSs X e t) (i : ∀ D σ H, t' D σ H → t D σ H) : PSs X e t' := ⟨fun pins s σ H D I q => h.run pins s σ H D I (i D σ H q)⟩
theorem _root_.L2.PI.imp {X : Cx} {tg e : Expr} {t t' : TI} (h : PI X tg e t) (i : ∀ σ H Q, t' σ H Q → t σ H Q) : PI X tg e t' := ⟨fun pins s σ H Q I q => h.run pins s σ H Q I (i σ H Q q)⟩

/-- borrowed: what is read at once -/
def RB (K : PySem.W.Frag) (s : Sx) (d : PyData) (x : V) : Prop := RF K s.F s.H d x ∨ ∃ ts a xs, d = .list ts ∧ x = .ref a ∧ Rd s.H a (.lst xs) ∧ RFs K s.F s.H ts xs
def PRl (K : PySem.W.Frag) (s : Sx) (d : PyData) (x : V) : Prop := RF K s.F s.H d x
theorem PRl.le {K : PySem.W.Frag} {s s' : Sx} {d : PyData} {x : V} (l : Le s s') (r : PRl K s d x) : PRl K s' d x := RF.keep l.kf r
theorem PR.val {K : PySem.W.Frag} {I : Inf} {W : WX} {s : Sx} {σ : L2.St} {o : Option Val} {v : Val} {x : V} {Q : V → Hp → Prop} (pr : PR K I W s σ (ofO o s.h) (VR K) Q) (hr : HR K I.ci s) (e : o = some v) (r : VR K s v x) : Q x s.H := by
  subst e
  exact pr s x (.refl s) rfl hr r
theorem PR.new {K : PySem.W.Frag} {I : Inf} {W : WX} {s : Sx} {σ : L2.St} {o : Option Val} {v : Val} {p : Addr} {u : HO} {Q : V → Hp → Prop} (pr : PR K I W s σ (ofO o s.h) (VR K) Q) (hr : HR K I.ci s) (e : o = some v) (hp : s.H p = none) (r : VR K (s.put p u true) v (.ref p)) : Q (.ref p) (upd s.H p u) := by
  subst e
  exact pr (s.put p u true) _ (hr.put_le hp) rfl (hr.put hp) r
theorem PR.isSome {K : PySem.W.Frag} {I : Inf} {W : WX} {s : Sx} {σ : L2.St} {o : Option Val} {Q : V → Hp → Prop} (pr : PR K I W s σ (ofO o s.h) (VR K) Q) : ∃ v, o = Option.some v := by
  cases o with
  | none => exact pr.elim
  | some v => exact ⟨v, rfl⟩
theorem lst_new {K : PySem.W.Frag} {s : Sx} {p : Addr} {ts : List PyData} {xs : List V} (hp : s.H p = none) (r : RFs K s.F s.H ts xs) : VR K (s.put p (.lst xs) true) (.p (.list ts)) (.ref p) :=
  .lst (.inl ⟨.inr ⟨rfl, rfl⟩, Rd.of upd_same⟩) (r.keep (KeepF.put hp))
theorem tup_new {K : PySem.W.Frag} {s : Sx} {p : Addr} {ts : List PyData} {xs : List V} {b : Bool} (hp : s.H p = none) (r : RFs K s.F s.H ts xs) : VR K (s.put p (.tup xs) b) (.p (.tuple ts)) (.ref p) :=
  .tup (SqT.of upd_same) (r.keep (KeepF.put hp))

/-! ### the context -/
structure Gm where
  fns : Nat → Option FnD
  defs : List (Str × Nat)
  nobs : List Str
  cons : List (Str × PyData)
  cls : List (Str × Nat × Nat)
  meths : List (Nat × Str × Nat)
  flds : List (Nat × List Str)
  excs : List (Str × Nat)
  tabs : List (Str × List (List Int × Int)) := []
/-- an entry of a table of the written part: a tuple of ints, an int -/
def TabEnt (K : PySem.W.Frag) (ks : List Int) (i : Int) (e : DictEntry) : Prop := ∃ (t : Addr) (tok : Tok) (o : Obj) (items : Array Value) (n : Nat), e.key = .ref t ∧ e.val = .int i tok ∧ (∀ (P : Program) (w : World), e.hash = tupleKeyHash (mixKind P w) (ks.map Sum.inl)) ∧
  K.lookup t = some o ∧ o.cls = .type "tuple" ∧ o.data = .seq items n ∧ IntsAre items.toList ks
def TabEs (K : PySem.W.Frag) : List (List Int × Int) → List DictEntry → Prop
  | [], [] => True
  | p :: ps, e :: es => TabEnt K p.1 p.2 e ∧ TabEs K ps es
  | _, _ => False
/-- a table of the written part -/
def TabK (K : PySem.W.Frag) (a : Addr) (kvs : List (List Int × Int)) : Prop := ∃ (es : Array DictEntry) (m : Nat), K.lookup a = some ⟨.type "dict", none, .dict es m, #[]⟩ ∧ TabEs K kvs es.toList ∧ (kvs.map (·.1)).Nodup
/-- an own exception class without own __init__ -/
structure XOk (K : PySem.W.Frag) (C : Addr) : Prop where
  q : PySem.W.excIn K C [.type "ValueError", .type "Exception", .type "BaseException", .type "object"] "ValueError.__new__" = true
  kC : PySem.W.keepIn K (.ref C) = true
  sb : PySem.W.subIn K (.ref C) (.type "BaseException") = some true
  ty : PySem.W.typeIn K (.ref C) = some (.type "type")
/-- what is asked of the def f, by the interpreter -/
def spF (K : PySem.W.Frag) (I : Inf) (fns : Nat → Option FnD) (n f np : Nat) : Sp := fun vs H Q E => ∃ s args, s.H = H ∧ HR K I.ci s ∧ Paired (VR K s) args vs ∧ args.length = np ∧
  match callF fns n f args s.h with
  | .ok v h' => ∀ s' x, Le s s' → s'.h = h' → HR K I.ci s' → VR K s' v x → Q x s'.H
  | .exc e h' => ∀ s' cls d, Le s s' → s'.h = h' → HR K I.ci s' → XR K I s' e cls d → E cls d s'.H
  | .stuck => False
/-- the def f of the small program stands at a -/
def FAt (P : Program) (w : World) (K : PySem.W.Frag) (mg : Str → Option Value) (base : Heap) (I : Inf) (fns : Nat → Option FnD) (n f : Nat) (a : Addr) : Prop :=
  PySem.W.keepIn K (.ref a) = true ∧ PySem.W.isFn K (.ref a) = true ∧ ∃ fd ps d, fns f = some d ∧ ps.length = d.np ∧ Binds K fd ps [] ∧ FnOk P w K mg base (L2.CX P w) (2 * n) a fd ps (spF K I fns n f d.np)
/-- a block's names; those whose cells it has made itself -/
structure Sco where
  s : Scope
  fn : Str → Bool
  top : Bool
structure GX (Γ : Gm) (n : Nat) (I : Inf) (N : List Str) (sc : Sco) (W : WX) (X : Cx) : Prop where
  stk : sc.top = true → X.stack = X.env :: X.outer ∧ X.env.frame = some X.env.locals
  hN : X.N = N
  nd : N.Nodup
  fnc : X.fn = sc.fn
  sc : X.env.scope = sc.s
  calm : X.calm = true
  tk : Takes X W
  pass : PassesOwn (model X.prog X.w) X.A X.env X.xe
  room : Room (2 * n + 1) X.A
  fn : ∀ p ∈ Γ.defs, ∃ a, X.mg p.1 = some (.ref a) ∧ FAt X.prog X.w X.K X.mg X.base I Γ.fns n p.2 a
  nob : ∀ x ∈ Γ.nobs, X.mg x = none
  con : ∀ p ∈ Γ.cons, ∃ u v, X.mg p.1 = some u ∧ RelV v u ∧ ∀ F H, RF X.K F H p.2 v
  cl : ∀ p ∈ Γ.cls, ∃ C names a, X.mg p.1 = some (.ref C) ∧ I.ci p.2.1 = some (C, names) ∧ Mk X.K C a ∧ FAt X.prog X.w X.K X.mg X.base I Γ.fns n p.2.2 a
  mt : ∀ p ∈ Γ.meths, ∃ C names a, I.ci p.1 = some (C, names) ∧ Meth X.K C p.2.1 a ∧ p.2.1 ∉ names ∧ FAt X.prog X.w X.K X.mg X.base I Γ.fns n p.2.2 a
  fl : ∀ p ∈ Γ.flds, ∃ C, I.ci p.1 = some (C, p.2) ∧ Cls X.K C ∧ p.2.Nodup ∧ p.2.length < 1000 ∧ ∀ x ∈ p.2, NoAttr X.K C x
  ci : ∀ c C names, I.ci c = some (C, names) → (c, names) ∈ Γ.flds
  xc : ∀ p ∈ Γ.excs, ∃ C, X.mg p.1 = some (.ref C) ∧ I.xi p.2 = some C ∧ XOk X.K C
  xm : ∀ c C c' C', I.xi c = some C → I.xi c' = some C' → PySem.W.exmOne X.K (.ref C) (.ref C') = some (subC c c')
  tb : ∀ p ∈ Γ.tabs, ∃ a, X.mg p.1 = some (.ref a) ∧ TabK X.K a p.2
def DE (Γ : Gm) (N : List Str) (sc : Sco) (e : Expr) (a : E) : Prop :=
  ∀ n I W X, GX Γ n I N sc W X → PE X e (tE X.K I W (fun env h => evalE (callF Γ.fns n) env a h) (VR X.K))
def DB (Γ : Gm) (N : List Str) (sc : Sco) (e : Expr) (a : E) : Prop :=
  ∀ n I W X, GX Γ n I N sc W X → PE X e (tE X.K I W (fun env h => bor env h a (evalE (callF Γ.fns n) env a h)) (RB X.K))
/-- as data that stays -/
def DV (Γ : Gm) (N : List Str) (sc : Sco) (e : Expr) (a : E) : Prop :=
  ∀ n I W X, GX Γ n I N sc W X → PE X e (tE X.K I W (fun env h => (evalE (callF Γ.fns n) env a h).bind unP) (PRl X.K))
def tP (K : PySem.W.Frag) (I : Inf) (r : Ev → Hi → R Val) : TE := fun σ H Q => ∃ env s, s.H = H ∧ HR K I.ci s ∧ ER K s env σ ∧ match r env s.h with
  | .ok (.p d) h' => h' = s.h ∧ ∀ x, RF K s.F s.H d x → Q x H
  | _ => False
/-- data that is looked up, changing nothing -/
structure DP (Γ : Gm) (N : List Str) (sc : Sco) (e : Expr) (a : E) : Prop where
  run : ∀ n I W X, GX Γ n I N sc W X → PE X e (tP X.K I (fun env h => evalE (callF Γ.fns n) env a h))
  pure : ∀ cf env h, (∃ v, evalE cf env a h = .ok v h) ∨ evalE cf env a h = .stuck
def DT (Γ : Gm) (N : List Str) (sc : Sco) (e : Expr) (a : Te) : Prop :=
  ∀ n I W X, GX Γ n I N sc W X → PT X e (tE X.K I W (fun env h => evalT (callF Γ.fns n) env a h) (fun _ a x => x = a))
section
variable {Γ : Gm} {N : List Str} {sc : Sco} {x : Expr} {a : E}
theorem DE.v (h : DE Γ N sc x a) : DV Γ N sc x a := fun n I W X g => (h n I W X g).imp fun σ H Q q => by
  obtain ⟨env, s, eH, hr, er, _, pr⟩ := q
  refine ⟨env, s, eH, hr, er, trivial, ?_⟩
  replace pr : PR X.K I W s σ ((evalE (callF Γ.fns n) env a s.h).bind unP) (PRl X.K) Q := pr
  show PR X.K I W s σ (evalE (callF Γ.fns n) env a s.h) (VR X.K) Q
  generalize evalE (callF Γ.fns n) env a s.h = r at pr ⊢
  cases r with
  | ok v h1 =>
    intro s' x l eh hr' rel
    cases v with
    | p d => exact pr s' x l eh hr' rel
    | ref m => exact False.elim pr
  | exc e h1 => exact pr
  | stuck => exact pr
theorem DV.b (h : DV Γ N sc x a) (np : ∀ env h, peek env h a = none := by intros; rfl) : DB Γ N sc x a := fun n I W X g => (h n I W X g).imp fun σ H Q q => by
  obtain ⟨env, s, eH, hr, er, _, pr⟩ := q
  refine ⟨env, s, eH, hr, er, trivial, ?_⟩
  replace pr : PR X.K I W s σ (bor env s.h a (evalE (callF Γ.fns n) env a s.h)) (RB X.K) Q := pr
  show PR X.K I W s σ ((evalE (callF Γ.fns n) env a s.h).bind unP) (PRl X.K) Q
  simp only [bor, np] at pr
  generalize (evalE (callF Γ.fns n) env a s.h).bind unP = r at pr ⊢
  cases r with
  | ok v h1 => exact fun s' y l eh hr' rel => pr s' y l eh hr' (.inl rel)
  | exc e h1 => exact pr
  | stuck => exact pr
theorem DP.v (h : DP Γ N sc x a) : DV Γ N sc x a := fun n I W X g => (h.run n I W X g).imp fun σ H Q q => by
  obtain ⟨env, s, eH, hr, er, _, pr⟩ := q
  refine ⟨env, s, eH, hr, er, ?_⟩
  replace pr : PR X.K I W s σ ((evalE (callF Γ.fns n) env a s.h).bind unP) (PRl X.K) Q := pr
  show (match evalE (callF Γ.fns n) env a s.h with
  | .ok (.p d) h' => h' = s.h ∧ ∀ x, RF X.K s.F s.H d x → Q x H
  | _ => False)
  rcases h.pure (callF Γ.fns n) env s.h with ⟨v, e⟩ | e
  · rw [e] at pr ⊢
    cases v with
    | p d => exact ⟨rfl, fun y r => by rw [← eH]; exact pr s y (.refl s) rfl hr r⟩
    | ref m => exact False.elim pr
  · rw [e] at pr
    exact False.elim pr
end
section
variable {K : PySem.W.Frag} {s : Sx}
theorem RB.dp {d : PyData} {x : V} (r : RB K s d x) : Dp K s.H x d := by
  rcases r with r | ⟨ts, a, xs, rfl, rfl, h, t⟩
  · exact r.dp
  · exact .lst (.inl h) t.dp
theorem RB.strict {d : PyData} {x : V} (r : RB K s d x) (n : ∀ ts, d ≠ .list ts) : RF K s.F s.H d x := by
  rcases r with r | ⟨ts, a, xs, rfl, rfl, h, t⟩
  · exact r
  · exact absurd rfl (n ts)
theorem RB.lst {ts : List PyData} {x : V} (r : RB K s (.list ts) x) : ∃ a xs, x = .ref a ∧ SqL K s.H a xs ∧ RFs K s.F s.H ts xs := by
  rcases r with r | ⟨ts', a, xs, e, rfl, h, t⟩
  · obtain ⟨a, xs, e, h, t⟩ := r.lst_inv
    exact ⟨a, xs, e, h.sq, t⟩
  · cases e
    exact ⟨a, xs, rfl, .inl h, t⟩
theorem RB.tup {ts : List PyData} {x : V} (r : RB K s (.tuple ts) x) : ∃ a xs, x = .ref a ∧ SqT K s.H a xs ∧ RFs K s.F s.H ts xs := (r.strict (fun _ z => nomatch z)).tup_inv
theorem RB.int {i : Int} {x : V} (r : RB K s (.int i) x) : x = .int i := (r.strict (fun _ z => nomatch z)).int_inv
theorem RB.bl {i : Bool} {x : V} (r : RB K s (.bool i) x) : x = .bl i := (r.strict (fun _ z => nomatch z)).bl_inv
theorem RB.str {i : Str} {x : V} (r : RB K s (.str i) x) : x = .str i := (r.strict (fun _ z => nomatch z)).str_inv
theorem RB.non {x : V} (r : RB K s .none x) : x = .non := (r.strict (fun _ z => nomatch z)).non_inv
end
/-- an operation's end: data that was there, or a new thing -/
def Fin (K : PySem.W.Frag) (s : Sx) (d : PyData) (Q : VK) : Prop :=
  (∀ z, RF K s.F s.H d z → Q z s.H) ∧ ∀ p u, s.H p = none → VR K (s.put p u true) (.p d) (.ref p) → Q (.ref p) (upd s.H p u)
theorem PR.fin {K : PySem.W.Frag} {I : Inf} {W : WX} {s : Sx} {σ : L2.St} {o : Option PyData} {Q : V → Hp → Prop} (pr : PR K I W s σ (ofO (o.map Val.p) s.h) (VR K) Q) (hr : HR K I.ci s) : ∃ d, o = some d ∧ Fin K s d Q := by
  cases o with
  | none => exact False.elim pr
  | some d => exact ⟨d, rfl, fun z r => PR.val (v := .p d) pr hr rfl r, fun p u hp r => PR.new (v := .p d) pr hr rfl hp r⟩
def Op1Ok (K : PySem.W.Frag) (r : V → Hp → VK → Prop) (o : O1) : Prop := ∀ (s : Sx) d1 d x (Q : VK), RB K s d1 x → opf1 o d1 = some d → Fin K s d Q → r x s.H Q
def Op2Ok (K : PySem.W.Frag) (r : R2) (o : O2) : Prop := ∀ (s : Sx) d1 d2 d x y (Q : VK), RB K s d1 x → RB K s d2 y → opf2 o d1 d2 = some d → Fin K s d Q → r x y s.H Q
section
variable {Γ : Gm} {N : List Str} {sc : Sco} {e ea eb ec : Expr} {a b c : E} {o : O2}
theorem op1_imp {o : O1} {r : V → Hp → VK → Prop} {n : Nat} {I : Inf} {W : WX} {X : Cx} (ok : Op1Ok X.K r o) {σ : L2.St} {H : Hp} {Q : VK} (q : tE X.K I W (fun env h => evalE (callF Γ.fns n) env (.op1 o a) h) (VR X.K) σ H Q) :
    tUn r (tE X.K I W (fun env h => bor env h a (evalE (callF Γ.fns n) env a h)) (RB X.K)) σ H Q := by
    obtain ⟨env, s, eH, hr, er, _, pr⟩ := At.bind (Rel1 := RB X.K) (ev2 := fun x env h => ofO ((opf1 o x).map Val.p) h) q
    refine ⟨env, s, eH, hr, er, trivial, ?_⟩
    refine PR.mono pr fun x H1 ⟨d, env, s, e, hr, er, ⟨_, rb⟩, pr⟩ => ?_
    subst e
    obtain ⟨d', e1, f⟩ := PR.fin (o := opf1 o d) pr hr
    exact ok s d d' x Q rb e1 f
theorem de_op1 {o : O1} {r : Cx → V → Hp → VK → Prop} (hpe : ∀ n I W X, GX Γ n I N sc W X → ∀ ta, PE X ea ta → PE X e (tUn (r X) ta)) (ok : ∀ n I W X, GX Γ n I N sc W X → Op1Ok X.K (r X) o) (ha : DB Γ N sc ea a) : DE Γ N sc e (.op1 o a) := fun n I W X g =>
  (hpe n I W X g _ (ha n I W X g)).imp fun σ H Q q => op1_imp (ok n I W X g) q
theorem op2_imp {r : R2} {n : Nat} {I : Inf} {W : WX} {X : Cx} (ok : Op2Ok X.K r o) {σ : L2.St} {H : Hp} {Q : VK} (q : tE X.K I W (fun env h => evalE (callF Γ.fns n) env (.op2 o a b) h) (VR X.K) σ H Q) :
    tOp r (tE X.K I W (fun env h => (evalE (callF Γ.fns n) env a h).bind unP) (PRl X.K)) (tE X.K I W (fun env h => bor env h b (evalE (callF Γ.fns n) env b h)) (RB X.K)) σ H Q := by
    obtain ⟨env, s, eH, hr, er, _, pr⟩ := At.bind (Rel1 := PRl X.K) (ev2 := fun x env h => (bor env h b (evalE (callF Γ.fns n) env b h)).bind fun y h2 => ofO ((opf2 o x y).map Val.p) h2) q
    refine ⟨env, s, eH, hr, er, trivial, ?_⟩
    refine PR.mono pr fun x H1 ⟨d, q⟩ => ?_
    obtain ⟨env, s, eH, hr, er, _, pr⟩ := At.bind (Rel1 := RB X.K) (G' := fun s => PRl X.K s d x) (ev2 := fun y env h2 => ofO ((opf2 o d y).map Val.p) h2) q (fun s s' l g => g.2.le l)
    refine ⟨env, s, eH, hr, er, trivial, ?_⟩
    refine PR.mono pr fun y H2 ⟨d2, env, s, e, hr, er, ⟨r1, r2⟩, pr⟩ => ?_
    subst e
    obtain ⟨d', e1, f⟩ := PR.fin (o := opf2 o d d2) pr hr
    exact ok s d d2 d' x y Q (.inl r1) r2 e1 f
theorem de_op2 {r : Cx → R2} (hpe : ∀ n I W X, GX Γ n I N sc W X → ∀ ta tb, PE X ea ta → PE X eb tb → PE X e (tOp (r X) ta tb)) (ok : ∀ n I W X, GX Γ n I N sc W X → Op2Ok X.K (r X) o) (ha : DV Γ N sc ea a) (hb : DB Γ N sc eb b) :
    DE Γ N sc e (.op2 o a b) := fun n I W X g =>
  (hpe n I W X g _ _ (ha n I W X g) (hb n I W X g)).imp fun σ H Q q => op2_imp (ok n I W X g) q
theorem op2b_imp {r : R2} {n : Nat} {I : Inf} {W : WX} {X : Cx} (ok : Op2Ok X.K r o) (hb : ∀ cf env h, (∃ v, evalE cf env b h = .ok v h) ∨ evalE cf env b h = .stuck) {σ : L2.St} {H : Hp} {Q : VK} (q : tE X.K I W (fun env h => evalE (callF Γ.fns n) env (.op2b o a b) h) (VR X.K) σ H Q) :
    tOp r (tE X.K I W (fun env h => bor env h a (evalE (callF Γ.fns n) env a h)) (RB X.K)) (tP X.K I (fun env h => evalE (callF Γ.fns n) env b h)) σ H Q := by
    obtain ⟨env, s, eH, hr, er, _, pr⟩ := At.bind (Rel1 := RB X.K) (ev2 := fun x env h => ((evalE (callF Γ.fns n) env b h).bind unP).bind fun y h2 => ofO ((opf2 o x y).map Val.p) h2) q
    refine ⟨env, s, eH, hr, er, trivial, ?_⟩
    refine PR.mono pr fun x H1 ⟨d, env, s, eH, hr, er, ⟨_, rb⟩, pr⟩ => ?_
    refine ⟨env, s, eH, hr, er, ?_⟩
    replace pr : PR X.K I W s σ (((evalE (callF Γ.fns n) env b s.h).bind unP).bind fun y h2 => ofO ((opf2 o d y).map Val.p) h2) (VR X.K) Q := pr
    show (match evalE (callF Γ.fns n) env b s.h with
    | .ok (.p d2) h' => h' = s.h ∧ ∀ y, RF X.K s.F s.H d2 y → r x y H1 Q
    | _ => False)
    rcases hb (callF Γ.fns n) env s.h with ⟨v, e⟩ | e
    · rw [e] at pr ⊢
      cases v with
      | p d2 =>
        refine ⟨rfl, fun y ry => ?_⟩
        obtain ⟨d', e1, f⟩ := PR.fin (o := opf2 o d d2) pr hr
        rw [← eH]
        exact ok s d d2 d' x y Q rb (.inl ry) e1 f
      | ref m => exact False.elim pr
    · rw [e] at pr
      exact False.elim pr
theorem de_op2b {r : Cx → R2} (hpe : ∀ n I W X, GX Γ n I N sc W X → ∀ ta tb, PE X ea ta → PE X eb tb → PE X e (tOp (r X) ta tb)) (ok : ∀ n I W X, GX Γ n I N sc W X → Op2Ok X.K (r X) o) (ha : DB Γ N sc ea a) (hb : DP Γ N sc eb b) :
    DE Γ N sc e (.op2b o a b) := fun n I W X g =>
  (hpe n I W X g _ _ (ha n I W X g) (hb.run n I W X g)).imp fun σ H Q q => op2b_imp (ok n I W X g) hb.pure q
/-- operations that make nothing -/
def Op2Pu (K : PySem.W.Frag) (r : R2) (o : O2) : Prop := ∀ (s : Sx) d1 d2 d x y (Q : VK), RB K s d1 x → RB K s d2 y → opf2 o d1 d2 = some d → (∀ z, RF K s.F s.H d z → Q z s.H) → r x y s.H Q
theorem Op2Pu.ok {K : PySem.W.Frag} {r : R2} (h : Op2Pu K r o) : Op2Ok K r o := fun s d1 d2 d x y Q r1 r2 e f => h s d1 d2 d x y Q r1 r2 e f.1
theorem de_op2d {r : Cx → R2} (hpe : ∀ n I W X, GX Γ n I N sc W X → ∀ ta tb, PE X ea ta → PE X eb tb → PE X e (tOp (r X) ta tb)) (ok : ∀ n I W X, GX Γ n I N sc W X → Op2Ok X.K (r X) o) (ha : DV Γ N sc ea a) (hb : DV Γ N sc eb b) :
    DE Γ N sc e (.op2d o a b) := fun n I W X g =>
  (hpe n I W X g _ _ (ha n I W X g) (hb n I W X g)).imp fun σ H Q q => by
    obtain ⟨env, s, eH, hr, er, _, pr⟩ := At.bind (Rel1 := PRl X.K) (ev2 := fun x env h => ((evalE (callF Γ.fns n) env b h).bind unP).bind fun y h2 => ofO ((opf2 o x y).map Val.p) h2) q
    refine ⟨env, s, eH, hr, er, trivial, ?_⟩
    refine PR.mono pr fun x H1 ⟨d, q⟩ => ?_
    obtain ⟨env, s, eH, hr, er, _, pr⟩ := At.bind (Rel1 := PRl X.K) (G' := fun s => PRl X.K s d x) (ev2 := fun y env h2 => ofO ((opf2 o d y).map Val.p) h2) q (fun s s' l g => g.2.le l)
    refine ⟨env, s, eH, hr, er, trivial, ?_⟩
    refine PR.mono pr fun y H2 ⟨d2, env, s, e, hr, er, ⟨r1, r2⟩, pr⟩ => ?_
    subst e
    obtain ⟨d', e1, f⟩ := PR.fin (o := opf2 o d d2) pr hr
    exact ok n I W X g s d d2 d' x y Q (.inl r1) (.inl r2) e1 f
theorem dp_op2d {r : Cx → R2} (hpe : ∀ n I W X, GX Γ n I N sc W X → ∀ ta tb, PE X ea ta → PE X eb tb → PE X e (tOp (r X) ta tb)) (ok : ∀ n I W X, GX Γ n I N sc W X → Op2Pu X.K (r X) o) (ha : DP Γ N sc ea a) (hb : DP Γ N sc eb b) : DP Γ N sc e (.op2d o a b) where
  run := fun n I W X g => (hpe n I W X g _ _ (ha.run n I W X g) (hb.run n I W X g)).imp fun σ H Q q => by
    obtain ⟨env, s, eH, hr, er, pr⟩ := q
    refine ⟨env, s, eH, hr, er, ?_⟩
    replace pr : (match ((evalE (callF Γ.fns n) env a s.h).bind unP).bind (fun x h1 => ((evalE (callF Γ.fns n) env b h1).bind unP).bind fun y h2 => ofO ((opf2 o x y).map Val.p) h2) with
      | .ok (.p d) h' => h' = s.h ∧ ∀ x, RF X.K s.F s.H d x → Q x H
      | _ => False) := pr
    show (match evalE (callF Γ.fns n) env a s.h with
    | .ok (.p d2) h' => h' = s.h ∧ ∀ y, RF X.K s.F s.H d2 y → tP X.K I (fun env h => evalE (callF Γ.fns n) env b h) σ H (fun y H2 => r X _ y H2 Q)
    | _ => False)
    rcases ha.pure (callF Γ.fns n) env s.h with ⟨v, e⟩ | e
    · rw [e] at pr ⊢
      cases v with
      | p d1 =>
        refine ⟨rfl, fun x rx => ⟨env, s, eH, hr, er, ?_⟩⟩
        simp only [R.bind_ok, unP] at pr
        show (match evalE (callF Γ.fns n) env b s.h with
        | .ok (.p d2) h' => h' = s.h ∧ ∀ y, RF X.K s.F s.H d2 y → r X x y H Q
        | _ => False)
        rcases hb.pure (callF Γ.fns n) env s.h with ⟨v, e⟩ | e
        · rw [e] at pr ⊢
          cases v with
          | p d2 =>
            refine ⟨rfl, fun y ry => ?_⟩
            simp only [R.bind_ok, unP] at pr
            cases e1 : opf2 o d1 d2 with
            | none => rw [e1] at pr; exact False.elim pr
            | some d' =>
              rw [e1] at pr
              rw [← eH]
              exact ok n I W X g s d1 d2 d' x y Q (.inl rx) (.inl ry) e1 fun z rz => by rw [eH]; exact pr.2 z rz
          | ref m => exact False.elim pr
        · rw [e] at pr
          exact False.elim pr
      | ref m => exact False.elim pr
    · rw [e] at pr
      exact False.elim pr
  pure := fun cf env h => by
    show (∃ v, ((evalE cf env a h).bind unP).bind (fun x h1 => ((evalE cf env b h1).bind unP).bind fun y h2 => ofO ((opf2 o x y).map Val.p) h2) = .ok v h) ∨ ((evalE cf env a h).bind unP).bind (fun x h1 => ((evalE cf env b h1).bind unP).bind fun y h2 => ofO ((opf2 o x y).map Val.p) h2) = .stuck
    rcases ha.pure cf env h with ⟨v, e⟩ | e
    · rw [e]
      cases v with
      | p d1 =>
        simp only [R.bind_ok, unP]
        rcases hb.pure cf env h with ⟨v, e⟩ | e
        · rw [e]
          cases v with
          | p d2 =>
            simp only [R.bind_ok, unP]
            cases opf2 o d1 d2 with
            | none => exact .inr rfl
            | some d => exact .inl ⟨_, rfl⟩
          | ref m => exact .inr rfl
        · rw [e]; exact .inr rfl
      | ref m => exact .inr rfl
    · rw [e]; exact .inr rfl
end
end Cd
set_option Elab.async false
set_option linter.all false
set_option maxRecDepth 100000
set_option maxHeartbeats 4000000
namespace Cd
open PySem PySem.Spec PyProof.Rows L2

/-! ### names -/
structure VOk (N : List Str) (sc : Sco) (i : Nat) (x : Str) : Prop where
  hN : N[i]? = some x
  hv : Vis sc.s x
  hd : (x == ("__debug__" : Str)) = false
  hc : (x == ("__classdict__" : Str)) = false
structure GOk (sc : Sco) (x : Str) : Prop where
  gl : sc.s.names.lookup x = some .globalImplicit
  db : (x == ("__debug__" : Str)) = false
  nm : x ≠ "__name__"
section
variable {Γ : Gm} {N : List Str} {sc : Sco} {n : Nat} {I : Inf} {W : WX} {X : Cx} {i : Nat} {x : Str} {pos : Pos}
theorem VOk.pe (v : VOk N sc i x) (g : GX Γ n I N sc W X) : PE X (.Name x pos) (tVar i) := pe_var (by rw [g.hN]; exact v.hN) (by rw [g.sc]; exact v.hv) v.hd v.hc
theorem GOk.g (v : GOk sc x) (g : GX Γ n I N sc W X) : Gl X x := by
  unfold Gl Env.kindOf
  rw [g.sc]; exact v.gl
theorem de_var (v : VOk N sc i x) : DE Γ N sc (.Name x pos) (.var i) := fun n I W X g => (v.pe g).imp fun σ H Q q => by
  obtain ⟨env, s, eH, hr, er, _, pr⟩ := q
  obtain ⟨v, e⟩ := PR.isSome (o := slot env i) pr
  obtain ⟨y, h1, h2⟩ := er.at_ i v e
  exact ⟨y, h1, by rw [← eH]; exact PR.val (o := slot env i) pr hr e h2⟩
theorem dp_var (v : VOk N sc i x) : DP Γ N sc (.Name x pos) (.var i) where
  run := fun n I W X g => (v.pe g).imp fun σ H Q q => by
    obtain ⟨env, s, eH, hr, er, pr⟩ := q
    replace pr : (match ofO (slot env i) s.h with
      | .ok (.p d) h' => h' = s.h ∧ ∀ x, RF X.K s.F s.H d x → Q x H
      | _ => False) := pr
    cases e : slot env i with
    | none => rw [e] at pr; exact False.elim pr
    | some v =>
      rw [e] at pr
      cases v with
      | p d =>
        obtain ⟨y, h1, h2⟩ := er.at_ i _ e
        exact ⟨y, h1, pr.2 y h2⟩
      | ref m => exact False.elim pr
  pure := fun cf env h => by
    show (∃ v, ofO (slot env i) h = .ok v h) ∨ ofO (slot env i) h = .stuck
    cases slot env i with
    | none => exact .inr rfl
    | some v => exact .inl ⟨v, rfl⟩
theorem slotRef_of {env : Ev} {i n : Nat} (e : slotRef env i = some n) : slot env i = some (.ref n) := by
  unfold slotRef at e
  split at e
  · cases e; assumption
  · cases e
theorem listAt_of {h : Hi} {n : Nat} {ts : List PyData} (e : listAt h n = some ts) : h[n]? = some (.lst ts) := by
  unfold listAt at e
  split at e
  · cases e; assumption
  · cases e
theorem insAt_of {h : Hi} {n : Nat} {p : Nat × List Fld} (e : insAt h n = some p) : h[n]? = some (.ins p.1 p.2) := by
  unfold insAt at e
  split at e
  · cases e; assumption
  · cases e
theorem dctAt_of {h : Hi} {n : Nat} {p : List (Key × Fld)} (e : dctAt h n = some p) : h[n]? = some (.dct p) := by
  unfold dctAt at e
  split at e
  · cases e; assumption
  · cases e
theorem db_var (v : VOk N sc i x) : DB Γ N sc (.Name x pos) (.var i) := fun n I W X g => (v.pe g).imp fun σ H Q q => by
  obtain ⟨env, s, eH, hr, er, _, pr⟩ := q
  replace pr : PR X.K I W s σ (bor env s.h (.var i) (ofO (slot env i) s.h)) (RB X.K) Q := pr
  cases e : slot env i with
  | none =>
    have e2 : slotRef env i = none := by unfold slotRef; rw [e]
    simp only [bor, peek, lstOf, e2, e, ofO_none, Option.bind_none, Option.map_none, R.bind_stuck] at pr
    exact False.elim pr
  | some v =>
    obtain ⟨y, h1, h2⟩ := er.at_ i v e
    refine ⟨y, h1, ?_⟩
    cases v with
    | p d =>
      have e2 : slotRef env i = none := by unfold slotRef; rw [e]
      simp only [bor, peek, lstOf, e2, e, ofO_some, Option.bind_none, Option.map_none, R.bind_ok, unP] at pr
      rw [← eH]
      exact pr s y (.refl s) rfl hr (.inl h2)
    | ref m =>
      have e2 : slotRef env i = some m := by unfold slotRef; rw [e]
      cases e3 : listAt s.h m with
      | none =>
        simp only [bor, peek, lstOf, e2, e, e3, ofO_some, Option.bind_some, Option.map_none, R.bind_ok, unP] at pr
        exact False.elim pr
      | some ts =>
        simp only [bor, peek, lstOf, e2, e, e3, ofO_some, Option.bind_some, Option.map_some, R.bind_ok, unP] at pr
        obtain ⟨xs, q1, q2⟩ := hr.ob m _ (listAt_of e3)
        rw [← eH]
        exact pr s y (.refl s) rfl hr (.inr ⟨ts, _, xs, rfl, h2.2, Rd.of q1, q2⟩)
/-! ### constants -/
theorem dp_c {e : Expr} {d : PyData} {v : V} (hpe : ∀ X, PE X e (tC v)) (hd : ∀ K F H, RF K F H d v) : DP Γ N sc e (.lit d) where
  run := fun n I W X g => (hpe X).imp fun σ H Q ⟨env, s, eH, hr, er, pr⟩ => pr.2 v (hd _ _ _)
  pure := fun cf env h => .inl ⟨_, rfl⟩
theorem dp_int {i : Int} {j : Nat} {pos : Pos} : DP Γ N sc (.Constant (.int i) j pos) (.lit (.int i)) := dp_c (fun _ => pe_int) fun _ _ _ => .int _
theorem dp_bool {b : Bool} {j : Nat} {pos : Pos} : DP Γ N sc (.Constant (.bool b) j pos) (.lit (.bool b)) := dp_c (fun _ => pe_bl) fun _ _ _ => .bl _
theorem dp_none {j : Nat} {pos : Pos} : DP Γ N sc (.Constant .none j pos) (.lit .none) := dp_c (fun _ => pe_non) fun _ _ _ => .non
theorem dp_str {y : Str} {j : Nat} {pos : Pos} : DP Γ N sc (.Constant (.str y) j pos) (.lit (.str y)) := dp_c (fun _ => pe_str) fun _ _ _ => .str _
theorem dp_con {d : PyData} (v : GOk sc x) (hm : (x, d) ∈ Γ.cons) : DP Γ N sc (.Name x pos) (.lit d) where
  run := fun n I W X g => by
    obtain ⟨u, y, h1, h2, h3⟩ := g.con _ hm
    exact (pe_glob (v.g g) h1 h2 v.db).imp fun σ H Q ⟨env, s, eH, hr, er, pr⟩ => pr.2 y (h3 _ _)
  pure := fun cf env h => .inl ⟨_, rfl⟩
end
section
variable {Γ : Gm} {N : List Str} {sc : Sco} {e : Expr} {a : E}
theorem DP.b (h : DP Γ N sc e a) (np : ∀ env h, peek env h a = none := by intros; rfl) : DB Γ N sc e a := h.v.b np
end
/-! ### lists that are read: tracked or locked -/
section
variable {X : Cx} {pins : List (Addr × Obj)} {σ : L2.St} {H : Hp} {s : Shared} {p : Addr} {xs : List V}
/-- the object of a list that may be read -/
theorem lstR (I : Inv X pins σ H s) (h : Rd H p (.lst xs)) : ∃ (us : List Value) (c : Nat), Vals xs us ∧ s.heap.get? p = some { cls := .type "list", data := .seq us.toArray c } :=
  let ⟨_, us, c, r, e⟩ := h.ok I.hok
  ⟨us, c, r, e⟩
def rCatR (K : PySem.W.Frag) : R2 := fun x y H Q => ∃ p q xs ys, x = .ref p ∧ y = .ref q ∧ SqL K H p xs ∧ SqL K H q ys ∧ xs.length + ys.length ≤ sizeLine ∧ ∀ l, H l = none → Q (.ref l) (upd H l (.lst (xs ++ ys)))
theorem op_catR : OpR X (binaryOp .Add) (rCatR X.K) := fun pins s σ H x y v u Q I rx ry ⟨p, q, xs, ys, ex, ey, hp, hq, hz, k⟩ => by
  subst ex ey
  obtain rfl : v = .ref p := rx
  obtain rfl : u = .ref q := ry
  obtain ⟨us, ru, pu, _⟩ := I.list hp
  obtain ⟨ws, rw', pw, _⟩ := I.list hq
  obtain ⟨⟨c1, d1, t1, l1⟩, m1, o1, k1, k2, k3⟩ := pu
  obtain ⟨⟨c2, d2, t2, l2⟩, m2, o2, k4, k5, k6⟩ := pw
  simp only at k1 k2 k3 k4 k5 k6
  subst k1 k2 k3 k4 k5 k6
  have h1 := ru.length
  have h2 := rw'.length
  refine concat_meets ⟨_, o1, rfl⟩ ⟨_, o2, rfl⟩ noFill_list_add seq_list_add PySem.F.slot_list_add PySem.F.entry_list_add (PySem.F.args_list_add_2 _ _) (list_addW p q us.toArray ws.toArray m1 m2 none none l1 l2 (by simp only [List.size_toArray]; omega)) ⟨o1, o2, ?_⟩
  rw [List.append_toArray]
  exact ⟨.ref _, _, I.lnew (ru.append rw') (by simp only [List.length_append]; omega), rfl, k _ I.fresh⟩
end
/-! ### operations by their rules -/
section
variable {K : PySem.W.Frag} {X : Cx}
theorem ok_sub : Op2Pu K (rI0 fun i j => .int (i - j)) .sub := fun s d1 d2 d x y Q r1 r2 e f => by
  replace e : subD d1 d2 = some d := e
  unfold subD at e
  split at e
  · cases e; rw [r1.int, r2.int]; exact ⟨_, _, rfl, rfl, f _ (.int _)⟩
  · cases e
def rModN : R2 := rI (fun _ j => j ≠ 0) fun i j => .int (i.fmod j)
theorem ok_mod : Op2Pu K rModN .mod := fun s d1 d2 d x y Q r1 r2 e f => by
  replace e : modD d1 d2 = some d := e
  unfold modD at e
  split at e
  · split at e
    · cases e
    · rename_i h
      cases e; rw [r1.int, r2.int]; exact ⟨_, _, rfl, rfl, h, f _ (.int _)⟩
  · cases e
def rDivN : R2 := rI CDivN fun i j => .int (i.fdiv j)
theorem ok_fdiv : Op2Pu K rDivN .fdiv := fun s d1 d2 d x y Q r1 r2 e f => by
  replace e : fdivD d1 d2 = some d := e
  unfold fdivD at e
  split at e
  · split at e
    · rename_i h
      simp only [Bool.and_eq_true, decide_eq_true_eq] at h
      cases e; rw [r1.int, r2.int]; exact ⟨_, _, rfl, rfl, h, f _ (.int _)⟩
    · cases e
  · cases e
/-- ints, texts, tuples, lists -/
def rAdd (K : PySem.W.Frag) : R2 := fun x y H Q => (((rI0 fun i j => .int (i + j)) x y H Q ∨ (∃ i j, x = .str i ∧ y = .str j ∧ i.length + j.length ≤ sizeLine ∧ Q (.str (i ++ j)) H)) ∨ rCatA K x y H Q) ∨ rCatR K x y H Q
theorem op_addA : OpR X (binaryOp .Add) (rAdd X.K) := ((op_add.or op_add_str).or op_catA).or op_catR
theorem ok_add : Op2Ok K (rAdd K) .add := fun s d1 d2 d x y Q r1 r2 e f => by
  replace e : addD d1 d2 = some d := e
  unfold addD at e
  split at e
  · cases e; rw [r1.int, r2.int]; exact .inl (.inl (.inl ⟨_, _, rfl, rfl, f.1 _ (.int _)⟩))
  · split at e
    · rename_i h
      cases e; rw [r1.str, r2.str]; exact .inl (.inl (.inr ⟨_, _, rfl, rfl, h, f.1 _ (.str _)⟩))
    · cases e
  · split at e
    · rename_i h
      cases e
      obtain ⟨a, xs, rfl, h1, q1⟩ := r1.tup
      obtain ⟨b, ys, rfl, h2, q2⟩ := r2.tup
      refine .inl (.inr ⟨a, b, xs, ys, rfl, rfl, h1, h2, by rw [← q1.length, ← q2.length]; exact h, fun e => ?_, fun _ e => ?_, fun _ _ p hp => f.2 p _ hp (tup_new hp (q1.append q2))⟩)
      · subst e
        cases q1
        exact f.1 _ (.tup h2 q2)
      · subst e
        cases q2
        exact f.1 _ (.tup h1 (by rw [List.append_nil]; exact q1))
    · cases e
  · split at e
    · rename_i h
      cases e
      obtain ⟨a, xs, rfl, h1, q1⟩ := r1.lst
      obtain ⟨b, ys, rfl, h2, q2⟩ := r2.lst
      exact .inr ⟨a, b, xs, ys, rfl, rfl, h1, h2, by rw [← q1.length, ← q2.length]; exact h, fun p hp => f.2 p _ hp (lst_new hp (q1.append q2))⟩
    · cases e
  · cases e
def rAddI : R2 := rI0 fun i j => .int (i + j)
theorem small64_of {i : Int} (h : small64 i = true) : -(2 ^ 64) < i ∧ i < 2 ^ 64 := by
  unfold small64 at h
  rw [decide_eq_true_eq] at h
  omega
theorem ok_mul : Op2Pu K (rI CMul fun i j => .int (i * j)) .mul := fun s d1 d2 d x y Q r1 r2 e f => by
  replace e : mulD d1 d2 = some d := e
  unfold mulD at e
  split at e
  · split at e
    · rename_i h
      cases e
      rw [r1.int, r2.int]
      refine ⟨_, _, rfl, rfl, ?_, f _ (.int _)⟩
      rcases Bool.or_eq_true _ _ ▸ h with h | h
      · exact .inl (small64_of h)
      · exact .inr (small64_of h)
    · cases e
  · cases e
/-! ### comparisons of data -/
def rCmpD (K : PySem.W.Frag) (f : PyData → PyData → Bool) : R2 := fun x y H Q => ∃ d e, Dp K H x d ∧ Dp K H y e ∧ cmpOk d e = true ∧ Q (.bl (f d e)) H
theorem cmpOk_of {d e : PyData} (h : cmpOk d e = true) : PySem.W.alike d e = true ∧ d ≠ .none ∧ min d.depth e.depth ≤ 64 := by
  unfold cmpOk at h
  simp only [Bool.and_eq_true, decide_eq_true_eq] at h
  refine ⟨h.1.1, fun z => ?_, h.2⟩
  rw [z] at h
  simp [isNoneD] at h
theorem op_ltG (hu : X.A.units + 64 < cLine) : OpR X (compareOp .Lt) (rCmpD X.K fun d e => PySem.W.dataLt d e) := by
  intro pins s σ H x y v u Q I rx ry h
  obtain ⟨d, e, hd, he, c, q⟩ := h
  obtain ⟨as, r1⟩ := Dp.reads I d x v hd rx
  obtain ⟨bs, r2⟩ := Dp.reads I e y u he ry
  obtain ⟨c1, c2, c3⟩ := cmpOk_of c
  exact PySem.W.lt_data r1 r2 c1 c2 (by omega) ⟨.bl _, H, I, rfl, q⟩
theorem op_gtG (hu : X.A.units + 64 < cLine) : OpR X (compareOp .Gt) (rCmpD X.K fun d e => PySem.W.dataLt e d) := by
  intro pins s σ H x y v u Q I rx ry h
  obtain ⟨d, e, hd, he, c, q⟩ := h
  obtain ⟨as, r1⟩ := Dp.reads I d x v hd rx
  obtain ⟨bs, r2⟩ := Dp.reads I e y u he ry
  obtain ⟨c1, c2, c3⟩ := cmpOk_of c
  exact PySem.W.gt_data r1 r2 c1 c2 (by omega) ⟨.bl _, H, I, rfl, q⟩
theorem op_leG (hu : X.A.units + 64 < cLine) : OpR X (compareOp .LtE) (rCmpD X.K fun d e => !PySem.W.dataLt e d) := by
  intro pins s σ H x y v u Q I rx ry h
  obtain ⟨d, e, hd, he, c, q⟩ := h
  obtain ⟨as, r1⟩ := Dp.reads I d x v hd rx
  obtain ⟨bs, r2⟩ := Dp.reads I e y u he ry
  obtain ⟨c1, c2, c3⟩ := cmpOk_of c
  exact PySem.W.le_data r1 r2 c1 c2 (by omega) ⟨.bl _, H, I, rfl, q⟩
theorem op_geG (hu : X.A.units + 64 < cLine) : OpR X (compareOp .GtE) (rCmpD X.K fun d e => !PySem.W.dataLt d e) := by
  intro pins s σ H x y v u Q I rx ry h
  obtain ⟨d, e, hd, he, c, q⟩ := h
  obtain ⟨as, r1⟩ := Dp.reads I d x v hd rx
  obtain ⟨bs, r2⟩ := Dp.reads I e y u he ry
  obtain ⟨c1, c2, c3⟩ := cmpOk_of c
  exact PySem.W.ge_data r1 r2 c1 c2 (by omega) ⟨.bl _, H, I, rfl, q⟩
/-- ints, or data -/
def rCmp (K : PySem.W.Frag) (p : Int → Int → Bool) (f : PyData → PyData → Bool) : R2 := fun x y H Q => (rI0 fun i j => .bl (p i j)) x y H Q ∨ rCmpD K f x y H Q
theorem ok_cmp {p : Int → Int → Bool} {f : PyData → PyData → Bool} {o : O2} (ho : ∀ x y, opf2 o x y = cmpD p f x y) : Op2Pu K (rCmp K p f) o := fun s d1 d2 d x y Q r1 r2 e q => by
  rw [ho] at e
  unfold cmpD at e
  split at e
  · cases e; rw [r1.int, r2.int]; exact .inl ⟨_, _, rfl, rfl, q _ (.bl _)⟩
  · split at e
    · rename_i c
      cases e
      exact .inr ⟨_, _, r1.dp, r2.dp, c, q _ (.bl _)⟩
    · cases e
/-! ### == and in -/
def rEqA (K : PySem.W.Frag) : R2 := fun x y H Q => rEq x y H Q ∨ rEqD K x y H Q
def rNeA (K : PySem.W.Frag) : R2 := fun x y H Q => rNe x y H Q ∨ rNeD K x y H Q
theorem op_eqA (hu : X.A.units + 64 < cLine) : OpR X (compareOp .Eq) (rEqA X.K) := op_eq.or (op_eqD hu)
theorem op_neA (hu : X.A.units + 64 < cLine) : OpR X (compareOp .NotEq) (rNeA X.K) := op_ne.or (op_neD hu)
theorem canLay_scal {d : PyData} (h : scalD d = true) (n : ∀ x, d ≠ .str x) : SeqAt.shaped d = true := by
  cases d with
  | str x => exact absurd rfl (n x)
  | none => rfl
  | bool _ => rfl
  | int _ => rfl
  | _ => cases h
theorem eqD_cases {d1 d2 : PyData} {b : Bool} (e : eqD d1 d2 = some b) : b = PyData.eqv d1 d2 ∧ ((scalD d1 = true ∧ scalD d2 = true) ∨ (SeqAt.shaped d1 = true ∧ SeqAt.shaped d2 = true)) := by
  unfold eqD at e
  split at e
  · rename_i h
    rw [Bool.and_eq_true] at h
    cases e
    exact ⟨rfl, .inl h⟩
  · split at e
    · rename_i h
      rw [Bool.and_eq_true] at h
      cases e
      exact ⟨rfl, .inr h⟩
    · cases e
theorem scal_eq {s : Sx} {d1 d2 : PyData} {x y : V} (h1 : scalD d1 = true) (h2 : scalD d2 = true) (r1 : RB K s d1 x) (r2 : RB K s d2 y) : (scal x y = true ∧ PyData.eqv d1 d2 = decide (x = y)) ∨ (SeqAt.shaped d1 = true ∧ SeqAt.shaped d2 = true) := by
  cases d1 with
  | none =>
    rw [r1.non]
    cases d2 with
    | none => rw [r2.non]; exact .inl ⟨rfl, rfl⟩
    | bool b => rw [r2.bl]; exact .inl ⟨rfl, rfl⟩
    | int b => rw [r2.int]; exact .inl ⟨rfl, rfl⟩
    | str b => rw [r2.str]; exact .inl ⟨rfl, rfl⟩
    | _ => cases h2
  | bool a =>
    rw [r1.bl]
    cases d2 with
    | none => rw [r2.non]; exact .inl ⟨rfl, rfl⟩
    | bool b => rw [r2.bl]; exact .inl ⟨rfl, by rw [dec_bl]; rfl⟩
    | int b => exact .inr ⟨rfl, rfl⟩
    | str b => rw [r2.str]; exact .inl ⟨rfl, rfl⟩
    | _ => cases h2
  | int a =>
    rw [r1.int]
    cases d2 with
    | none => rw [r2.non]; exact .inl ⟨rfl, rfl⟩
    | bool b => exact .inr ⟨rfl, rfl⟩
    | int b => rw [r2.int]; exact .inl ⟨rfl, by rw [dec_int]; rfl⟩
    | str b => rw [r2.str]; exact .inl ⟨rfl, rfl⟩
    | _ => cases h2
  | str a =>
    rw [r1.str]
    cases d2 with
    | none => rw [r2.non]; exact .inl ⟨rfl, rfl⟩
    | bool b => rw [r2.bl]; exact .inl ⟨rfl, rfl⟩
    | int b => rw [r2.int]; exact .inl ⟨rfl, rfl⟩
    | str b => rw [r2.str]; exact .inl ⟨rfl, by rw [dec_str]; rfl⟩
    | _ => cases h2
  | _ => cases h1
theorem ok_eq : Op2Pu K (rEqA K) .eq := fun s d1 d2 d x y Q r1 r2 e f => by
  replace e : (eqD d1 d2).map PyData.bool = some d := e
  rw [Option.map_eq_some_iff] at e
  obtain ⟨b, e, rfl⟩ := e
  obtain ⟨rfl, h⟩ := eqD_cases e
  have sh : SeqAt.shaped d1 = true ∧ SeqAt.shaped d2 = true → rEqA K x y s.H Q := fun h => .inr ⟨_, _, r1.dp, r2.dp, h.1, h.2, f _ (.bl _)⟩
  rcases h with ⟨h1, h2⟩ | h
  · rcases scal_eq h1 h2 r1 r2 with ⟨a, b⟩ | h
    · exact .inl ⟨a, by rw [← b]; exact f _ (.bl _)⟩
    · exact sh h
  · exact sh h
theorem ok_ne : Op2Pu K (rNeA K) .ne := fun s d1 d2 d x y Q r1 r2 e f => by
  replace e : (eqD d1 d2).map (fun b => PyData.bool !b) = some d := e
  rw [Option.map_eq_some_iff] at e
  obtain ⟨b, e, rfl⟩ := e
  obtain ⟨rfl, h⟩ := eqD_cases e
  have sh : SeqAt.shaped d1 = true ∧ SeqAt.shaped d2 = true → rNeA K x y s.H Q := fun h => .inr ⟨_, _, r1.dp, r2.dp, h.1, h.2, f _ (.bl _)⟩
  rcases h with ⟨h1, h2⟩ | h
  · rcases scal_eq h1 h2 r1 r2 with ⟨a, b⟩ | h
    · exact .inl ⟨a, by rw [← b]; exact f _ (.bl _)⟩
    · exact sh h
  · exact sh h
/-! ### items -/
theorem RFs.atI {F : Addr → Prop} {H : Hp} {ts : List PyData} {xs : List V} (r : RFs K F H ts xs) {i : Int} {d : PyData} (e : L2.atI ts i = some d) : ∃ v, L2.atI xs i = some v ∧ RF K F H d v := by
  unfold L2.atI at e ⊢
  rw [r.length] at e
  cases h : ixN xs.length i with
  | none => rw [h] at e; cases e
  | some j =>
    rw [h] at e
    exact r.get e
theorem ok_ix : Op2Pu K (rIx K) .ix := fun s d1 d2 d x y Q r1 r2 e f => by
  replace e : ixD d1 d2 = some d := e
  unfold ixD at e
  split at e
  · obtain ⟨a, xs, rfl, h1, q1⟩ := r1.lst
    rw [r2.int]
    obtain ⟨v, e1, rv⟩ := q1.atI e
    exact .inl ⟨a, xs, _, v, rfl, rfl, h1, e1, f v rv⟩
  · obtain ⟨a, xs, rfl, h1, q1⟩ := r1.tup
    rw [r2.int]
    obtain ⟨v, e1, rv⟩ := q1.atI e
    exact .inr (.inl ⟨a, xs, _, v, rfl, rfl, h1, e1, f v rv⟩)
  · unfold strAt at e
    split at e
    · rename_i hz
      rw [Option.map_eq_some_iff] at e
      obtain ⟨c, e, rfl⟩ := e
      rw [r1.str, r2.int]
      exact .inr (.inr ⟨_, _, c, rfl, rfl, hz, e, f _ (.str _)⟩)
    · cases e
  · cases e
theorem ok_min2 : Op2Pu K (fun x y H Q => ∃ i j, [x, y] = [V.int i, V.int j] ∧ Q (.int (if j < i then j else i)) H) .min2 := fun s d1 d2 d x y Q r1 r2 e f => by
  replace e : min2D d1 d2 = some d := e
  unfold min2D at e
  split at e
  · cases e; rw [r1.int, r2.int]; exact ⟨_, _, rfl, f _ (.int _)⟩
  · cases e
theorem ok_max2 : Op2Pu K (fun x y H Q => ∃ i j, [x, y] = [V.int i, V.int j] ∧ Q (.int (if j > i then j else i)) H) .max2 := fun s d1 d2 d x y Q r1 r2 e f => by
  replace e : max2D d1 d2 = some d := e
  unfold max2D at e
  split at e
  · cases e; rw [r1.int, r2.int]; exact ⟨_, _, rfl, f _ (.int _)⟩
  · cases e
end
end Cd
set_option Elab.async false
set_option linter.all false
set_option maxRecDepth 100000
set_option maxHeartbeats 4000000
namespace Cd
open PySem PySem.Spec PyProof.Rows L2
section
variable {K : PySem.W.Frag} {X : Cx}
/-! ### unary operations, by the call's rule -/
abbrev one (r : List V → Hp → VK → Prop) : V → Hp → VK → Prop := fun x H Q => r [x] H Q
theorem ok_len : Op1Ok K (one fun xs H Q => ∃ x n, xs = [x] ∧ LenV K x H n ∧ Q (.int n) H) .len := fun s d1 d x Q r e f => by
  replace e : lenD d1 = some d := e
  unfold lenD at e
  split at e
  · cases e
    obtain ⟨a, xs, rfl, h1, q1⟩ := r.lst
    exact ⟨_, _, rfl, .inl ⟨xs, h1, rfl⟩, by rw [← q1.length]; exact f.1 _ (.int _)⟩
  · cases e
    obtain ⟨a, xs, rfl, h1, q1⟩ := r.tup
    exact ⟨_, _, rfl, .inr ⟨xs, h1, rfl⟩, by rw [← q1.length]; exact f.1 _ (.int _)⟩
  · split at e
    · rename_i hz
      cases e
      rw [r.str]
      exact ⟨_, _, rfl, ⟨hz, rfl⟩, f.1 _ (.int _)⟩
    · cases e
  · cases e
def rSumT (K : PySem.W.Frag) : List V → Hp → VK → Prop := fun vs H Q => ∃ (a : Addr) (ns : List Int), vs = [V.ref a] ∧ SqT K H a (ns.map V.int) ∧ Q (.int ns.sum) H
theorem cr_sumT (hc : X.calm = true) : CallR X (.builtin "sum") (rSumT X.K) := by
  intro pins s σ H vs us Q I r h
  obtain ⟨a, ns, rfl, hs, q⟩ := h
  obtain ⟨its, rv, ht, _⟩ := I.tuple hs
  rw [Vals.ref1 r]
  have hi := rv.ints
  obtain ⟨xs, e⟩ := hi.allInts.items
  have hn : numsOf (intItems xs).toList = ns := by rw [← e]; exact hi.numsOf
  rw [nums_intItems] at hn
  rw [e] at ht
  refine PySem.W.ktm_sumG (I.ok.hd hc) (by obtain ⟨o, ho, hcl, n, hd⟩ := ht; exact ⟨o, ho, hcl, n, hd⟩) fun h' tk t' hk => ?_
  refine ⟨.int _, H, I.kept hk, ⟨_, rfl⟩, ?_⟩
  rw [preSum_eq, List.take_of_length_le (by simp), hn]
  exact q
theorem ok_sum : Op1Ok K (one fun xs H Q => rSum K xs H Q ∨ rSumT K xs H Q) .sum := fun s d1 d x Q r e f => by
  replace e : sumD d1 = some d := e
  unfold sumD at e
  split at e
  · rw [Option.map_eq_some_iff] at e
    obtain ⟨ns, e, rfl⟩ := e
    obtain ⟨a, xs, rfl, h1, q1⟩ := r.lst
    obtain ⟨rfl, _⟩ := q1.ints' e
    exact .inl ⟨a, ns, rfl, h1, f.1 _ (.int _)⟩
  · rw [Option.map_eq_some_iff] at e
    obtain ⟨ns, e, rfl⟩ := e
    obtain ⟨a, xs, rfl, h1, q1⟩ := r.tup
    obtain ⟨rfl, _⟩ := q1.ints' e
    exact .inr ⟨a, ns, rfl, h1, f.1 _ (.int _)⟩
  · cases e
/-! ### the greatest, the least -/
theorem maxOk_of {ts : List PyData} (h : maxOk ts = true) : PySem.W.AlikeAll ts ∧ PyData.depthAll ts ≤ 60 := by
  unfold maxOk at h
  simp only [Bool.and_eq_true, decide_eq_true_eq, List.all_eq_true] at h
  refine ⟨⟨fun x hx y hy => h.1.1 x hx y hy, fun x hx z => ?_⟩, h.2⟩
  have := h.1.2 x hx
  rw [z] at this
  simp [isNoneD] at this
/-- the item y of the sequence at a is the f of its data -/
def rBest (K : PySem.W.Frag) (f : PyData → List PyData → PyData) : List V → Hp → VK → Prop := fun vs H Q => ∃ (a : Addr) (xs : List V) (d : PyData) (ds : List PyData), vs = [V.ref a] ∧ (SqL K H a xs ∨ SqT K H a xs) ∧ DpAll K H xs (d :: ds) ∧ maxOk (d :: ds) = true ∧
  ∀ (i : Nat) (y : V), xs[i]? = some y → (d :: ds)[i]? = some (f d ds) → Q y H
theorem vals_get' : ∀ {xs : List V} {us : List Value} {i : Nat} {u : Value}, Vals xs us → us[i]? = some u → ∃ x, xs[i]? = some x ∧ RelV x u
  | _, _, _, _, .nil, e => by simp at e
  | _, _, 0, _, .cons r _, e => by simp at e; subst e; exact ⟨_, rfl, r⟩
  | _, _, i + 1, x, .cons _ t, e => by
    obtain ⟨u, h1, h2⟩ := vals_get' (i := i) (u := x) t (by simpa using e)
    exact ⟨u, by simpa using h1, h2⟩
theorem best_back {pins : List (Addr × Obj)} {s : Shared} {σ : L2.St} {H : Hp} {xs : List V} {its : List Value} {d m : PyData} {ds : List PyData} {Q : VK} {as bs : List Addr} {i : Nat} {v : Value} {h' : Heap} {tk : Nat}
    (I : Inv X pins σ H s) (rv : Vals xs its) (ra : ReadsAll s.heap its (d :: ds) as) (hv : its.toArray[i]? = some v) (r : Reads h' v m bs) (hk : ∀ b o, s.heap.get? b = some o → h'.get? b = some o)
    (q : ∀ (i : Nat) (y : V), xs[i]? = some y → (d :: ds)[i]? = some m → Q y H) : EP X pins σ Q v { s with heap := h', toks := tk } := by
  have hv' : its[i]? = some v := by simpa using hv
  obtain ⟨y, hy, ry⟩ := vals_get' rv hv'
  refine ⟨y, H, I.kept hk, ry, q i y hy ?_⟩
  obtain ⟨cs, r2, hl, _⟩ := PySem.W.readsAll_atA (vs := its.toArray) ra i v hv
  have e : (d :: ds).getD i .none = m := (PySem.W.reads_keeps hk r2).unique _ _ r |>.1
  rw [List.getD_eq_getElem?_getD] at e
  rw [List.getElem?_eq_getElem hl] at e ⊢
  simpa using e
theorem cr_maxG (hc : X.calm = true) (hu : X.A.units + 64 < cLine) : CallR X (.builtin "max") (rBest X.K PySem.W.maxD) := by
  intro pins s σ H vs us Q I r h
  obtain ⟨a, xs, d, ds, rfl, hs, dp, ok, q⟩ := h
  obtain ⟨al, dl⟩ := maxOk_of ok
  rw [Vals.ref1 r]
  rcases hs with hs | hs
  · obtain ⟨its, rv, hl, _⟩ := I.list hs
    obtain ⟨as, ra⟩ := Dp.readsAll I _ _ its dp rv
    exact PySem.W.max_list_data (I.ok.hd hc) hl.isList ra al (by omega) fun i v h' tk bs hv r hk => best_back I rv ra hv r hk q
  · obtain ⟨its, rv, ⟨o, ho, hcl, n, hd⟩, _⟩ := I.tuple hs
    obtain ⟨as, ra⟩ := Dp.readsAll I _ _ its dp rv
    exact PySem.W.max_tuple_data (I.ok.hd hc) ⟨o, ho, hcl, n, hd⟩ ra al (by omega) fun i v h' tk bs hv r hk => best_back I rv ra hv r hk q
theorem cr_minG (hc : X.calm = true) (hu : X.A.units + 64 < cLine) : CallR X (.builtin "min") (rBest X.K PySem.W.minD) := by
  intro pins s σ H vs us Q I r h
  obtain ⟨a, xs, d, ds, rfl, hs, dp, ok, q⟩ := h
  obtain ⟨al, dl⟩ := maxOk_of ok
  rw [Vals.ref1 r]
  rcases hs with hs | hs
  · obtain ⟨its, rv, hl, _⟩ := I.list hs
    obtain ⟨as, ra⟩ := Dp.readsAll I _ _ its dp rv
    exact PySem.W.min_list_data (I.ok.hd hc) hl.isList ra al (by omega) fun i v h' tk bs hv r hk => best_back I rv ra hv r hk q
  · obtain ⟨its, rv, ⟨o, ho, hcl, n, hd⟩, _⟩ := I.tuple hs
    obtain ⟨as, ra⟩ := Dp.readsAll I _ _ its dp rv
    exact PySem.W.min_tuple_data (I.ok.hd hc) ⟨o, ho, hcl, n, hd⟩ ra al (by omega) fun i v h' tk bs hv r hk => best_back I rv ra hv r hk q
theorem ok_best {f : PyData → List PyData → PyData} {g : List PyData → Option PyData} {o : O1} (ho : ∀ d, opf1 o d = (seqD d).bind g) (hg : ∀ x xs, g (x :: xs) = if maxOk (x :: xs) then some (f x xs) else none) (h0 : g [] = none) : Op1Ok K (one (rBest K f)) o := fun s d1 d x Q r e q => by
  rw [ho] at e
  have fin : ∀ {a : Addr} {xs : List V} {ts : List PyData}, (SqL K s.H a xs ∨ SqT K s.H a xs) → RFs K s.F s.H ts xs → g ts = some d → x = .ref a → one (rBest K f) x s.H Q := fun {a xs ts} hs q1 e ex => by
    subst ex
    cases ts with
    | nil => rw [h0] at e; cases e
    | cons y ys =>
      rw [hg] at e
      split at e
      · rename_i ok
        cases e
        refine ⟨a, xs, y, ys, rfl, hs, q1.dp, ok, fun i z hz e => ?_⟩
        obtain ⟨d', e1, rz⟩ := q1.get' hz
        rw [e] at e1
        cases e1
        exact q.1 _ rz
      · cases e
  cases d1 with
  | list ts =>
    obtain ⟨a, xs, ex, h1, q1⟩ := r.lst
    exact fin (.inl h1) q1 e ex
  | tuple ts =>
    obtain ⟨a, xs, ex, h1, q1⟩ := r.tup
    exact fin (.inr h1) q1 e ex
  | _ => cases e
theorem ok_max : Op1Ok K (one (rBest K PySem.W.maxD)) .max := ok_best (fun _ => rfl) (fun _ _ => rfl) rfl
theorem ok_min : Op1Ok K (one (rBest K PySem.W.minD)) .min := ok_best (fun _ => rfl) (fun _ _ => rfl) rfl
theorem ok_any : Op1Ok K (one (rAny K)) .any := fun s d1 d x Q r e f => by
  replace e : anyS d1 = some d := e
  unfold anyS at e
  split at e
  · rw [Option.map_eq_some_iff] at e
    obtain ⟨ns, e, rfl⟩ := e
    obtain ⟨a, xs, rfl, h1, q1⟩ := r.lst
    obtain ⟨rfl, _⟩ := q1.bools' e
    exact ⟨a, ns, rfl, h1, f.1 _ (.bl _)⟩
  · cases e
theorem ok_all : Op1Ok K (one (rAll K)) .all := fun s d1 d x Q r e f => by
  replace e : allS d1 = some d := e
  unfold allS at e
  split at e
  · rw [Option.map_eq_some_iff] at e
    obtain ⟨ns, e, rfl⟩ := e
    obtain ⟨a, xs, rfl, h1, q1⟩ := r.lst
    obtain ⟨rfl, _⟩ := q1.bools' e
    exact ⟨a, ns, rfl, h1, f.1 _ (.bl _)⟩
  · cases e
theorem ok_tuple : Op1Ok K (one fun xs H Q => ∃ p ys, xs = [.ref p] ∧ ((SqL K H p ys ∧ ∀ l, H l = none → Q (.ref l) (upd H l (.tup ys))) ∨ (SqT K H p ys ∧ Q (.ref p) H))) .tuple := fun s d1 d x Q r e f => by
  replace e : tupleS d1 = some d := e
  unfold tupleS at e
  split at e
  · cases e
    obtain ⟨a, xs, rfl, h1, q1⟩ := r.lst
    exact ⟨a, xs, rfl, .inl ⟨h1, fun p hp => f.2 p _ hp (tup_new hp q1)⟩⟩
  · cases e
    obtain ⟨a, xs, rfl, h1, q1⟩ := r.tup
    exact ⟨a, xs, rfl, .inr ⟨h1, f.1 _ (.tup h1 q1)⟩⟩
  · cases e
theorem ok_list : Op1Ok K (one fun xs H Q => ∃ p ys, xs = [.ref p] ∧ (SqL K H p ys ∨ SqT K H p ys) ∧ ∀ l, H l = none → Q (.ref l) (upd H l (.lst ys))) .list := fun s d1 d x Q r e f => by
  replace e : listS d1 = some d := e
  unfold listS at e
  split at e
  · cases e
    obtain ⟨a, xs, rfl, h1, q1⟩ := r.lst
    exact ⟨a, xs, rfl, .inl h1, fun p hp => f.2 p _ hp (lst_new hp q1)⟩
  · cases e
    obtain ⟨a, xs, rfl, h1, q1⟩ := r.tup
    exact ⟨a, xs, rfl, .inr h1, fun p hp => f.2 p _ hp (lst_new hp q1)⟩
  · cases e
theorem ok_neg : Op1Ok K (rU fun i => .int (-i)) .neg := fun s d1 d x Q r e f => by
  replace e : negS d1 = some d := e
  unfold negS at e
  split at e
  · cases e
    rw [r.int]
    exact ⟨_, rfl, f.1 _ (.int _)⟩
  · cases e
theorem none_iff {s : Sx} {d : PyData} {x : V} (r : RB K s d x) : isNoneD d = decide (x = .non) := by
  rcases r with r | ⟨ts, a, xs, rfl, rfl, h, t⟩
  · cases r <;> rfl
  · rfl
theorem ok_isNone : Op1Ok K (fun x H Q => Q (.bl (decide (x = .non))) H) .isNone := fun s d1 d x Q r e f => by
  replace e : some (PyData.bool (isNoneD d1)) = some d := e
  cases e
  show Q (.bl (decide (x = .non))) s.H
  rw [← none_iff r]
  exact f.1 _ (.bl _)
theorem ok_notNone : Op1Ok K (fun x H Q => Q (.bl (!decide (x = .non))) H) .notNone := fun s d1 d x Q r e f => by
  replace e : some (PyData.bool !(isNoneD d1)) = some d := e
  cases e
  show Q (.bl (!decide (x = .non))) s.H
  rw [← none_iff r]
  exact f.1 _ (.bl _)
/-! ### sorted -/
theorem insI_perm (x : Int) : ∀ l : List Int, (insI x l).Perm (x :: l)
  | [] => .refl _
  | y :: r => by
    unfold insI
    split
    · exact .refl _
    · exact ((insI_perm x r).cons y).trans (.swap x y r)
theorem insI_sorted (x : Int) : ∀ l : List Int, l.Pairwise (· ≤ ·) → (insI x l).Pairwise (· ≤ ·)
  | [], _ => by simp [insI]
  | y :: r, h => by
    unfold insI
    rw [List.pairwise_cons] at h
    split
    · rename_i hx
      refine List.pairwise_cons.mpr ⟨fun z hz => ?_, List.pairwise_cons.mpr h⟩
      rcases List.mem_cons.mp hz with rfl | hz
      · exact hx
      · exact Int.le_trans hx (h.1 z hz)
    · rename_i hx
      refine List.pairwise_cons.mpr ⟨fun z hz => ?_, insI_sorted x r h.2⟩
      rcases List.mem_cons.mp ((insI_perm x r).mem_iff.mp hz) with rfl | hz
      · omega
      · exact h.1 z hz
theorem sortI_perm : ∀ l : List Int, (sortI l).Perm l
  | [] => .refl _
  | x :: r => (insI_perm x (sortI r)).trans ((sortI_perm r).cons x)
theorem sortI_sorted : ∀ l : List Int, (sortI l).Pairwise (· ≤ ·)
  | [] => .nil
  | x :: r => insI_sorted x _ (sortI_sorted r)
theorem sorted_uniq {l m : List Int} (p : l.Perm m) (h1 : l.Pairwise (· ≤ ·)) (h2 : m.Pairwise (· ≤ ·)) : l = m := p.eq_of_pairwise (fun _ _ _ _ a b => Int.le_antisymm a b) h1 h2
end
end Cd
set_option Elab.async false
set_option linter.all false
set_option maxRecDepth 100000
set_option maxHeartbeats 4000000
namespace Cd
open PySem PySem.Spec PyProof.Rows L2
section
variable {Γ : Gm} {N : List Str} {sc : Sco} {e ea eb ec : Expr} {a b c : E} {o : O2} {pos p p2 : Pos}
structure NB (Γ : Gm) (sc : Sco) (x : Str) : Prop where
  g : GOk sc x
  m : x ∈ Γ.nobs
theorem GX.hu {n : Nat} {I : Inf} {W : WX} {X : Cx} (g : GX Γ n I N sc W X) : X.A.units + 64 < cLine := g.room.units
/-! ### operators -/
theorem de_add (ha : DV Γ N sc ea a) (hb : DB Γ N sc eb b) : DE Γ N sc (.BinOp ea .Add eb pos) (.op2 .add a b) := de_op2 (r := fun X => rAdd X.K) (fun _ _ _ X g ta tb h1 h2 => pe_op op_addA h1 h2) (fun _ _ _ X g => ok_add) ha hb
theorem de_addD (ha : DV Γ N sc ea a) (hb : DV Γ N sc eb b) : DE Γ N sc (.BinOp ea .Add eb pos) (.op2d .add a b) := de_op2d (r := fun X => rAdd X.K) (fun _ _ _ X g ta tb h1 h2 => pe_op op_addA h1 h2) (fun _ _ _ X g => ok_add) ha hb
theorem de_subD (ha : DV Γ N sc ea a) (hb : DV Γ N sc eb b) : DE Γ N sc (.BinOp ea .Sub eb pos) (.op2d .sub a b) := de_op2d (fun _ _ _ X g ta tb h1 h2 => pe_op op_sub h1 h2) (fun _ _ _ X g => ok_sub.ok) ha hb
theorem de_mulD (ha : DV Γ N sc ea a) (hb : DV Γ N sc eb b) : DE Γ N sc (.BinOp ea .Mult eb pos) (.op2d .mul a b) := de_op2d (fun _ _ _ X g ta tb h1 h2 => pe_op op_mul h1 h2) (fun _ _ _ X g => ok_mul.ok) ha hb
theorem de_divD (ha : DV Γ N sc ea a) (hb : DV Γ N sc eb b) : DE Γ N sc (.BinOp ea .FloorDiv eb pos) (.op2d .fdiv a b) := de_op2d (r := fun _ => rDivN) (fun _ _ _ X g ta tb h1 h2 => pe_op op_fdivN h1 h2) (fun _ _ _ X g => ok_fdiv.ok) ha hb
theorem de_modD (ha : DV Γ N sc ea a) (hb : DV Γ N sc eb b) : DE Γ N sc (.BinOp ea .Mod eb pos) (.op2d .mod a b) := de_op2d (r := fun _ => rModN) (fun _ _ _ X g ta tb h1 h2 => pe_op op_modN h1 h2) (fun _ _ _ X g => ok_mod.ok) ha hb
theorem ok_addI {K : PySem.W.Frag} : Op2Pu K rAddI .add → True := fun _ => trivial
theorem dp_sub (ha : DP Γ N sc ea a) (hb : DP Γ N sc eb b) : DP Γ N sc (.BinOp ea .Sub eb pos) (.op2d .sub a b) := dp_op2d (fun _ _ _ X g ta tb h1 h2 => pe_op op_sub h1 h2) (fun _ _ _ X g => ok_sub) ha hb
theorem dp_mul (ha : DP Γ N sc ea a) (hb : DP Γ N sc eb b) : DP Γ N sc (.BinOp ea .Mult eb pos) (.op2d .mul a b) := dp_op2d (fun _ _ _ X g ta tb h1 h2 => pe_op op_mul h1 h2) (fun _ _ _ X g => ok_mul) ha hb
theorem dp_div (ha : DP Γ N sc ea a) (hb : DP Γ N sc eb b) : DP Γ N sc (.BinOp ea .FloorDiv eb pos) (.op2d .fdiv a b) := dp_op2d (r := fun _ => rDivN) (fun _ _ _ X g ta tb h1 h2 => pe_op op_fdivN h1 h2) (fun _ _ _ X g => ok_fdiv) ha hb
theorem dp_mod (ha : DP Γ N sc ea a) (hb : DP Γ N sc eb b) : DP Γ N sc (.BinOp ea .Mod eb pos) (.op2d .mod a b) := dp_op2d (r := fun _ => rModN) (fun _ _ _ X g ta tb h1 h2 => pe_op op_modN h1 h2) (fun _ _ _ X g => ok_mod) ha hb
/-- the sum of ints alone -/
theorem ok_addP {K : PySem.W.Frag} : Op2Pu K rAddI .addI := fun s d1 d2 d x y Q r1 r2 e f => by
  replace e : addI d1 d2 = some d := e
  unfold addI at e
  split at e
  · cases e; rw [r1.int, r2.int]; exact ⟨_, _, rfl, rfl, f _ (.int _)⟩
  · cases e
theorem dp_add (ha : DP Γ N sc ea a) (hb : DP Γ N sc eb b) : DP Γ N sc (.BinOp ea .Add eb pos) (.op2d .addI a b) := dp_op2d (r := fun _ => rAddI) (fun _ _ _ X g ta tb h1 h2 => pe_op op_add h1 h2) (fun _ _ _ X g => ok_addP) ha hb
theorem de_addI (ha : DV Γ N sc ea a) (hb : DV Γ N sc eb b) : DE Γ N sc (.BinOp ea .Add eb pos) (.op2d .addI a b) := de_op2d (r := fun _ => rAddI) (fun _ _ _ X g ta tb h1 h2 => pe_op op_add h1 h2) (fun _ _ _ X g => ok_addP.ok) ha hb
theorem pe_neg_ok {X : Cx} {ta : TE} (h : PE X ea ta) : PE X (.UnaryOp .USub ea pos) (tUn (rU fun i => .int (-i)) ta) := pe_un un_neg h
theorem de_neg (ha : DB Γ N sc ea a) : DE Γ N sc (.UnaryOp .USub ea pos) (.op1 .neg a) := de_op1 (r := fun _ => rU fun i => .int (-i)) (fun _ _ _ X g ta h => pe_un un_neg h) (fun _ _ _ X g => ok_neg) ha
/-! comparisons -/
theorem de_lt (ha : DV Γ N sc ea a) (hb : DB Γ N sc eb b) : DE Γ N sc (.Compare ea [.Lt] [eb] pos) (.op2 .lt a b) := de_op2 (r := fun X => rCmp X.K (fun i j => decide (i < j)) fun d e => PySem.W.dataLt d e) (fun _ _ _ X g ta tb h1 h2 => pe_cmpR (op_lt.or (op_ltG g.hu)) h1 h2 (nomark _)) (fun _ _ _ X g => (ok_cmp fun _ _ => rfl).ok) ha hb
theorem de_le (ha : DV Γ N sc ea a) (hb : DB Γ N sc eb b) : DE Γ N sc (.Compare ea [.LtE] [eb] pos) (.op2 .le a b) := de_op2 (r := fun X => rCmp X.K (fun i j => decide (i ≤ j)) fun d e => !PySem.W.dataLt e d) (fun _ _ _ X g ta tb h1 h2 => pe_cmpR (op_le.or (op_leG g.hu)) h1 h2 (nomark _)) (fun _ _ _ X g => (ok_cmp fun _ _ => rfl).ok) ha hb
theorem de_gt (ha : DV Γ N sc ea a) (hb : DB Γ N sc eb b) : DE Γ N sc (.Compare ea [.Gt] [eb] pos) (.op2 .gt a b) := de_op2 (r := fun X => rCmp X.K (fun i j => decide (j < i)) fun d e => PySem.W.dataLt e d) (fun _ _ _ X g ta tb h1 h2 => pe_cmpR (op_gt.or (op_gtG g.hu)) h1 h2 (nomark _)) (fun _ _ _ X g => (ok_cmp fun _ _ => rfl).ok) ha hb
theorem de_ge (ha : DV Γ N sc ea a) (hb : DB Γ N sc eb b) : DE Γ N sc (.Compare ea [.GtE] [eb] pos) (.op2 .ge a b) := de_op2 (r := fun X => rCmp X.K (fun i j => decide (j ≤ i)) fun d e => !PySem.W.dataLt d e) (fun _ _ _ X g ta tb h1 h2 => pe_cmpR (op_ge.or (op_geG g.hu)) h1 h2 (nomark _)) (fun _ _ _ X g => (ok_cmp fun _ _ => rfl).ok) ha hb
theorem de_eq (ha : DV Γ N sc ea a) (hb : DB Γ N sc eb b) : DE Γ N sc (.Compare ea [.Eq] [eb] pos) (.op2 .eq a b) := de_op2 (r := fun X => rEqA X.K) (fun _ _ _ X g ta tb h1 h2 => pe_cmpR (op_eqA g.hu) h1 h2 (nomark _)) (fun _ _ _ X g => ok_eq.ok) ha hb
theorem de_ne (ha : DV Γ N sc ea a) (hb : DB Γ N sc eb b) : DE Γ N sc (.Compare ea [.NotEq] [eb] pos) (.op2 .ne a b) := de_op2 (r := fun X => rNeA X.K) (fun _ _ _ X g ta tb h1 h2 => pe_cmpR (op_neA g.hu) h1 h2 (nomark _)) (fun _ _ _ X g => ok_ne.ok) ha hb
/-- the same, the left one borrowed -/
theorem de_ltB (ha : DB Γ N sc ea a) (hb : DP Γ N sc eb b) : DE Γ N sc (.Compare ea [.Lt] [eb] pos) (.op2b .lt a b) := de_op2b (r := fun X => rCmp X.K (fun i j => decide (i < j)) fun d e => PySem.W.dataLt d e) (fun _ _ _ X g ta tb h1 h2 => pe_cmpR (op_lt.or (op_ltG g.hu)) h1 h2 (nomark _)) (fun _ _ _ X g => (ok_cmp fun _ _ => rfl).ok) ha hb
theorem de_eqB (ha : DB Γ N sc ea a) (hb : DP Γ N sc eb b) : DE Γ N sc (.Compare ea [.Eq] [eb] pos) (.op2b .eq a b) := de_op2b (r := fun X => rEqA X.K) (fun _ _ _ X g ta tb h1 h2 => pe_cmpR (op_eqA g.hu) h1 h2 (nomark _)) (fun _ _ _ X g => ok_eq.ok) ha hb
/-! items -/
theorem de_ix (ha : DV Γ N sc ea a) (hb : DB Γ N sc eb b) (hs : PlainIx eb := by exact fun _ _ => rfl) : DE Γ N sc (.Subscript ea eb pos) (.op2 .ix a b) := de_op2 (r := fun X => rIx X.K) (fun _ _ _ X g ta tb h1 h2 => pe_ix ix_seq h1 h2 hs) (fun _ _ _ X g => ok_ix.ok) ha hb
theorem de_ixB (ha : DB Γ N sc ea a) (hb : DP Γ N sc eb b) (hs : PlainIx eb := by exact fun _ _ => rfl) : DE Γ N sc (.Subscript ea eb pos) (.op2b .ix a b) := de_op2b (r := fun X => rIx X.K) (fun _ _ _ X g ta tb h1 h2 => pe_ix ix_seq h1 h2 hs) (fun _ _ _ X g => ok_ix.ok) ha hb
theorem dp_ix (ha : DP Γ N sc ea a) (hb : DP Γ N sc eb b) (hs : PlainIx eb := by exact fun _ _ => rfl) : DP Γ N sc (.Subscript ea eb pos) (.op2d .ix a b) := dp_op2d (r := fun X => rIx X.K) (fun _ _ _ X g ta tb h1 h2 => pe_ix ix_seq h1 h2 hs) (fun _ _ _ X g => ok_ix) ha hb
/-! ### built-ins of one and two arguments -/
abbrev Se1 (e : Expr) : Prop := ∀ env, starEach [e] env = (false, eval e env) :: starEach [] env
abbrev Se2 (e f : Expr) : Prop := ∀ env, starEach [e, f] env = (false, eval e env) :: starEach [f] env
theorem pe_bi1 {n : Nat} {I : Inf} {W : WX} {X : Cx} {x : Str} {id : String} {r : List V → Hp → VK → Prop} {ta : TE} (g : GX Γ n I N sc W X) (hc : CallR X (.builtin id) r) (v : NB Γ sc x) (hv : bootBuiltins x = some (.builtin id)) (h : PE X ea ta) (se : Se1 ea) :
    PE X (.Call (.Name x p) [ea] [] pos) (tUn (one r) ta) := pe_callB hc (v.g.g g) (g.nob _ v.m) hv (pa_cons h pa_nil (se _)) v.g.nm v.g.db (se _)
theorem pe_ty1 {n : Nat} {I : Inf} {W : WX} {X : Cx} {x : Str} {id : String} {r : List V → Hp → VK → Prop} {ta : TE} (g : GX Γ n I N sc W X) (hc : CallR X (.type id) r) (v : NB Γ sc x) (hv : bootBuiltins x = some (.type id)) (h : PE X ea ta) (se : Se1 ea) :
    PE X (.Call (.Name x p) [ea] [] pos) (tUn (one r) ta) := pe_callTy hc (v.g.g g) (g.nob _ v.m) hv (pa_cons h pa_nil (se _)) v.g.nm v.g.db (se _)
theorem pe_bi2 {n : Nat} {I : Inf} {W : WX} {X : Cx} {x : Str} {id : String} {r : List V → Hp → VK → Prop} {ta tb : TE} (g : GX Γ n I N sc W X) (hc : CallR X (.builtin id) r) (v : NB Γ sc x) (hv : bootBuiltins x = some (.builtin id)) (h : PE X ea ta) (h2 : PE X eb tb) (se : Se2 ea eb) (se1 : Se1 eb)
    (hpl : ∀ env, (backTo pos (starEach [eb] env)).any (·.1) = false) :
    PE X (.Call (.Name x p) [ea, eb] [] pos) (tOp (fun y z H Q => r [y, z] H Q) ta tb) := pe_callB hc (v.g.g g) (g.nob _ v.m) hv (pa_cons h (pa_cons h2 pa_nil (se1 _)) (se _)) v.g.nm v.g.db (se _) (hpl _)
theorem de_len (v : NB Γ sc "len") (ha : DB Γ N sc ea a) (se : Se1 ea := by intro _; rfl) : DE Γ N sc (.Call (.Name "len" p) [ea] [] pos) (.op1 .len a) := de_op1 (fun _ _ _ X g ta h => pe_bi1 g call_len v boot_len h se) (fun _ _ _ X g => ok_len) ha
theorem de_sum (v : NB Γ sc "sum") (ha : DB Γ N sc ea a) (se : Se1 ea := by intro _; rfl) : DE Γ N sc (.Call (.Name "sum" p) [ea] [] pos) (.op1 .sum a) := de_op1 (fun _ _ _ X g ta h => pe_bi1 g ((cr_sum g.calm).or (cr_sumT g.calm)) v (by decide +kernel) h se) (fun _ _ _ X g => ok_sum) ha
theorem de_max (v : NB Γ sc "max") (ha : DB Γ N sc ea a) (se : Se1 ea := by intro _; rfl) : DE Γ N sc (.Call (.Name "max" p) [ea] [] pos) (.op1 .max a) := de_op1 (fun _ _ _ X g ta h => pe_bi1 g (cr_maxG g.calm g.hu) v (by decide +kernel) h se) (fun _ _ _ X g => ok_max) ha
theorem de_min (v : NB Γ sc "min") (ha : DB Γ N sc ea a) (se : Se1 ea := by intro _; rfl) : DE Γ N sc (.Call (.Name "min" p) [ea] [] pos) (.op1 .min a) := de_op1 (fun _ _ _ X g ta h => pe_bi1 g (cr_minG g.calm g.hu) v (by decide +kernel) h se) (fun _ _ _ X g => ok_min) ha
theorem de_any (v : NB Γ sc "any") (ha : DB Γ N sc ea a) (se : Se1 ea := by intro _; rfl) : DE Γ N sc (.Call (.Name "any" p) [ea] [] pos) (.op1 .any a) := de_op1 (fun _ _ _ X g ta h => pe_bi1 g (cr_any g.calm) v (by decide +kernel) h se) (fun _ _ _ X g => ok_any) ha
theorem de_all (v : NB Γ sc "all") (ha : DB Γ N sc ea a) (se : Se1 ea := by intro _; rfl) : DE Γ N sc (.Call (.Name "all" p) [ea] [] pos) (.op1 .all a) := de_op1 (fun _ _ _ X g ta h => pe_bi1 g (cr_all g.calm) v (by decide +kernel) h se) (fun _ _ _ X g => ok_all) ha
theorem de_tuple (v : NB Γ sc "tuple") (ha : DB Γ N sc ea a) (se : Se1 ea := by intro _; rfl) : DE Γ N sc (.Call (.Name "tuple" p) [ea] [] pos) (.op1 .tuple a) := de_op1 (fun _ _ _ X g ta h => pe_ty1 g call_tuple_of v (by decide +kernel) h se) (fun _ _ _ X g => ok_tuple) ha
theorem de_list (v : NB Γ sc "list") (ha : DB Γ N sc ea a) (se : Se1 ea := by intro _; rfl) : DE Γ N sc (.Call (.Name "list" p) [ea] [] pos) (.op1 .list a) := de_op1 (fun _ _ _ X g ta h => pe_ty1 g call_list_of v (by decide +kernel) h se) (fun _ _ _ X g => ok_list) ha
theorem de_min2 (v : NB Γ sc "min") (ha : DV Γ N sc ea a) (hb : DB Γ N sc eb b) (se : Se2 ea eb := by intro _; rfl) (se1 : Se1 eb := by intro _; rfl) (hpl : ∀ env, (backTo pos (starEach [eb] env)).any (·.1) = false := by intro _; rfl) : DE Γ N sc (.Call (.Name "min" p) [ea, eb] [] pos) (.op2 .min2 a b) :=
  de_op2 (fun _ _ _ X g ta tb h h2 => pe_bi2 g (call_min2 g.calm) v (by decide +kernel) h h2 se se1 hpl) (fun _ _ _ X g => ok_min2.ok) ha hb
theorem de_max2 (v : NB Γ sc "max") (ha : DV Γ N sc ea a) (hb : DB Γ N sc eb b) (se : Se2 ea eb := by intro _; rfl) (se1 : Se1 eb := by intro _; rfl) (hpl : ∀ env, (backTo pos (starEach [eb] env)).any (·.1) = false := by intro _; rfl) : DE Γ N sc (.Call (.Name "max" p) [ea, eb] [] pos) (.op2 .max2 a b) :=
  de_op2 (fun _ _ _ X g ta tb h h2 => pe_bi2 g (call_max2 g.calm) v (by decide +kernel) h h2 se se1 hpl) (fun _ _ _ X g => ok_max2.ok) ha hb
theorem de_isNone {j : Nat} (ha : DB Γ N sc ea a) : DE Γ N sc (.Compare ea [.Is] [.Constant .none j p] pos) (.op1 .isNone a) := de_op1 (r := fun _ x H Q => Q (.bl (decide (x = .non))) H) (fun _ _ _ X g ta h => pe_cmp (pc_isN h) (nobehind _ (by decide) (by decide))) (fun _ _ _ X g => ok_isNone) ha
theorem de_notNone {j : Nat} (ha : DB Γ N sc ea a) : DE Γ N sc (.Compare ea [.IsNot] [.Constant .none j p] pos) (.op1 .notNone a) := de_op1 (r := fun _ x H Q => Q (.bl (!decide (x = .non))) H) (fun _ _ _ X g ta h => pe_cmp (pc_notN h) (nobehind _ (by decide) (by decide))) (fun _ _ _ X g => ok_notNone) ha
end
/-! ### tests -/
section
variable {Γ : Gm} {N : List Str} {sc : Sco} {e ea eb ec : Expr} {a b c : E} {ta tb : Te} {pos p p2 : Pos} {rest : List Expr}
theorem truth_rb {K : PySem.W.Frag} {s : Sx} {d : PyData} {x : V} {k : Bool} (r : RB K s d x) (e : truthD d = some k) : TruV K x s.H k := by
  unfold truthD at e
  split at e
  · cases e; rw [r.non]; rfl
  · cases e; rw [r.bl]; rfl
  · cases e; rw [r.int]; rfl
  · cases e
    obtain ⟨a, xs, rfl, h, q⟩ := r.lst
    exact .inl ⟨xs, h, by cases q <;> rfl⟩
  · cases e
    obtain ⟨a, xs, rfl, h, q⟩ := r.tup
    exact .inr (.inl ⟨xs, h, by cases q <;> rfl⟩)
  · split at e
    · rename_i hz
      cases e; rw [r.str]; exact ⟨hz, rfl⟩
    · cases e
  · cases e
/-- an expression as a test -/
theorem dt_val (ha : DB Γ N sc ea a) (he : ∀ env whole, isTrue ea env whole = (do let v ← whole; standAt ea.pos; holding [v] (truthy v)) := by intro _ _; rfl) : DT Γ N sc ea (.val a) := fun n I W X g =>
  (pt_truth (ha n I W X g) (he _)).imp fun σ H Q q => by
    obtain ⟨env, s, eH, hr, er, _, pr⟩ := At.bind (Rel1 := RB X.K) (ev2 := fun x env h => ofO (truthD x) h) q
    refine ⟨env, s, eH, hr, er, trivial, ?_⟩
    refine PR.mono pr fun x H1 ⟨d, env, s, e, hr, er, ⟨_, rb⟩, pr⟩ => ?_
    replace pr : PR X.K I W s σ (ofO (truthD d) s.h) _ Q := pr
    cases e1 : truthD d with
    | none => rw [e1] at pr; exact False.elim pr
    | some k =>
      rw [e1] at pr
      subst e
      exact ⟨k, truth_rb rb e1, pr s k (.refl s) rfl hr rfl⟩
/-! comparisons as tests -/
def BoolE (a : E) : Prop := ∀ cf env h v h', evalE cf env a h = .ok v h' → ∃ k, v = .p (.bool k)
theorem boolR {α : Type} {r : R α} {k : α → Hi → R Val} {v : Val} {h' : Hi} (hk : ∀ x h, k x h = .ok v h' → ∃ b, v = .p (.bool b)) (e : r.bind k = .ok v h') : ∃ b, v = .p (.bool b) := by
  cases r with
  | ok a h => exact hk a h e
  | exc e2 h => cases e
  | stuck => cases e
theorem bool_ofO {o : Option PyData} {h h' : Hi} {v : Val} (hb : ∀ d, o = some d → ∃ k, d = .bool k) (e : ofO (o.map Val.p) h = .ok v h') : ∃ b, v = .p (.bool b) := by
  cases o with
  | none => cases e
  | some d =>
    obtain ⟨k, rfl⟩ := hb d rfl
    cases e
    exact ⟨k, rfl⟩
theorem cmp_bool {p : Int → Int → Bool} {f : PyData → PyData → Bool} {x y d : PyData} (e : cmpD p f x y = some d) : ∃ k, d = .bool k := by
  unfold cmpD at e
  split at e
  · cases e; exact ⟨_, rfl⟩
  · split at e
    · cases e; exact ⟨_, rfl⟩
    · cases e
theorem eq_bool {o : Option Bool} {f : Bool → Bool} {d : PyData} (e : o.map (fun b => PyData.bool (f b)) = some d) : ∃ k, d = .bool k := by
  rw [Option.map_eq_some_iff] at e
  obtain ⟨b, _, rfl⟩ := e
  exact ⟨_, rfl⟩
theorem boolE_op1 {o : O1} (hb : ∀ x d, opf1 o x = some d → ∃ k, d = .bool k) : BoolE (.op1 o a) := fun cf env h v h' e => boolR (r := bor env h a (evalE cf env a h)) (k := fun x h1 => ofO ((opf1 o x).map Val.p) h1) (fun x h1 e => bool_ofO (hb x) e) e
theorem boolE_op2 {o : O2} (hb : ∀ x y d, opf2 o x y = some d → ∃ k, d = .bool k) : BoolE (.op2 o a b) := fun cf env h v h' e => boolR (r := (evalE cf env a h).bind unP) (k := fun x h1 => (bor env h1 b (evalE cf env b h1)).bind fun y h2 => ofO ((opf2 o x y).map Val.p) h2)
  (fun x h1 e => boolR (k := fun y h2 => ofO ((opf2 o x y).map Val.p) h2) (fun y h2 e => bool_ofO (hb x y) e) e) e
theorem boolE_op2b {o : O2} (hb : ∀ x y d, opf2 o x y = some d → ∃ k, d = .bool k) : BoolE (.op2b o a b) := fun cf env h v h' e => boolR (r := bor env h a (evalE cf env a h)) (k := fun x h1 => ((evalE cf env b h1).bind unP).bind fun y h2 => ofO ((opf2 o x y).map Val.p) h2)
  (fun x h1 e => boolR (k := fun y h2 => ofO ((opf2 o x y).map Val.p) h2) (fun y h2 e => bool_ofO (hb x y) e) e) e
theorem test_imp {n : Nat} {I : Inf} {W : WX} {X : Cx} (hb : BoolE a) (np : ∀ env h, peek env h a = none) {σ : L2.St} {H : Hp} {Q : Bool → Hp → Prop} (q : tE X.K I W (fun env h => evalT (callF Γ.fns n) env (.val a) h) (fun _ a x => x = a) σ H Q) :
    tE X.K I W (fun env h => evalE (callF Γ.fns n) env a h) (VR X.K) σ H (fun z H1 => ∃ k, z = .bl k ∧ Q k H1) := by
  obtain ⟨env, s, eH, hr, er, _, pr⟩ := q
  refine ⟨env, s, eH, hr, er, trivial, ?_⟩
  replace pr : PR X.K I W s σ ((bor env s.h a (evalE (callF Γ.fns n) env a s.h)).bind fun d h1 => ofO (truthD d) h1) (fun _ a x => x = a) Q := pr
  simp only [bor, np] at pr
  have hb' := hb (callF Γ.fns n) env s.h
  show PR X.K I W s σ (evalE (callF Γ.fns n) env a s.h) (VR X.K) _
  generalize evalE (callF Γ.fns n) env a s.h = r at pr hb' ⊢
  cases r with
  | ok v h1 =>
    obtain ⟨k, rfl⟩ := hb' v h1 rfl
    intro s' x l eh hr' rv
    exact ⟨k, RF.bl_inv rv, pr s' k l eh hr' rfl⟩
  | exc e h1 => exact pr
  | stuck => exact pr
theorem dt_op1 {o : O1} {r : Cx → V → Hp → VK → Prop} (hpt : ∀ n I W X, GX Γ n I N sc W X → ∀ t, PE X ea t → PT X e (fun σ H Q => tUn (r X) t σ H fun z H1 => ∃ k, z = .bl k ∧ Q k H1)) (ok : ∀ n I W X, GX Γ n I N sc W X → Op1Ok X.K (r X) o) (hb : ∀ x d, opf1 o x = some d → ∃ k, d = .bool k) (ha : DB Γ N sc ea a) : DT Γ N sc e (.val (.op1 o a)) := fun n I W X g =>
  (hpt n I W X g _ (ha n I W X g)).imp fun σ H Q q => op1_imp (ok n I W X g) (test_imp (boolE_op1 hb) (fun _ _ => rfl) q)
theorem dt_op2 {o : O2} {r : Cx → R2} (hpt : ∀ n I W X, GX Γ n I N sc W X → ∀ t t2, PE X ea t → PE X eb t2 → PT X e (tTest (tOp (r X) t t2))) (ok : ∀ n I W X, GX Γ n I N sc W X → Op2Ok X.K (r X) o) (hb : ∀ x y d, opf2 o x y = some d → ∃ k, d = .bool k) (ha : DV Γ N sc ea a) (hb2 : DB Γ N sc eb b) : DT Γ N sc e (.val (.op2 o a b)) := fun n I W X g =>
  (hpt n I W X g _ _ (ha n I W X g) (hb2 n I W X g)).imp fun σ H Q q => op2_imp (ok n I W X g) (test_imp (boolE_op2 hb) (fun _ _ => rfl) q)
theorem dt_op2b {o : O2} {r : Cx → R2} (hpt : ∀ n I W X, GX Γ n I N sc W X → ∀ t t2, PE X ea t → PE X eb t2 → PT X e (tTest (tOp (r X) t t2))) (ok : ∀ n I W X, GX Γ n I N sc W X → Op2Ok X.K (r X) o) (hb : ∀ x y d, opf2 o x y = some d → ∃ k, d = .bool k) (ha : DB Γ N sc ea a) (hb2 : DP Γ N sc eb b) : DT Γ N sc e (.val (.op2b o a b)) := fun n I W X g =>
  (hpt n I W X g _ _ (ha n I W X g) (hb2.run n I W X g)).imp fun σ H Q q => op2b_imp (ok n I W X g) hb2.pure (test_imp (boolE_op2b hb) (fun _ _ => rfl) q)
theorem dt_lt (ha : DV Γ N sc ea a) (hb : DB Γ N sc eb b) : DT Γ N sc (.Compare ea [.Lt] [eb] pos) (.val (.op2 .lt a b)) := dt_op2 (r := fun X => rCmp X.K (fun i j => decide (i < j)) fun d e => PySem.W.dataLt d e) (fun _ _ _ X g ta tb h1 h2 => pt_cmpR (op_lt.or (op_ltG g.hu)) h1 h2 (nomark _)) (fun _ _ _ X g => (ok_cmp fun _ _ => rfl).ok) (fun _ _ _ e => cmp_bool e) ha hb
theorem dt_le (ha : DV Γ N sc ea a) (hb : DB Γ N sc eb b) : DT Γ N sc (.Compare ea [.LtE] [eb] pos) (.val (.op2 .le a b)) := dt_op2 (r := fun X => rCmp X.K (fun i j => decide (i ≤ j)) fun d e => !PySem.W.dataLt e d) (fun _ _ _ X g ta tb h1 h2 => pt_cmpR (op_le.or (op_leG g.hu)) h1 h2 (nomark _)) (fun _ _ _ X g => (ok_cmp fun _ _ => rfl).ok) (fun _ _ _ e => cmp_bool e) ha hb
theorem dt_gt (ha : DV Γ N sc ea a) (hb : DB Γ N sc eb b) : DT Γ N sc (.Compare ea [.Gt] [eb] pos) (.val (.op2 .gt a b)) := dt_op2 (r := fun X => rCmp X.K (fun i j => decide (j < i)) fun d e => PySem.W.dataLt e d) (fun _ _ _ X g ta tb h1 h2 => pt_cmpR (op_gt.or (op_gtG g.hu)) h1 h2 (nomark _)) (fun _ _ _ X g => (ok_cmp fun _ _ => rfl).ok) (fun _ _ _ e => cmp_bool e) ha hb
theorem dt_ge (ha : DV Γ N sc ea a) (hb : DB Γ N sc eb b) : DT Γ N sc (.Compare ea [.GtE] [eb] pos) (.val (.op2 .ge a b)) := dt_op2 (r := fun X => rCmp X.K (fun i j => decide (j ≤ i)) fun d e => !PySem.W.dataLt d e) (fun _ _ _ X g ta tb h1 h2 => pt_cmpR (op_ge.or (op_geG g.hu)) h1 h2 (nomark _)) (fun _ _ _ X g => (ok_cmp fun _ _ => rfl).ok) (fun _ _ _ e => cmp_bool e) ha hb
theorem dt_eq (ha : DV Γ N sc ea a) (hb : DB Γ N sc eb b) : DT Γ N sc (.Compare ea [.Eq] [eb] pos) (.val (.op2 .eq a b)) := dt_op2 (r := fun X => rEqA X.K) (fun _ _ _ X g ta tb h1 h2 => pt_cmpR (op_eqA g.hu) h1 h2 (nomark _)) (fun _ _ _ X g => ok_eq.ok) (fun _ _ _ e => eq_bool (f := id) e) ha hb
theorem dt_ne (ha : DV Γ N sc ea a) (hb : DB Γ N sc eb b) : DT Γ N sc (.Compare ea [.NotEq] [eb] pos) (.val (.op2 .ne a b)) := dt_op2 (r := fun X => rNeA X.K) (fun _ _ _ X g ta tb h1 h2 => pt_cmpR (op_neA g.hu) h1 h2 (nomark _)) (fun _ _ _ X g => ok_ne.ok) (fun _ _ _ e => eq_bool (f := not) e) ha hb
theorem dt_eqB (ha : DB Γ N sc ea a) (hb : DP Γ N sc eb b) : DT Γ N sc (.Compare ea [.Eq] [eb] pos) (.val (.op2b .eq a b)) := dt_op2b (r := fun X => rEqA X.K) (fun _ _ _ X g ta tb h1 h2 => pt_cmpR (op_eqA g.hu) h1 h2 (nomark _)) (fun _ _ _ X g => ok_eq.ok) (fun _ _ _ e => eq_bool (f := id) e) ha hb
theorem dt_isNone {j : Nat} (ha : DB Γ N sc ea a) : DT Γ N sc (.Compare ea [.Is] [.Constant .none j p] pos) (.val (.op1 .isNone a)) := dt_op1 (r := fun _ x H Q => Q (.bl (decide (x = .non))) H) (fun _ _ _ X g ta h => pt_cmp (pc_isN h) (nobehind _ (by decide) (by decide))) (fun _ _ _ X g => ok_isNone) (fun x d e => by cases e; exact ⟨_, rfl⟩) ha
theorem dt_notNone {j : Nat} (ha : DB Γ N sc ea a) : DT Γ N sc (.Compare ea [.IsNot] [.Constant .none j p] pos) (.val (.op1 .notNone a)) := dt_op1 (r := fun _ x H Q => Q (.bl (!decide (x = .non))) H) (fun _ _ _ X g ta h => pt_cmp (pc_notN h) (nobehind _ (by decide) (by decide))) (fun _ _ _ X g => ok_notNone) (fun x d e => by cases e; exact ⟨_, rfl⟩) ha
theorem dt_not (ha : DT Γ N sc ea ta) : DT Γ N sc (.UnaryOp .Not ea pos) (.not_ ta) := fun n I W X g =>
  (pt_not (ha n I W X g)).imp fun σ H Q q => by
    obtain ⟨env, s, eH, hr, er, _, pr⟩ := At.bind (Rel1 := fun _ a x => x = a) (ev2 := fun x env h => R.ok (!x) h) q
    refine ⟨env, s, eH, hr, er, trivial, ?_⟩
    refine PR.mono pr fun x H1 ⟨d, env, s, e, hr, er, ⟨_, rb⟩, pr⟩ => ?_
    subst e rb
    exact pr s _ (.refl s) rfl hr rfl
/-- and, or: what stands between -/
def DW (Γ : Gm) (N : List Str) (sc : Sco) (e : Expr) (a : Te) : Prop :=
  ∀ n I W X, GX Γ n I N sc W X → PW X e (tE X.K I W (fun env h => evalT (callF Γ.fns n) env a h) (fun _ a x => x = a))
theorem DW.t (h : DW Γ N sc ea ta) : DT Γ N sc ea ta := fun n I W X g => (h n I W X g).pt
theorem _root_.L2.PW.imp {X : Cx} {e : Expr} {t t' : TT} (h : PW X e t) (i : ∀ σ H Q, t' σ H Q → t σ H Q) : PW X e t' := ⟨fun w pins s σ H Q I q => h.run w pins s σ H Q I (i σ H Q q)⟩
theorem dw_and1 (ha : DT Γ N sc ea ta) : DW Γ N sc (.BoolOp .And [ea] pos) ta := fun n I W X g => pw_and1 (ha n I W X g)
theorem dw_or1 (ha : DT Γ N sc ea ta) : DW Γ N sc (.BoolOp .Or [ea] pos) ta := fun n I W X g => pw_or1 (ha n I W X g)
theorem dw_and (ha : DT Γ N sc ea ta) (hb : DW Γ N sc (.BoolOp .And (eb :: rest) pos) tb) : DW Γ N sc (.BoolOp .And (ea :: eb :: rest) pos) (.and_ ta tb) := fun n I W X g =>
  (pw_and (ha n I W X g) (hb n I W X g)).imp fun σ H Q q => by
    obtain ⟨env, s, eH, hr, er, _, pr⟩ := At.bind (Rel1 := fun _ a x => x = a) (ev2 := fun k env h1 => ifK (fun h2 => evalT (callF Γ.fns n) env tb h2) (fun h2 => .ok false h2) k h1) q
    refine ⟨env, s, eH, hr, er, trivial, ?_⟩
    refine PR.mono pr fun x H1 ⟨d, env, s, e, hr, er, ⟨_, rb⟩, pr⟩ => ?_
    subst rb
    cases x with
    | true => exact ⟨env, s, e, hr, er, trivial, pr⟩
    | false => subst e; exact pr s _ (.refl s) rfl hr rfl
theorem dw_or (ha : DT Γ N sc ea ta) (hb : DW Γ N sc (.BoolOp .Or (eb :: rest) pos) tb) : DW Γ N sc (.BoolOp .Or (ea :: eb :: rest) pos) (.or_ ta tb) := fun n I W X g =>
  (pw_or (ha n I W X g) (hb n I W X g)).imp fun σ H Q q => by
    obtain ⟨env, s, eH, hr, er, _, pr⟩ := At.bind (Rel1 := fun _ a x => x = a) (ev2 := fun k env h1 => ifK (fun h2 => .ok true h2) (fun h2 => evalT (callF Γ.fns n) env tb h2) k h1) q
    refine ⟨env, s, eH, hr, er, trivial, ?_⟩
    refine PR.mono pr fun x H1 ⟨d, env, s, e, hr, er, ⟨_, rb⟩, pr⟩ => ?_
    subst rb
    cases x with
    | true => subst e; exact pr s _ (.refl s) rfl hr rfl
    | false => exact ⟨env, s, e, hr, er, trivial, pr⟩
/-- the same as values -/
theorem de_not (ha : DE Γ N sc ea a) : DE Γ N sc (.UnaryOp .Not ea pos) (.not_ a) := fun n I W X g =>
  (pe_not (ha n I W X g)).imp fun σ H Q q => by
    obtain ⟨env, s, eH, hr, er, _, pr⟩ := At.bind (Rel1 := VR X.K) (ev2 := fun v env h1 => notK v h1) q
    refine ⟨env, s, eH, hr, er, trivial, ?_⟩
    refine PR.mono pr fun x H1 ⟨v, env, s, e, hr, er, ⟨_, rb⟩, pr⟩ => ?_
    subst e
    cases v with
    | ref m => exact False.elim pr
    | p d =>
      cases d with
      | bool k =>
        obtain rfl : x = .bl k := RF.bl_inv rb
        exact ⟨k, rfl, pr s _ (.refl s) rfl hr (.bl _)⟩
      | _ => exact False.elim pr
theorem de_one {op : BoolOp} (ha : DE Γ N sc ea a) : DE Γ N sc (.BoolOp op [ea] pos) a := fun n I W X g => pe_one (ha n I W X g)
theorem de_and (ha : DE Γ N sc ea a) (hb : DE Γ N sc (.BoolOp .And (eb :: rest) pos) b) : DE Γ N sc (.BoolOp .And (ea :: eb :: rest) pos) (.and_ a b) := fun n I W X g =>
  (pe_and (ha n I W X g) (hb n I W X g)).imp fun σ H Q q => by
    obtain ⟨env, s, eH, hr, er, _, pr⟩ := At.bind (Rel1 := VR X.K) (ev2 := fun v env h1 => andK (fun h2 => evalE (callF Γ.fns n) env b h2) v h1) q
    refine ⟨env, s, eH, hr, er, trivial, ?_⟩
    refine PR.mono pr fun x H1 ⟨v, env, s, e, hr, er, ⟨_, rb⟩, pr⟩ => ?_
    cases v with
    | ref m => exact False.elim pr
    | p d =>
      cases d with
      | bool k =>
        obtain rfl : x = .bl k := RF.bl_inv rb
        refine ⟨k, rfl, ?_⟩
        cases k with
        | true => exact ⟨env, s, e, hr, er, trivial, pr⟩
        | false => subst e; exact pr s _ (.refl s) rfl hr (.bl _)
      | _ => exact False.elim pr
theorem de_or (ha : DE Γ N sc ea a) (hb : DE Γ N sc (.BoolOp .Or (eb :: rest) pos) b) : DE Γ N sc (.BoolOp .Or (ea :: eb :: rest) pos) (.or_ a b) := fun n I W X g =>
  (pe_or (ha n I W X g) (hb n I W X g)).imp fun σ H Q q => by
    obtain ⟨env, s, eH, hr, er, _, pr⟩ := At.bind (Rel1 := VR X.K) (ev2 := fun v env h1 => orK (fun h2 => evalE (callF Γ.fns n) env b h2) v h1) q
    refine ⟨env, s, eH, hr, er, trivial, ?_⟩
    refine PR.mono pr fun x H1 ⟨v, env, s, e, hr, er, ⟨_, rb⟩, pr⟩ => ?_
    cases v with
    | ref m => exact False.elim pr
    | p d =>
      cases d with
      | bool k =>
        obtain rfl : x = .bl k := RF.bl_inv rb
        refine ⟨k, rfl, ?_⟩
        cases k with
        | true => subst e; exact pr s _ (.refl s) rfl hr (.bl _)
        | false => exact ⟨env, s, e, hr, er, trivial, pr⟩
      | _ => exact False.elim pr
theorem de_ite (hc : DT Γ N sc ec ta) (ha : DE Γ N sc ea a) (hb : DE Γ N sc eb b) : DE Γ N sc (.IfExp ec ea eb pos) (.ite ta a b) := fun n I W X g =>
  (pe_ifExp (hc n I W X g) (ha n I W X g) (hb n I W X g)).imp fun σ H Q q => by
    obtain ⟨env, s, eH, hr, er, _, pr⟩ := At.bind (Rel1 := fun _ a x => x = a) (ev2 := fun (k : Bool) env h1 => ifK (fun h2 => evalE (callF Γ.fns n) env a h2) (fun h2 => evalE (callF Γ.fns n) env b h2) k h1) q
    refine ⟨env, s, eH, hr, er, trivial, ?_⟩
    refine PR.mono pr fun x H1 ⟨d, env, s, e, hr, er, ⟨_, rb⟩, pr⟩ => ?_
    subst rb
    cases x with
    | true => exact ⟨env, s, e, hr, er, trivial, pr⟩
    | false => exact ⟨env, s, e, hr, er, trivial, pr⟩
/-! ### displays -/
def DPs (Γ : Gm) (N : List Str) (sc : Sco) (es : List Expr) (as : List E) : Prop :=
  ∀ n I W X, GX Γ n I N sc W X → PA X es (tE X.K I W (fun env h => evalPs (callF Γ.fns n) env as h) (fun s ds vs => RFs X.K s.F s.H ds vs ∧ ds.length = as.length))
def DAs (Γ : Gm) (N : List Str) (sc : Sco) (es : List Expr) (as : List E) : Prop :=
  ∀ n I W X, GX Γ n I N sc W X → PA X es (tE X.K I W (fun env h => evalEs (callF Γ.fns n) env as h) (fun s ds vs => Paired (VR X.K s) ds vs ∧ ds.length = as.length))
abbrev Sec (e : Expr) (es : List Expr) : Prop := ∀ env, starEach (e :: es) env = (false, eval e env) :: starEach es env
variable {es : List Expr} {as : List E}
theorem dps_nil : DPs Γ N sc [] [] := fun n I W X g => pa_nil.imp fun σ H Q ⟨env, s, eH, hr, er, _, pr⟩ => by
  subst eH
  exact pr s [] (.refl s) rfl hr ⟨.nil, rfl⟩
theorem dps_cons (ha : DV Γ N sc ea a) (hs : DPs Γ N sc es as) (se : Sec ea es := by intro _; rfl) : DPs Γ N sc (ea :: es) (a :: as) := fun n I W X g =>
  (pa_cons (ha n I W X g) (hs n I W X g) (se _)).imp fun σ H Q q => by
    obtain ⟨env, s, eH, hr, er, _, pr⟩ := At.bind (Rel1 := PRl X.K) (ev2 := fun v env h1 => (evalPs (callF Γ.fns n) env as h1).bind fun vs h2 => .ok (v :: vs) h2) q
    refine ⟨env, s, eH, hr, er, trivial, ?_⟩
    refine PR.mono pr fun x H1 ⟨d, q⟩ => ?_
    obtain ⟨env, s, eH, hr, er, _, pr⟩ := At.bind (Rel1 := fun s ds vs => RFs X.K s.F s.H ds vs ∧ ds.length = as.length) (G' := fun s => PRl X.K s d x) (ev2 := fun vs env h2 => R.ok (d :: vs) h2) q (fun s s' l g => g.2.le l)
    refine ⟨env, s, eH, hr, er, trivial, ?_⟩
    refine PR.mono pr fun ys H2 ⟨ds, env, s, e, hr, er, ⟨r1, r2⟩, pr⟩ => ?_
    subst e
    exact pr s _ (.refl s) rfl hr ⟨.cons r1 r2.1, by simp [r2.2]⟩
theorem das_nil : DAs Γ N sc [] [] := fun n I W X g => pa_nil.imp fun σ H Q ⟨env, s, eH, hr, er, _, pr⟩ => by
  subst eH
  exact pr s [] (.refl s) rfl hr ⟨.nil, rfl⟩
theorem paired_le {K : PySem.W.Frag} {s s' : Sx} (l : Le s s') : ∀ {ds : List Val} {vs : List V}, Paired (VR K s) ds vs → Paired (VR K s') ds vs
  | _, _, .nil => .nil
  | _, _, .cons r t => .cons (r.le l) (paired_le l t)
theorem das_cons (ha : DE Γ N sc ea a) (hs : DAs Γ N sc es as) (se : Sec ea es := by intro _; rfl) : DAs Γ N sc (ea :: es) (a :: as) := fun n I W X g =>
  (pa_cons (ha n I W X g) (hs n I W X g) (se _)).imp fun σ H Q q => by
    obtain ⟨env, s, eH, hr, er, _, pr⟩ := At.bind (Rel1 := VR X.K) (ev2 := fun v env h1 => (evalEs (callF Γ.fns n) env as h1).bind fun vs h2 => .ok (v :: vs) h2) q
    refine ⟨env, s, eH, hr, er, trivial, ?_⟩
    refine PR.mono pr fun x H1 ⟨d, q⟩ => ?_
    obtain ⟨env, s, eH, hr, er, _, pr⟩ := At.bind (Rel1 := fun s ds vs => Paired (VR X.K s) ds vs ∧ ds.length = as.length) (G' := fun s => VR X.K s d x) (ev2 := fun vs env h2 => R.ok (d :: vs) h2) q (fun s s' l g => g.2.le l)
    refine ⟨env, s, eH, hr, er, trivial, ?_⟩
    refine PR.mono pr fun ys H2 ⟨ds, env, s, e, hr, er, ⟨r1, r2⟩, pr⟩ => ?_
    subst e
    exact pr s _ (.refl s) rfl hr ⟨.cons r1 r2.1, by simp [r2.2]⟩
theorem de_tup {k : Nat} (hs : DPs Γ N sc es as) (hz : as.length ≤ sizeLine := by decide) : DE Γ N sc (.Tuple es k pos) (.tup as) := fun n I W X g =>
  (pe_tup (hs n I W X g)).imp fun σ H Q q => by
    obtain ⟨env, s, eH, hr, er, _, pr⟩ := At.bind (Rel1 := fun s ds vs => RFs X.K s.F s.H ds vs ∧ ds.length = as.length) (ev2 := fun ds env h1 => R.ok (Val.p (.tuple ds)) h1) q
    refine ⟨env, s, eH, hr, er, trivial, ?_⟩
    refine PR.mono pr fun xs H1 ⟨ds, env, s, e, hr, er, ⟨_, rb, rl⟩, pr⟩ => ?_
    subst e
    exact ⟨by rw [← rb.length, rl]; exact hz, fun p hp => PR.new (o := some (.p (.tuple ds))) pr hr rfl hp (tup_new hp rb)⟩
end
end Cd
set_option Elab.async false
set_option linter.all false
set_option maxRecDepth 100000
set_option maxHeartbeats 4000000
namespace Cd
open PySem PySem.Spec PyProof.Rows L2
theorem ofO_unP {h : Hi} : ∀ o : Option PyData, (Cd.ofO (o.map Val.p) h).bind unP = Cd.ofO o h
  | none => rfl
  | some _ => rfl
theorem catD_inv {d e z : PyData} (h : catD d e = some z) : ∃ xs ys, d = .list xs ∧ e = .list ys ∧ xs.length + ys.length ≤ sizeLine ∧ z = .list (xs ++ ys) := by
  unfold catD at h
  split at h
  · split at h
    · cases h; exact ⟨_, _, rfl, rfl, by assumption, rfl⟩
    · cases h
  · cases h
/-- a new list, that nothing else knows -/
def RN (K : PySem.W.Frag) (s : Sx) (d : PyData) (x : V) : Prop := ∃ ts a xs, d = .list ts ∧ x = .ref a ∧ s.H a = some (.lst xs) ∧ RFs K s.F s.H ts xs ∧ ¬ s.F a ∧ NotLive s a ∧ ¬ s.B a
def DN (Γ : Gm) (N : List Str) (sc : Sco) (e : Expr) (a : E) : Prop :=
  ∀ n I W X, GX Γ n I N sc W X → PE X e (tE X.K I W (fun env h => (evalE (callF Γ.fns n) env a h).bind unP) (RN X.K))
/-- frozen -/
def Sx.fz (s : Sx) (a : Addr) : Sx := { s with F := fun b => s.F b ∨ b = a }
theorem fz_keep {s : Sx} {a : Addr} : KeepF s.F s.H (s.fz a).F (s.fz a).H := ⟨fun _ f => .inl f, fun b o f h => h, fun _ _ h => h, fun _ _ _ h => h⟩
theorem fz_le {s : Sx} {a : Addr} : Le s (s.fz a) := ⟨Nat.le_refl _, fun _ _ => rfl, fz_keep, fun _ h => ⟨h, rfl⟩⟩
theorem HR.fz {K : PySem.W.Frag} {CI : CInf} {s : Sx} (h : HR K CI s) {a : Addr} (ha : ∃ o, s.H a = some o) (nl : NotLive s a) (nb : ¬ s.B a) : HR K CI (s.fz a) where
  ob := fun n u e => (h.ob n u e).move fz_keep e fun j l => ⟨rfl, fun w e => e⟩
  inj := h.inj
  nf := fun n j l f => f.elim (h.nf n j l) (nl n j l)
  bt := fun b hb => let ⟨h1, h2, h3⟩ := h.bt b hb; ⟨h1, fun f => f.elim h2 fun z => nb (z ▸ hb), h3⟩
  ft := fun b hb => hb.elim (h.ft b) fun z => z ▸ ha
section
variable {Γ : Gm} {N : List Str} {sc : Sco} {e ea eb ec : Expr} {a b c : E} {o : O2} {pos p p2 : Pos} {es : List Expr} {as : List E}
theorem HR.fresh {K : PySem.W.Frag} {CI : CInf} {s : Sx} (hr : HR K CI s) {l : Addr} (hp : s.H l = none) : ¬ s.F l ∧ NotLive s l ∧ ¬ s.B l := by
  refine ⟨fun f => ?_, hr.notLive hp, fun hb => ?_⟩
  · obtain ⟨u, e⟩ := hr.ft l f
    rw [hp] at e; cases e
  · obtain ⟨_, _, u, e⟩ := hr.bt l hb
    rw [hp] at e; cases e
theorem RN.new {K : PySem.W.Frag} {CI : CInf} {s : Sx} {l : Addr} {ts : List PyData} {xs : List V} (hr : HR K CI s) (hp : s.H l = none) (r : RFs K s.F s.H ts xs) : RN K (s.put l (.lst xs) false) (.list ts) (.ref l) := by
  refine ⟨ts, l, xs, rfl, rfl, upd_same, r.keep (KeepF.put hp), fun f => ?_, (hr.fresh hp).2.1, (hr.fresh hp).2.2⟩
  rcases f with f | ⟨f, _⟩
  · exact (hr.fresh hp).1 f
  · cases f
/-- a new list is data like any other, once it is frozen -/
theorem DN.v (h : DN Γ N sc e a) : DV Γ N sc e a := fun n I W X g => (h n I W X g).imp fun σ H Q q => by
  obtain ⟨env, s, eH, hr, er, _, pr⟩ := q
  refine ⟨env, s, eH, hr, er, trivial, ?_⟩
  replace pr : PR X.K I W s σ ((evalE (callF Γ.fns n) env a s.h).bind unP) (PRl X.K) Q := pr
  show PR X.K I W s σ ((evalE (callF Γ.fns n) env a s.h).bind unP) (RN X.K) Q
  generalize (evalE (callF Γ.fns n) env a s.h).bind unP = r at pr ⊢
  cases r with
  | ok d h1 =>
    rintro s' x l eh hr' ⟨ts, p, xs, rfl, rfl, hp, q, nf, nl, nb⟩
    exact pr (s'.fz p) _ (l.trans fz_le) eh (hr'.fz ⟨_, hp⟩ nl nb) (.lst (.inl ⟨.inr rfl, Rd.of hp⟩) (q.keep fz_keep))
  | exc e h1 => exact pr
  | stuck => exact pr
theorem DV.toE (h : DV Γ N sc e a) (nr : ∀ cf env h, (∃ d h', evalE cf env a h = .ok (.p d) h') ∨ (∀ v h', evalE cf env a h ≠ .ok v h')) : DE Γ N sc e a := fun n I W X g => (h n I W X g).imp fun σ H Q q => by
  obtain ⟨env, s, eH, hr, er, _, pr⟩ := q
  refine ⟨env, s, eH, hr, er, trivial, ?_⟩
  replace pr : PR X.K I W s σ (evalE (callF Γ.fns n) env a s.h) (VR X.K) Q := pr
  show PR X.K I W s σ ((evalE (callF Γ.fns n) env a s.h).bind unP) (PRl X.K) Q
  rcases nr (callF Γ.fns n) env s.h with ⟨d, h', e⟩ | ne
  · rw [e] at pr ⊢
    exact fun s' x l eh hr' rel => pr s' x l eh hr' rel
  · generalize evalE (callF Γ.fns n) env a s.h = r at pr ne ⊢
    cases r with
    | ok v h1 => exact absurd rfl (ne v h1)
    | exc e h1 => exact pr
    | stuck => exact pr
theorem PR.ofO {K : PySem.W.Frag} {I : Inf} {W : WX} {s : Sx} {σ : L2.St} {d : PyData} {x : V} {Rel : Sx → PyData → V → Prop} {Q : V → Hp → Prop} (pr : PR K I W s σ (R.ok d s.h) Rel Q) (hr : HR K I.ci s) {s' : Sx} (l : Le s s') (hr' : HR K I.ci s') (eh : s'.h = s.h) (r : Rel s' d x) : Q x s'.H := pr s' x l eh hr' r
theorem dn_lst (hs : DPs Γ N sc es as) (hz : as.length ≤ sizeLine := by decide) : DN Γ N sc (.List es pos) (.lst as) := fun n I W X g =>
  (pe_lst (hs n I W X g)).imp fun σ H Q q => by
    have q' : tE X.K I W (fun env h => (evalPs (callF Γ.fns n) env as h).bind fun ds h1 => R.ok (PyData.list ds) h1) (RN X.K) σ H Q := by
      obtain ⟨env, s, eH, hr, er, _, pr⟩ := q
      refine ⟨env, s, eH, hr, er, trivial, ?_⟩
      replace pr : PR X.K I W s σ (((evalPs (callF Γ.fns n) env as s.h).bind fun ds h1 => .ok (Val.p (.list ds)) h1).bind unP) (RN X.K) Q := pr
      show PR X.K I W s σ ((evalPs (callF Γ.fns n) env as s.h).bind fun ds h1 => R.ok (PyData.list ds) h1) (RN X.K) Q
      generalize evalPs (callF Γ.fns n) env as s.h = r at pr ⊢
      cases r with
      | ok ds h1 => exact pr
      | exc e h1 => exact pr
      | stuck => exact pr
    obtain ⟨env, s, eH, hr, er, _, pr⟩ := At.bind (Rel1 := fun s ds vs => RFs X.K s.F s.H ds vs ∧ ds.length = as.length) (ev2 := fun ds env h1 => R.ok (PyData.list ds) h1) q'
    refine ⟨env, s, eH, hr, er, trivial, ?_⟩
    refine PR.mono pr fun xs H1 ⟨ds, env, s, e, hr, er, ⟨_, rb, rl⟩, pr⟩ => ?_
    subst e
    exact ⟨by rw [← rb.length, rl]; exact hz, fun p hp => pr (s.put p (.lst xs) false) _ (hr.put_le hp) rfl (hr.put hp) (RN.new hr hp rb)⟩
/-- an operation that makes a list: new each time -/
def Op1N (K : PySem.W.Frag) (r : V → Hp → VK → Prop) (o : O1) : Prop := ∀ (s : Sx) d1 d x (Q : VK), RB K s d1 x → opf1 o d1 = some d → (∀ p xs ts, d = .list ts → RFs K s.F s.H ts xs → s.H p = none → Q (.ref p) (upd s.H p (.lst xs))) → r x s.H Q
theorem dn_op1 {o : O1} {r : Cx → V → Hp → VK → Prop} (hpe : ∀ n I W X, GX Γ n I N sc W X → ∀ ta, PE X ea ta → PE X e (tUn (r X) ta)) (ok : ∀ n I W X, GX Γ n I N sc W X → Op1N X.K (r X) o) (ha : DB Γ N sc ea a) : DN Γ N sc e (.op1 o a) := fun n I W X g =>
  (hpe n I W X g _ (ha n I W X g)).imp fun σ H Q q => by
    have q' : tE X.K I W (fun env h => (bor env h a (evalE (callF Γ.fns n) env a h)).bind fun x h1 => Cd.ofO (opf1 o x) h1) (RN X.K) σ H Q := by
      obtain ⟨env, s, eH, hr, er, _, pr⟩ := q
      refine ⟨env, s, eH, hr, er, trivial, ?_⟩
      replace pr : PR X.K I W s σ (((bor env s.h a (evalE (callF Γ.fns n) env a s.h)).bind fun x h1 => Cd.ofO ((opf1 o x).map .p) h1).bind unP) (RN X.K) Q := pr
      show PR X.K I W s σ ((bor env s.h a (evalE (callF Γ.fns n) env a s.h)).bind fun x h1 => Cd.ofO (opf1 o x) h1) (RN X.K) Q
      generalize bor env s.h a (evalE (callF Γ.fns n) env a s.h) = r at pr ⊢
      cases r with
      | ok d h1 =>
        simp only [R.bind_ok] at pr ⊢
        rw [ofO_unP] at pr
        exact pr
      | exc e h1 => exact pr
      | stuck => exact pr
    obtain ⟨env, s, eH, hr, er, _, pr⟩ := At.bind (Rel1 := RB X.K) (ev2 := fun x env h => Cd.ofO (opf1 o x) h) q'
    refine ⟨env, s, eH, hr, er, trivial, ?_⟩
    refine PR.mono pr fun x H1 ⟨d, env, s, e, hr, er, ⟨_, rb⟩, pr⟩ => ?_
    subst e
    replace pr : PR X.K I W s σ (Cd.ofO (opf1 o d) s.h) (RN X.K) Q := pr
    cases e1 : opf1 o d with
    | none => rw [e1] at pr; exact False.elim pr
    | some d' =>
      rw [e1] at pr
      refine ok n I W X g s d d' x Q rb e1 fun p xs ts ed rf hp => ?_
      subst ed
      exact pr (s.put p (.lst xs) false) _ (hr.put_le hp) rfl (hr.put hp) (RN.new hr hp rf)
theorem okn_list {K : PySem.W.Frag} : Op1N K (one fun xs H Q => ∃ p ys, xs = [.ref p] ∧ (SqL K H p ys ∨ SqT K H p ys) ∧ ∀ l, H l = none → Q (.ref l) (upd H l (.lst ys))) .list := fun s d1 d x Q r e f => by
  replace e : listS d1 = some d := e
  unfold listS at e
  split at e
  · cases e
    obtain ⟨a, xs, rfl, h1, q1⟩ := r.lst
    exact ⟨a, xs, rfl, .inl h1, fun p hp => f p _ _ rfl q1 hp⟩
  · cases e
    obtain ⟨a, xs, rfl, h1, q1⟩ := r.tup
    exact ⟨a, xs, rfl, .inr h1, fun p hp => f p _ _ rfl q1 hp⟩
  · cases e
theorem dn_list (v : NB Γ sc "list") (ha : DB Γ N sc ea a) (se : Se1 ea := by intro _; rfl) : DN Γ N sc (.Call (.Name "list" p) [ea] [] pos) (.op1 .list a) := dn_op1 (fun _ _ _ X g ta h => pe_ty1 g call_list_of v (by decide +kernel) h se) (fun _ _ _ X g => okn_list) ha
/-- [..] * k, k looked up -/
theorem dn_rep (ha : DN Γ N sc ea a) (hb : DP Γ N sc eb b) (np : ∀ env h, peek env h a = none := by intros; rfl) : DN Γ N sc (.BinOp ea .Mult eb pos) (.op2b .rep a b) := fun n I W X g =>
  (pe_op op_rep (ha n I W X g) (hb.run n I W X g)).imp fun σ H Q q => by
    have q' : tE X.K I W (fun env h => ((evalE (callF Γ.fns n) env a h).bind unP).bind fun x h1 => ((evalE (callF Γ.fns n) env b h1).bind unP).bind fun y h2 => Cd.ofO (repD x y) h2) (RN X.K) σ H Q := by
      obtain ⟨env, s, eH, hr, er, _, pr⟩ := q
      refine ⟨env, s, eH, hr, er, trivial, ?_⟩
      replace pr : PR X.K I W s σ (((bor env s.h a (evalE (callF Γ.fns n) env a s.h)).bind fun x h1 => ((evalE (callF Γ.fns n) env b h1).bind unP).bind fun y h2 => Cd.ofO ((repD x y).map .p) h2).bind unP) (RN X.K) Q := pr
      show PR X.K I W s σ (((evalE (callF Γ.fns n) env a s.h).bind unP).bind fun x h1 => ((evalE (callF Γ.fns n) env b h1).bind unP).bind fun y h2 => Cd.ofO (repD x y) h2) (RN X.K) Q
      simp only [bor, np] at pr
      generalize (evalE (callF Γ.fns n) env a s.h).bind unP = r at pr ⊢
      cases r with
      | ok d h1 =>
        simp only [R.bind_ok] at pr ⊢
        generalize (evalE (callF Γ.fns n) env b h1).bind unP = r at pr ⊢
        cases r with
        | ok d2 h2 =>
          simp only [R.bind_ok] at pr ⊢
          rw [ofO_unP] at pr
          exact pr
        | exc e h1 => exact pr
        | stuck => exact pr
      | exc e h1 => exact pr
      | stuck => exact pr
    obtain ⟨env, s, eH, hr, er, _, pr⟩ := At.bind (Rel1 := RN X.K) (ev2 := fun x env h1 => ((evalE (callF Γ.fns n) env b h1).bind unP).bind fun y h2 => Cd.ofO (repD x y) h2) q'
    refine ⟨env, s, eH, hr, er, trivial, ?_⟩
    refine PR.mono pr fun x H1 ⟨d, env, s, eH, hr, er, ⟨_, rb⟩, pr⟩ => ?_
    refine ⟨env, s, eH, hr, er, ?_⟩
    replace pr : PR X.K I W s σ (((evalE (callF Γ.fns n) env b s.h).bind unP).bind fun y h2 => Cd.ofO (repD d y) h2) (RN X.K) Q := pr
    show (match evalE (callF Γ.fns n) env b s.h with
    | .ok (.p d2) h' => h' = s.h ∧ ∀ y, RF X.K s.F s.H d2 y → rRep x y H1 Q
    | _ => False)
    rcases hb.pure (callF Γ.fns n) env s.h with ⟨v, e⟩ | e
    · rw [e] at pr ⊢
      cases v with
      | p d2 =>
        refine ⟨rfl, fun y ry => ?_⟩
        simp only [R.bind_ok, unP] at pr
        obtain ⟨ts, l, xs, rfl, rfl, hl, q, nf, nl, nb⟩ := rb
        cases d2 with
        | int k =>
          obtain rfl : y = .int k := ry.int_inv
          simp only [repD] at pr
          split at pr
          · rename_i hz
            simp only [Bool.and_eq_true, decide_eq_true_eq] at hz
            rw [← eH]
            exact ⟨l, k, xs, rfl, rfl, hl, by omega, by omega, by rw [← q.length]; exact hz.2, fun p hp => pr (s.put p (.lst _) false) _ (hr.put_le hp) rfl (hr.put hp) (RN.new hr hp (q.rep _))⟩
          · exact False.elim pr
        | _ => exact False.elim pr
      | ref m => exact False.elim pr
    · rw [e] at pr
      exact False.elim pr
/-- xs + ys of lists: new -/
theorem dn_cat (ha : DV Γ N sc ea a) (hb : DB Γ N sc eb b) : DN Γ N sc (.BinOp ea .Add eb pos) (.op2 .cat a b) := fun n I W X g =>
  (pe_op op_catR (ha n I W X g) (hb n I W X g)).imp fun σ H Q q => by
    have q' : tE X.K I W (fun env h => ((evalE (callF Γ.fns n) env a h).bind unP).bind fun x h1 => (bor env h1 b (evalE (callF Γ.fns n) env b h1)).bind fun y h2 => Cd.ofO (catD x y) h2) (RN X.K) σ H Q := by
      obtain ⟨env, s, eH, hr, er, _, pr⟩ := q
      refine ⟨env, s, eH, hr, er, trivial, ?_⟩
      replace pr : PR X.K I W s σ ((((evalE (callF Γ.fns n) env a s.h).bind unP).bind fun x h1 => (bor env h1 b (evalE (callF Γ.fns n) env b h1)).bind fun y h2 => Cd.ofO ((catD x y).map .p) h2).bind unP) (RN X.K) Q := pr
      show PR X.K I W s σ (((evalE (callF Γ.fns n) env a s.h).bind unP).bind fun x h1 => (bor env h1 b (evalE (callF Γ.fns n) env b h1)).bind fun y h2 => Cd.ofO (catD x y) h2) (RN X.K) Q
      generalize (evalE (callF Γ.fns n) env a s.h).bind unP = r at pr ⊢
      cases r with
      | ok d h1 =>
        simp only [R.bind_ok] at pr ⊢
        generalize bor env h1 b (evalE (callF Γ.fns n) env b h1) = r at pr ⊢
        cases r with
        | ok d2 h2 =>
          simp only [R.bind_ok] at pr ⊢
          rw [ofO_unP] at pr
          exact pr
        | exc e h1 => exact pr
        | stuck => exact pr
      | exc e h1 => exact pr
      | stuck => exact pr
    obtain ⟨env, s, eH, hr, er, _, pr⟩ := At.bind (Rel1 := PRl X.K) (ev2 := fun x env h1 => (bor env h1 b (evalE (callF Γ.fns n) env b h1)).bind fun y h2 => Cd.ofO (catD x y) h2) q'
    refine ⟨env, s, eH, hr, er, trivial, ?_⟩
    refine PR.mono pr fun x H1 ⟨d, q⟩ => ?_
    obtain ⟨env, s, eH, hr, er, _, pr⟩ := At.bind (Rel1 := RB X.K) (G' := fun s => PRl X.K s d x) (ev2 := fun y env h2 => Cd.ofO (catD d y) h2) q (fun s s' l g => g.2.le l)
    refine ⟨env, s, eH, hr, er, trivial, ?_⟩
    refine PR.mono pr fun y H2 ⟨d2, env, s, e, hr, er, ⟨r1, r2⟩, pr2⟩ => ?_
    subst e
    replace pr2 : PR X.K I W s σ (Cd.ofO (catD d d2) s.h) (RN X.K) Q := pr2
    cases ez : catD d d2 with
    | none => rw [ez] at pr2; exact False.elim pr2
    | some z =>
      rw [ez] at pr2
      obtain ⟨ts, us, rfl, rfl, hz, rfl⟩ := catD_inv ez
      obtain ⟨a, xs, rfl, h1, q1⟩ := RF.lst_inv r1
      obtain ⟨b, ys, rfl, h2, q2⟩ := r2.lst
      exact ⟨a, b, xs, ys, rfl, rfl, h1.sq, h2, by rw [← q1.length, ← q2.length]; exact hz, fun p hp => pr2 (s.put p (.lst _) false) _ (hr.put_le hp) rfl (hr.put hp) (RN.new hr hp (q1.append q2))⟩
end
end Cd
set_option Elab.async false
set_option linter.all false
set_option maxRecDepth 100000
set_option maxHeartbeats 4000000
namespace Cd
open PySem PySem.Spec PyProof.Rows L2
/-! ### fields -/
theorem lookup_nd {κ β : Type} [BEq κ] [LawfulBEq κ] : ∀ {l : List (κ × β)} {j : Nat} {x : κ} {v : β}, (l.map (·.1)).Nodup → l[j]? = some (x, v) → l.lookup x = some v
  | [], _, _, _, _, e => by simp at e
  | (y, w) :: r, 0, x, v, nd, e => by
    simp at e
    obtain ⟨rfl, rfl⟩ := e
    simp
  | (y, w) :: r, j + 1, x, v, nd, e => by
    have e' : r[j]? = some (x, v) := by simpa using e
    have nd' : y ∉ r.map (·.1) ∧ (r.map (·.1)).Nodup := by simpa using nd
    have hm : x ∈ r.map (·.1) := List.mem_map.mpr ⟨_, List.mem_of_getElem? e', rfl⟩
    have ne : (x == y) = false := by
      rw [beq_eq_false_iff_ne]
      rintro rfl
      exact nd'.1 hm
    rw [List.lookup_cons, ne]
    exact lookup_nd nd'.2 e'
theorem nd_take {α : Type} {l : List α} (h : l.Nodup) (n : Nat) : (l.take n).Nodup := h.sublist (List.take_sublist n l)
section
variable {Γ : Gm} {N : List Str} {sc : Sco} {e ea eb ec : Expr} {a b c : E} {o : O2} {pos p p2 : Pos} {es : List Expr} {as : List E} {i j : Nat} {x f : Str} {cl : Nat} {names : List Str}
theorem insOf_of {env : Ev} {h : Hi} {i : Nat} {q : Nat × Nat × List Fld} (e : insOf env h i = some q) : slot env i = some (.ref q.1) ∧ h[q.1]? = some (.ins q.2.1 q.2.2) := by
  unfold insOf at e
  rw [Option.bind_eq_some_iff] at e
  obtain ⟨n, e1, e2⟩ := e
  rw [Option.map_eq_some_iff] at e2
  obtain ⟨p, e2, rfl⟩ := e2
  exact ⟨slotRef_of e1, insAt_of e2⟩
theorem lstOf_of {env : Ev} {h : Hi} {i : Nat} {q : Nat × List PyData} (e : lstOf env h i = some q) : slot env i = some (.ref q.1) ∧ h[q.1]? = some (.lst q.2) := by
  unfold lstOf at e
  rw [Option.bind_eq_some_iff] at e
  obtain ⟨n, e1, e2⟩ := e
  rw [Option.map_eq_some_iff] at e2
  obtain ⟨p, e2, rfl⟩ := e2
  exact ⟨slotRef_of e1, listAt_of e2⟩
theorem dctOf_of {env : Ev} {h : Hi} {i : Nat} {q : Nat × List (Key × Fld)} (e : dctOf env h i = some q) : slot env i = some (.ref q.1) ∧ h[q.1]? = some (.dct q.2) := by
  unfold dctOf at e
  rw [Option.bind_eq_some_iff] at e
  obtain ⟨n, e1, e2⟩ := e
  rw [Option.map_eq_some_iff] at e2
  obtain ⟨p, e2, rfl⟩ := e2
  exact ⟨slotRef_of e1, dctAt_of e2⟩
/-- the only class with fields -/
structure FOk (Γ : Gm) (cl : Nat) (names : List Str) (j : Nat) (f : Str) : Prop where
  fl : Γ.flds = [(cl, names)]
  at_ : names[j]? = some f
abbrev Ab (x : Str) (p : Pos) (f : Str) : Prop := ∀ env, attributeBase (.Name x p) f env (eval (.Name x p) env) = eval (.Name x p) env
/-- what a field's name tells -/
theorem fld_at {n : Nat} {I : Inf} {W : WX} {X : Cx} {s : Sx} {env : Ev} {σ : L2.St} (g : GX Γ n I N sc W X) (hr : HR X.K I.ci s) (er : ER X.K s env σ) (hf : FOk Γ cl names j f) {q : Nat × Nat × List Fld} (e : insOf env s.h i = some q) {u : Fld} (eu : q.2.2[j]? = some u) :
    ∃ C dx es v, σ[i]? = some (some (.ref (s.φ q.1 0))) ∧ s.H (s.φ q.1 0) = some (.ins C dx es) ∧ Cls X.K C ∧ NoAttr X.K C f ∧ es.lookup f = some v ∧ FlR X.K s q.1 j u v := by
  obtain ⟨e1, e2⟩ := insOf_of e
  obtain ⟨y, h1, _, rfl⟩ := er.at_ i _ e1
  obtain ⟨C, nms, dx, es, ci, h3, h4, h5, h6⟩ := hr.ob _ _ e2
  have hm := g.ci _ _ _ ci
  obtain ⟨C', ci', k, nd, _, na⟩ := g.fl (cl, names) (by rw [hf.fl]; exact List.mem_singleton.mpr rfl)
  rw [hf.fl] at hm
  have hm' := List.mem_singleton.mp hm
  obtain ⟨hc, hn⟩ := Prod.mk.inj hm'
  rw [hc] at ci
  subst hn
  rw [ci] at ci'
  cases ci'
  obtain ⟨y, v, e3, e4, r⟩ := h6 j u eu
  rw [hf.at_] at e3
  cases e3
  refine ⟨C, dx, es, v, h1, h3, k, na _ (List.mem_of_getElem? hf.at_), lookup_nd (by rw [h4]; exact nd_take nd _) e4, r⟩
theorem de_fld (v : VOk N sc i x) (hf : FOk Γ cl names j f) (hb : Ab x p f := by intro _; rfl) : DE Γ N sc (.Attribute (.Name x p) f pos) (.fld i j) := fun n I W X g => (pe_fld (v.pe g) (hb _)).imp fun σ H Q q => by
  obtain ⟨env, s, eH, hr, er, _, pr⟩ := q
  replace pr : PR X.K I W s σ (ofO ((insOf env s.h i).bind fun p => fldK p.2.2[j]?) s.h) (VR X.K) Q := pr
  cases e : insOf env s.h i with
  | none => rw [e] at pr; exact False.elim pr
  | some q =>
    rw [e, Option.bind_some] at pr
    cases eu : q.2.2[j]? with
    | none => rw [eu] at pr; exact False.elim pr
    | some u =>
      rw [eu] at pr
      obtain ⟨C, dx, es, y, h1, h2, h3, h4, h5, h6⟩ := fld_at g hr er hf e eu
      refine ⟨_, h1, _, C, dx, es, y, rfl, by rw [← eH]; exact h2, h3, h4, h5, ?_⟩
      cases u with
      | p d => rw [← eH]; exact pr s y (.refl s) rfl hr h6
      | l ts => exact False.elim pr
theorem dp_fld (v : VOk N sc i x) (hf : FOk Γ cl names j f) (hb : Ab x p f := by intro _; rfl) : DP Γ N sc (.Attribute (.Name x p) f pos) (.fld i j) where
  run := fun n I W X g => (pe_fld (v.pe g) (hb _)).imp fun σ H Q q => by
    obtain ⟨env, s, eH, hr, er, pr⟩ := q
    replace pr : (match ofO ((insOf env s.h i).bind fun p => fldK p.2.2[j]?) s.h with
      | .ok (.p d) h' => h' = s.h ∧ ∀ x, RF X.K s.F s.H d x → Q x H
      | _ => False) := pr
    cases e : insOf env s.h i with
    | none => rw [e] at pr; exact False.elim pr
    | some q =>
      rw [e, Option.bind_some] at pr
      cases eu : q.2.2[j]? with
      | none => rw [eu] at pr; exact False.elim pr
      | some u =>
        rw [eu] at pr
        obtain ⟨C, dx, es, y, h1, h2, h3, h4, h5, h6⟩ := fld_at g hr er hf e eu
        refine ⟨_, h1, _, C, dx, es, y, rfl, by rw [← eH]; exact h2, h3, h4, h5, ?_⟩
        cases u with
        | p d => exact pr.2 y h6
        | l ts => exact False.elim pr
  pure := fun cf env h => by
    show (∃ v, ofO ((insOf env h i).bind fun p => fldK p.2.2[j]?) h = .ok v h) ∨ ofO ((insOf env h i).bind fun p => fldK p.2.2[j]?) h = .stuck
    cases (insOf env h i).bind fun p => fldK p.2.2[j]? with
    | none => exact .inr rfl
    | some v => exact .inl ⟨v, rfl⟩
theorem db_fld (v : VOk N sc i x) (hf : FOk Γ cl names j f) (hb : Ab x p f := by intro _; rfl) : DB Γ N sc (.Attribute (.Name x p) f pos) (.fld i j) := fun n I W X g => (pe_fld (v.pe g) (hb _)).imp fun σ H Q q => by
  obtain ⟨env, s, eH, hr, er, _, pr⟩ := q
  replace pr : PR X.K I W s σ (bor env s.h (.fld i j) (ofO ((insOf env s.h i).bind fun p => fldK p.2.2[j]?) s.h)) (RB X.K) Q := pr
  cases e : insOf env s.h i with
  | none =>
    simp only [bor, peek, e, Option.bind_none, ofO_none, R.bind_stuck] at pr
    exact False.elim pr
  | some q =>
    cases eu : q.2.2[j]? with
    | none =>
      simp only [bor, peek, e, Option.bind_some, eu, fldK, ofO_none, R.bind_stuck] at pr
      exact False.elim pr
    | some u =>
      obtain ⟨C, dx, es, y, h1, h2, h3, h4, h5, h6⟩ := fld_at g hr er hf e eu
      refine ⟨_, h1, _, C, dx, es, y, rfl, by rw [← eH]; exact h2, h3, h4, h5, ?_⟩
      rw [← eH]
      cases u with
      | p d =>
        simp only [bor, peek, e, Option.bind_some, eu, fldK, ofO_some, R.bind_ok, unP] at pr
        exact pr s y (.refl s) rfl hr (.inl h6)
      | l ts =>
        simp only [bor, peek, e, Option.bind_some, eu] at pr
        obtain ⟨rfl, xs, e2, r2⟩ := h6
        exact pr s _ (.refl s) rfl hr (.inr ⟨ts, _, xs, rfl, rfl, Rd.of e2, r2⟩)
/-! ### targets -/
def tgSlots : Tg → List Nat
  | .name i => [i]
  | .tup ts => tgSlotsL ts
where tgSlotsL : List Tg → List Nat
  | [] => []
  | t :: ts => tgSlots t ++ tgSlotsL ts
def tG (K : PySem.W.Frag) (CI : CInf) (t : Tg) : TG := fun v σ H Q => ∃ env s d env1, s.H = H ∧ HR K CI s ∧ ER K s env σ ∧ RF K s.F s.H d v ∧ bindT t d env = some env1 ∧
  ∀ σ1, ER K s env1 σ1 → (σ1.length = σ.length ∧ ∀ k, k ∉ tgSlots t → σ1[k]? = σ[k]?) → Q σ1 H
def tGs (K : PySem.W.Frag) (CI : CInf) (ts : List Tg) : TGs := fun vs σ H Q => ∃ env s ds env1, s.H = H ∧ HR K CI s ∧ ER K s env σ ∧ RFs K s.F s.H ds vs ∧ bindTs ts ds env = some env1 ∧
  ∀ σ1, ER K s env1 σ1 → (σ1.length = σ.length ∧ ∀ k, k ∉ tgSlots.tgSlotsL ts → σ1[k]? = σ[k]?) → Q σ1 H
def DG (Γ : Gm) (N : List Str) (sc : Sco) (e : Expr) (t : Tg) : Prop := ∀ n I W X, GX Γ n I N sc W X → PG X e (tG X.K I.ci t)
def DGs (Γ : Gm) (N : List Str) (sc : Sco) (e : List Expr) (t : List Tg) : Prop := ∀ n I W X, GX Γ n I N sc W X → PGs X e (tGs X.K I.ci t)
theorem _root_.L2.PG.imp {X : Cx} {e : Expr} {t t' : TG} (h : PG X e t) (i : ∀ v σ H Q, t' v σ H Q → t v σ H Q) : PG X e t' := ⟨fun pins s σ H v u Q I r q => h.run pins s σ H v u Q I r (i v σ H Q q)⟩
theorem _root_.L2.PGs.imp {X : Cx} {e : List Expr} {t t' : TGs} (h : PGs X e t) (i : ∀ v σ H Q, t' v σ H Q → t v σ H Q) : PGs X e t' := ⟨fun pins s σ H v u Q I r q => h.run pins s σ H v u Q I r (i v σ H Q q)⟩
/-- a name that may be stored -/
structure TOk (N : List Str) (sc : Sco) (i : Nat) (x : Str) : Prop where
  hN : N[i]? = some x
  loc : Loc sc.s x
  fn : sc.fn x = true ∨ sc.s.names.lookup x = some .local
theorem dg_name (v : TOk N sc i x) : DG Γ N sc (.Name x pos) (.name i) := fun n I W X g =>
  (pg_name (i := i) (by rw [g.hN]; exact g.nd) (by rw [g.hN]; exact v.hN) (by rw [g.sc]; exact v.loc) (by rw [g.fnc, g.sc]; exact v.fn)).imp fun y σ H Q ⟨env, s, d, env1, eH, hr, er, r, e, q⟩ => by
    cases e
    refine q _ (er.set (v := .p d) r) ⟨by simp, fun k hk => ?_⟩
    rw [List.getElem?_set_ne]
    rintro rfl
    exact hk (by simp [tgSlots])
theorem dgs_nil : DGs Γ N sc [] [] := fun n I W X g => pgs_nil.imp fun y σ H Q ⟨env, s, ds, env1, eH, hr, er, r, e, q⟩ => by
  cases r with
  | nil =>
    cases e
    exact ⟨rfl, q _ er ⟨rfl, fun _ _ => rfl⟩⟩
  | cons _ _ => cases e
theorem dgs_cons {t : Tg} {ts : List Tg} (ha : DG Γ N sc ea t) (hs : DGs Γ N sc es ts) (hq : ∀ env, (assignEach (ea :: es) env).map (·.2) = assign ea env :: (assignEach es env).map (·.2) := by intro _; rfl) : DGs Γ N sc (ea :: es) (t :: ts) := fun n I W X g =>
  (pgs_cons (ha n I W X g) (hs n I W X g) (hq _)).imp fun y σ H Q ⟨env, s, ds, env1, eH, hr, er, r, e, q⟩ => by
    cases r with
    | nil => cases e
    | @cons d v0 ds vs0 r1 r2 =>
      have e' : (bindT t d env).bind (bindTs ts ds) = some env1 := e
      rw [Option.bind_eq_some_iff] at e'
      obtain ⟨env2, e1, e2⟩ := e'
      refine ⟨_, _, rfl, env, s, d, env2, eH, hr, er, r1, e1, fun σ1 er1 k1 => ?_⟩
      refine ⟨env2, s, ds, env1, eH, hr, er1, r2, e2, fun σ2 er2 k2 => q σ2 er2 ⟨k2.1.trans k1.1, fun k hk => ?_⟩⟩
      have hk' : k ∉ tgSlots t ∧ k ∉ tgSlots.tgSlotsL ts := by
        unfold tgSlots.tgSlotsL at hk
        simpa using hk
      rw [k2.2 k hk'.2, k1.2 k hk'.1]
theorem bindTs_len : ∀ {ts : List Tg} {ds : List PyData} {env env1 : Ev}, bindTs ts ds env = some env1 → ds.length = ts.length
  | [], [], _, _, _ => rfl
  | [], _ :: _, _, _, e => by cases e
  | _ :: _, [], _, _, e => by cases e
  | t :: ts, d :: ds, env, env1, e => by
    have e' : (bindT t d env).bind (bindTs ts ds) = some env1 := e
    rw [Option.bind_eq_some_iff] at e'
    obtain ⟨env2, e1, e2⟩ := e'
    simp [bindTs_len e2]
theorem dg_tup {k m : Nat} {ts : List Tg} (hs : DGs Γ N sc es ts) (hm : ts.length = m := by rfl) (hn : ∀ env, (assignEach es env).length = m := by intro _; rfl) (hst : ∀ env, (assignEach es env).findIdx? (·.1) = none := by intro _; rfl) : DG Γ N sc (.Tuple es k pos) (.tup ts) := fun n I W X g =>
  (pg_tup (n := m) g.calm (hs n I W X g) (hn _) (hst _)).imp fun y σ H Q ⟨env, s, d, env1, eH, hr, er, r, e, q⟩ => by
    cases d with
    | tuple ds =>
      obtain ⟨p, xs, rfl, h1, q1⟩ := r.tup_inv
      have e' : bindTs ts ds env = some env1 := e
      refine ⟨p, xs, rfl, by rw [← eH]; exact h1, ?_, env, s, ds, env1, eH, hr, er, q1, e', q⟩
      rw [← q1.length, bindTs_len e', hm]
    | _ => cases e
end
end Cd
set_option Elab.async false
set_option linter.all false
set_option maxRecDepth 100000
set_option maxHeartbeats 4000000
namespace Cd
open PySem PySem.Spec PyProof.Rows L2
/-! ### what is walked: a list, a tuple, a text -/
def charsV (x : Str) : List V := x.cps.toList.map fun c => .str ⟨#[c]⟩
/-- v stands for the things xs, wherever C holds -/
structure SeqV (K : PySem.W.Frag) (v : Value) (xs : List V) (C : Hp → Prop) (own : List Addr) (T : Addr → Nat → Heap → Prop) : Prop where
  beg : ∀ (X : Cx) (pins : List (Addr × Obj)) (σ : L2.St) (H : Hp) (s : Shared), X.K = K → Inv X pins σ H s → C H → ∃ (o : Obj) (Pre : Heap → Prop), Begins v o Pre ∧ Pre s.heap ∧ (∀ h it, h.get? it = some o → T it 0 h) ∧ ∀ b ∈ own, b < s.heap.objs.size
  drw : ∀ (X : Cx) (pins : List (Addr × Obj)) (σ : L2.St) (H : Hp) (s : Shared) (A : Around) (it : Addr), X.K = K → Inv X pins σ H s → C H → A.handled = none → it ∉ own →
    ∃ (Pre : Heap → Prop) (Pn : Nat → Value → Prop), Pre s.heap ∧ Draws X.prog X.w A it (it :: own) xs.length Pn (fun i h => T it i h ∧ Pre h) ∧ ∀ i u, Pn i u → ∃ y, xs[i]? = some y ∧ RelV y u
  at_ : ∀ it i h h', T it i h → (∀ o, h.get? it = some o → h'.get? it = some o) → T it i h'
  ob : ∀ it i h, T it i h → ∃ o, h.get? it = some o ∧ ∀ v, o.data ≠ .cell v
theorem seq_list {K : PySem.W.Frag} (a : Addr) (xs : List V) : SeqV K (.ref a) xs (fun H => SqL K H a xs) [a] (fun it i h => h.IsListIter it a i) where
  beg := fun X pins σ H s eK I c => by
    subst eK
    obtain ⟨its, rv, p, _⟩ := I.list c
    exact ⟨_, _, begins_list a its.toArray, p.isList, fun h it e => ⟨_, e, rfl, rfl⟩, fun b hb => by rw [List.mem_singleton.mp hb]; exact p.lt⟩
  drw := fun X pins σ H s A it eK I c hh ne => by
    subst eK
    obtain ⟨its, rv, p, _⟩ := I.list c
    have D := Draws.list (prog := X.prog) (w := X.w) hh it a (fun e => ne (by simp [e])) its.toArray
    rw [List.size_toArray, ← rv.length] at D
    exact ⟨_, _, p.isList, D, fun i u e => vals_get' rv (by simpa using e)⟩
  at_ := fun it i h h' t k => t.at k
  ob := fun it i h ⟨o, e, _, d⟩ => ⟨o, e, fun v q => by rw [d] at q; cases q⟩
theorem seq_tup {K : PySem.W.Frag} (a : Addr) (xs : List V) : SeqV K (.ref a) xs (fun H => SqT K H a xs) [a] (fun it i h => h.IsTupleIter it a i) where
  beg := fun X pins σ H s eK I c => by
    subst eK
    obtain ⟨its, rv, p, _⟩ := I.tuple c
    exact ⟨_, _, begins_tuple a its.toArray, p, fun h it e => ⟨_, e, rfl, rfl⟩, fun b hb => by rw [List.mem_singleton.mp hb]; exact p.lt⟩
  drw := fun X pins σ H s A it eK I c hh ne => by
    subst eK
    obtain ⟨its, rv, p, _⟩ := I.tuple c
    have D := Draws.tuple (prog := X.prog) (w := X.w) hh it a (fun e => ne (by simp [e])) its.toArray
    rw [List.size_toArray, ← rv.length] at D
    exact ⟨_, _, p, D, fun i u e => vals_get' rv (by simpa using e)⟩
  at_ := fun it i h h' t k => t.at k
  ob := fun it i h ⟨o, e, _, d⟩ => ⟨o, e, fun v q => by rw [d] at q; cases q⟩
theorem seq_str {K : PySem.W.Frag} (x : Str) (t : Tok) : SeqV K (.str x t) (charsV x) (fun _ => True) [] (fun it i h => h.IsStrIter it (strIterType x) x t i) where
  beg := fun X pins σ H s eK I c => ⟨_, _, begins_text x t, trivial, fun h it e => ⟨_, e, rfl, rfl⟩, fun b hb => nomatch hb⟩
  drw := fun X pins σ H s A it eK I c hh ne => by
    have D := Draws.text (prog := X.prog) (w := X.w) hh it x t
    have e : x.cps.size = (charsV x).length := by simp [charsV]
    rw [e] at D
    refine ⟨fun _ => True, _, trivial, ⟨fun i h st => D.live i h st.1, fun i h h' st k => ⟨D.frame i h h' st.1 k, trivial⟩, fun i s Q E hi st hQ => D.item i s Q E hi st.1 fun x h' tk hP st' sb => hQ x h' tk hP ⟨st', trivial⟩ sb, fun s Q E st hE => D.done s Q E st.1 hE⟩, fun i u ⟨c, u', e1, e2⟩ => ?_⟩
    subst e2
    refine ⟨.str ⟨#[c]⟩, ?_, _, rfl⟩
    unfold charsV
    rw [List.getElem?_map, Array.getElem?_toList, e1]
    rfl
  at_ := fun it i h h' ⟨o, e, r⟩ k => ⟨o, k o e, r⟩
  ob := fun it i h ⟨o, e, _, d⟩ => ⟨o, e, fun v q => by rw [d] at q; cases q⟩
/-- the kinds of sequences -/
inductive Kd where
  | l (a : Addr)
  | t (a : Addr)
  | s (y : Str)
/-- x is a sequence of xs, of the kind k -/
def SqK (K : PySem.W.Frag) (k : Kd) (x : V) (xs : List V) (H : Hp) : Prop := match k with
  | .l a => x = .ref a ∧ SqL K H a xs
  | .t a => x = .ref a ∧ SqT K H a xs
  | .s y => x = .str y ∧ xs = charsV y
theorem seq_of {K : PySem.W.Frag} {k : Kd} {H : Hp} {x : V} {xs : List V} {v : Value} (h : SqK K k x xs H) (r : RelV x v) : ∃ (own : List Addr) (T : Addr → Nat → Heap → Prop), SeqV K v xs (SqK K k x xs) own T := by
  cases k with
  | l a =>
    obtain ⟨rfl, h⟩ := h
    obtain rfl : v = .ref a := r
    have S := seq_list (K := K) a xs
    exact ⟨_, _, ⟨fun X p σ H s e I c => S.beg X p σ H s e I c.2, fun X p σ H s A it e I c => S.drw X p σ H s A it e I c.2, S.at_, S.ob⟩⟩
  | t a =>
    obtain ⟨rfl, h⟩ := h
    obtain rfl : v = .ref a := r
    have S := seq_tup (K := K) a xs
    exact ⟨_, _, ⟨fun X p σ H s e I c => S.beg X p σ H s e I c.2, fun X p σ H s A it e I c => S.drw X p σ H s A it e I c.2, S.at_, S.ob⟩⟩
  | s y =>
    obtain ⟨rfl, rfl⟩ := h
    obtain ⟨t, rfl⟩ := r
    have S := seq_str (K := K) y t
    exact ⟨_, _, ⟨fun X p σ H s e I c => S.beg X p σ H s e I trivial, fun X p σ H s A it e I c => S.drw X p σ H s A it e I trivial, S.at_, S.ob⟩⟩
/-! ### zip of two such -/
def ItZ (C1 C2 : Hp → Prop) (xs ys : List V) : It :=
  ⟨fun i H => C1 H ∧ C2 H ∧ i < min xs.length ys.length,
    fun i H v H' => ∃ T x y, v = .ref T ∧ H T = none ∧ H' = upd H T (.tup [x, y]) ∧ xs[i]? = some x ∧ ys[i]? = some y,
    fun i H => C1 H ∧ C2 H ∧ i = min xs.length ys.length⟩
theorem turn_zipS {P : Program} {w : World} {K : PySem.W.Frag} {elts : List Expr} {kk : Nat} {tpos : Pos} {z TI TO i1 i2 : Addr} {v1 v2 : Value} {xs ys : List V} {C1 C2 : Hp → Prop} {own1 own2 : List Addr} {T1 T2 : Addr → Nat → Heap → Prop}
    (S1 : SeqV K v1 xs C1 own1 T1) (S2 : SeqV K v2 ys C2 own2 T2) (Z : ZipSep2 z TI TO i1 i2 (i1 :: own1) (i2 :: own2)) (n1 : i1 ∉ own1) (n2 : i2 ∉ own2) :
    Turn P w K (.Tuple elts kk tpos) (ItZ C1 C2 xs ys) [z, TI, TO, i1, i2] z (fun i h => IsZip h z TI TO .none ∧ IsTupOf2 h TI (.ref i1) (.ref i2) ∧ (∃ a b, IsTupOf2 h TO a b) ∧ T1 i1 i h ∧ T2 i2 i h) where
  mem := by simp
  obj := fun i h st b hb => by
    obtain ⟨hz, e1, ⟨a, c, e2⟩, t1, t2⟩ := st
    simp only [List.mem_cons, List.not_mem_nil, or_false] at hb
    rcases hb with rfl | rfl | rfl | rfl | rfl
    · exact ⟨_, hz, fun v q => nomatch q⟩
    · exact ⟨_, e1, fun v q => nomatch q⟩
    · exact ⟨_, e2, fun v q => nomatch q⟩
    · exact S1.ob _ _ _ t1
    · exact S2.ob _ _ _ t2
  keep := fun i h h' st k => by
    obtain ⟨hz, e1, ⟨a, c, e2⟩, t1, t2⟩ := st
    exact ⟨k z (by simp) _ hz, k TI (by simp) _ e1, ⟨a, c, k TO (by simp) _ e2⟩, S1.at_ _ _ _ _ t1 (fun o e => k i1 (by simp) o e), S2.at_ _ _ _ _ t2 (fun o e => k i2 (by simp) o e)⟩
  item := by
    intro X hP hw hK hc i pins s σ H E I hf st hg
    subst hP hw hK
    obtain ⟨hz, hTI, hTO, t1, t2⟩ := st
    obtain ⟨c1, c2, hi⟩ := hg
    have hh := I.ok.hd hc
    obtain ⟨P1, Q1, p1, D1, m1⟩ := S1.drw X pins σ H s X.A.in1 i1 rfl I c1 (by simp [hh]) n1
    obtain ⟨P2, Q2, p2, D2, m2⟩ := S2.drw X pins σ H s X.A.in1 i2 rfl I c2 (by simp [hh]) n2
    refine (GoesN.zip2 (elts := elts) (x1 := kk) (pos := tpos) Z D1 D2).goes i s _ E hi ⟨hz, hTI, hTO, ⟨t1, p1⟩, ⟨t2, p2⟩⟩ fun v h' tk hY st' hk htk => ?_
    obtain ⟨T, x, y, rfl, hnew, hx, hy, hT⟩ := hY
    obtain ⟨x', ex, rx⟩ := m1 i x hx
    obtain ⟨y', ey, ry⟩ := m2 i y hy
    obtain ⟨hz', hTI', hTO', ⟨t1', _⟩, ⟨t2', _⟩⟩ := st'
    have new : ObjOk X.prog X.w (upd H T (.tup [x', y'])) h' T (.tup [x', y']) := ⟨by show 2 ≤ sizeLine; decide, [x, y], .cons rx (.cons ry .nil), hT⟩
    have I1 : Inv X pins σ (upd H T (.tup [x', y'])) { s with heap := h', toks := tk } :=
      I.turnedNew (ch := [z, TI, TO, i1, i2]) (fun b o hb q => hk b o (fun m => hb (by simp only [List.mem_cons, List.not_mem_nil, or_false] at m ⊢; rcases m with m | m | m | m <;> simp [m])) q) hf hnew new
    refine ⟨.ref T, _, I1, rfl, ⟨T, x', y', rfl, I.hok.fresh hnew, rfl, ex, ey⟩, ⟨hz', hTI', hTO', t1', t2'⟩, fun b hb => ?_⟩
    obtain ⟨o, ho, _⟩ : ∃ o, s.heap.get? b = some o ∧ ∀ v, o.data ≠ .cell v := by
      simp only [List.mem_cons, List.not_mem_nil, or_false] at hb
      rcases hb with rfl | rfl | rfl | rfl | rfl
      · exact ⟨_, hz, fun v q => nomatch q⟩
      · exact ⟨_, hTI, fun v q => nomatch q⟩
      · obtain ⟨_, _, e2⟩ := hTO
        exact ⟨_, e2, fun v q => nomatch q⟩
      · exact S1.ob _ _ _ t1
      · exact S2.ob _ _ _ t2
    rw [upd_ne (Nat.ne_of_lt (Nat.lt_of_lt_of_le (Heap.lt_size ho) hnew))]
    exact (hf b hb).1
  done := by
    intro X hP hw hK hc i pins s σ H E I hf st hg
    subst hP hw hK
    obtain ⟨hz, hTI, hTO, t1, t2⟩ := st
    obtain ⟨c1, c2, hi⟩ := hg
    have hh := I.ok.hd hc
    obtain ⟨P1, Q1, p1, D1, m1⟩ := S1.drw X pins σ H s X.A.in1 i1 rfl I c1 (by simp [hh]) n1
    obtain ⟨P2, Q2, p2, D2, m2⟩ := S2.drw X pins σ H s X.A.in1 i2 rfl I c2 (by simp [hh]) n2
    subst hi
    refine (GoesN.zip2 (elts := elts) (x1 := kk) (pos := tpos) Z D1 D2).stops s _ E ⟨hz, hTI, hTO, ⟨t1, p1⟩, ⟨t2, p2⟩⟩ fun h' tk hk htk => ?_
    exact I.turnedL (ch := [z, TI, TO, i1, i2]) (fun b o hb q => hk b o (fun m => hb (by simp only [List.mem_cons, List.not_mem_nil, or_false] at m ⊢; rcases m with m | m | m | m <;> simp [m])) q) hf
  self := fun A i s Q E st h => wpAny_pyIter_zip st.1 h
/-- what zip walks: two sequences -/
def iZipS (K : PySem.W.Frag) (ta : TA) : TI := fun σ H R => ta σ H fun vs H1 => ∃ k l x y xs ys, vs = [x, y] ∧ SqK K k x xs H1 ∧ SqK K l y ys H1 ∧ R (ItZ (SqK K k x xs) (SqK K l y ys) xs ys) H1
theorem pi_zipS {X : Cx} {e e2 : Expr} {ta : TA} {p pos tpos : Pos} {elts : List Expr} {kk : Nat} (hg : Gl X "zip") (hm : X.mg "zip" = none) (ha : PA X [e, e2] ta)
    (hs : starEach [e, e2] X.env = (false, eval e X.env) :: starEach [e2] X.env) (hpl : (backTo pos (starEach [e2] X.env)).any (·.1) = false) :
    PI X (.Tuple elts kk tpos) (.Call (.Name "zip" p) [e, e2] [] pos) (iZipS X.K ta) := ⟨fun pins s σ H R I h => by
  refine Call_ (ld_blt I hg hm PyProof.Rows.boot_zip (PyProof.Rows.callWith_type1 (thn (ha.run pos pins s σ H _ I h) fun us s1 ⟨vs, H1, I1, r1, k, l, x, y, xs, ys, ex, hx, hy, q⟩ => ?_) hs hpl))
  subst ex
  obtain ⟨u1, u2, rfl, rx, ry⟩ := vals2 r1
  obtain ⟨own1, T1, S1⟩ := seq_of hx rx
  obtain ⟨own2, T2, S2⟩ := seq_of hy ry
  obtain ⟨o1, Pre1, B1, p1, st1, l1⟩ := S1.beg X pins σ H1 s1 rfl I1 hx
  obtain ⟨o2, Pre2, B2, p2, st2, l2⟩ := S2.beg X pins σ H1 s1 rfl I1 hy
  refine zip_begins2 B1 B2 p1 p2 fun h' hz hTI hTO h1 h2 hsz hk => wpAny_pyIter_zip hz ?_
  have I2 : Inv X pins σ H1 { s1 with heap := h' } := I1.kept (t' := s1.toks) hk
  have f1 : s1.heap.objs.size ∉ own1 := fun m => Nat.lt_irrefl _ (l1 _ m)
  have f2 : s1.heap.objs.size + 1 ∉ own2 := fun m => Nat.lt_irrefl _ (Nat.lt_of_succ_lt (l2 _ m))
  refine ⟨s1.heap.objs.size + 4, [s1.heap.objs.size + 4, s1.heap.objs.size + 2, s1.heap.objs.size + 3, s1.heap.objs.size, s1.heap.objs.size + 1], _, _, H1, rfl, I2, turn_zipS S1 S2 (zip_sep2 l1 l2) f1 f2, ⟨hz, hTI, ⟨_, _, hTO⟩, st1 _ _ h1, st2 _ _ h2⟩, fun c hc => ?_, q⟩
  have hle : s1.heap.objs.size ≤ c := by
    simp only [List.mem_cons, List.not_mem_nil, or_false] at hc
    rcases hc with rfl | rfl | rfl | rfl | rfl
    all_goals first | exact Nat.le_refl _ | exact Nat.le_add_right _ _
  exact I1.fpOk hle (I1.hok.fresh hle)⟩
/-- a list, a tuple or a text, walked -/
def iSeq (K : PySem.W.Frag) (te : TE) : TI := fun σ H R => te σ H fun x H1 => (∃ a xs, x = .ref a ∧ SqL K H1 a xs ∧ R (Itl K a) H1) ∨ (∃ a xs, x = .ref a ∧ SqT K H1 a xs ∧ R (Itt K a) H1) ∨ ∃ y, x = .str y ∧ R (Its y) H1
theorem pi_seq {X : Cx} {tg e : Expr} {te : TE} (he : PE X e te) : PI X tg e (iSeq X.K te) := ⟨fun pins s σ H R I h => by
  refine thn (he.run pins s σ H _ I h) fun v s1 ⟨x, H1, I1, r, q⟩ => ?_
  rcases q with ⟨a, xs, rfl, hq, q⟩ | ⟨a, xs, rfl, hq, q⟩ | ⟨y, rfl, q⟩
  · obtain rfl : v = .ref a := r
    obtain ⟨its, rv, p, _⟩ := I1.list hq
    exact wpAny_pyIter_list p.isList (pi_one (tk := s1.toks) I1 _ (turn_list a _) ⟨_, Heap.get?_push_size _ rfl, rfl, rfl⟩ q)
  · obtain rfl : v = .ref a := r
    obtain ⟨its, rv, p, _⟩ := I1.tuple hq
    exact wpAny_pyIter_tuple (show s1.heap.IsTuple a its.toArray from p) (pi_one (tk := s1.toks) I1 _ (turn_tuple a _) ⟨_, Heap.get?_push_size _ rfl, rfl, rfl⟩ q)
  · obtain ⟨t, rfl⟩ := r
    cases ha : y.cps.all (· < 128)
    · exact wpAny_pyIter_wide ha (pi_one (tk := s1.toks) I1 _ (turn_str _ y t "str_iterator" (.inr rfl)) ⟨_, Heap.get?_push_size _ rfl, rfl, rfl⟩ q)
    · exact wpAny_pyIter_ascii ha (pi_one (tk := s1.toks) I1 _ (turn_str _ y t "str_ascii_iterator" (.inl rfl)) ⟨_, Heap.get?_push_size _ rfl, rfl, rfl⟩ q)⟩
/-! ### the sources of the small language -/
/-- the iterator J walks the items -/
def JR (K : PySem.W.Frag) (CI : CInf) (s : Sx) (items : List PyData) (J : It) : Prop := ∀ s', Le s s' → HR K CI s' → ∀ i,
  (i < items.length → J.go i s'.H) ∧ (i = items.length → J.stop i s'.H) ∧ ∀ x H', i < items.length → J.yld i s'.H x H' → ∃ d s'', items[i]? = some d ∧ s''.H = H' ∧ Le s' s'' ∧ s''.h = s'.h ∧ HR K CI s'' ∧ RF K s''.F H' d x
theorem JR.le {K : PySem.W.Frag} {CI : CInf} {s s1 : Sx} {items : List PyData} {J : It} (l : Le s s1) (h : JR K CI s items J) : JR K CI s1 items J := fun s' l' => h s' (l.trans l')
def DI (Γ : Gm) (N : List Str) (sc : Sco) (tg e : Expr) (src : Src) : Prop :=
  ∀ n I W X, GX Γ n I N sc W X → PI X tg e (tE X.K I W (fun env h => evalSrc (callF Γ.fns n) env src h) (JR X.K I.ci))
section
variable {K : PySem.W.Frag} {CI : CInf} {s : Sx}
theorem rf_seq {ts : List PyData} {d : PyData} {x : V} (e : itemsOf d = some ts) (r : RF K s.F s.H d x) : ∃ k xs, SqK K k x xs s.H ∧ RFs K s.F s.H ts xs ∧ ∀ s', Le s s' → SqK K k x xs s'.H := by
  cases d with
  | list us =>
    cases e
    obtain ⟨a, xs, rfl, h, q⟩ := r.lst_inv
    exact ⟨.l a, xs, ⟨rfl, h.sq⟩, q, fun s' l => ⟨rfl, (l.kf.lq h).sq⟩⟩
  | tuple us =>
    cases e
    obtain ⟨a, xs, rfl, h, q⟩ := r.tup_inv
    exact ⟨.t a, xs, ⟨rfl, h⟩, q, fun s' l => ⟨rfl, l.kf.sqT h⟩⟩
  | str y =>
    cases e
    obtain rfl := r.str_inv
    refine ⟨.s y, charsV y, ⟨rfl, rfl⟩, ?_, fun s' l => ⟨rfl, rfl⟩⟩
    unfold charsV
    generalize y.cps.toList = l
    induction l with
    | nil => exact .nil
    | cons c l ih => exact .cons (.str _) ih
  | _ => cases e
theorem same_step {H' : Hp} {s' : Sx} {d : PyData} {x : V} (hr : HR K CI s') (r : RF K s'.F s'.H d x) (e : H' = s'.H) {o : Option PyData} (eo : o = some d) : ∃ d s'', o = some d ∧ s''.H = H' ∧ Le s' s'' ∧ s''.h = s'.h ∧ HR K CI s'' ∧ RF K s''.F H' d x :=
  ⟨d, s', eo, e.symm, .refl _, rfl, hr, by rw [e]; exact r⟩
/-- a sequence's own walk -/
theorem jr_seq {X : Cx} {ts : List PyData} {d : PyData} {x : V} (hk : X.K = K) (e : itemsOf d = some ts) (r : RF K s.F s.H d x) {R : It → Hp → Prop} (q : ∀ J, JR K CI s ts J → R J s.H) :
    (∃ a xs, x = .ref a ∧ SqL X.K s.H a xs ∧ R (Itl X.K a) s.H) ∨ (∃ a xs, x = .ref a ∧ SqT X.K s.H a xs ∧ R (Itt X.K a) s.H) ∨ ∃ y, x = .str y ∧ R (Its y) s.H := by
  subst hk
  cases d with
  | list us =>
    cases e
    obtain ⟨a, xs, rfl, h, t⟩ := r.lst_inv
    refine .inl ⟨a, xs, rfl, h.sq, q _ fun s' l hr' i => ⟨fun hi => ?_, fun hi => ?_, fun y H' _ hy => ?_⟩⟩
    · have := t.length
      exact ⟨xs, xs[i]'(by omega), (l.kf.lq h).sq, List.getElem?_eq_getElem _⟩
    · exact ⟨xs, (l.kf.lq h).sq, by have := t.length; omega⟩
    · obtain ⟨rfl, hy⟩ := hy
      obtain ⟨d, e1, rd⟩ := (t.keep l.kf).get' (hy xs (l.kf.lq h).sq)
      exact same_step hr' rd rfl e1
  | tuple us =>
    cases e
    obtain ⟨a, xs, rfl, h, t⟩ := r.tup_inv
    refine .inr (.inl ⟨a, xs, rfl, h, q _ fun s' l hr' i => ⟨fun hi => ?_, fun hi => ?_, fun y H' _ hy => ?_⟩⟩)
    · have := t.length
      exact ⟨xs, xs[i]'(by omega), l.kf.sqT h, List.getElem?_eq_getElem _⟩
    · exact ⟨xs, l.kf.sqT h, by have := t.length; omega⟩
    · obtain ⟨rfl, hy⟩ := hy
      obtain ⟨d, e1, rd⟩ := (t.keep l.kf).get' (hy xs (l.kf.sqT h))
      exact same_step hr' rd rfl e1
  | str y =>
    cases e
    obtain rfl := r.str_inv
    refine .inr (.inr ⟨y, rfl, q _ fun s' l hr' i => ⟨fun hi => ?_, fun hi => ?_, fun z H' _ hz => ?_⟩⟩)
    · show i < y.cps.size
      simpa using hi
    · have : i = y.cps.size := by simpa using hi
      exact Nat.le_of_eq this.symm
    · obtain ⟨rfl, c, e1, rfl⟩ := hz
      exact same_step hr' (.str _) rfl (by rw [List.getElem?_map, Array.getElem?_toList, e1]; rfl)
  | _ => cases e
theorem rangeD_get {lo : Int} {n : Nat} {c : Int} {i : Nat} (h : i < n) : (rangeD lo n c)[i]? = some (.int (lo + (i : Int) * c)) := by
  unfold rangeD
  rw [List.getElem?_map, List.getElem?_range h]
  rfl
theorem rangeD_len {lo : Int} {n : Nat} {c : Int} : (rangeD lo n c).length = n := by simp [rangeD]
theorem jr_rng {lo : Int} {n : Nat} : JR K CI s (rangeD lo n 1) (Itr lo n) := fun s' l hr' i => by
  rw [rangeD_len]
  refine ⟨fun hi => hi, fun hi => Nat.le_of_eq hi.symm, fun x H' hi hy => ?_⟩
  obtain ⟨rfl, rfl⟩ := hy
  exact same_step hr' (.int _) rfl (by rw [rangeD_get hi, Int.mul_one])
theorem jr_rngC {lo c : Int} {n : Nat} : JR K CI s (rangeD lo n c) (Itc lo c n) := fun s' l hr' i => by
  rw [rangeD_len]
  refine ⟨fun hi => hi, fun hi => Nat.le_of_eq hi.symm, fun x H' hi hy => ?_⟩
  obtain ⟨rfl, rfl⟩ := hy
  exact same_step hr' (.int _) rfl (rangeD_get hi)
theorem zipD_len : ∀ (ts us : List PyData), (zipD ts us).length = min ts.length us.length
  | [], us => by simp [zipD]
  | _ :: _, [] => by simp [zipD]
  | t :: ts, u :: us => by simp only [zipD, List.length_cons, zipD_len ts us]; omega
theorem zipD_get : ∀ {ts us : List PyData} {i : Nat} {a b : PyData}, ts[i]? = some a → us[i]? = some b → (zipD ts us)[i]? = some (.tuple [a, b])
  | [], _, _, _, _, e, _ => by simp at e
  | _ :: _, [], _, _, _, _, e => by simp at e
  | t :: ts, u :: us, 0, a, b, e, f => by simp at e f; subst e f; rfl
  | t :: ts, u :: us, i + 1, a, b, e, f => by
    have := zipD_get (ts := ts) (us := us) (i := i) (by simpa using e) (by simpa using f)
    simpa [zipD] using this
theorem jr_zip {ts us : List PyData} {xs ys : List V} {x y : V} {k l : Kd} (r1 : RFs K s.F s.H ts xs) (r2 : RFs K s.F s.H us ys) (k1 : ∀ s', Le s s' → SqK K k x xs s'.H) (k2 : ∀ s', Le s s' → SqK K l y ys s'.H) :
    JR K CI s (zipD ts us) (ItZ (SqK K k x xs) (SqK K l y ys) xs ys) := fun s' le hr' i => by
  rw [zipD_len, r1.length, r2.length]
  refine ⟨fun hi => ⟨k1 s' le, k2 s' le, hi⟩, fun hi => ⟨k1 s' le, k2 s' le, hi⟩, fun v H' hi hy => ?_⟩
  obtain ⟨T, a, b, rfl, hT, rfl, ea, eb⟩ := hy
  obtain ⟨d, e1, rd⟩ := (r1.keep le.kf).get' ea
  obtain ⟨e, e2, re⟩ := (r2.keep le.kf).get' eb
  exact ⟨_, s'.put T (.tup [a, b]) false, zipD_get e1 e2, rfl, hr'.put_le hT, rfl, hr'.put hT, tup_new (K := K) (s := s') hT (.cons rd (.cons re .nil))⟩
end
section
variable {Γ : Gm} {N : List Str} {sc : Sco} {e tg ea eb ec : Expr} {a b c : E} {o : O2} {pos p p2 : Pos} {es : List Expr} {as : List E} {i j : Nat} {x f : Str}
theorem di_e (ha : DV Γ N sc ea a) : DI Γ N sc tg ea (.e a) := fun n I W X g => (pi_seq (ha n I W X g)).imp fun σ H R q => by
  obtain ⟨env, s, eH, hr, er, _, pr⟩ := At.bind (Rel1 := PRl X.K) (ev2 := fun d env h1 => ofO (itemsOf d) h1) q
  refine ⟨env, s, eH, hr, er, trivial, ?_⟩
  refine PR.mono pr fun x H1 ⟨d, env, s, e, hr, er, ⟨_, rb⟩, pr⟩ => ?_
  replace pr : PR X.K I W s σ (ofO (itemsOf d) s.h) (JR X.K I.ci) R := pr
  cases e1 : itemsOf d with
  | none => rw [e1] at pr; exact False.elim pr
  | some ts =>
    rw [e1] at pr
    subst e
    exact jr_seq rfl e1 rb fun J j => pr s J (.refl s) rfl hr j
theorem rngOk_of {j : Int} (h : rngOk j = true) : -(2 ^ 62) ≤ j ∧ j < 2 ^ 62 := by
  unfold rngOk at h
  rw [decide_eq_true_eq] at h
  omega
theorem rng2K_inv (d e : PyData) (h : Hi) : (∃ i j, d = .int i ∧ e = .int j ∧ rngOk i = true ∧ rngOk j = true ∧ rng2K d e h = .ok (rangeD i (j - i).toNat 1) h) ∨ rng2K d e h = .stuck := by
  unfold rng2K
  split
  · split
    · rename_i q
      exact .inl ⟨_, _, rfl, rfl, q.1, q.2, rfl⟩
    · exact .inr rfl
  · exact .inr rfl
theorem rng3K_inv (d e : PyData) (h : Hi) : (∃ i j, d = .int i ∧ e = .int j ∧ rngOk i = true ∧ rngOk j = true ∧ rng3K d e h = .ok (rangeD i (i - j).toNat (-1)) h) ∨ rng3K d e h = .stuck := by
  unfold rng3K
  split
  · split
    · rename_i q
      exact .inl ⟨_, _, rfl, rfl, q.1, q.2, rfl⟩
    · exact .inr rfl
  · exact .inr rfl
theorem di_rng1 (v : NB Γ sc "range") (ha : DV Γ N sc ea a) (se : ∀ env, starEach [ea] env = [(false, eval ea env)] := by intro _; rfl) : DI Γ N sc tg (.Call (.Name "range" p) [ea] [] pos) (.rng1 a) := fun n I W X g =>
  (pi_range1 (v.g.g g) (g.nob _ v.m) (pa_cons (ha n I W X g) pa_nil (se _)) (se _)).imp fun σ H R q => by
    obtain ⟨env, s, eH, hr, er, _, pr⟩ := At.bind (Rel1 := PRl X.K) (ev2 := fun d env h1 => rng1K d h1) q
    refine ⟨env, s, eH, hr, er, trivial, ?_⟩
    refine PR.mono pr fun x H1 ⟨d, env, s, e, hr, er, ⟨_, rb⟩, pr⟩ => ?_
    subst e
    replace pr : PR X.K I W s σ (rng1K d s.h) (JR X.K I.ci) R := pr
    unfold rng1K at pr
    cases d with
    | int k =>
      simp only at pr
      split at pr
      · rename_i h
        obtain rfl : x = .int k := RF.int_inv rb
        obtain ⟨h1, h2⟩ := rngOk_of h
        exact ⟨k, rfl, h1, h2, pr s _ (.refl s) rfl hr jr_rng⟩
      · exact False.elim pr
    | _ => exact False.elim pr
theorem di_rng2 (v : NB Γ sc "range") (ha : DV Γ N sc ea a) (hb : DV Γ N sc eb b) (se : ∀ env, starEach [ea, eb] env = [(false, eval ea env), (false, eval eb env)] := by intro _; rfl) (se2 : ∀ env, starEach [eb] env = [(false, eval eb env)] := by intro _; rfl) :
    DI Γ N sc tg (.Call (.Name "range" p) [ea, eb] [] pos) (.rng2 a b) := fun n I W X g =>
  (pi_range2 (v.g.g g) (g.nob _ v.m) (pa_cons (ha n I W X g) (pa_cons (hb n I W X g) pa_nil (se2 _)) (by rw [se, se2])) (se _) (se2 _)).imp fun σ H R q => by
    obtain ⟨env, s, eH, hr, er, _, pr⟩ := At.bind (Rel1 := PRl X.K) (ev2 := fun d env h1 => ((evalE (callF Γ.fns n) env b h1).bind unP).bind fun e h2 => rng2K d e h2) q
    refine ⟨env, s, eH, hr, er, trivial, ?_⟩
    refine PR.mono pr fun x H1 ⟨d, q⟩ => ?_
    obtain ⟨env, s, eH, hr, er, _, pr⟩ := At.bind (Rel1 := PRl X.K) (G' := fun s => PRl X.K s d x) (ev2 := fun e env h2 => rng2K d e h2) q (fun s s' l g => g.2.le l)
    refine ⟨env, s, eH, hr, er, trivial, ?_⟩
    refine PR.mono pr fun y H2 ⟨d2, env, s, e, hr, er, ⟨r1, r2⟩, pr2⟩ => ?_
    subst e
    replace pr2 : PR X.K I W s σ (rng2K d d2 s.h) (JR X.K I.ci) R := pr2
    rcases rng2K_inv d d2 s.h with ⟨i, j, rfl, rfl, g1, g2, e⟩ | e
    · rw [e] at pr2
      obtain rfl := RF.int_inv r1
      obtain rfl := RF.int_inv r2
      obtain ⟨h1, h2⟩ := rngOk_of g1
      obtain ⟨h3, h4⟩ := rngOk_of g2
      exact ⟨i, j, rfl, ⟨h1, h2, h3, h4⟩, pr2 s _ (.refl s) rfl hr jr_rng⟩
    · rw [e] at pr2
      exact False.elim pr2
theorem di_zip {elts : List Expr} {kk : Nat} {tpos : Pos} (v : NB Γ sc "zip") (ha : DV Γ N sc ea a) (hb : DV Γ N sc eb b) (se : Se2 ea eb := by intro _; rfl) (se2 : Se1 eb := by intro _; rfl) (hpl : ∀ env, (backTo pos (starEach [eb] env)).any (·.1) = false := by intro _; rfl) :
    DI Γ N sc (.Tuple elts kk tpos) (.Call (.Name "zip" p) [ea, eb] [] pos) (.zip a b) := fun n I W X g =>
  (pi_zipS (v.g.g g) (g.nob _ v.m) (pa_cons (ha n I W X g) (pa_cons (hb n I W X g) pa_nil (se2 _)) (se _)) (se _) (hpl _)).imp fun σ H R q => by
    obtain ⟨env, s, eH, hr, er, _, pr⟩ := At.bind (Rel1 := PRl X.K) (ev2 := fun d env h1 => ((evalE (callF Γ.fns n) env b h1).bind unP).bind fun e h2 => ofO ((itemsOf d).bind fun xs => (itemsOf e).map fun ys => zipD xs ys) h2) q
    refine ⟨env, s, eH, hr, er, trivial, ?_⟩
    refine PR.mono pr fun x H1 ⟨d, q⟩ => ?_
    obtain ⟨env, s, eH, hr, er, _, pr⟩ := At.bind (Rel1 := PRl X.K) (G' := fun s => PRl X.K s d x) (ev2 := fun e env h2 => ofO ((itemsOf d).bind fun xs => (itemsOf e).map fun ys => zipD xs ys) h2) q (fun s s' l g => g.2.le l)
    refine ⟨env, s, eH, hr, er, trivial, ?_⟩
    refine PR.mono pr fun y H2 ⟨d2, env, s, e, hr, er, ⟨r1, r2⟩, pr2⟩ => ?_
    subst e
    replace pr2 : PR X.K I W s σ (ofO ((itemsOf d).bind fun xs => (itemsOf d2).map fun ys => zipD xs ys) s.h) (JR X.K I.ci) R := pr2
    cases e1 : itemsOf d with
    | none => rw [e1] at pr2; exact False.elim pr2
    | some ts =>
      cases e2 : itemsOf d2 with
      | none => rw [e1, e2] at pr2; exact False.elim pr2
      | some us =>
        rw [e1, e2] at pr2
        obtain ⟨k, xs, h1, q1, k1⟩ := rf_seq e1 r1
        obtain ⟨l, ys, h2, q2, k2⟩ := rf_seq e2 r2
        exact ⟨k, l, x, y, xs, ys, rfl, h1, h2, pr2 s _ (.refl s) rfl hr (jr_zip q1 q2 k1 k2)⟩
end
end Cd
set_option Elab.async false
set_option linter.all false
set_option maxRecDepth 100000
set_option maxHeartbeats 4000000
namespace Cd
open PySem PySem.Spec PyProof.Rows L2
/-- the names within a comprehension -/
def blkS (sc : Sco) (scope : Scope) : Sco := ⟨relS scope sc.s, fun x => scope.names.lookup x == some .cell, false⟩
section
variable {Γ : Gm} {N : List Str} {sc : Sco} {n : Nat} {I : Inf} {W : WX} {X : Cx}
theorem GX.blk (g : GX Γ n I N sc W X) (scope : Scope) (s : Shared) (H : Hp) (C : Addr) (cl : List (Str × Addr)) (fp : List Addr) : GX Γ n I N (blkS sc scope) (fun _ _ _ _ => False) (X.blk s H scope (compEnvC scope cl C X.env) fp) where
  hN := g.hN
  nd := g.nd
  fnc := rfl
  sc := by
    show relabel scope X.env = relS scope sc.s
    rw [← g.sc]
    rfl
  calm := g.calm
  tk := takes0
  pass := PassesOwn.never
  room := g.room
  fn := g.fn
  nob := g.nob
  con := g.con
  cl := g.cl
  mt := g.mt
  fl := g.fl
  ci := g.ci
  xc := g.xc
  xm := g.xm
  tb := g.tb
  stk := fun z => by cases z
end
def DTs (Γ : Gm) (N : List Str) (sc : Sco) (es : List Expr) (ts : List Te) : Prop :=
  ∀ n I W X, GX Γ n I N sc W X → PTs X es (tE X.K I W (fun env h => evalTs (callF Γ.fns n) env ts h) (fun _ a x => x = a))
theorem _root_.L2.PTs.imp {X : Cx} {e : List Expr} {t t' : TT} (h : PTs X e t) (i : ∀ σ H Q, t' σ H Q → t σ H Q) : PTs X e t' := ⟨fun pins s σ H Q I q => h.run pins s σ H Q I (i σ H Q q)⟩
section
variable {Γ : Gm} {N : List Str} {sc : Sco} {e tg ea eb ec : Expr} {a b c : E} {ta : Te} {o : O2} {pos p p2 : Pos} {es : List Expr} {as : List E} {i j : Nat} {x f : Str} {t : Tg} {src : Src}
theorem dts_nil : DTs Γ N sc [] [] := fun n I W X g => pts_nil.imp fun σ H Q ⟨env, s, eH, hr, er, _, pr⟩ => by
  subst eH
  exact pr s true (.refl s) rfl hr rfl
theorem dts_one (h : DT Γ N sc ea ta) : DTs Γ N sc [ea] [ta] := fun n I W X g => (pts_one (h n I W X g)).imp fun σ H Q ⟨env, s, eH, hr, er, _, pr⟩ => by
  refine ⟨env, s, eH, hr, er, trivial, ?_⟩
  have pr' : PR X.K I W s σ ((evalT (callF Γ.fns n) env ta s.h).bind fun k h1 => ifK (fun h2 => R.ok true h2) (fun h2 => .ok false h2) k h1) (fun _ a x => x = a) Q := pr
  show PR X.K I W s σ (evalT (callF Γ.fns n) env ta s.h) (fun _ a x => x = a) Q
  generalize evalT (callF Γ.fns n) env ta s.h = r at pr' ⊢
  cases r with
  | ok k h1 => cases k <;> exact pr'
  | exc e h1 => exact pr'
  | stuck => exact pr'
theorem wipe_in {σ : L2.St} : ∀ {vs : List Nat} {k : Nat}, k ∈ vs → k < σ.length → (wipe σ vs)[k]? = some none
  | v :: vs, k, h, l => by
    show ((wipe σ vs).set v none)[k]? = some none
    by_cases e : k = v
    · subst e
      rw [List.getElem?_set_self (by rw [wipe_length]; exact l)]
    · rw [List.getElem?_set_ne (Ne.symm e)]
      exact wipe_in (by simpa [e] using h) l
theorem wipe_eq {σ σ' : L2.St} {vs : List Nat} (hl : σ'.length = σ.length) (h : ∀ k, k ∉ vs → σ'[k]? = σ[k]?) : wipe σ' vs = wipe σ vs := by
  apply List.ext_getElem?
  intro k
  by_cases hk : k ∈ vs
  · by_cases l : k < σ.length
    · rw [wipe_in hk l, wipe_in hk (by rw [hl]; exact l)]
    · rw [List.getElem?_eq_none (by rw [wipe_length]; omega), List.getElem?_eq_none (by rw [wipe_length]; omega)]
  · rw [wipe_out hk, wipe_out hk, h k hk]
/-- a list under construction gets its next content -/
def Sx.wr (s : Sx) (D : Addr) (xs : List V) : Sx := { s with H := upd s.H D (.lst xs) }
section
variable {K : PySem.W.Frag} {CI : CInf} {s s0 : Sx} {D : Addr} {ys xs : List V}
theorem wr_keep (hr : HR K CI s) (hb : s.B D) (hD : s.H D = some (.lst ys)) : KeepF s.F s.H (s.wr D xs).F (s.wr D xs).H where
  up := fun _ h => h
  fz := fun a o f h => by
    show upd s.H D _ a = some o
    rw [upd_ne (fun e => by subst e; exact (hr.bt a hb).2.1 f)]; exact h
  tp := fun a o h => by
    show upd s.H D _ a = some _
    rw [upd_ne (fun e => by rw [e, hD] at h; cases h)]; exact h
  zz := fun a o u h => by
    show upd s.H D _ a = some _
    rw [upd_ne (fun e => by rw [e, hD] at h; cases h)]; exact h
theorem HR.wr (hr : HR K CI s) (hb : s.B D) (hD : s.H D = some (.lst ys)) : HR K CI (s.wr D xs) where
  ob := fun n o e => (hr.ob n o e).move (wr_keep hr hb hD) e fun j l => ⟨rfl, fun u h => by
    show upd s.H D _ (s.φ n j) = some u
    rw [upd_ne ((hr.bt D hb).1 n j l)]; exact h⟩
  inj := hr.inj
  nf := hr.nf
  bt := fun b h => by
    obtain ⟨h1, h2, u, h3⟩ := hr.bt b h
    refine ⟨h1, h2, ?_⟩
    by_cases e : b = D
    · exact ⟨.lst xs, by show upd s.H D _ b = _; rw [e]; exact upd_same⟩
    · exact ⟨u, by show upd s.H D _ b = some u; rw [upd_ne e]; exact h3⟩
  ft := fun b h => by
    obtain ⟨u, h3⟩ := hr.ft b h
    exact ⟨u, by show upd s.H D _ b = some u; rw [upd_ne (fun e => by subst e; exact (hr.bt b hb).2.1 h)]; exact h3⟩
theorem wr_le (l : Le s0 s) (h0 : s0.H D = none) (hr0 : HR K CI s0) : Le s0 (s.wr D xs) where
  len := l.len
  ph := l.ph
  kf := ⟨l.kf.up, fun a o f h => by show upd s.H D _ a = some o; rw [upd_ne (ne_of_none h h0)]; exact l.kf.fz a o f h,
    fun a o h => by show upd s.H D _ a = some _; rw [upd_ne (ne_of_none h h0)]; exact l.kf.tp a o h,
    fun a o u h => by show upd s.H D _ a = some _; rw [upd_ne (ne_of_none h h0)]; exact l.kf.zz a o u h⟩
  fr := fun b h => by
    obtain ⟨h1, h2⟩ := l.fr b h
    obtain ⟨_, _, u, e⟩ := hr0.bt b h
    exact ⟨h1, by show upd s.H D _ b = s0.H b; rw [upd_ne (ne_of_none e h0)]; exact h2⟩
end
/-- with D kept apart -/
def Sx.guard (s : Sx) (D : Addr) : Sx := { s.put D (.lst []) false with B := fun b => s.B b ∨ b = D }
theorem HR.guard {K : PySem.W.Frag} {CI : CInf} {s : Sx} {D : Addr} (hr : HR K CI s) (h : s.H D = none) : HR K CI (s.guard D) := by
  have r := hr.put (o := .lst []) (fz := false) h
  refine ⟨r.ob, r.inj, r.nf, fun b hb => ?_, r.ft⟩
  rcases hb with hb | hb
  · exact r.bt b hb
  · subst hb
    refine ⟨(hr.fresh h).2.1, fun f => ?_, _, upd_same⟩
    rcases f with f | ⟨f, _⟩
    · exact (hr.fresh h).1 f
    · cases f
theorem guard_le {K : PySem.W.Frag} {CI : CInf} {s : Sx} {D : Addr} (hr : HR K CI s) (h : s.H D = none) : Le s (s.guard D) :=
  have l := hr.put_le (o := .lst []) (fz := false) h
  ⟨l.len, l.ph, l.kf, fun b hb => ⟨.inl hb, (l.fr b hb).2⟩⟩
def Sx.unguard (s : Sx) (B : Addr → Prop) : Sx := { s with B := B }
theorem compK_inv {r : R (List PyData)} : (∃ ys h, r = .ok ys h ∧ compK r = .ok (.p (.list ys)) h) ∨ compK r = .stuck := by
  cases r with
  | ok ys h => exact .inl ⟨ys, h, rfl, rfl⟩
  | _ => exact .inr rfl
abbrev snds (own : List (Str × Nat)) : List Nat := own.map fun p => p.2
/-- what a comprehension's row asks, from what its small program does -/
theorem lc_imp {n : Nat} {I : Inf} {W : WX} {X : Cx} {conds : List Te} {own : List (Str × Nat)} (hsub : ∀ k, k ∈ tgSlots t → k ∈ snds own) {σ : L2.St} {H : Hp} {Q : VK}
    (q : tE X.K I W (fun env h => (evalE (callF Γ.fns n) env (.comp (snds own) t src conds a) h).bind unP) (RN X.K) σ H Q) :
    tLc (tE X.K I W (fun env h => evalSrc (callF Γ.fns n) env src h) (JR X.K I.ci)) (tG X.K I.ci t) (tE X.K I (fun _ _ _ _ => False) (fun env h => evalTs (callF Γ.fns n) env conds h) (fun _ a x => x = a))
      (tE X.K I (fun _ _ _ _ => False) (fun env h => (evalE (callF Γ.fns n) env a h).bind unP) (PRl X.K)) (own.map (·.2)) σ H Q := by
  have q' : tE X.K I W (fun env h => (evalSrc (callF Γ.fns n) env src h).bind fun items h1 => (compK2 (compL (fun e h => (evalE (callF Γ.fns n) e a h).bind unP) (fun e h => evalTs (callF Γ.fns n) e conds h) (fun x e => bindT t x e) (wipeE env (snds own))) items h1).bind unP) (RN X.K) σ H Q := by
    obtain ⟨env, s, eH, hr, er, _, pr⟩ := q
    refine ⟨env, s, eH, hr, er, trivial, ?_⟩
    have pr' : PR X.K I W s σ (((evalSrc (callF Γ.fns n) env src s.h).bind fun items h1 => compK2 (compL (fun e h => (evalE (callF Γ.fns n) e a h).bind unP) (fun e h => evalTs (callF Γ.fns n) e conds h) (fun x e => bindT t x e) (wipeE env (snds own))) items h1).bind unP) (RN X.K) Q := pr
    show PR X.K I W s σ ((evalSrc (callF Γ.fns n) env src s.h).bind fun items h1 => (compK2 (compL (fun e h => (evalE (callF Γ.fns n) e a h).bind unP) (fun e h => evalTs (callF Γ.fns n) e conds h) (fun x e => bindT t x e) (wipeE env (snds own))) items h1).bind unP) (RN X.K) Q
    generalize evalSrc (callF Γ.fns n) env src s.h = r at pr' ⊢
    cases r with
    | ok items h1 => exact pr'
    | exc e h1 => exact pr'
    | stuck => exact pr'
  obtain ⟨env, s, eH, hr, er, _, pr⟩ := At.bind (Rel1 := JR X.K I.ci) (ev2 := fun items env h1 => (compK2 (compL (fun e h => (evalE (callF Γ.fns n) e a h).bind unP) (fun e h => evalTs (callF Γ.fns n) e conds h) (fun x e => bindT t x e) (wipeE env (snds own))) items h1).bind unP) q'
  refine ⟨env, s, eH, hr, er, trivial, ?_⟩
  refine PR.mono pr fun J H1 ⟨items, env, s, e, hr, er, ⟨_, jr⟩, pr⟩ => ?_
  clear q' q
  intro D hD
  subst e
  replace pr : PR X.K I W s σ ((compK2 (compL (fun e h => (evalE (callF Γ.fns n) e a h).bind unP) (fun e h => evalTs (callF Γ.fns n) e conds h) (fun x e => bindT t x e) (wipeE env (snds own))) items s.h).bind unP) (RN X.K) Q := pr
  unfold compK2 at pr
  by_cases hz : items.length < sizeLine
  · rw [if_pos hz] at pr
    rcases compK_inv (r := compL (fun e h => (evalE (callF Γ.fns n) e a h).bind unP) (fun e h => evalTs (callF Γ.fns n) e conds h) (fun x e => bindT t x e) (wipeE env (snds own)) items s.h) with ⟨ys, h2, e1, e2⟩ | e2
    · rw [e2] at pr
      replace pr : PR X.K I W s σ (R.ok (PyData.list ys) h2) (RN X.K) Q := pr
      have hD0 : s.H D = none := hD
      refine ⟨fun i m H' => i ≤ items.length ∧ m = items.length - i ∧ ∃ s' acc accT rest, s'.H = H' ∧ HR X.K I.ci s' ∧ Le s s' ∧ s'.B D ∧ s'.H D = some (.lst acc) ∧ RFs X.K s'.F s'.H accT acc ∧ accT.length ≤ i ∧
        compL (fun e h => (evalE (callF Γ.fns n) e a h).bind unP) (fun e h => evalTs (callF Γ.fns n) e conds h) (fun x e => bindT t x e) (wipeE env (snds own)) (items.drop i) s'.h = .ok rest h2 ∧ accT ++ rest = ys,
        ⟨_, Nat.zero_le _, rfl, s.guard D, [], [], ys, rfl, hr.guard hD0, guard_le hr hD0, .inr rfl, upd_same, .nil, Nat.le_refl _, by rw [List.drop_zero]; exact e1, rfl⟩, ?_⟩
      rintro i m H' ⟨hi, rfl, s', acc, accT, rest, rfl, hr', l', hB, hDa, ra, hla, er1, er2⟩
      have hlen := ra.length
      by_cases hin : i = items.length
      · left
        refine ⟨(jr s' l' hr' i).2.1 hin, ?_⟩
        subst hin
        rw [List.drop_length] at er1
        cases er1
        rw [List.append_nil] at er2
        subst er2
        refine pr (s'.unguard s.B) (.ref D) ⟨l'.len, l'.ph, l'.kf, fun b hb => ⟨hb, (l'.fr b hb).2⟩⟩ rfl ⟨hr'.ob, hr'.inj, hr'.nf, fun b hb => hr'.bt b (l'.fr b hb).1, hr'.ft⟩ ?_
        exact ⟨accT, D, acc, rfl, rfl, hDa, ra, (hr'.bt D hB).2.1, (hr'.bt D hB).1, (hr.fresh hD0).2.2⟩
      · right
        have hlt : i < items.length := by omega
        refine ⟨(jr s' l' hr' i).1 hlt, fun H'' => i + 1 ≤ items.length ∧ ∃ s' acc accT rest, s'.H = H'' ∧ HR X.K I.ci s' ∧ Le s s' ∧ s'.B D ∧ s'.H D = some (.lst acc) ∧ RFs X.K s'.F s'.H accT acc ∧ accT.length ≤ i + 1 ∧
          compL (fun e h => (evalE (callF Γ.fns n) e a h).bind unP) (fun e h => evalTs (callF Γ.fns n) e conds h) (fun x e => bindT t x e) (wipeE env (snds own)) (items.drop (i + 1)) s'.h = .ok rest h2 ∧ accT ++ rest = ys,
          fun H'' ⟨h1, h3⟩ => ⟨items.length - (i + 1), by omega, h1, rfl, h3⟩, fun x H2 hy => ?_⟩
        obtain ⟨d, s2, ed, e2, l2, eh2, hr2, rd⟩ := (jr s' l' hr' i).2.2 x H2 hlt hy
        subst e2
        have edr : items.drop i = d :: items.drop (i + 1) := by
          obtain ⟨h, e⟩ := List.getElem?_eq_some_iff.mp ed
          rw [List.drop_eq_getElem_cons h, e]
        rw [edr] at er1
        unfold compL at er1
        cases eb : bindT t d (wipeE env (snds own)) with
        | none => simp only [eb] at er1; cases er1
        | some env1 =>
          simp only [eb] at er1
          refine ⟨wipeE env (snds own), s2, d, env1, rfl, hr2, ((er.le l').le l2).wipe _, rd, eb, fun σ1 er' ⟨k1, k2⟩ => ⟨?_, ?_⟩⟩
          · exact (wipe_eq (k1.trans (wipe_length _ _)) fun k hk => by rw [k2 k (fun z => hk (hsub k z)), wipe_out hk])
          · refine ⟨env1, s2, rfl, hr2, er', trivial, ?_⟩
            rw [← eh2] at er1
            show PR X.K I (fun _ _ _ _ => False) s2 σ1 (evalTs (callF Γ.fns n) env1 conds s2.h) _ _
            cases ec : evalTs (callF Γ.fns n) env1 conds s2.h with
            | exc e h => rw [ec] at er1; cases er1
            | stuck => rw [ec] at er1; cases er1
            | ok k h3 =>
              rw [ec] at er1
              rintro s3 k' l3 eh3 hr3 rfl
              subst eh3
              have l23 := l2.trans l3
              have hB3 : s3.B D ∧ s3.H D = some (.lst acc) := by
                obtain ⟨b1, b2⟩ := l23.fr D hB
                exact ⟨b1, b2.trans hDa⟩
              cases k' with
              | false =>
                simp only [R.bind_ok, Bool.false_eq_true, if_false] at er1 ⊢
                exact ⟨by omega, s3, acc, accT, rest, rfl, hr3, l'.trans l23, hB3.1, hB3.2, ra.keep l23.kf, by omega, er1, er2⟩
              | true =>
                simp only [R.bind_ok, if_true] at er1 ⊢
                refine ⟨env1, s3, rfl, hr3, er'.le l3, trivial, ?_⟩
                show PR X.K I (fun _ _ _ _ => False) s3 σ1 ((evalE (callF Γ.fns n) env1 a s3.h).bind unP) _ _
                cases ev : (evalE (callF Γ.fns n) env1 a s3.h).bind unP with
                | exc e h => rw [ev] at er1; cases er1
                | stuck => rw [ev] at er1; cases er1
                | ok y h4 =>
                  rw [ev] at er1
                  simp only [R.bind_ok] at er1
                  intro s4 z l4 eh4 hr4 rz
                  subst eh4
                  have hB4 : s4.B D ∧ s4.H D = some (.lst acc) := by
                    obtain ⟨b1, b2⟩ := l4.fr D hB3.1
                    exact ⟨b1, b2.trans hB3.2⟩
                  have l24 := l23.trans l4
                  cases er3 : compL (fun e h => (evalE (callF Γ.fns n) e a h).bind unP) (fun e h => evalTs (callF Γ.fns n) e conds h) (fun x e => bindT t x e) (wipeE env (snds own)) (items.drop (i + 1)) s4.h with
                  | exc e h => rw [er3] at er1; cases er1
                  | stuck => rw [er3] at er1; cases er1
                  | ok rest2 h5 =>
                    rw [er3] at er1
                    cases er1
                    refine ⟨acc, hB4.2, by omega, by omega, s4.wr D (acc ++ [z]), acc ++ [z], accT ++ [y], rest2, rfl, hr4.wr hB4.1 hB4.2, wr_le (l'.trans l24) hD0 hr, hB4.1, upd_same, ?_, by simp; omega, er3, by rw [List.append_assoc]; exact er2⟩
                    exact ((ra.keep l24.kf).append (.cons rz .nil)).keep (wr_keep hr4 hB4.1 hB4.2)
    · rw [e2] at pr
      exact False.elim pr
  · rw [if_neg hz] at pr
    exact False.elim pr
theorem dn_comp {iter elt : Expr} {ifs : List Expr} {scope : Scope} {own : List (Str × Nat)} {conds : List Te} (hi : DI Γ N sc tg iter src) (ok : BlkOk N sc.s scope own) (ht : DG Γ N (blkS sc scope) tg t) (hc : DTs Γ N (blkS sc scope) ifs conds) (he : DV Γ N (blkS sc scope) elt a)
    (hsub : ∀ k, k ∈ tgSlots t → k ∈ snds own) (hs : ∀ env x, foldedSetIterable iter env x = pure x := by intro _ _; rfl) : DN Γ N sc (.ListComp elt [⟨tg, iter, ifs, 0⟩] scope pos) (.comp (snds own) t src conds a) := fun n I W X g =>
  (pe_lc (own := own) (wi := tE X.K I W (fun env h => evalSrc (callF Γ.fns n) env src h) (JR X.K I.ci)) (g := tG X.K I.ci t) (tt := tE X.K I (fun _ _ _ _ => False) (fun env h => evalTs (callF Γ.fns n) env conds h) (fun _ a x => x = a))
    (te := tE X.K I (fun _ _ _ _ => False) (fun env h => (evalE (callF Γ.fns n) env a h).bind unP) (PRl X.K)) g.calm (by rw [g.hN]; exact g.nd) (hi n I W X g) (by rw [g.hN, g.sc]; exact ok)
    (fun s H C cl fp => ht n I _ _ (g.blk scope s H C cl fp)) (fun s H C cl fp => hc n I _ _ (g.blk scope s H C cl fp)) (fun s H C cl fp => he n I _ _ (g.blk scope s H C cl fp)) (hs _)).imp fun σ H Q q => lc_imp hsub q
end
end Cd
set_option Elab.async false
set_option linter.all false
set_option maxRecDepth 100000
set_option maxHeartbeats 4000000
namespace Cd
open PySem PySem.Spec PyProof.Rows L2
/-! ### statements -/
def PSt (K : PySem.W.Frag) (I : Inf) (W : WX) (D : Ends) (s : Sx) (r : RS) : Prop := match r with
  | .ok .nx env' h' => ∀ s' σ', Le s s' → s'.h = h' → HR K I.ci s' → ER K s' env' σ' → D.nx σ' s'.H
  | .ok .bk env' h' => ∀ s' σ', Le s s' → s'.h = h' → HR K I.ci s' → ER K s' env' σ' → D.bk σ' s'.H
  | .ok .ct env' h' => ∀ s' σ', Le s s' → s'.h = h' → HR K I.ci s' → ER K s' env' σ' → D.ct σ' s'.H
  | .ok (.rt v) _ h' => ∀ s' x, Le s s' → s'.h = h' → HR K I.ci s' → VR K s' v x → D.rt x s'.H
  | .exc e env' h' => ∀ s' σ' cls d, Le s s' → s'.h = h' → HR K I.ci s' → ER K s' env' σ' → XR K I s' e cls d → W cls d σ' s'.H
  | .stuck => False
theorem PSt.le {K : PySem.W.Frag} {I : Inf} {W : WX} {D : Ends} {s s1 : Sx} {r : RS} (h : PSt K I W D s r) (l : Le s s1) : PSt K I W D s1 r := by
  cases r with
  | ok f env h' => cases f <;> exact fun s' x l' => h s' x (l.trans l')
  | exc e env h' => exact fun s' σ' c d l' => h s' σ' c d (l.trans l')
  | stuck => exact h
def AtS (K : PySem.W.Frag) (I : Inf) (W : WX) (D : Ends) (σ : L2.St) (H : Hp) (G : Sx → Prop) (r : Ev → Hi → RS) : Prop :=
  ∃ env s, s.H = H ∧ HR K I.ci s ∧ ER K s env σ ∧ G s ∧ PSt K I W D s (r env s.h)
def tS (K : PySem.W.Frag) (I : Inf) (W : WX) (r : Ev → Hi → RS) : TS := fun D σ H => AtS K I W D σ H (fun _ => True) r
theorem AtS.bind {α β : Type} {K : PySem.W.Frag} {I : Inf} {W : WX} {D : Ends} {σ : L2.St} {H : Hp} {G G' : Sx → Prop} {ev1 : Ev → Hi → R α} {k : α → Ev → Hi → RS} {Rel1 : Sx → α → β → Prop}
    (h : AtS K I W D σ H G (fun env h => (ev1 env h).toS env fun a h1 => k a env h1)) (mono : ∀ s s', Le s s' → G s → G' s' := by intro _ _ _ g; exact g) :
    tE K I W ev1 Rel1 σ H (fun x H1 => ∃ a, AtS K I W D σ H1 (fun s => G' s ∧ Rel1 s a x) (k a)) := by
  obtain ⟨env, s, eH, hr, er, g, pr⟩ := h
  refine ⟨env, s, eH, hr, er, trivial, ?_⟩
  replace pr : PSt K I W D s ((ev1 env s.h).toS env fun a h1 => k a env h1) := pr
  generalize ev1 env s.h = r at pr ⊢
  cases r with
  | ok a h1 =>
    intro s' x l eh hr' rel
    subst eh
    exact ⟨a, env, s', rfl, hr', er.le l, ⟨mono s s' l g, rel⟩, PSt.le (r := k a env s'.h) pr l⟩
  | exc e h1 => exact fun s' cls d l eh hr' xr => pr s' σ cls d l eh hr' (er.le l) xr
  | stuck => exact pr
def DS (Γ : Gm) (N : List Str) (sc : Sco) (e : Stmt) (a : S) : Prop :=
  ∀ n I W X, GX Γ n I N sc W X → PS X e (tS X.K I W (fun env h => evalS (callF Γ.fns n) a env h))
def DSs (Γ : Gm) (N : List Str) (sc : Sco) (e : List Stmt) (a : List S) : Prop :=
  ∀ n I W X, GX Γ n I N sc W X → PSs X e (tS X.K I W (fun env h => evalSs (callF Γ.fns n) a env h))
section
variable {Γ : Gm} {N : List Str} {sc : Sco} {e tg ea eb ec : Expr} {a b c : E} {ta : Te} {o : O2} {pos p p2 : Pos} {es : List Expr} {as : List E} {i j : Nat} {x y f : Str} {t : Tg} {src : Src} {st : Stmt} {sts sus : List Stmt} {sa : S} {ss us : List S}
theorem dss_nil : DSs Γ N sc [] [] := fun n I W X g => pss_nil.imp fun D σ H ⟨env, s, eH, hr, er, _, pr⟩ => by
  subst eH
  exact pr s σ (.refl s) rfl hr er
theorem dss_cons (h : DS Γ N sc st sa) (hs : DSs Γ N sc sts ss) : DSs Γ N sc (st :: sts) (sa :: ss) := fun n I W X g => (pss_cons (h n I W X g) (hs n I W X g)).imp fun D σ H ⟨env, s, eH, hr, er, _, pr⟩ => by
  refine ⟨env, s, eH, hr, er, trivial, ?_⟩
  replace pr : PSt X.K I W D s ((evalS (callF Γ.fns n) sa env s.h).bind (evalSs (callF Γ.fns n) ss)) := pr
  show PSt X.K I W _ s (evalS (callF Γ.fns n) sa env s.h)
  generalize evalS (callF Γ.fns n) sa env s.h = r at pr ⊢
  cases r with
  | ok fl env1 h1 =>
    cases fl with
    | nx =>
      intro s' σ' l eh hr' er'
      subst eh
      exact ⟨env1, s', rfl, hr', er', trivial, PSt.le (r := evalSs (callF Γ.fns n) ss env1 s'.h) pr l⟩
    | bk => exact pr
    | ct => exact pr
    | rt v => exact pr
  | exc e env1 h1 => exact pr
  | stuck => exact pr
/-- a docstring, a pass -/
theorem ds_pass : DS Γ N sc (.Pass pos) .pass := fun n I W X g => ps_pass.imp fun D σ H ⟨env, s, eH, hr, er, _, pr⟩ => by
  subst eH
  exact pr s σ (.refl s) rfl hr er
theorem ds_brk : DS Γ N sc (.Break pos) .brk := fun n I W X g => ps_break.imp fun D σ H ⟨env, s, eH, hr, er, _, pr⟩ => by
  subst eH
  exact pr s σ (.refl s) rfl hr er
theorem ds_cont : DS Γ N sc (.Continue pos) .cont := fun n I W X g => ps_continue.imp fun D σ H ⟨env, s, eH, hr, er, _, pr⟩ => by
  subst eH
  exact pr s σ (.refl s) rfl hr er
theorem ds_expr (ha : DE Γ N sc ea a) (hs : ∀ env, swapsWith ea none pos.line env = pure false := by intro _; rfl) : DS Γ N sc (.Expr ea pos) (.expr a) := fun n I W X g => (ps_expr (ha n I W X g) (hs _)).imp fun D σ H q => by
  obtain ⟨env, s, eH, hr, er, _, pr⟩ := AtS.bind (Rel1 := VR X.K) (k := fun _ env h1 => .ok .nx env h1) q
  refine ⟨env, s, eH, hr, er, trivial, PR.mono pr fun x H1 ⟨v, env, s, e, hr, er, _, pr⟩ => ?_⟩
  subst e
  exact pr s σ (.refl s) rfl hr er
theorem ds_ret (ha : DE Γ N sc ea a) : DS Γ N sc (.Return (some ea) pos) (.ret a) := fun n I W X g => (ps_ret (ha n I W X g)).imp fun D σ H q => by
  obtain ⟨env, s, eH, hr, er, _, pr⟩ := AtS.bind (Rel1 := VR X.K) (k := fun v env h1 => .ok (.rt v) env h1) q
  refine ⟨env, s, eH, hr, er, trivial, PR.mono pr fun x H1 ⟨v, env, s, e, hr, er, ⟨_, r⟩, pr⟩ => ?_⟩
  subst e
  exact pr s x (.refl s) rfl hr r
theorem ds_set (v : TOk N sc i x) (ha : DE Γ N sc ea a) (hs : ∀ env, swapsWith ea (some (.Name x p)) pos.line env = pure false := by intro _; rfl) : DS Γ N sc (.Assign [.Name x p] ea pos) (.set i a) := fun n I W X g =>
  (ps_set (i := i) (by rw [g.hN]; exact g.nd) (by rw [g.hN]; exact v.hN) (by rw [g.sc]; exact v.loc) (ha n I W X g) (hs _) (by rw [g.fnc, g.sc]; exact v.fn)).imp fun D σ H q => by
    obtain ⟨env, s, eH, hr, er, _, pr⟩ := AtS.bind (Rel1 := VR X.K) (k := fun v env h1 => .ok .nx (setSlot env i (some v)) h1) q
    refine ⟨env, s, eH, hr, er, trivial, PR.mono pr fun x H1 ⟨v, env, s, e, hr, er, ⟨_, r⟩, pr⟩ => ?_⟩
    subst e
    exact pr s _ (.refl s) rfl hr (er.set r)
/-- a list of the heap that is new -/
def Sx.mkL (s : Sx) (a : Addr) (ts : List PyData) : Sx := { s with h := s.h ++ [.lst ts], φ := fun m k => if m = s.h.length then a else s.φ m k }
theorem get_app {h : Hi} {o : Ob} {m : Nat} {u : Ob} (e : (h ++ [o])[m]? = some u) : (m < h.length ∧ h[m]? = some u) ∨ (m = h.length ∧ u = o) := by
  by_cases l : m < h.length
  · rw [List.getElem?_append_left l] at e
    exact .inl ⟨l, e⟩
  · rw [List.getElem?_append_right (by omega)] at e
    have e0 : m - h.length = 0 := by
      by_cases z : m - h.length = 0
      · exact z
      · rw [List.getElem?_eq_none (by simp; omega)] at e; cases e
    rw [e0] at e
    simp at e
    exact .inr ⟨by omega, e.symm⟩
theorem live_app {h : Hi} {ts : List PyData} {m k : Nat} (l : Live (h ++ [.lst ts]) m k) : (m < h.length ∧ Live h m k) ∨ (m = h.length ∧ k = 0) := by
  cases k with
  | zero =>
    obtain ⟨o, e, nd⟩ := l
    rcases get_app e with ⟨h1, h2⟩ | ⟨h1, h2⟩
    · exact .inl ⟨h1, o, h2, nd⟩
    · exact .inr ⟨h1, rfl⟩
  | succ k =>
    rcases l with ⟨c, fs, us, e, ef⟩ | ⟨kvs, q, us, e, ef⟩
    · rcases get_app e with ⟨h1, h2⟩ | ⟨h1, h2⟩
      · exact .inl ⟨h1, .inl ⟨c, fs, us, h2, ef⟩⟩
      · cases h2
    · rcases get_app e with ⟨h1, h2⟩ | ⟨h1, h2⟩
      · exact .inl ⟨h1, .inr ⟨kvs, q, us, h2, ef⟩⟩
      · cases h2
theorem live_lt {h : Hi} {m k : Nat} (l : Live h m k) : m < h.length := by
  cases k with
  | zero => obtain ⟨o, e, _⟩ := l; exact (List.getElem?_eq_some_iff.mp e).1
  | succ k =>
    rcases l with ⟨c, fs, us, e, ef⟩ | ⟨kvs, q, us, e, ef⟩
    all_goals exact (List.getElem?_eq_some_iff.mp e).1
theorem HR.mkL {K : PySem.W.Frag} {CI : CInf} {s : Sx} {a : Addr} {ts : List PyData} {xs : List V} (hr : HR K CI s) (ha : s.H a = some (.lst xs)) (r : RFs K s.F s.H ts xs) (nf : ¬ s.F a) (nl : NotLive s a) (nb : ¬ s.B a) : HR K CI (s.mkL a ts) where
  ob := fun m u e => by
    rcases get_app e with ⟨h1, h2⟩ | ⟨h1, h2⟩
    · exact (hr.ob m u h2).move (s' := s.mkL a ts) .refl h2 fun j l => ⟨if_neg (Nat.ne_of_lt h1), fun w e => e⟩
    · subst h1; subst h2
      refine ⟨xs, ?_, r⟩
      show s.H (if s.h.length = s.h.length then a else s.φ s.h.length 0) = some (.lst xs)
      rw [if_pos rfl]; exact ha
  inj := fun m j q k l1 l2 e => by
    have e' : (if m = s.h.length then a else s.φ m j) = (if q = s.h.length then a else s.φ q k) := e
    rcases live_app l1 with ⟨h1, h2⟩ | ⟨h1, h2⟩ <;> rcases live_app l2 with ⟨h3, h4⟩ | ⟨h3, h4⟩
    · rw [if_neg (Nat.ne_of_lt h1), if_neg (Nat.ne_of_lt h3)] at e'
      exact hr.inj _ _ _ _ h2 h4 e'
    · rw [if_neg (Nat.ne_of_lt h1), if_pos h3] at e'
      exact absurd e' (nl _ _ h2)
    · rw [if_pos h1, if_neg (Nat.ne_of_lt h3)] at e'
      exact absurd e'.symm (nl _ _ h4)
    · exact ⟨h1.trans h3.symm, h2.trans h4.symm⟩
  nf := fun m j l => by
    show ¬ s.F (if m = s.h.length then a else s.φ m j)
    rcases live_app l with ⟨h1, h2⟩ | ⟨h1, h2⟩
    · rw [if_neg (Nat.ne_of_lt h1)]; exact hr.nf _ _ h2
    · rw [if_pos h1]; exact nf
  bt := fun b hb => by
    obtain ⟨h1, h2, h3⟩ := hr.bt b hb
    refine ⟨fun m j l => ?_, h2, h3⟩
    show (if m = s.h.length then a else s.φ m j) ≠ b
    rcases live_app l with ⟨k1, k2⟩ | ⟨k1, k2⟩
    · rw [if_neg (Nat.ne_of_lt k1)]; exact h1 _ _ k2
    · rw [if_pos k1]; rintro rfl; exact nb hb
  ft := hr.ft
theorem mkL_le {s : Sx} {a : Addr} {ts : List PyData} : Le s (s.mkL a ts) := ⟨by show s.h.length ≤ (s.h ++ [_]).length; simp, fun n h => if_neg (Nat.ne_of_lt h), .refl, fun _ h => ⟨h, rfl⟩⟩
/-- a new list gets a place of its own -/
theorem mk_imp {K : PySem.W.Frag} {I : Inf} {W : WX} {ev : Ev → Hi → R PyData} {σ : L2.St} {H : Hp} {Q : VK} (q : tE K I W (fun env h => (ev env h).bind mkK) (VR K) σ H Q) : tE K I W ev (RN K) σ H Q := by
  obtain ⟨env, s, eH, hr, er, _, pr⟩ := q
  refine ⟨env, s, eH, hr, er, trivial, ?_⟩
  replace pr : PR K I W s σ ((ev env s.h).bind mkK) (VR K) Q := pr
  generalize ev env s.h = r at pr ⊢
  cases r with
  | ok d h1 =>
    rintro s' x l eh hr' ⟨ts, p, xs, rfl, rfl, hp, q, nf, nl, nb⟩
    subst eh
    exact pr (s'.mkL p ts) _ (l.trans mkL_le) rfl (hr'.mkL hp q nf nl nb) ⟨by show s'.h.length < (s'.h ++ [_]).length; simp, by show _ = V.ref (if s'.h.length = s'.h.length then p else _); rw [if_pos rfl]⟩
  | exc e h1 => exact pr
  | stuck => exact pr
theorem fz_imp {K : PySem.W.Frag} {I : Inf} {W : WX} {ev : Ev → Hi → R PyData} {σ : L2.St} {H : Hp} {Q : VK} (q : tE K I W ev (PRl K) σ H Q) : tE K I W ev (RN K) σ H Q := by
  obtain ⟨env, s, eH, hr, er, _, pr⟩ := q
  refine ⟨env, s, eH, hr, er, trivial, ?_⟩
  replace pr : PR K I W s σ (ev env s.h) (PRl K) Q := pr
  generalize ev env s.h = r at pr ⊢
  cases r with
  | ok d h1 =>
    rintro s' x l eh hr' ⟨ts, p, xs, rfl, rfl, hp, q, nf, nl, nb⟩
    exact pr (s'.fz p) _ (l.trans fz_le) eh (hr'.fz ⟨_, hp⟩ nl nb) (.lst (.inl ⟨.inr rfl, Rd.of hp⟩) (q.keep fz_keep))
  | exc e h1 => exact pr
  | stuck => exact pr
theorem de_mk (ha : DN Γ N sc ea a) : DE Γ N sc ea (.mk a) := fun n I W X g => (ha n I W X g).imp fun σ H Q q => mk_imp (ev := fun env h => (evalE (callF Γ.fns n) env a h).bind unP) q
/-- a name gets a comprehension's list, in one line -/
structure SwOk (N : List Str) (sc : Sco) (i : Nat) (y : Str) (scope : Scope) (pos py : Pos) (l : Nat) : Prop where
  hN : N[i]? = some y
  kind : sc.s.kind = .function
  loc : sc.s.names.lookup y = some .local
  line : (py.line == pos.line) = true
  same : l = py.line
  own : (scope.names.any fun (n, k) => n == y && (k == .local || k == .cell)) = false
section
variable {iter elt : Expr} {ifs : List Expr} {scope : Scope} {own : List (Str × Nat)} {conds : List Te} {py : Pos}
theorem ps_comp {n : Nat} {I : Inf} {W : WX} {X : Cx} (g : GX Γ n I N sc W X) (w : SwOk N sc i y scope pos py p.line) (hi : DI Γ N sc tg iter src) (ok : BlkOk N sc.s scope own) (ht : DG Γ N (blkS sc scope) tg t) (hc : DTs Γ N (blkS sc scope) ifs conds) (he : DV Γ N (blkS sc scope) elt a)
    (hsub : ∀ k, k ∈ tgSlots t → k ∈ snds own) (hs : ∀ env x, foldedSetIterable iter env x = pure x) : PS X (.Assign [.Name y py] (.ListComp elt [⟨tg, iter, ifs, 0⟩] scope pos) p) (fun D σ H => tE X.K I W (fun env h => (evalE (callF Γ.fns n) env (.comp (snds own) t src conds a) h).bind unP) (RN X.K) σ H fun x H1 => D.nx (σ.set i (some x)) H1) :=
  (ps_setLc (i := i) (own := own) (wi := tE X.K I W (fun env h => evalSrc (callF Γ.fns n) env src h) (JR X.K I.ci)) (g := tG X.K I.ci t) (tt := tE X.K I (fun _ _ _ _ => False) (fun env h => evalTs (callF Γ.fns n) env conds h) (fun _ a x => x = a))
    (te := tE X.K I (fun _ _ _ _ => False) (fun env h => (evalE (callF Γ.fns n) env a h).bind unP) (PRl X.K)) g.calm (by rw [g.hN]; exact g.nd) (by rw [g.hN]; exact w.hN) (by rw [g.sc]; exact w.loc)
    (sw_true (by rw [g.sc]; exact w.kind) (by rw [g.sc]; exact w.loc) w.line w.own) (hi n I W X g) (by rw [g.hN, g.sc]; exact ok)
    (fun s H C cl fp => ht n I _ _ (g.blk scope s H C cl fp)) (fun s H C cl fp => hc n I _ _ (g.blk scope s H C cl fp)) (fun s H C cl fp => he n I _ _ (g.blk scope s H C cl fp)) (hs _)).imp fun D σ H q => lc_imp hsub q
theorem ds_comp (w : SwOk N sc i y scope pos py p.line) (hi : DI Γ N sc tg iter src) (ok : BlkOk N sc.s scope own) (ht : DG Γ N (blkS sc scope) tg t) (hc : DTs Γ N (blkS sc scope) ifs conds) (he : DV Γ N (blkS sc scope) elt a)
    (hsub : ∀ k, k ∈ tgSlots t → k ∈ snds own) (hs : ∀ env x, foldedSetIterable iter env x = pure x := by intro _ _; rfl) : DS Γ N sc (.Assign [.Name y py] (.ListComp elt [⟨tg, iter, ifs, 0⟩] scope pos) p) (.set i (.comp (snds own) t src conds a)) := fun n I W X g =>
  (ps_comp g w hi ok ht hc he hsub hs).imp fun D σ H q => fz_imp (by
    have q' : AtS X.K I W D σ H (fun _ => True) (fun env h => ((evalE (callF Γ.fns n) env (.comp (snds own) t src conds a) h).bind unP).toS env fun d h1 => .ok .nx (setSlot env i (some (.p d))) h1) := by
      obtain ⟨env, s, eH, hr, er, _, pr⟩ := q
      refine ⟨env, s, eH, hr, er, trivial, ?_⟩
      replace pr : PSt X.K I W D s ((evalE (callF Γ.fns n) env (.comp (snds own) t src conds a) s.h).toS env fun v h1 => .ok .nx (setSlot env i (some v)) h1) := pr
      show PSt X.K I W D s (((evalE (callF Γ.fns n) env (.comp (snds own) t src conds a) s.h).bind unP).toS env fun d h1 => .ok .nx (setSlot env i (some (.p d))) h1)
      have hcc : ∀ r : R (List PyData), (compK r = .stuck) ∨ ∃ d h, compK r = .ok (.p d) h := by
        intro r
        cases r with
        | ok ys h => exact .inr ⟨_, _, rfl⟩
        | exc e h => exact .inl rfl
        | stuck => exact .inl rfl
      have hc2 : ∀ (run : List PyData → Hi → R (List PyData)) (items : List PyData) (h : Hi), (compK2 run items h = .stuck) ∨ ∃ d h', compK2 run items h = .ok (.p d) h' := by
        intro run items h
        unfold compK2
        split
        · exact hcc _
        · exact .inl rfl
      unfold evalE at pr ⊢
      generalize evalSrc (callF Γ.fns n) env src s.h = r at pr ⊢
      cases r with
      | ok items h1 =>
        simp only [R.bind_ok] at pr ⊢
        rcases hc2 (compL (fun e h => (evalE (callF Γ.fns n) e a h).bind unP) (fun e h => evalTs (callF Γ.fns n) e conds h) (fun x e => bindT t x e) (wipeE env (snds own))) items h1 with e | ⟨d, h2, e⟩
        · rw [e] at pr ⊢; exact pr
        · rw [e] at pr ⊢; exact pr
      | exc e h1 => exact pr
      | stuck => exact pr
    obtain ⟨env, s, eH, hr, er, _, pr⟩ := AtS.bind (Rel1 := PRl X.K) (k := fun d env h1 => .ok .nx (setSlot env i (some (.p d))) h1) q'
    refine ⟨env, s, eH, hr, er, trivial, PR.mono pr fun x H1 ⟨v, env, s, e, hr, er, ⟨_, r⟩, pr⟩ => ?_⟩
    subst e
    exact pr s _ (.refl s) rfl hr (er.set (v := .p v) r))
theorem ds_compM (w : SwOk N sc i y scope pos py p.line) (hi : DI Γ N sc tg iter src) (ok : BlkOk N sc.s scope own) (ht : DG Γ N (blkS sc scope) tg t) (hc : DTs Γ N (blkS sc scope) ifs conds) (he : DV Γ N (blkS sc scope) elt a)
    (hsub : ∀ k, k ∈ tgSlots t → k ∈ snds own) (hs : ∀ env x, foldedSetIterable iter env x = pure x := by intro _ _; rfl) : DS Γ N sc (.Assign [.Name y py] (.ListComp elt [⟨tg, iter, ifs, 0⟩] scope pos) p) (.set i (.mk (.comp (snds own) t src conds a))) := fun n I W X g =>
  (ps_comp g w hi ok ht hc he hsub hs).imp fun D σ H q => mk_imp (ev := fun env h => (evalE (callF Γ.fns n) env (.comp (snds own) t src conds a) h).bind unP) (by
    obtain ⟨env, s, eH, hr, er, _, pr⟩ := AtS.bind (Rel1 := VR X.K) (ev1 := fun env h => evalE (callF Γ.fns n) env (.mk (.comp (snds own) t src conds a)) h) (k := fun v env h1 => .ok .nx (setSlot env i (some v)) h1) q
    refine ⟨env, s, eH, hr, er, trivial, PR.mono pr fun x H1 ⟨v, env, s, e, hr, er, ⟨_, r⟩, pr⟩ => ?_⟩
    subst e
    exact pr s _ (.refl s) rfl hr (er.set r))
end
theorem ds_unpack (ht : DG Γ N sc tg t) (ha : DV Γ N sc ea a) (hs : ∀ env, swapsWithSole [tg] ea pos.line env = pure false := by intro _; rfl) (hw : ∀ n I W X, GX Γ n I N sc W X → swappedStores [tg] ea X.env = pure none := by intro _ _ _ _ _; rfl)
    (h1 : ∀ env, (assignEach [tg] env).map (·.2) = [assign tg env] := by intro _; rfl) : DS Γ N sc (.Assign [tg] ea pos) (.unpack t a) := fun n I W X g => (ps_asg (ha n I W X g) (ht n I W X g) (hs _) (hw n I W X g) (h1 _)).imp fun D σ H q => by
  obtain ⟨env, s, eH, hr, er, _, pr⟩ := AtS.bind (Rel1 := PRl X.K) (k := fun d env h1 => match bindT t d env with
    | some env1 => .ok .nx env1 h1
    | none => .stuck) q
  refine ⟨env, s, eH, hr, er, trivial, PR.mono pr fun x H1 ⟨d, env, s, e, hr, er, ⟨_, r⟩, pr⟩ => ?_⟩
  subst e
  replace pr : PSt X.K I W D s (match bindT t d env with
    | some env1 => .ok .nx env1 s.h
    | none => .stuck) := pr
  cases eb : bindT t d env with
  | none => rw [eb] at pr; exact False.elim pr
  | some env1 =>
    rw [eb] at pr
    exact ⟨env, s, d, env1, rfl, hr, er, r, eb, fun σ1 er1 _ => pr s σ1 (.refl s) rfl hr er1⟩
theorem ds_if (hc : DT Γ N sc ec ta) (ha : DSs Γ N sc sts ss) (hb : DSs Γ N sc sus us) : DS Γ N sc (.If ec sts sus pos) (.if_ ta ss us) := fun n I W X g => (ps_if (hc n I W X g) (ha n I W X g) (hb n I W X g)).imp fun D σ H q => by
  obtain ⟨env, s, eH, hr, er, _, pr⟩ := AtS.bind (Rel1 := fun _ (a x : Bool) => x = a) (ev1 := fun env h => evalT (callF Γ.fns n) env ta h) (k := fun (k : Bool) env h1 => if k = true then evalSs (callF Γ.fns n) ss env h1 else evalSs (callF Γ.fns n) us env h1) q
  refine ⟨env, s, eH, hr, er, trivial, PR.mono pr fun k H1 ⟨k', env, s, e, hr, er, ⟨_, r⟩, pr⟩ => ?_⟩
  subst e
  subst r
  cases k with
  | true => exact ⟨env, s, rfl, hr, er, trivial, pr⟩
  | false => exact ⟨env, s, rfl, hr, er, trivial, pr⟩
theorem ds_for (hi : DI Γ N sc tg ea src) (ht : DG Γ N sc tg t) (hb : DSs Γ N sc sts ss) (hs : ∀ env x, foldedSetIterable ea env x = pure x := by intro _ _; rfl) : DS Γ N sc (.For tg ea sts [] pos) (.for_ t src ss) := fun n I W X g =>
  (ps_for g.pass g.calm (hi n I W X g) (ht n I W X g) (hb n I W X g) (hs _)).imp fun D σ H q => by
    obtain ⟨env, s, eH, hr, er, _, pr⟩ := AtS.bind (Rel1 := JR X.K I.ci) (k := fun items env h1 => forL (evalSs (callF Γ.fns n) ss) (bindT t) items env h1) q
    refine ⟨env, s, eH, hr, er, trivial, PR.mono pr fun J H1 ⟨items, env, s, e, hr, er, ⟨_, jr⟩, pr⟩ => ?_⟩
    subst e
    refine ⟨fun i m σ' H' => i ≤ items.length ∧ m = items.length - i ∧ ∃ env' s', s'.H = H' ∧ HR X.K I.ci s' ∧ ER X.K s' env' σ' ∧ Le s s' ∧ PSt X.K I W D s' (forL (evalSs (callF Γ.fns n) ss) (bindT t) (items.drop i) env' s'.h),
      ⟨_, Nat.zero_le _, rfl, env, s, rfl, hr, er, .refl s, by rw [List.drop_zero]; exact pr⟩, ?_⟩
    rintro i m σ' H' ⟨hi, rfl, env', s', rfl, hr', er', l', pr'⟩
    by_cases hin : i = items.length
    · left
      refine ⟨(jr s' l' hr' i).2.1 hin, ?_⟩
      rw [hin, List.drop_length] at pr'
      exact pr' s' _ (.refl _) rfl hr' er'
    · right
      have hlt : i < items.length := by omega
      refine ⟨(jr s' l' hr' i).1 hlt, fun σ2 H2 => i + 1 ≤ items.length ∧ ∃ env2 s2, s2.H = H2 ∧ HR X.K I.ci s2 ∧ ER X.K s2 env2 σ2 ∧ Le s s2 ∧ PSt X.K I W D s2 (forL (evalSs (callF Γ.fns n) ss) (bindT t) (items.drop (i + 1)) env2 s2.h),
        fun σ2 H2 ⟨h1, h2⟩ => ⟨items.length - (i + 1), by omega, h1, rfl, h2⟩, fun x H2 hy => ?_⟩
      obtain ⟨d, s2, ed, e2, l2, eh2, hr2, rd⟩ := (jr s' l' hr' i).2.2 x H2 hlt hy
      subst e2
      have edr : items.drop i = d :: items.drop (i + 1) := by
        obtain ⟨h, e⟩ := List.getElem?_eq_some_iff.mp ed
        rw [List.drop_eq_getElem_cons h, e]
      rw [edr] at pr'
      unfold forL at pr'
      cases eb : bindT t d env' with
      | none => simp only [eb] at pr'; exact False.elim pr'
      | some env1 =>
        simp only [eb] at pr'
        refine ⟨env', s2, d, env1, rfl, hr2, er'.le l2, rd, eb, fun σ1 er1 _ => ⟨env1, s2, rfl, hr2, er1, trivial, ?_⟩⟩
        show PSt X.K I W _ s2 (evalSs (callF Γ.fns n) ss env1 s2.h)
        rw [← eh2] at pr'
        generalize evalSs (callF Γ.fns n) ss env1 s2.h = r at pr' ⊢
        cases r with
        | ok fl env2 h2 =>
          cases fl with
          | nx =>
            intro s3 σ3 l3 eh3 hr3 er3
            subst eh3
            exact ⟨by omega, env2, s3, rfl, hr3, er3, l'.trans (l2.trans l3), PSt.le pr' (l2.trans l3)⟩
          | ct =>
            intro s3 σ3 l3 eh3 hr3 er3
            subst eh3
            exact ⟨by omega, env2, s3, rfl, hr3, er3, l'.trans (l2.trans l3), PSt.le pr' (l2.trans l3)⟩
          | bk => exact PSt.le (r := .ok .nx env2 h2) pr' l2
          | rt v => exact PSt.le (r := .ok (.rt v) env2 h2) pr' l2
        | exc e env2 h2 => exact PSt.le (r := .exc e env2 h2) pr' l2
        | stuck => exact pr'
theorem ds_while (hc : DT Γ N sc ec ta) (hb : DSs Γ N sc sts ss) : DS Γ N sc (.While ec sts [] pos) (.while_ ta ss) := fun n I W X g =>
  (ps_while g.pass (hc n I W X g) (hb n I W X g)).imp fun D σ H q => by
    obtain ⟨env, s, eH, hr, er, _, pr⟩ := q
    replace pr : PSt X.K I W D s (whileL (fun e h => evalT (callF Γ.fns n) e ta h) (evalSs (callF Γ.fns n) ss) wFuel env s.h) := pr
    refine ⟨fun m σ' H' => ∃ env' s', s'.H = H' ∧ HR X.K I.ci s' ∧ ER X.K s' env' σ' ∧ PSt X.K I W D s' (whileL (fun e h => evalT (callF Γ.fns n) e ta h) (evalSs (callF Γ.fns n) ss) m env' s'.h),
      ⟨wFuel, env, s, eH, hr, er, pr⟩, ?_⟩
    rintro m σ' H' ⟨env', s', rfl, hr', er', pr'⟩
    cases m with
    | zero => exact False.elim pr'
    | succ m =>
      have q' : AtS X.K I W D σ' s'.H (fun _ => True) (fun env h => (evalT (callF Γ.fns n) env ta h).toS env fun b h1 => if b then
        match evalSs (callF Γ.fns n) ss env h1 with
        | .ok .nx env2 h2 => whileL (fun e h => evalT (callF Γ.fns n) e ta h) (evalSs (callF Γ.fns n) ss) m env2 h2
        | .ok .ct env2 h2 => whileL (fun e h => evalT (callF Γ.fns n) e ta h) (evalSs (callF Γ.fns n) ss) m env2 h2
        | .ok .bk env2 h2 => .ok .nx env2 h2
        | .ok (.rt v) env2 h2 => .ok (.rt v) env2 h2
        | .exc e env2 h2 => .exc e env2 h2
        | .stuck => .stuck
        else .ok .nx env h1) := ⟨env', s', rfl, hr', er', trivial, by unfold whileL at pr'; exact pr'⟩
      obtain ⟨env1, s1, eH1, hr1, er1, _, pr1⟩ := AtS.bind (Rel1 := fun _ (a x : Bool) => x = a) q'
      refine ⟨env1, s1, eH1, hr1, er1, trivial, PR.mono pr1 fun k H1 ⟨k', env2, s2, e2, hr2, er2, ⟨_, r⟩, pr2⟩ => ?_⟩
      subst e2
      subst r
      cases k with
      | false => exact pr2 s2 σ' (.refl s2) rfl hr2 er2
      | true =>
        refine ⟨fun σ3 H3 => ∃ env' s', s'.H = H3 ∧ HR X.K I.ci s' ∧ ER X.K s' env' σ3 ∧ PSt X.K I W D s' (whileL (fun e h => evalT (callF Γ.fns n) e ta h) (evalSs (callF Γ.fns n) ss) m env' s'.h), fun σ3 H3 h => ⟨m, Nat.lt_succ_self m, h⟩, env2, s2, rfl, hr2, er2, trivial, ?_⟩
        show PSt X.K I W _ s2 (evalSs (callF Γ.fns n) ss env2 s2.h)
        simp only [if_true] at pr2
        generalize evalSs (callF Γ.fns n) ss env2 s2.h = r at pr2 ⊢
        cases r with
        | ok fl env3 h3 =>
          cases fl with
          | nx =>
            intro s3 σ3 l3 eh3 hr3 er3
            subst eh3
            exact ⟨env3, s3, rfl, hr3, er3, PSt.le pr2 l3⟩
          | ct =>
            intro s3 σ3 l3 eh3 hr3 er3
            subst eh3
            exact ⟨env3, s3, rfl, hr3, er3, PSt.le pr2 l3⟩
          | bk => exact pr2
          | rt v => exact pr2
        | exc e env3 h3 => exact pr2
        | stuck => exact pr2
end
end Cd
set_option Elab.async false
set_option linter.all false
set_option maxRecDepth 100000
set_option maxHeartbeats 4000000
namespace Cd
open PySem PySem.Spec PyProof.Rows L2
/-! ### an own list is written -/
section
variable {K : PySem.W.Frag} {CI : CInf} {s : Sx} {n j : Nat} {xs xs' : List V} {h' : Hi} {ob' : Ob}
theorem own_keep {H' : Hp} {a : Addr} {u : HO} (hr : HR K CI s) (hl : Live s.h n j) (ha : a = s.φ n j) (hx : s.H a = some u) (nt : ∀ ys, u ≠ .tup ys) (nz : ∀ o v, u ≠ .frz o v) (e : H' = upd s.H a ob) : KeepF s.F s.H s.F H' := by
  subst e
  refine ⟨fun _ h => h, fun b o f e => ?_, fun b ys e => ?_, fun b o v e => ?_⟩
  · rw [upd_ne]; exact e
    rintro rfl
    exact hr.nf n j hl (ha ▸ f)
  · rw [upd_ne]; exact e
    rintro rfl
    rw [hx] at e; cases e
    exact nt _ rfl
  · rw [upd_ne]; exact e
    rintro rfl
    rw [hx] at e; cases e
    exact nz _ _ rfl
/-- the same places, one of them written: the object n gets the form ob' -/
theorem HR.wrO {o : HO} {u : HO} (hr : HR K CI s) (hl : Live s.h n j) (hx : s.H (s.φ n j) = some u) (nt : ∀ ys, u ≠ .tup ys) (nz : ∀ o v, u ≠ .frz o v)
    (hlive : ∀ m k, Live h' m k → Live s.h m k) (hoth : ∀ m, m ≠ n → h'[m]? = s.h[m]?) (hn : ∀ w, h'[n]? = some w → w = ob') (hob : ObR K CI { s with h := h', H := upd s.H (s.φ n j) o } n ob') : HR K CI { s with h := h', H := upd s.H (s.φ n j) o } where
  ob := fun m w e => by
    by_cases hm : m = n
    · subst hm
      rw [hn w e]; exact hob
    · have e' : s.h[m]? = some w := by rw [← hoth m hm]; exact e
      refine (hr.ob m w e').move (s' := { s with h := h', H := upd s.H (s.φ n j) o }) (own_keep hr hl rfl hx nt nz rfl) e' fun k l => ⟨rfl, fun v q => ?_⟩
      show upd s.H (s.φ n j) o (s.φ m k) = some v
      rw [upd_ne]; exact q
      intro z
      exact hm (hr.inj _ _ _ _ l hl z).1
  inj := fun m a q b l1 l2 e => hr.inj m a q b (hlive _ _ l1) (hlive _ _ l2) e
  nf := fun m a l => hr.nf m a (hlive _ _ l)
  bt := fun b hb => by
    obtain ⟨h1, h2, w, h3⟩ := hr.bt b hb
    exact ⟨fun m a l => h1 m a (hlive _ _ l), h2, w, by show upd s.H (s.φ n j) o b = _; rw [upd_ne (fun e => h1 n j hl e.symm)]; exact h3⟩
  ft := fun b hb => by
    obtain ⟨w, h3⟩ := hr.ft b hb
    exact ⟨w, by show upd s.H (s.φ n j) o b = _; rw [upd_ne (fun e => by subst e; exact hr.nf n j hl hb)]; exact h3⟩
theorem wrO_le {o : HO} {u : HO} (hr : HR K CI s) (hl : Live s.h n j) (hx : s.H (s.φ n j) = some u) (nt : ∀ ys, u ≠ .tup ys) (nz : ∀ o v, u ≠ .frz o v) (hlen : h'.length = s.h.length) : Le s { s with h := h', H := upd s.H (s.φ n j) o } :=
  ⟨by show s.h.length ≤ h'.length; omega, fun _ _ => rfl, own_keep hr hl rfl hx nt nz rfl, fun b hb => ⟨hb, by show upd s.H (s.φ n j) o b = _; rw [upd_ne (fun e => (hr.bt b hb).1 n j hl e.symm)]⟩⟩
theorem get_set {h : Hi} {n m : Nat} {o w : Ob} (e : (h.set n o)[m]? = some w) : (m = n ∧ w = o) ∨ (m ≠ n ∧ h[m]? = some w) := by
  by_cases hm : m = n
  · subst hm
    have hl : m < h.length := by simpa using (List.getElem?_eq_some_iff.mp e).1
    rw [List.getElem?_set_self hl] at e
    exact .inl ⟨rfl, by cases e; rfl⟩
  · rw [List.getElem?_set_ne (Ne.symm hm)] at e
    exact .inr ⟨hm, e⟩
theorem live_set {h : Hi} {n m k : Nat} {o : Ob} (l : Live (h.set n o) m k) : (m ≠ n ∧ Live h m k) ∨ (m = n ∧ Live (List.replicate n .dead ++ [o]) n k) := by
  have rep : (List.replicate n Ob.dead ++ [o])[n]? = some o := by
    rw [List.getElem?_append_right (by simp)]; simp
  cases k with
  | zero =>
    obtain ⟨w, e, nd⟩ := l
    rcases get_set e with ⟨h1, h2⟩ | ⟨h1, h2⟩
    · subst h2; exact .inr ⟨h1, _, rep, nd⟩
    · exact .inl ⟨h1, w, h2, nd⟩
  | succ k =>
    rcases l with ⟨c, fs, us, e, ef⟩ | ⟨kvs, q, us, e, ef⟩
    · rcases get_set e with ⟨h1, h2⟩ | ⟨h1, h2⟩
      · subst h2; exact .inr ⟨h1, .inl ⟨c, fs, us, rep, ef⟩⟩
      · exact .inl ⟨h1, .inl ⟨c, fs, us, h2, ef⟩⟩
    · rcases get_set e with ⟨h1, h2⟩ | ⟨h1, h2⟩
      · subst h2; exact .inr ⟨h1, .inr ⟨kvs, q, us, rep, ef⟩⟩
      · exact .inl ⟨h1, .inr ⟨kvs, q, us, h2, ef⟩⟩
theorem rep_get {n : Nat} {o w : Ob} (e : (List.replicate n Ob.dead ++ [o])[n]? = some w) : w = o := by
  rw [List.getElem?_append_right (by simp)] at e
  simpa using e.symm
/-- where the list of p is, and that it may be written -/
structure OwnL (K : PySem.W.Frag) (CI : CInf) (s : Sx) (env : Ev) (p : E) (a : Addr) (ts : List PyData) : Prop where
  ex : ∃ xs, s.H a = some (.lst xs) ∧ RFs K s.F s.H ts xs
  wr : ∀ ts' xs' h', storeL env s.h p ts' = some h' → RFs K s.F s.H ts' xs' → ∃ s', s'.H = upd s.H a (.lst xs') ∧ s'.h = h' ∧ HR K CI s' ∧ Le s s'
theorem own_var {env : Ev} {i : Nat} {ts : List PyData} (hr : HR K CI s) (e : getL env s.h (.var i) = some ts) : ∃ n, slot env i = some (.ref n) ∧ s.h[n]? = some (.lst ts) ∧ OwnL K CI s env (.var i) (s.φ n 0) ts := by
  simp only [getL, peek] at e
  cases e1 : lstOf env s.h i with
  | none => rw [e1] at e; cases e
  | some q =>
    rw [e1] at e
    simp only [Option.map_some, Option.some.injEq] at e
    obtain ⟨h1, h2⟩ := lstOf_of e1
    rw [e] at h2
    refine ⟨q.1, h1, h2, ?_, fun ts' xs' h' es r => ?_⟩
    · obtain ⟨xs, h3, h4⟩ := hr.ob _ _ h2
      exact ⟨xs, h3, h4⟩
    · obtain ⟨xs, h3, h4⟩ := hr.ob _ _ h2
      have hl : Live s.h q.1 0 := ⟨_, h2, by intro z; cases z⟩
      have es' : (slotRef env i).map (fun n => s.h.set n (.lst ts')) = some h' := es
      have e3 : slotRef env i = some q.1 := by unfold slotRef; rw [h1]
      rw [e3] at es'
      cases es'
      have kp := own_keep (ob := .lst xs') hr hl rfl h3 (by intro _ z; cases z) (by intro _ _ z; cases z) rfl
      refine ⟨{ s with h := s.h.set q.1 (.lst ts'), H := upd s.H (s.φ q.1 0) (.lst xs') }, rfl, rfl, hr.wrO hl h3 (by intro _ z; cases z) (by intro _ _ z; cases z) (fun m k l => ?_) (fun m hm => ?_) (fun w e => ?_) (ob' := .lst ts') ⟨xs', upd_same, r.keep kp⟩, wrO_le hr hl h3 (by intro _ z; cases z) (by intro _ _ z; cases z) (by simp)⟩
      · rcases live_set l with ⟨_, z⟩ | ⟨rfl, z⟩
        · exact z
        · cases k with
          | zero => exact hl
          | succ k =>
            rcases z with ⟨c, fs, us, e, ef⟩ | ⟨kvs, q, us, e, ef⟩
            all_goals cases rep_get e
      · rw [List.getElem?_set_ne (Ne.symm hm)]
      · rcases get_set e with ⟨_, z⟩ | ⟨z, _⟩
        · exact z
        · exact absurd rfl z
theorem own_fld {env : Ev} {i j : Nat} {ts : List PyData} (hr : HR K CI s) (e : getL env s.h (.fld i j) = some ts) : ∃ q : Nat × Nat × List Fld, insOf env s.h i = some q ∧ q.2.2[j]? = some (.l ts) ∧ OwnL K CI s env (.fld i j) (s.φ q.1 (j + 1)) ts := by
  simp only [getL, peek] at e
  cases e1 : insOf env s.h i with
  | none => rw [e1] at e; cases e
  | some q =>
    rw [e1, Option.bind_some] at e
    cases e2 : q.2.2[j]? with
    | none => rw [e2] at e; cases e
    | some u =>
      cases u with
      | p d => rw [e2] at e; cases e
      | l us =>
        rw [e2] at e
        simp only [Option.some.injEq] at e
        subst e
        obtain ⟨h1, h2⟩ := insOf_of e1
        obtain ⟨C, nms, dx, es, ci, h3, h4, h5, h6⟩ := hr.ob _ _ h2
        obtain ⟨y, v, e3, e4, rfl, xs, h7, h8⟩ := h6 j _ e2
        refine ⟨q, rfl, e2, ⟨xs, h7, h8⟩, fun ts' xs' h' es' r => ?_⟩
        have hl : Live s.h q.1 (j + 1) := .inl ⟨_, _, _, h2, e2⟩
        have hl0 : Live s.h q.1 0 := ⟨_, h2, by intro z; cases z⟩
        have es2 : ((slotRef env i).bind fun n => (insAt s.h n).map fun q => s.h.set n (.ins q.1 (q.2.set j (.l ts')))) = some h' := es'
        have e5 : slotRef env i = some q.1 := by unfold slotRef; rw [h1]
        have e6 : insAt s.h q.1 = some q.2 := by unfold insAt; rw [h2]
        rw [e5, Option.bind_some, e6] at es2
        cases es2
        have kp := own_keep (ob := .lst xs') hr hl rfl h7 (by intro _ z; cases z) (by intro _ _ z; cases z) rfl
        have ne : ∀ k, k ≠ j + 1 → Live s.h q.1 k → s.φ q.1 k ≠ s.φ q.1 (j + 1) := fun k hk l z => hk (hr.inj _ _ _ _ l hl z).2
        have jl : j < q.2.2.length := (List.getElem?_eq_some_iff.mp e2).1
        refine ⟨{ s with h := s.h.set q.1 (.ins q.2.1 (q.2.2.set j (.l ts'))), H := upd s.H (s.φ q.1 (j + 1)) (.lst xs') }, rfl, rfl, hr.wrO hl h7 (by intro _ z; cases z) (by intro _ _ z; cases z) (fun m k l => ?_) (fun m hm => ?_) (fun w e => ?_) (ob' := .ins q.2.1 (q.2.2.set j (.l ts'))) ?_, wrO_le hr hl h7 (by intro _ z; cases z) (by intro _ _ z; cases z) (by simp)⟩
        · rcases live_set l with ⟨_, z⟩ | ⟨rfl, z⟩
          · exact z
          · cases k with
            | zero => exact hl0
            | succ k =>
              rcases z with ⟨c, fs, us', e, ef⟩ | ⟨kvs, q', us', e, ef⟩
              · cases rep_get e
                by_cases hk : k = j
                · subst hk; exact hl
                · rw [List.getElem?_set_ne (Ne.symm hk)] at ef
                  exact .inl ⟨_, _, _, h2, ef⟩
              · cases rep_get e
        · rw [List.getElem?_set_ne (Ne.symm hm)]
        · rcases get_set e with ⟨_, z⟩ | ⟨z, _⟩
          · exact z
          · exact absurd rfl z
        · refine ⟨C, nms, dx, es, ci, ?_, by rw [List.length_set]; exact h4, by rw [List.length_set]; exact h5, fun k f ef => ?_⟩
          · show upd s.H (s.φ q.1 (j + 1)) _ (s.φ q.1 0) = _
            rw [upd_ne (ne 0 (by omega) hl0)]; exact h3
          · by_cases hk : k = j
            · subst hk
              rw [List.getElem?_set_self jl] at ef
              cases ef
              exact ⟨y, _, e3, e4, rfl, xs', upd_same, r.keep kp⟩
            · rw [List.getElem?_set_ne (Ne.symm hk)] at ef
              obtain ⟨y2, v2, g1, g2, g3⟩ := h6 k f ef
              refine ⟨y2, v2, g1, g2, g3.move kp fun us' eq => ⟨rfl, fun zs q2 => ?_⟩⟩
              subst eq
              show upd s.H (s.φ q.1 (j + 1)) _ (s.φ q.1 (k + 1)) = _
              rw [upd_ne (ne (k + 1) (by omega) (.inl ⟨_, _, _, h2, ef⟩))]; exact q2
end
section
variable {Γ : Gm} {N : List Str} {sc : Sco} {e tg ea eb ec : Expr} {a b c : E} {ta : Te} {o : O2} {pos p p2 apos : Pos} {es : List Expr} {as : List E} {i j : Nat} {x y f : Str} {t : Tg} {src : Src} {cl : Nat} {names : List Str}
theorem ref_addr {K : PySem.W.Frag} {s : Sx} {env : Ev} {σ : L2.St} (er : ER K s env σ) {n : Nat} (e : slot env i = some (.ref n)) : σ[i]? = some (some (.ref (s.φ n 0))) ∧ n < s.h.length := by
  obtain ⟨x, h1, h2, rfl⟩ := er.at_ i _ e
  exact ⟨h1, h2⟩
/-- the form of a call of a list's method, in one line -/
structure MOk (pos apos : Pos) : Prop where
  line : (apos.endLine == pos.line) = true
abbrev Few (e : Expr) (pos : Pos) : Prop := ∀ env, ((backTo pos (starEach [e] env)).all (fun x => !x.1) && (backToKw pos (keywordEach [] env)).all (fun x => x.1.isSome)
      && decide ([e].length + ([] : List Keyword).length + (if ([] : List Keyword).isEmpty then 0 else 1) < 30)) = true
theorem ds_app {q : Pos} (v : VOk N sc i x) (ha : DV Γ N sc ea a) (m : MOk p apos) (hs : ∀ env, swapsWith (.Call (.Attribute (.Name x q) "append" apos) [ea] [] p) none pos.line env = pure false := by intro _; rfl)
    (hb : Ab x q "append" := by intro _; rfl) (hf : Few ea p := by intro _; rfl) (se : Se1 ea := by intro _; rfl) : DS Γ N sc (.Expr (.Call (.Attribute (.Name x q) "append" apos) [ea] [] p) pos) (.app (.var i) a) := fun n I W X g =>
  (ps_expr (pe_bm PySem.F.plainAttrs_list PySem.F.slot_list_append PySem.F.type_list_append mt_append (v.pe g) (pa_cons (ha n I W X g) pa_nil (se _)) (hb _) (hf _) m.line (se _) rfl) (hs _)).imp fun D σ H q => by
    obtain ⟨env, s, eH, hr, er, _, pr⟩ := q
    replace pr : PSt X.K I W D s (match getL env s.h (.var i) with
      | none => .stuck
      | some _ => ((evalE (callF Γ.fns n) env a s.h).bind unP).toS env fun d h1 => ofH env (appH env (.var i) d h1)) := pr
    cases e0 : getL env s.h (.var i) with
    | none => rw [e0] at pr; exact False.elim pr
    | some ts0 =>
      rw [e0] at pr
      obtain ⟨m0, k1, k2, k3⟩ := own_var hr e0
      obtain ⟨xs0, k4, k5⟩ := k3.ex
      obtain ⟨k6, k7⟩ := ref_addr er k1
      refine ⟨_, k6, .inl ⟨rfl, xs0, .inl (by rw [← eH]; exact Rd.of k4)⟩, ?_⟩
      have q' : AtS X.K I W D σ H (fun s' => s'.φ m0 0 = s.φ m0 0) (fun env' h => ((evalE (callF Γ.fns n) env' a h).bind unP).toS env' fun d h1 => ofH env' (appH env' (.var i) d h1)) := ⟨env, s, eH, hr, er, rfl, pr⟩
      obtain ⟨env1, s1, eH1, hr1, er1, _, pr1⟩ := AtS.bind (Rel1 := PRl X.K) (ev1 := fun env h => (evalE (callF Γ.fns n) env a h).bind unP) (G := fun s' => s'.φ m0 0 = s.φ m0 0 ∧ σ[i]? = some (some (.ref (s'.φ m0 0))) ∧ m0 < s'.h.length) (G' := fun s' => s'.φ m0 0 = s.φ m0 0 ∧ σ[i]? = some (some (.ref (s'.φ m0 0)))) (k := fun d env h1 => ofH env (appH env (.var i) d h1))
        ⟨env, s, eH, hr, er, (⟨rfl, k6, k7⟩ : s.φ m0 0 = s.φ m0 0 ∧ σ[i]? = some (some (.ref (s.φ m0 0))) ∧ m0 < s.h.length), pr⟩ (fun s' s2 l g => by
          obtain ⟨g1, g2, g3⟩ := g
          rw [l.ph m0 g3]; exact ⟨g1, g2⟩)
      refine ⟨env1, s1, eH1, hr1, er1, trivial, PR.mono pr1 fun y H1 ⟨d, env2, s2, e2, hr2, er2, ⟨⟨g1, g2⟩, r⟩, pr2⟩ => ?_⟩
      subst e2
      replace pr2 : PSt X.K I W D s2 (ofH env2 ((getL env2 s2.h (.var i)).bind fun ts => if ts.length < sizeLine then storeL env2 s2.h (.var i) (ts ++ [d]) else none)) := pr2
      cases e3 : getL env2 s2.h (.var i) with
      | none => rw [e3] at pr2; exact False.elim pr2
      | some ts =>
        rw [e3, Option.bind_some] at pr2
        split at pr2
        · rename_i hz
          cases e4 : storeL env2 s2.h (.var i) (ts ++ [d]) with
          | none => rw [e4] at pr2; exact False.elim pr2
          | some h' =>
            rw [e4] at pr2
            obtain ⟨m2, j1, j2, j3⟩ := own_var hr2 e3
            obtain ⟨xs, j4, j5⟩ := j3.ex
            obtain ⟨j6, j7⟩ := ref_addr er2 j1
            rw [g2] at j6
            have j8 : s2.φ m0 0 = s2.φ m2 0 := by simpa using j6
            obtain ⟨s3, eH3, eh3, hr3, l3⟩ := j3.wr _ (xs ++ [y]) _ e4 (j5.append (.cons r .nil))
            refine ⟨_, xs, y, by rw [← g1, j8], rfl, j4, by rw [← j5.length]; exact hz, ?_⟩
            rw [← eH3]
            exact pr2 s3 σ l3 eh3 hr3 (er2.le l3)
        · exact False.elim pr2
theorem ds_ext {q : Pos} (v : VOk N sc i x) (ha : DN Γ N sc ea a) (m : MOk p apos) (hs : ∀ env, swapsWith (.Call (.Attribute (.Name x q) "extend" apos) [ea] [] p) none pos.line env = pure false := by intro _; rfl)
    (hb : Ab x q "extend" := by intro _; rfl) (hf : Few ea p := by intro _; rfl) (se : Se1 ea := by intro _; rfl) : DS Γ N sc (.Expr (.Call (.Attribute (.Name x q) "extend" apos) [ea] [] p) pos) (.ext (.var i) a) := fun n I W X g =>
  (ps_expr (pe_bm PySem.F.plainAttrs_list PySem.F.slot_list_extend PySem.F.type_list_extend mt_extend (v.pe g) (pa_cons (ha n I W X g) pa_nil (se _)) (hb _) (hf _) m.line (se _) rfl) (hs _)).imp fun D σ H q => by
    obtain ⟨env, s, eH, hr, er, _, pr⟩ := q
    replace pr : PSt X.K I W D s (match getL env s.h (.var i) with
      | none => .stuck
      | some _ => ((evalE (callF Γ.fns n) env a s.h).bind unP).toS env fun d h1 => ofH env (extH env (.var i) d h1)) := pr
    cases e0 : getL env s.h (.var i) with
    | none => rw [e0] at pr; exact False.elim pr
    | some ts0 =>
      rw [e0] at pr
      obtain ⟨m0, k1, k2, k3⟩ := own_var hr e0
      obtain ⟨xs0, k4, k5⟩ := k3.ex
      obtain ⟨k6, k7⟩ := ref_addr er k1
      refine ⟨_, k6, .inl ⟨rfl, xs0, .inl (by rw [← eH]; exact Rd.of k4)⟩, ?_⟩
      obtain ⟨env1, s1, eH1, hr1, er1, _, pr1⟩ := AtS.bind (Rel1 := RN X.K) (ev1 := fun env h => (evalE (callF Γ.fns n) env a h).bind unP) (G := fun s' => s'.φ m0 0 = s.φ m0 0 ∧ σ[i]? = some (some (.ref (s'.φ m0 0))) ∧ m0 < s'.h.length) (G' := fun s' => s'.φ m0 0 = s.φ m0 0 ∧ σ[i]? = some (some (.ref (s'.φ m0 0)))) (k := fun d env h1 => ofH env (extH env (.var i) d h1))
        ⟨env, s, eH, hr, er, (⟨rfl, k6, k7⟩ : s.φ m0 0 = s.φ m0 0 ∧ σ[i]? = some (some (.ref (s.φ m0 0))) ∧ m0 < s.h.length), pr⟩ (fun s' s2 l g => by
          obtain ⟨g1, g2, g3⟩ := g
          rw [l.ph m0 g3]; exact ⟨g1, g2⟩)
      refine ⟨env1, s1, eH1, hr1, er1, trivial, PR.mono pr1 fun y H1 ⟨d, env2, s2, e2, hr2, er2, ⟨⟨g1, g2⟩, r⟩, pr2⟩ => ?_⟩
      subst e2
      obtain ⟨ds, p0, ys, rfl, rfl, hp0, q0, nf, nl, nb⟩ := r
      replace pr2 : PSt X.K I W D s2 (ofH env2 ((getL env2 s2.h (.var i)).bind fun ts => if ts.length + ds.length ≤ sizeLine then storeL env2 s2.h (.var i) (ts ++ ds) else none)) := pr2
      cases e3 : getL env2 s2.h (.var i) with
      | none => rw [e3] at pr2; exact False.elim pr2
      | some ts =>
        rw [e3, Option.bind_some] at pr2
        split at pr2
        · rename_i hz
          cases e4 : storeL env2 s2.h (.var i) (ts ++ ds) with
          | none => rw [e4] at pr2; exact False.elim pr2
          | some h' =>
            rw [e4] at pr2
            obtain ⟨m2, j1, j2, j3⟩ := own_var hr2 e3
            obtain ⟨xs, j4, j5⟩ := j3.ex
            obtain ⟨j6, j7⟩ := ref_addr er2 j1
            rw [g2] at j6
            have j8 : s2.φ m0 0 = s2.φ m2 0 := by simpa using j6
            obtain ⟨s3, eH3, eh3, hr3, l3⟩ := j3.wr _ (xs ++ ys) _ e4 (j5.append q0)
            refine ⟨_, p0, xs, ys, by rw [← g1, j8], rfl, j4, hp0, by rw [← j5.length, ← q0.length]; exact hz, ?_⟩
            rw [← eH3]
            exact pr2 s3 σ l3 eh3 hr3 (er2.le l3)
        · exact False.elim pr2
theorem setIx_inv {env : Ev} {p : E} {k d : PyData} {h h' : Hi} (e : setIxH env p k d h = some h') : ∃ k' ts j, k = .int k' ∧ getL env h p = some ts ∧ ixN ts.length k' = some j ∧ storeL env h p (ts.set j d) = some h' := by
  unfold setIxH at e
  split at e
  · rename_i k'
    rw [Option.bind_eq_some_iff] at e
    obtain ⟨ts, e1, e2⟩ := e
    rw [Option.bind_eq_some_iff] at e2
    obtain ⟨j, e2, e3⟩ := e2
    exact ⟨k', ts, j, rfl, e1, e2, e3⟩
  · cases e
theorem ds_setIx {q : Pos} (v : VOk N sc i x) (hv : DV Γ N sc ea a) (hi : DV Γ N sc eb b) (hs : ∀ env, swapsWithSole [.Subscript (.Name x q) eb p] ea pos.line env = pure false := by intro _; rfl) (hw : ∀ env, swappedStores [.Subscript (.Name x q) eb p] ea env = pure none := by intro _; rfl)
    (h1 : ∀ env, (assignEach [.Subscript (.Name x q) eb p] env).map (·.2) = [assign (.Subscript (.Name x q) eb p) env] := by intro _; rfl)
    (ha : ∀ env v, assign (.Subscript (.Name x q) eb p) env v = (do
      let ov ← holding [v] (eval (.Name x q) env)
      let iv ← holding [v, ov] (eval eb env)
      standAt p
      holding [v, ov, iv] (setItem ov iv v)
      release [v, ov, iv] []) := by intro _ _; rfl) : DS Γ N sc (.Assign [.Subscript (.Name x q) eb p] ea pos) (.setIx (.var i) b a) := fun n I W X g =>
  (ps_asg (hv n I W X g) (pg_sub (v.pe g) (hi n I W X g) set_list (ha _)) (hs _) (hw _) (h1 _)).imp fun D σ H q => by
    obtain ⟨env, s, eH, hr, er, _, pr⟩ := AtS.bind (Rel1 := PRl X.K) (k := fun d env h1 => match getL env h1 (.var i) with
      | none => .stuck
      | some _ => ((evalE (callF Γ.fns n) env b h1).bind unP).toS env fun k h2 => ofH env (setIxH env (.var i) k d h2)) q
    refine ⟨env, s, eH, hr, er, trivial, PR.mono pr fun y H1 ⟨d, env, s, e, hr, er, ⟨_, r⟩, pr⟩ => ?_⟩
    subst e
    replace pr : PSt X.K I W D s (match getL env s.h (.var i) with
      | none => .stuck
      | some _ => ((evalE (callF Γ.fns n) env b s.h).bind unP).toS env fun k h2 => ofH env (setIxH env (.var i) k d h2)) := pr
    cases e0 : getL env s.h (.var i) with
    | none => rw [e0] at pr; exact False.elim pr
    | some ts0 =>
      rw [e0] at pr
      obtain ⟨m0, k1, k2, k3⟩ := own_var hr e0
      obtain ⟨k6, k7⟩ := ref_addr er k1
      refine ⟨_, k6, ?_⟩
      obtain ⟨env1, s1, eH1, hr1, er1, _, pr1⟩ := AtS.bind (Rel1 := PRl X.K) (ev1 := fun env h => (evalE (callF Γ.fns n) env b h).bind unP) (G := fun s' => (s'.φ m0 0 = s.φ m0 0 ∧ σ[i]? = some (some (.ref (s'.φ m0 0))) ∧ m0 < s'.h.length) ∧ PRl X.K s' d y) (G' := fun s' => (s'.φ m0 0 = s.φ m0 0 ∧ σ[i]? = some (some (.ref (s'.φ m0 0)))) ∧ PRl X.K s' d y) (k := fun k env h1 => ofH env (setIxH env (.var i) k d h1))
        ⟨env, s, rfl, hr, er, (⟨⟨rfl, k6, k7⟩, r⟩ : (s.φ m0 0 = s.φ m0 0 ∧ σ[i]? = some (some (.ref (s.φ m0 0))) ∧ m0 < s.h.length) ∧ PRl X.K s d y), pr⟩ (fun s' s2 l g => by
          obtain ⟨⟨g1, g2, g3⟩, g4⟩ := g
          rw [l.ph m0 g3]; exact ⟨⟨g1, g2⟩, g4.le l⟩)
      refine ⟨env1, s1, eH1, hr1, er1, trivial, PR.mono pr1 fun z H1 ⟨k, env2, s2, e2, hr2, er2, ⟨⟨⟨g1, g2⟩, g4⟩, r2⟩, pr2⟩ => ?_⟩
      subst e2
      replace pr2 : PSt X.K I W D s2 (ofH env2 (setIxH env2 (.var i) k d s2.h)) := pr2
      cases e3 : setIxH env2 (.var i) k d s2.h with
      | none => rw [e3] at pr2; exact False.elim pr2
      | some h' =>
        rw [e3] at pr2
        obtain ⟨k', ts, j, rfl, e4, e5, e6⟩ := setIx_inv e3
        obtain rfl := RF.int_inv r2
        obtain ⟨m2, j1, j2, j3⟩ := own_var hr2 e4
        obtain ⟨xs, j4, j5⟩ := j3.ex
        obtain ⟨j6, j7⟩ := ref_addr er2 j1
        rw [g2] at j6
        have j8 : s2.φ m0 0 = s2.φ m2 0 := by simpa using j6
        obtain ⟨s3, eH3, eh3, hr3, l3⟩ := j3.wr _ (xs.set j y) _ e6 (j5.set g4 j)
        refine ⟨_, xs, k', j, by rw [← g1, j8], rfl, j4, by rw [← j5.length]; exact e5, ?_⟩
        rw [← eH3]
        exact pr2 s3 σ l3 eh3 hr3 (er2.le l3)
/-- the same of a field's list; the index looked up -/
theorem ds_setIxF {q q2 : Pos} {f : Str} (v : VOk N sc i x) (hf : FOk Γ cl names j f) (hv : DV Γ N sc ea a) (hi : DP Γ N sc eb b) (hab : Ab x q f := by intro _; rfl) (hs : ∀ env, swapsWithSole [.Subscript (.Attribute (.Name x q) f q2) eb p] ea pos.line env = pure false := by intro _; rfl) (hw : ∀ env, swappedStores [.Subscript (.Attribute (.Name x q) f q2) eb p] ea env = pure none := by intro _; rfl)
    (h1 : ∀ env, (assignEach [.Subscript (.Attribute (.Name x q) f q2) eb p] env).map (·.2) = [assign (.Subscript (.Attribute (.Name x q) f q2) eb p) env] := by intro _; rfl)
    (ha : ∀ env v, assign (.Subscript (.Attribute (.Name x q) f q2) eb p) env v = (do
      let ov ← holding [v] (eval (.Attribute (.Name x q) f q2) env)
      let iv ← holding [v, ov] (eval eb env)
      standAt p
      holding [v, ov, iv] (setItem ov iv v)
      release [v, ov, iv] []) := by intro _ _; rfl) : DS Γ N sc (.Assign [.Subscript (.Attribute (.Name x q) f q2) eb p] ea pos) (.setIx (.fld i j) b a) := fun n I W X g =>
  (ps_asg (hv n I W X g) (pg_sub (pe_fld (v.pe g) (hab _)) (hi.run n I W X g) set_list (ha _)) (hs _) (hw _) (h1 _)).imp fun D σ H q => by
    obtain ⟨env, s, eH, hr, er, _, pr⟩ := AtS.bind (Rel1 := PRl X.K) (k := fun d env h1 => match getL env h1 (.fld i j) with
      | none => .stuck
      | some _ => ((evalE (callF Γ.fns n) env b h1).bind unP).toS env fun k h2 => ofH env (setIxH env (.fld i j) k d h2)) q
    refine ⟨env, s, eH, hr, er, trivial, PR.mono pr fun y H1 ⟨d, env, s, e, hr, er, ⟨_, r⟩, pr⟩ => ?_⟩
    subst e
    replace pr : PSt X.K I W D s (match getL env s.h (.fld i j) with
      | none => .stuck
      | some _ => ((evalE (callF Γ.fns n) env b s.h).bind unP).toS env fun k h2 => ofH env (setIxH env (.fld i j) k d h2)) := pr
    cases e0 : getL env s.h (.fld i j) with
    | none => rw [e0] at pr; exact False.elim pr
    | some ts =>
      rw [e0] at pr
      obtain ⟨q0, k1, k2, k3⟩ := own_fld hr e0
      obtain ⟨C, dx, es, v0, c1, c2, c3, c4, c5, c6⟩ := fld_at g hr er hf k1 k2
      obtain ⟨rfl, _⟩ := c6
      refine ⟨_, c1, _, C, dx, es, _, rfl, c2, c3, c4, c5, env, s, rfl, hr, er, ?_⟩
      show (match evalE (callF Γ.fns n) env b s.h with
      | .ok (.p d2) h' => h' = s.h ∧ ∀ z, RF X.K s.F s.H d2 z → rSetL _ z y s.H fun H3 => D.nx σ H3
      | _ => False)
      replace pr : PSt X.K I W D s (((evalE (callF Γ.fns n) env b s.h).bind unP).toS env fun k h2 => ofH env (setIxH env (.fld i j) k d h2)) := pr
      rcases hi.pure (callF Γ.fns n) env s.h with ⟨w, e⟩ | e
      · rw [e] at pr ⊢
        cases w with
        | ref m => exact False.elim pr
        | p k =>
          refine ⟨rfl, fun z rz => ?_⟩
          replace pr : PSt X.K I W D s (ofH env (setIxH env (.fld i j) k d s.h)) := pr
          cases e3 : setIxH env (.fld i j) k d s.h with
          | none => rw [e3] at pr; exact False.elim pr
          | some h' =>
            rw [e3] at pr
            obtain ⟨k', ts', j', rfl, e4, e5, e6⟩ := setIx_inv e3
            rw [e0] at e4
            cases e4
            obtain rfl := RF.int_inv rz
            obtain ⟨xs, j4, j5⟩ := k3.ex
            obtain ⟨s3, eH3, eh3, hr3, l3⟩ := k3.wr _ (xs.set j' y) _ e6 (j5.set r j')
            refine ⟨_, xs, k', j', rfl, rfl, j4, by rw [← j5.length]; exact e5, ?_⟩
            rw [← eH3]
            exact pr s3 σ l3 eh3 hr3 (er.le l3)
      · rw [e] at pr
        exact False.elim pr
/-- xs.pop(k) of a list of the heap -/
theorem ixN_eq {n : Nat} {k : Int} {j : Nat} (h : ixN n k = some j) : seqIndex? k n = some j := (ixN_seq h).1
theorem pop_inv {env : Ev} {i : Nat} {d : PyData} {h : Hi} : popK env i d h = .stuck ∨ ∃ p k j x, lstOf env h i = some p ∧ d = .int k ∧ ixN p.2.length k = some j ∧ p.2[j]? = some x ∧ (-(2 ^ 63) ≤ k ∧ k < 2 ^ 63) ∧ popK env i d h = .ok (.p x) (h.set p.1 (.lst (p.2.eraseIdx j))) := by
  unfold popK
  cases e1 : lstOf env h i with
  | none => exact .inl rfl
  | some p =>
    cases d with
    | int k =>
      simp only
      cases e2 : ixN p.2.length k with
      | none => exact .inl rfl
      | some j =>
        simp only
        cases e3 : p.2[j]? with
        | none => exact .inl rfl
        | some x =>
          simp only
          split
          · rename_i hz
            exact .inr ⟨p, k, j, x, rfl, rfl, e2, e3, by omega, rfl⟩
          · exact .inl rfl
    | _ => exact .inl rfl
theorem de_pop {q : Pos} (v : VOk N sc i x) (ha : DV Γ N sc ea a) (m : MOk p apos) (hb : Ab x q "pop" := by intro _; rfl) (hf : Few ea p := by intro _; rfl) (se : Se1 ea := by intro _; rfl) : DE Γ N sc (.Call (.Attribute (.Name x q) "pop" apos) [ea] [] p) (.pop i a) := fun n I W X g =>
  (pe_bm PySem.F.plainAttrs_list PySem.F.slot_list_pop PySem.F.type_list_pop mt_popAt (v.pe g) (pa_cons (ha n I W X g) pa_nil (se _)) (hb _) (hf _) m.line (se _) rfl).imp fun σ H Q q => by
    obtain ⟨env, s, eH, hr, er, _, pr⟩ := q
    replace pr : PR X.K I W s σ (match lstOf env s.h i with
      | none => .stuck
      | some _ => ((evalE (callF Γ.fns n) env a s.h).bind unP).bind fun d h1 => popK env i d h1) (VR X.K) Q := pr
    cases e0 : lstOf env s.h i with
    | none => rw [e0] at pr; exact False.elim pr
    | some p0 =>
      rw [e0] at pr
      have e0' : getL env s.h (.var i) = some p0.2 := by simp only [getL, peek, e0, Option.map_some]
      obtain ⟨m0, k1, k2, k3⟩ := own_var hr e0'
      obtain ⟨xs0, k4, k5⟩ := k3.ex
      obtain ⟨k6, k7⟩ := ref_addr er k1
      refine ⟨_, k6, .inl ⟨rfl, xs0, .inl (by rw [← eH]; exact Rd.of k4)⟩, ?_⟩
      obtain ⟨env1, s1, eH1, hr1, er1, _, pr1⟩ := At.bind (Rel1 := PRl X.K) (ev1 := fun env h => (evalE (callF Γ.fns n) env a h).bind unP) (G := fun s' => s'.φ m0 0 = s.φ m0 0 ∧ σ[i]? = some (some (.ref (s'.φ m0 0))) ∧ m0 < s'.h.length) (G' := fun s' => s'.φ m0 0 = s.φ m0 0 ∧ σ[i]? = some (some (.ref (s'.φ m0 0)))) (ev2 := fun d env h1 => popK env i d h1)
        ⟨env, s, eH, hr, er, (⟨rfl, k6, k7⟩ : s.φ m0 0 = s.φ m0 0 ∧ σ[i]? = some (some (.ref (s.φ m0 0))) ∧ m0 < s.h.length), pr⟩ (fun s' s2 l g => by
          obtain ⟨g1, g2, g3⟩ := g
          rw [l.ph m0 g3]; exact ⟨g1, g2⟩)
      refine ⟨env1, s1, eH1, hr1, er1, trivial, PR.mono pr1 fun y H1 ⟨d, env2, s2, e2, hr2, er2, ⟨⟨g1, g2⟩, r⟩, pr2⟩ => ?_⟩
      subst e2
      replace pr2 : PR X.K I W s2 σ (popK env2 i d s2.h) (VR X.K) Q := pr2
      rcases pop_inv (env := env2) (i := i) (d := d) (h := s2.h) with e3 | ⟨p, k, j, z, e3, rfl, e4, e5, e6, e7⟩
      · rw [e3] at pr2; exact False.elim pr2
      · rw [e7] at pr2
        obtain rfl := RF.int_inv r
        have e8 : getL env2 s2.h (.var i) = some p.2 := by simp only [getL, peek, e3, Option.map_some]
        obtain ⟨m2, j1, j2, j3⟩ := own_var hr2 e8
        obtain ⟨xs, j4, j5⟩ := j3.ex
        obtain ⟨j6, j7⟩ := ref_addr er2 j1
        rw [g2] at j6
        have j8 : s2.φ m0 0 = s2.φ m2 0 := by simpa using j6
        obtain ⟨w, hw, rw'⟩ := j5.get e5
        have e9 : storeL env2 s2.h (.var i) (p.2.eraseIdx j) = some (s2.h.set p.1 (.lst (p.2.eraseIdx j))) := by
          have : slotRef env2 i = some p.1 := by unfold slotRef; rw [(lstOf_of e3).1]
          simp only [storeL, this, Option.map_some]
        obtain ⟨s3, eH3, eh3, hr3, l3⟩ := j3.wr _ (xs.eraseIdx j) _ e9 (j5.eraseIdx j)
        refine ⟨_, xs, k, j, w, by rw [← g1, j8], rfl, j4, e6.1, e6.2, by rw [← j5.length]; exact ixN_eq e4, hw, ?_⟩
        rw [← eH3]
        exact pr2 s3 w l3 eh3 hr3 (RF.keep l3.kf rw')
end
end Cd
set_option Elab.async false
set_option linter.all false
set_option maxRecDepth 100000
set_option maxHeartbeats 4000000
namespace Cd
open PySem PySem.Spec PyProof.Rows L2
theorem callF_np {fns : Nat → Option FnD} {n f : Nat} {d : FnD} {args : List Val} {h : Hi} (e : fns f = some d) : args.length = d.np ∨ callF fns n f args h = .stuck := by
  cases n with
  | zero => exact .inr rfl
  | succ n =>
    unfold callF
    rw [e]
    by_cases z : args.length = d.np
    · exact .inl z
    · refine .inr ?_
      show (if args.length = d.np then _ else R.stuck) = R.stuck
      exact if_neg z
section
variable {Γ : Gm} {N : List Str} {sc : Sco} {e tg ea eb ec : Expr} {a b c : E} {ta : Te} {o : O2} {pos p p2 apos : Pos} {es : List Expr} {as : List E} {i j fi : Nat} {x y f m : Str} {t : Tg} {src : Src} {cl : Nat} {names : List Str}
/-- what a callee is asked -/
theorem sp_of {K : PySem.W.Frag} {I : Inf} {W : WX} {s : Sx} {σ : L2.St} {fns : Nat → Option FnD} {n : Nat} {d : FnD} {args : List Val} {vs : List V} {Q : V → Hp → Prop} (e : fns fi = some d) (hr : HR K I.ci s) (rel : Paired (VR K s) args vs) (pr : PR K I W s σ (callF fns n fi args s.h) (VR K) Q) :
    spF K I fns n fi d.np vs s.H Q (WE W σ) := by
  rcases callF_np (fns := fns) (n := n) (f := fi) (args := args) (h := s.h) e with h | h
  · refine ⟨s, args, rfl, hr, rel, h, ?_⟩
    generalize callF fns n fi args s.h = r at pr ⊢
    cases r with
    | ok v h1 => exact pr
    | exc e h1 => exact pr
    | stuck => exact pr
  · rw [h] at pr; exact False.elim pr
abbrev Pl (es : List Expr) (pos : Pos) : Prop := ∀ env, (backTo pos (starEach es env)).any (·.1) = false
theorem de_call (v : GOk sc x) (hf : (x, fi) ∈ Γ.defs) (ha : DAs Γ N sc (ea :: es) as) (he : Sec ea es := by intro _; rfl) (hpl : Pl es pos := by intro _; rfl) : DE Γ N sc (.Call (.Name x p) (ea :: es) [] pos) (.call fi as) := fun n I W X g => by
  obtain ⟨a, hm, hk, hfn, fd, ps, d, e1, e2, hb, F⟩ := g.fn _ hf
  refine (pe_callS (E := WE W) F (g.room.mono (by omega)) (v.g g) hm hk hb (fun σ => passAt g.tk σ) (ha n I W X g) v.db (he _) (hpl _)).imp fun σ H Q q => ?_
  obtain ⟨env, s, eH, hr, er, _, pr⟩ := At.bind (Rel1 := fun s ds vs => Paired (VR X.K s) ds vs ∧ ds.length = as.length) (ev2 := fun vs env h1 => callF Γ.fns n fi vs h1) q
  refine ⟨env, s, eH, hr, er, trivial, PR.mono pr fun vs H1 ⟨args, env, s, eH, hr, er, ⟨_, rel⟩, pr⟩ => ?_⟩
  subst eH
  exact sp_of e1 hr rel.1 pr
theorem de_call0 (v : GOk sc x) (hf : (x, fi) ∈ Γ.defs) : DE Γ N sc (.Call (.Name x p) [] [] pos) (.call fi []) := fun n I W X g => by
  obtain ⟨a, hm, hk, hfn, fd, ps, d, e1, e2, hb, F⟩ := g.fn _ hf
  have pe0 : PE X (.Call (.Name x p) [] [] pos) (tCallS (spF X.K I Γ.fns n fi d.np) (WE W) tNil) := ⟨fun pins s σ H Q J h => by
    refine wpAny_Call_Name_kw (ld_glob J (v.g g) hm ?_ v.db)
    exact PySem.W.callWith_K0 J.kIn hk (run_fnS (us := []) F (g.room.mono (by omega)) hb (passAt g.tk σ) J .nil h)⟩
  refine pe0.imp fun σ H Q q => ?_
  obtain ⟨env, s, eH, hr, er, _, pr⟩ := q
  subst eH
  exact sp_of e1 hr .nil pr
/-- o.m(..): the receiver a name -/
theorem meth_at {n : Nat} {I : Inf} {W : WX} {X : Cx} {s : Sx} {env : Ev} {σ : L2.St} (g : GX Γ n I N sc W X) (hr : HR X.K I.ci s) (er : ER X.K s env σ) (hm : (cl, m, fi) ∈ Γ.meths) {k : Nat} (e : methOk env s.h cl i = some k) :
    slot env i = some (.ref k) ∧ ∃ C dx es f, σ[i]? = some (some (.ref (s.φ k 0))) ∧ s.H (s.φ k 0) = some (.ins C dx es) ∧ es.lookup m = none ∧ k < s.h.length ∧ Meth X.K C m f ∧ (∃ names, I.ci cl = some (C, names)) := by
  unfold methOk at e
  cases e1 : insOf env s.h i with
  | none => rw [e1] at e; cases e
  | some q =>
    rw [e1] at e
    simp only at e
    split at e
    · rename_i hc
      cases e
      obtain ⟨h1, h2⟩ := insOf_of e1
      obtain ⟨h3, h4⟩ := ref_addr er h1
      obtain ⟨C, nms, dx, es, ci, h5, h6, h7, h8⟩ := hr.ob _ _ h2
      obtain ⟨C', nms', f, ci', M, nn, _⟩ := g.mt _ hm
      rw [hc] at ci
      have ci2 : I.ci cl = some (C', nms') := ci'
      rw [ci] at ci2
      cases ci2
      refine ⟨h1, C, dx, es, f, h3, h5, ?_, h4, M, nms, ci⟩
      rw [List.lookup_eq_none_iff]
      intro p hp
      have ne : m ≠ p.1 := by
        intro z
        have : p.1 ∈ es.map (·.1) := List.mem_map.mpr ⟨p, hp, rfl⟩
        rw [h6] at this
        exact nn (z ▸ List.mem_of_mem_take this)
      simpa using ne
    · cases e
theorem mth_fn {n : Nat} {I : Inf} {W : WX} {X : Cx} (g : GX Γ n I N sc W X) (hm : (cl, m, fi) ∈ Γ.meths) : ∃ C names a fd ps d, I.ci cl = some (C, names) ∧ Cls X.K C ∧ Meth X.K C m a ∧ Γ.fns fi = some d ∧ ps.length = d.np ∧ Binds X.K fd ps [] ∧
    FnOk X.prog X.w X.K X.mg X.base (L2.CX X.prog X.w) (2 * n) a fd ps (spF X.K I Γ.fns n fi d.np) := by
  obtain ⟨C, names, a, ci, M, _, _, _, fd, ps, d, e1, e2, hb, F⟩ := g.mt _ hm
  have h1 := g.ci _ _ _ ci
  obtain ⟨C', ci', cls, _⟩ := g.fl _ h1
  have ci2 : I.ci cl = some (C', names) := ci'
  have ci3 : I.ci cl = some (C, names) := ci
  rw [ci3] at ci2
  cases ci2
  exact ⟨C, names, a, fd, ps, d, ci, cls, M, e1, e2, hb, F⟩
theorem de_meth {q : Pos} {pl : Env → Sem Bool} (v : VOk N sc i x) (hm : (cl, m, fi) ∈ Γ.meths) (ha : DAs Γ N sc (ea :: es) as) (he : Sec ea es := by intro _; rfl) (hpl : Pl es pos := by intro _; rfl)
    (ht : ∀ env, eval (.Call (.Attribute (.Name x q) m apos) (ea :: es) [] pos) env = (do
      let ov ← eval (.Name x q) env
      standAt apos.atName
      let (f, first) ← holding [ov] (getMethod ov m (pl env))
      callWith pos f first (backTo pos (starEach (ea :: es) env)) (backToKw pos (keywordEach [] env))) := by intro _; rfl) :
    DE Γ N sc (.Call (.Attribute (.Name x q) m apos) (ea :: es) [] pos) (.meth cl fi i as) := fun n I W X g => by
  obtain ⟨C, names, f, fd, ps, d, ci, cls, M, e1, e2, hb, F⟩ := mth_fn g hm
  have pe1 : PE X (.Call (.Attribute (.Name x q) m apos) (ea :: es) [] pos) (fun σ H Q => ∃ u, σ[i]? = some (some u) ∧ ∃ a dx fs, u = .ref a ∧ H a = some (.ins C dx fs) ∧ fs.lookup m = none ∧
      (tE X.K I W (fun env h => evalEs (callF Γ.fns n) env as h) (fun s ds vs => Paired (VR X.K s) ds vs ∧ ds.length = as.length)) σ H fun vs H2 => spF X.K I Γ.fns n fi d.np (u :: vs) H2 Q (WE W σ)) := ⟨fun pins s σ H Q J h => by
    obtain ⟨u0, hu, a, dx, fs, rfl, hH, hl, q⟩ := h
    refine PySem.W.methodCall_KW (pl := pl X.env) (thn ((v.pe g).run pins s σ H (fun x H1 => x = .ref a ∧ H1 = H) J ⟨_, hu, rfl, rfl⟩) fun w s1 ⟨x1, H1, J1, rx, ex, eH⟩ => ?_) (ht _)
    subst ex; subst eH
    obtain rfl : w = Value.ref a := rx
    refine getmeth_ok J1 hH cls M hl ?_
    exact PySem.W.callWith_K (first := [.ref a]) (h₀ := X.base) J.ok.mod.kin M.kp (thn ((ha n I W X g).run pos pins s1 σ _ _ J1 q) fun us s2 ⟨vs, H2, J2, r, q2⟩ => ⟨J2.kIn, run_fnS (us := .ref a :: us) (vs := .ref a :: vs) F (g.room.mono (by omega)) hb (passAt g.tk σ) J2 (.cons rfl r) q2⟩) (he _) (hpl _)⟩
  refine pe1.imp fun σ H Q q => ?_
  obtain ⟨env, s, eH, hr, er, _, pr⟩ := q
  subst eH
  replace pr : PR X.K I W s σ (match methOk env s.h cl i with
    | none => .stuck
    | some k => (evalEs (callF Γ.fns n) env as s.h).bind fun vs h1 => callF Γ.fns n fi (.ref k :: vs) h1) (VR X.K) Q := pr
  cases e3 : methOk env s.h cl i with
  | none => rw [e3] at pr; exact False.elim pr
  | some k =>
    rw [e3] at pr
    obtain ⟨g1, C', dx, es', f', g2, g3, g4, g5, _, nm', g6⟩ := meth_at g hr er hm e3
    rw [ci] at g6
    cases g6
    refine ⟨_, g2, _, dx, es', rfl, g3, g4, ?_⟩
    obtain ⟨env1, s1, eH1, hr1, er1, _, pr1⟩ := At.bind (Rel1 := fun s ds vs => Paired (VR X.K s) ds vs ∧ ds.length = as.length) (ev1 := fun env h => evalEs (callF Γ.fns n) env as h) (ev2 := fun vs env h1 => callF Γ.fns n fi (.ref k :: vs) h1) (G := fun s' => s'.φ k 0 = s.φ k 0 ∧ k < s'.h.length) (G' := fun s' => s'.φ k 0 = s.φ k 0 ∧ k < s'.h.length)
      ⟨env, s, rfl, hr, er, ⟨rfl, g5⟩, pr⟩ (fun s' s2 l ⟨w1, w2⟩ => ⟨(l.ph k w2).trans w1, Nat.lt_of_lt_of_le w2 l.len⟩)
    refine ⟨env1, s1, eH1, hr1, er1, trivial, PR.mono pr1 fun vs H1 ⟨args, env2, s2, eH2, hr2, er2, ⟨⟨w1, w2⟩, rel⟩, pr2⟩ => ?_⟩
    subst eH2
    have vr : VR X.K s2 (.ref k) (.ref (s.φ k 0)) := ⟨w2, by rw [w1]⟩
    exact sp_of e1 hr2 (.cons vr rel.1) pr2
theorem de_meth0 {q : Pos} {pl : Env → Sem Bool} (v : VOk N sc i x) (hm : (cl, m, fi) ∈ Γ.meths)
    (ht : ∀ env, eval (.Call (.Attribute (.Name x q) m apos) [] [] pos) env = (do
      let ov ← eval (.Name x q) env
      standAt apos.atName
      let (f, first) ← holding [ov] (getMethod ov m (pl env))
      callWith pos f first (backTo pos (starEach [] env)) (backToKw pos (keywordEach [] env))) := by intro _; rfl) :
    DE Γ N sc (.Call (.Attribute (.Name x q) m apos) [] [] pos) (.meth cl fi i []) := fun n I W X g => by
  obtain ⟨C, names, f, fd, ps, d, ci, cls, M, e1, e2, hb, F⟩ := mth_fn g hm
  have pe1 : PE X (.Call (.Attribute (.Name x q) m apos) [] [] pos) (fun σ H Q => ∃ u, σ[i]? = some (some u) ∧ ∃ a dx fs, u = .ref a ∧ H a = some (.ins C dx fs) ∧ fs.lookup m = none ∧ spF X.K I Γ.fns n fi d.np [u] H Q (WE W σ)) := ⟨fun pins s σ H Q J h => by
    obtain ⟨u0, hu, a, dx, fs, rfl, hH, hl, q⟩ := h
    refine PySem.W.methodCall_KW (pl := pl X.env) (thn ((v.pe g).run pins s σ H (fun x H1 => x = .ref a ∧ H1 = H) J ⟨_, hu, rfl, rfl⟩) fun w s1 ⟨x1, H1, J1, rx, ex, eH⟩ => ?_) (ht _)
    subst ex; subst eH
    obtain rfl : w = Value.ref a := rx
    refine getmeth_ok J1 hH cls M hl ?_
    exact PySem.W.callWith_K0 (first := [.ref a]) J1.kIn M.kp (run_fnS (us := [.ref a]) (vs := [.ref a]) F (g.room.mono (by omega)) hb (passAt g.tk σ) J1 (.cons rfl .nil) q)⟩
  refine pe1.imp fun σ H Q q => ?_
  obtain ⟨env, s, eH, hr, er, _, pr⟩ := q
  subst eH
  replace pr : PR X.K I W s σ (match methOk env s.h cl i with
    | none => .stuck
    | some k => callF Γ.fns n fi [.ref k] s.h) (VR X.K) Q := pr
  cases e3 : methOk env s.h cl i with
  | none => rw [e3] at pr; exact False.elim pr
  | some k =>
    rw [e3] at pr
    obtain ⟨g1, C', dx, es', f', g2, g3, g4, g5, _, nm', g6⟩ := meth_at g hr er hm e3
    rw [ci] at g6
    cases g6
    have vr : VR X.K s (.ref k) (.ref (s.φ k 0)) := ⟨g5, rfl⟩
    exact ⟨_, g2, _, dx, es', rfl, g3, g4, sp_of e1 hr (.cons vr .nil) pr⟩
end
/-! ### C(..) -/
def Sx.mkI (s : Sx) (x dx C : Addr) (c : Nat) : Sx := { s with h := s.h ++ [.ins c []], φ := fun m k => if m = s.h.length then x else s.φ m k, H := upd (upd s.H dx (.own x)) x (.ins C dx []) }
section
variable {K : PySem.W.Frag} {CI : CInf} {s : Sx} {x dx C : Addr} {c : Nat} {names : List Str}
theorem mkI_keep (hx : s.H x = none) (hd : s.H dx = none) : KeepF s.F s.H (s.mkI x dx C c).F (s.mkI x dx C c).H := by
  have k : ∀ b o, s.H b = some o → upd (upd s.H dx (.own x)) x (.ins C dx []) b = some o := fun b o e => by
    rw [upd_ne (ne_of_none e hx), upd_ne (ne_of_none e hd)]; exact e
  exact ⟨fun _ f => f, fun a o _ e => k a o e, fun a o e => k _ _ e, fun a o u e => k _ _ e⟩
theorem live_appI {h : Hi} {m k : Nat} (l : Live (h ++ [.ins c []]) m k) : (m < h.length ∧ Live h m k) ∨ (m = h.length ∧ k = 0) := by
  cases k with
  | zero =>
    obtain ⟨o, e, nd⟩ := l
    rcases get_app e with ⟨h1, h2⟩ | ⟨h1, h2⟩
    · exact .inl ⟨h1, o, h2, nd⟩
    · exact .inr ⟨h1, rfl⟩
  | succ k =>
    rcases l with ⟨c', fs, us, e, ef⟩ | ⟨kvs, q, us, e, ef⟩
    · rcases get_app e with ⟨h1, h2⟩ | ⟨h1, h2⟩
      · exact .inl ⟨h1, .inl ⟨c', fs, us, h2, ef⟩⟩
      · cases h2; simp at ef
    · rcases get_app e with ⟨h1, h2⟩ | ⟨h1, h2⟩
      · exact .inl ⟨h1, .inr ⟨kvs, q, us, h2, ef⟩⟩
      · cases h2
theorem HR.mkI (hr : HR K CI s) (hx : s.H x = none) (hd : s.H dx = none) (ci : CI c = some (C, names)) : HR K CI (s.mkI x dx C c) := by
  have k : ∀ b o, s.H b = some o → upd (upd s.H dx (.own x)) x (.ins C dx []) b = some o := fun b o e => by
    rw [upd_ne (ne_of_none e hx), upd_ne (ne_of_none e hd)]; exact e
  obtain ⟨f1, f2, f3⟩ := hr.fresh hx
  refine ⟨fun m u e => ?_, fun m j q k' l1 l2 e => ?_, fun m j l => ?_, fun b hb => ?_, fun b hb => ?_⟩
  · rcases get_app e with ⟨h1, h2⟩ | ⟨h1, h2⟩
    · exact (hr.ob m u h2).move (s' := s.mkI x dx C c) (mkI_keep hx hd) h2 fun j l => ⟨if_neg (Nat.ne_of_lt h1), fun w e => k _ _ e⟩
    · subst h1; subst h2
      refine ⟨C, names, dx, [], ci, ?_, by simp, by simp, fun j f ef => by simp at ef⟩
      show upd (upd s.H dx (.own x)) x (.ins C dx []) (if s.h.length = s.h.length then x else s.φ s.h.length 0) = some (.ins C dx [])
      rw [if_pos rfl]; exact upd_same
  · have e' : (if m = s.h.length then x else s.φ m j) = (if q = s.h.length then x else s.φ q k') := e
    rcases live_appI l1 with ⟨h1, h2⟩ | ⟨h1, h2⟩ <;> rcases live_appI l2 with ⟨h3, h4⟩ | ⟨h3, h4⟩
    · rw [if_neg (Nat.ne_of_lt h1), if_neg (Nat.ne_of_lt h3)] at e'
      exact hr.inj _ _ _ _ h2 h4 e'
    · rw [if_neg (Nat.ne_of_lt h1), if_pos h3] at e'
      exact absurd e' (f2 _ _ h2)
    · rw [if_pos h1, if_neg (Nat.ne_of_lt h3)] at e'
      exact absurd e'.symm (f2 _ _ h4)
    · exact ⟨h1.trans h3.symm, h2.trans h4.symm⟩
  · show ¬ s.F (if m = s.h.length then x else s.φ m j)
    rcases live_appI l with ⟨h1, h2⟩ | ⟨h1, h2⟩
    · rw [if_neg (Nat.ne_of_lt h1)]; exact hr.nf _ _ h2
    · rw [if_pos h1]; exact f1
  · obtain ⟨h1, h2, u, h3⟩ := hr.bt b hb
    refine ⟨fun m j l => ?_, h2, u, k _ _ h3⟩
    show (if m = s.h.length then x else s.φ m j) ≠ b
    rcases live_appI l with ⟨k1, k2⟩ | ⟨k1, k2⟩
    · rw [if_neg (Nat.ne_of_lt k1)]; exact h1 _ _ k2
    · rw [if_pos k1]; rintro rfl; exact f3 hb
  · obtain ⟨u, h3⟩ := hr.ft b hb
    exact ⟨u, k _ _ h3⟩
theorem mkI_le (hr : HR K CI s) (hx : s.H x = none) (hd : s.H dx = none) : Le s (s.mkI x dx C c) := ⟨by show s.h.length ≤ (s.h ++ [_]).length; simp, fun n h => if_neg (Nat.ne_of_lt h), mkI_keep hx hd, fun b hb => by
  obtain ⟨_, _, u, e⟩ := hr.bt b hb
  exact ⟨hb, by show upd (upd s.H dx (.own x)) x (.ins C dx []) b = s.H b; rw [upd_ne (ne_of_none e hx), upd_ne (ne_of_none e hd)]⟩⟩
end
section
variable {Γ : Gm} {N : List Str} {sc : Sco} {ea : Expr} {pos p : Pos} {es : List Expr} {as : List E} {fi : Nat} {x : Str} {cl : Nat}
theorem de_new (v : GOk sc x) (hc : (x, cl, fi) ∈ Γ.cls) (ha : DAs Γ N sc (ea :: es) as) (he : Sec ea es := by intro _; rfl) (hpl : Pl es pos := by intro _; rfl) : DE Γ N sc (.Call (.Name x p) (ea :: es) [] pos) (.new cl fi as) := fun n I W X g => by
  obtain ⟨C, names, a, hm, ci, M, hk, hfn, fd, ps, d, e1, e2, hb, F⟩ := g.cl _ hc
  refine (pe_make (E := fun _ _ _ => False) M F g.room (v.g g) hm hb .nil (fun _ _ _ _ _ _ _ z => by obtain ⟨_, _, _, _, _, _, _, _, _, _, _, _, z⟩ := z; exact z.elim) (ha n I W X g) v.db (he _) (hpl _)).imp fun σ H Q q => ?_
  obtain ⟨env, s, eH, hr, er, _, pr⟩ := At.bind (Rel1 := fun s ds vs => Paired (VR X.K s) ds vs ∧ ds.length = as.length) (ev1 := fun env h => evalEs (callF Γ.fns n) env as h) (ev2 := fun vs env h1 => (noX (callF Γ.fns n fi (.ref h1.length :: vs) (h1 ++ [Ob.ins cl []]))).bind fun v h2 => newK h1.length v h2) q
  refine ⟨env, s, eH, hr, er, trivial, PR.mono pr fun vs H1 ⟨args, env, s, eH, hr, er, ⟨_, rel⟩, pr⟩ => ?_⟩
  subst eH
  intro x dx hx hd hne
  rw [List.append_nil]
  replace pr : PR X.K I W s σ ((noX (callF Γ.fns n fi (.ref s.h.length :: args) (s.h ++ [Ob.ins cl []]))).bind fun v h2 => newK s.h.length v h2) (VR X.K) Q := pr
  have l0 : Le s (s.mkI x dx C cl) := mkI_le hr hx hd
  have hr0 := hr.mkI hx hd ci
  have rel0 : Paired (VR X.K (s.mkI x dx C cl)) (Val.ref s.h.length :: args) (V.ref x :: vs) := .cons ⟨by show s.h.length < (s.h ++ [_]).length; simp, by show _ = V.ref (if s.h.length = s.h.length then x else _); rw [if_pos rfl]⟩ (paired_le l0 rel.1)
  rcases callF_np (fns := Γ.fns) (n := n) (f := fi) (args := Val.ref s.h.length :: args) (h := s.h ++ [.ins cl []]) e1 with h | h
  · refine ⟨s.mkI x dx C cl, _, rfl, hr0, rel0, h, ?_⟩
    show (match callF Γ.fns n fi (Val.ref s.h.length :: args) (s.h ++ [Ob.ins cl []]) with
      | .ok v h' => ∀ s' y, Le (s.mkI x dx C cl) s' → s'.h = h' → HR X.K I.ci s' → VR X.K s' v y → y = .non ∧ Q (.ref x) s'.H
      | .exc e h' => ∀ s' cls d, Le (s.mkI x dx C cl) s' → s'.h = h' → HR X.K I.ci s' → XR X.K I s' e cls d → False
      | .stuck => False)
    generalize callF Γ.fns n fi (Val.ref s.h.length :: args) (s.h ++ [Ob.ins cl []]) = r at pr ⊢
    cases r with
    | ok v h1 =>
      intro s' y l eh hr' rv
      replace pr : PR X.K I W s σ (newK s.h.length v h1) (VR X.K) Q := pr
      cases v with
      | ref m => exact False.elim pr
      | p dd =>
        cases dd with
        | none =>
          refine ⟨RF.non_inv rv, pr s' (.ref x) (l0.trans l) eh hr' ⟨Nat.lt_of_lt_of_le (by show s.h.length < (s.h ++ [_]).length; simp) l.len, ?_⟩⟩
          rw [l.ph s.h.length (by show s.h.length < (s.h ++ [_]).length; simp)]
          show V.ref x = V.ref (if s.h.length = s.h.length then x else _)
          rw [if_pos rfl]
        | _ => exact False.elim pr
    | exc e h1 => exact False.elim pr
    | stuck => exact False.elim pr
  · rw [h] at pr; exact False.elim pr
end
end Cd
set_option Elab.async false
set_option linter.all false
set_option maxRecDepth 100000
set_option maxHeartbeats 4000000
namespace Cd
open PySem PySem.Spec PyProof.Rows L2
section
variable {Γ : Gm} {N : List Str} {sc : Sco} {e tg ea eb ec : Expr} {a b c : E} {ta : Te} {o : O2} {pos p p2 apos : Pos} {es : List Expr} {as : List E} {i j fi : Nat} {x y f m : Str} {t : Tg} {src : Src} {cl : Nat} {names : List Str}
/-! ### one operand, looked up -/
theorem dp_neg (ha : DP Γ N sc ea a) (np : ∀ env h, peek env h a = none := by intros; rfl) : DP Γ N sc (.UnaryOp .USub ea pos) (.op1 .neg a) where
  run := fun n I W X g => (pe_un un_neg (ha.run n I W X g)).imp fun σ H Q ⟨env, s, eH, hr, er, pr⟩ => by
    refine ⟨env, s, eH, hr, er, ?_⟩
    replace pr : (match (bor env s.h a (evalE (callF Γ.fns n) env a s.h)).bind (fun x h1 => Cd.ofO ((negS x).map Val.p) h1) with
      | .ok (.p d) h' => h' = s.h ∧ ∀ x, RF X.K s.F s.H d x → Q x H
      | _ => False) := pr
    simp only [bor, np] at pr
    show (match evalE (callF Γ.fns n) env a s.h with
    | .ok (.p d2) h' => h' = s.h ∧ ∀ y, RF X.K s.F s.H d2 y → rU (fun i => .int (-i)) y H Q
    | _ => False)
    rcases ha.pure (callF Γ.fns n) env s.h with ⟨v, e⟩ | e
    · rw [e] at pr ⊢
      cases v with
      | p d =>
        simp only [R.bind_ok, unP] at pr
        refine ⟨rfl, fun y ry => ?_⟩
        cases d with
        | int k =>
          obtain rfl := ry.int_inv
          exact ⟨k, rfl, pr.2 _ (.int _)⟩
        | _ => exact False.elim pr
      | ref m => exact False.elim pr
    · rw [e] at pr
      exact False.elim pr
  pure := fun cf env h => by
    show (∃ v, (bor env h a (evalE cf env a h)).bind (fun x h1 => Cd.ofO ((negS x).map Val.p) h1) = .ok v h) ∨ (bor env h a (evalE cf env a h)).bind (fun x h1 => Cd.ofO ((negS x).map Val.p) h1) = .stuck
    simp only [bor, np]
    rcases ha.pure cf env h with ⟨v, e⟩ | e
    · rw [e]
      cases v with
      | p d =>
        simp only [R.bind_ok, unP]
        cases negS d with
        | none => exact .inr rfl
        | some z => exact .inl ⟨_, rfl⟩
      | ref m => exact .inr rfl
    · rw [e]; exact .inr rfl
/-! ### slices -/
def tO (K : PySem.W.Frag) (I : Inf) (l : Bool) (r : Ev → Hi → R Val) : TO := fun σ H Q => ∃ env s, s.H = H ∧ HR K I.ci s ∧ ER K s env σ ∧ match r env s.h with
  | .ok (.p d) h' => h' = s.h ∧ ∃ o, partD l d = some o ∧ Q o H
  | _ => False
structure DO (Γ : Gm) (N : List Str) (sc : Sco) (l : Bool) (e : Option Expr) (a : E) : Prop where
  run : ∀ n I W X, GX Γ n I N sc W X → PO X e (tO X.K I l (fun env h => evalE (callF Γ.fns n) env a h))
  pure : ∀ cf env h, (∃ v, evalE cf env a h = .ok v h) ∨ evalE cf env a h = .stuck
theorem _root_.L2.PO.imp {X : Cx} {e : Option Expr} {t t' : TO} (h : PO X e t) (i : ∀ σ H Q, t' σ H Q → t σ H Q) : PO X e t' := ⟨fun pins s σ H Q I q => h.run pins s σ H Q I (i σ H Q q)⟩
theorem do_none : DO Γ N sc false none (.lit .none) where
  run := fun n I W X g => po_none.imp fun σ H Q ⟨env, s, eH, hr, er, _, o, e, q⟩ => by
    cases e
    exact q
  pure := fun cf env h => .inl ⟨_, rfl⟩
theorem do_some (ha : DP Γ N sc ea a) : DO Γ N sc true (some ea) a where
  run := fun n I W X g => (po_some (ha.run n I W X g)).imp fun σ H Q ⟨env, s, eH, hr, er, pr⟩ => by
    refine ⟨env, s, eH, hr, er, ?_⟩
    replace pr : (match evalE (callF Γ.fns n) env a s.h with
      | .ok (.p d) h' => h' = s.h ∧ ∃ o, partD true d = some o ∧ Q o H
      | _ => False) := pr
    show (match evalE (callF Γ.fns n) env a s.h with
    | .ok (.p d2) h' => h' = s.h ∧ ∀ y, RF X.K s.F s.H d2 y → ∃ i, y = .int i ∧ Q (some i) H
    | _ => False)
    generalize evalE (callF Γ.fns n) env a s.h = r at pr ⊢
    cases r with
    | ok v h1 =>
      cases v with
      | p d =>
        obtain ⟨e0, o, e1, q⟩ := pr
        refine ⟨e0, fun y ry => ?_⟩
        cases d with
        | int k =>
          obtain rfl := ry.int_inv
          cases e1
          exact ⟨k, rfl, q⟩
        | _ => cases e1
      | ref m => exact pr
    | exc e h1 => exact pr
    | stuck => exact pr
  pure := ha.pure
theorem opf3_inv {l u : Bool} {d x y z : PyData} (e : opf3 (.slice l u) d x y = some z) : ∃ ts lo hi, partD l x = some lo ∧ partD u y = some hi ∧ ((d = .list ts ∧ z = .list (cutD ts lo hi)) ∨ (d = .tuple ts ∧ z = .tuple (cutD ts lo hi))) := by
  cases d with
  | list ts =>
    have e' : ((partD l x).bind fun lo => (partD u y).map fun hi => PyData.list (cutD ts lo hi)) = some z := e
    rw [Option.bind_eq_some_iff] at e'
    obtain ⟨lo, e1, e2⟩ := e'
    rw [Option.map_eq_some_iff] at e2
    obtain ⟨hi, e2, rfl⟩ := e2
    exact ⟨ts, lo, hi, e1, e2, .inl ⟨rfl, rfl⟩⟩
  | tuple ts =>
    have e' : ((partD l x).bind fun lo => (partD u y).map fun hi => PyData.tuple (cutD ts lo hi)) = some z := e
    rw [Option.bind_eq_some_iff] at e'
    obtain ⟨lo, e1, e2⟩ := e'
    rw [Option.map_eq_some_iff] at e2
    obtain ⟨hi, e2, rfl⟩ := e2
    exact ⟨ts, lo, hi, e1, e2, .inr ⟨rfl, rfl⟩⟩
  | _ => cases e
theorem RFs.cut {K : PySem.W.Frag} {F : Addr → Prop} {H : Hp} {ts : List PyData} {xs : List V} (r : RFs K F H ts xs) (lo hi : Option Int) : RFs K F H (cutD ts lo hi) (cutV xs lo hi) := by
  unfold cutD cutV
  rw [r.length]
  exact (r.drop _).take _
theorem cutD_all {ts : List PyData} {lo hi : Option Int} (h : HT.sIx ts.length 0 lo = 0 ∧ HT.sIx ts.length ts.length hi = ts.length) : cutD ts lo hi = ts := by
  unfold cutD
  rw [h.1, h.2]
  simp
theorem de_slice {l u : Bool} {lo hi : Option Expr} (ha : DB Γ N sc ea a) (hl : DO Γ N sc l lo b) (hu : DO Γ N sc u hi c) : DE Γ N sc (.Subscript ea (.Slice lo hi none p2) pos) (.op3b (.slice l u) a b c) := fun n I W X g =>
  (pe_slice (sl_list.or sl_tupA) (ha n I W X g) (hl.run n I W X g) (hu.run n I W X g)).imp fun σ H Q q => by
    obtain ⟨env, s, eH, hr, er, _, pr⟩ := At.bind (Rel1 := RB X.K) (ev1 := fun env h => bor env h a (evalE (callF Γ.fns n) env a h)) (ev2 := fun x env h => ((evalE (callF Γ.fns n) env b h).bind unP).bind fun y h2 => ((evalE (callF Γ.fns n) env c h2).bind unP).bind fun z h3 => ofO ((opf3 (.slice l u) x y z).map Val.p) h3) q
    refine ⟨env, s, eH, hr, er, trivial, ?_⟩
    refine PR.mono pr fun x H1 ⟨d, env, s, eH, hr, er, ⟨_, rb⟩, pr⟩ => ?_
    refine ⟨env, s, eH, hr, er, ?_⟩
    replace pr : PR X.K I W s σ (((evalE (callF Γ.fns n) env b s.h).bind unP).bind fun y h2 => ((evalE (callF Γ.fns n) env c h2).bind unP).bind fun z h3 => ofO ((opf3 (.slice l u) d y z).map Val.p) h3) (VR X.K) Q := pr
    show (match evalE (callF Γ.fns n) env b s.h with
    | .ok (.p d) h' => h' = s.h ∧ ∃ o, partD l d = some o ∧ tO X.K I u (fun env h => evalE (callF Γ.fns n) env c h) σ H1 _
    | _ => False)
    rcases hl.pure (callF Γ.fns n) env s.h with ⟨v, e⟩ | e
    · rw [e] at pr ⊢
      cases v with
      | ref m => exact False.elim pr
      | p d1 =>
        simp only [R.bind_ok, unP] at pr
        rcases hu.pure (callF Γ.fns n) env s.h with ⟨v2, e2⟩ | e2
        · rw [e2] at pr
          cases v2 with
          | ref m => exact False.elim pr
          | p d2 =>
            simp only [R.bind_ok, unP] at pr
            obtain ⟨z, e3, fin⟩ := PR.fin (o := opf3 (.slice l u) d d1 d2) pr hr
            obtain ⟨ts, lo', hi', e4, e5, ez⟩ := opf3_inv e3
            refine ⟨rfl, lo', e4, env, s, eH, hr, er, ?_⟩
            show (match evalE (callF Γ.fns n) env c s.h with
            | .ok (.p d) h' => h' = s.h ∧ ∃ o, partD u d = some o ∧ _
            | _ => False)
            rw [e2]
            refine ⟨rfl, hi', e5, ?_⟩
            subst eH
            rcases ez with ⟨rfl, rfl⟩ | ⟨rfl, rfl⟩
            · obtain ⟨p0, xs, rfl, h1, q1⟩ := rb.lst
              exact .inl ⟨p0, xs, rfl, h1, fun p' hp => fin.2 p' _ hp (lst_new hp (q1.cut lo' hi'))⟩
            · obtain ⟨p0, xs, rfl, h1, q1⟩ := rb.tup
              refine .inr ⟨p0, xs, rfl, h1, fun w => ?_, fun _ p' hp => fin.2 p' _ hp (tup_new hp (q1.cut lo' hi'))⟩
              rw [← q1.length] at w
              refine fin.1 _ ?_
              rw [cutD_all w]
              exact .tup h1 q1
        · rw [e2] at pr; exact False.elim pr
    · rw [e] at pr; exact False.elim pr
/-! ### isinstance -/
def tyName : Ty → String
  | .int => "int"
  | .bool => "bool"
  | .str => "str"
  | .tuple => "tuple"
  | .list => "list"
  | .exc _ => ""
def dTy : PyData → Option String
  | .none => some "NoneType"
  | .bool _ => some "bool"
  | .int _ => some "int"
  | .str _ => some "str"
  | .list _ => some "list"
  | .tuple _ => some "tuple"
  | _ => none
theorem rf_tyx {K : PySem.W.Frag} {s : Sx} {d : PyData} {v : V} (r : RF K s.F s.H d v) : ∃ T, dTy d = some T ∧ TyX K s.H v (.type T) := by
  cases r with
  | non => exact ⟨_, rfl, .base .non⟩
  | bl b => exact ⟨_, rfl, .base (.bl b)⟩
  | int i => exact ⟨_, rfl, .base (.int i)⟩
  | str y => exact ⟨_, rfl, .base (.str y)⟩
  | lst h q =>
    rcases h with ⟨_, h | ⟨o, h⟩⟩ | ⟨o, _, _, h1, h2, _⟩
    · exact ⟨_, rfl, .base (.lst h)⟩
    · exact ⟨_, rfl, .base (.frz h)⟩
    · exact ⟨_, rfl, .kList h1 h2⟩
  | tup h q =>
    rcases h with (h | ⟨o, h⟩) | h
    · exact ⟨_, rfl, .base (.tup h)⟩
    · exact ⟨_, rfl, .fTuple h⟩
    · obtain ⟨o, _, _, h1, h2, _⟩ := h
      exact ⟨_, rfl, .kTuple h1 h2⟩
theorem kit_all : ∀ t : Ty, (∀ c, t ≠ .exc c) → ∀ T ∈ ["NoneType", "bool", "int", "str", "list", "tuple"], kitB T (tyName t) = some (T == tyName t || (T == "bool" && tyName t == "int")) := by
  intro t h T hT
  cases t with
  | exc c => exact absurd rfl (h c)
  | _ => revert T; decide +kernel
theorem isTy_of {t : Ty} {d : PyData} {T : String} (h : ∀ c, t ≠ .exc c) (e : dTy d = some T) : isTy t d = (T == tyName t || (T == "bool" && tyName t == "int")) := by
  cases d <;> cases e <;> cases t <;> first | rfl | exact absurd rfl (h _)
theorem dTy_mem {d : PyData} {T : String} (e : dTy d = some T) : T ∈ ["NoneType", "bool", "int", "str", "list", "tuple"] := by
  cases d <;> cases e <;> decide
theorem de_isi {ty : Ty} {T : Str} {q : Pos} (v : NB Γ sc "isinstance") (v2 : NB Γ sc T) (ha : DV Γ N sc ea a) (hT : bootBuiltins T = some (.type (tyName ty))) (hx : ∀ c, ty ≠ .exc c := by intro _ z; cases z) (hnm : T ≠ "__name__" := by decide) (hdb : (T == ("__debug__" : Str)) = false := by decide)
    (se : Se2 ea (.Name T q) := by intro _; rfl) (se1 : Se1 (.Name T q) := by intro _; rfl) (hpl : Pl [.Name T q] pos := by intro _; rfl) : DE Γ N sc (.Call (.Name "isinstance" p) [ea, .Name T q] [] pos) (.isi a ty) := fun n I W X g =>
  (pe_callB (id := "isinstance") call_isi (v.g.g g) (g.nob _ v.m) (by decide +kernel) (pa_cons (ha n I W X g) (pa_cons (pe_bltn (v := .ty (tyName ty)) (v2.g.g g) (g.nob _ v2.m) hT rfl hnm hdb) pa_nil (se1 _)) (se _)) (by decide) (by decide) (se _) (hpl _)).imp fun σ H Q q => by
    obtain ⟨env, s, eH, hr, er, _, pr⟩ := At.bind (Rel1 := PRl X.K) (ev2 := fun d env h1 => R.ok (Val.p (.bool (isTy ty d))) h1) q
    refine ⟨env, s, eH, hr, er, trivial, PR.mono pr fun x H1 ⟨d, env, s, e, hr, er, ⟨_, rb⟩, pr⟩ => ?_⟩
    subst e
    obtain ⟨T', e1, ty'⟩ := rf_tyx rb
    refine ⟨x, .ty (tyName ty), .type T', .type (tyName ty), isTy ty d, rfl, .ty _, ty', kit_ty ?_, pr s _ (.refl s) rfl hr (.bl _)⟩
    rw [isTy_of hx e1]
    exact kit_all ty hx T' (dTy_mem e1)
/-! ### enumerate -/
set_option maxHeartbeats 1000000 in
/-- enumerate.__new__ of whatever may be walked -/
theorem enum_new1 {v : Value} {o : Obj} {C : Heap → Prop} (B : Begins v o C) :
    Meets (Builtin.«enumerate.__new__» ⟨[.type "enumerate", v], []⟩) (fun _ R s => C s.heap ∧
      R (.ok (.ret (.ref (s.heap.push o).objs.size))) { s with heap := (s.heap.push o).push { cls := .type "enumerate", data := .fields #[.none, .bool false, .ref s.heap.objs.size, rawInt 0, .none, .none] } }) :=
  .of_wp fun prog w A R s ⟨h1, h2⟩ => by
    obtain ⟨h0, gs, dr, tk, os⟩ := s
    have sub := sub_enumerate
    have it : ∀ {A' : Around} {E : Value → Shared → Prop} {Q : Value → Shared → Prop}, Q (.ref h0.objs.size) ⟨h0.push o, gs, dr, tk, os⟩ → wpAny (model prog w) A' (pyIter v) Q E ⟨h0, gs, dr, tk, os⟩ := fun q => B.iter prog w _ _ ⟨h0, gs, dr, tk, os⟩ _ h1 q
    wp_walk using it
    refine wpAny_stack_any fun st => wpAny_pure ?_
    split
    · rename_i cc _ _ _ _ _
      cases (cc == Value.type "enumerate") <;> (wp_walk using it; exact ⟨_, rfl, h2⟩)
    · wp_walk using it
      exact ⟨_, rfl, h2⟩
def ItE (C : Hp → Prop) (xs : List V) : It :=
  ⟨fun i H => C H ∧ i < xs.length, fun i H v H' => ∃ T x, v = .ref T ∧ H T = none ∧ H' = upd H T (.tup [.int (i : Nat), x]) ∧ xs[i]? = some x, fun i H => C H ∧ i = xs.length⟩
theorem turn_enumS {P : Program} {w : World} {K : PySem.W.Frag} {elts : List Expr} {kk : Nat} {tpos : Pos} {en it : Addr} {v : Value} {xs : List V} {C : Hp → Prop} {own : List Addr} {T : Addr → Nat → Heap → Prop} (S : SeqV K v xs C own T) (n1 : en ≠ it) (n2 : en ∉ own) (n3 : it ∉ own) :
    Turn P w K (.Tuple elts kk tpos) (ItE C xs) [en, it] en (fun i h => (∃ old, IsEnum h en it (0 + (i : Int)) old) ∧ T it i h) where
  mem := by simp
  obj := fun i h ⟨⟨old, he⟩, t⟩ b hb => by
    simp only [List.mem_cons, List.not_mem_nil, or_false] at hb
    rcases hb with rfl | rfl
    · exact ⟨_, he, fun v q => nomatch q⟩
    · exact S.ob _ _ _ t
  keep := fun i h h' ⟨⟨old, he⟩, t⟩ k => ⟨⟨old, k en (by simp) _ he⟩, S.at_ _ _ _ _ t (fun o e => k it (by simp) o e)⟩
  item := by
    intro X hP hw hK hc i pins s σ H E I hf st ⟨c, hi⟩
    subst hP hw hK
    obtain ⟨⟨old, he⟩, t⟩ := st
    have hh := I.ok.hd hc
    obtain ⟨P1, Q1, p1, D1, m1⟩ := S.drw X pins σ H s X.A.in1 it rfl I c (by simp [hh]) n3
    refine (GoesN.enumFrom (elts := elts) (x1 := kk) (pos := tpos) 0 D1 en n1 (by simp [n1, n2]) (by simp)).goes i s _ E hi ⟨⟨old, he⟩, t, p1⟩ fun v h' tk hY st' hk htk => ?_
    obtain ⟨T1, tt, y, rfl, hnew, hy, hT⟩ := hY
    obtain ⟨y', ey, ry⟩ := m1 i y hy
    obtain ⟨he', t', _⟩ := st'
    have new : ObjOk X.prog X.w (upd H T1 (.tup [.int (i : Nat), y'])) h' T1 (.tup [.int (i : Nat), y']) := by
      rw [Int.zero_add] at hT
      exact ⟨by show 2 ≤ sizeLine; decide, [.int (i : Nat) tt, y], .cons ⟨_, rfl⟩ (.cons ry .nil), hT⟩
    have I1 : Inv X pins σ (upd H T1 (.tup [.int (i : Nat), y'])) { s with heap := h', toks := tk } :=
      I.turnedNew (ch := [en, it]) (fun b o hb q => hk b o hb q) hf hnew new
    refine ⟨.ref T1, _, I1, rfl, ⟨T1, y', rfl, I.hok.fresh hnew, rfl, ey⟩, ⟨he', t'⟩, fun b hb => ?_⟩
    have hlt : b < s.heap.objs.size := by
      simp only [List.mem_cons, List.not_mem_nil, or_false] at hb
      rcases hb with rfl | rfl
      · exact Heap.lt_size he
      · obtain ⟨o, ho, _⟩ := S.ob _ _ _ t
        exact Heap.lt_size ho
    rw [upd_ne (Nat.ne_of_lt (Nat.lt_of_lt_of_le hlt hnew))]
    exact (hf b hb).1
  done := by
    intro X hP hw hK hc i pins s σ H E I hf st ⟨c, hi⟩
    subst hP hw hK
    obtain ⟨he, t⟩ := st
    have hh := I.ok.hd hc
    obtain ⟨P1, Q1, p1, D1, m1⟩ := S.drw X pins σ H s X.A.in1 it rfl I c (by simp [hh]) n3
    subst hi
    refine (GoesN.enumFrom (elts := elts) (x1 := kk) (pos := tpos) 0 D1 en n1 (by simp [n1, n2]) (by simp)).stops s _ E ⟨he, t, p1⟩ fun h' tk hk htk => ?_
    exact I.turnedL (ch := [en, it]) (fun b o hb q => hk b o hb q) hf
  self := fun A i s Q E st h => by
    obtain ⟨⟨_, he⟩, _⟩ := st
    exact wpAny_pyIter_enum he h
def iEnumS (K : PySem.W.Frag) (ta : TA) : TI := fun σ H R => ta σ H fun vs H1 => ∃ k x xs, vs = [x] ∧ SqK K k x xs H1 ∧ R (ItE (SqK K k x xs) xs) H1
theorem enum_of {P : Program} {w : World} {A : Around} {E : Value → Shared → Prop} {s : Shared} {v : Value} {o : Obj} {C : Heap → Prop} {Q : Value → Shared → Prop} (B : Begins v o C) (h1 : C s.heap)
    (h : ∀ h', IsEnum h' (s.heap.objs.size + 1) s.heap.objs.size 0 .none → h'.get? s.heap.objs.size = some o → (∀ b u, s.heap.get? b = some u → h'.get? b = some u) → Q (.ref (s.heap.objs.size + 1)) { s with heap := h' }) :
    wpAny (model P w) A (call (.type "enumerate") [v]) Q E s := by
  refine callType_new F.called_enumerate (by decide) (F.typeCall_enumerate_1 _) (F.newCall_enumerate_1 _) (fun obj => F.args_object_init_2 obj _) F.entry_enumerate_new (enum_new1 B) ⟨h1, ?_⟩
  show _ ∧ _
  have en : ((s.heap.push o).push { cls := .type "enumerate", data := .fields #[.none, .bool false, .ref s.heap.objs.size, rawInt 0, .none, .none] }).get? (s.heap.objs.size + 1) = some { cls := .type "enumerate", data := .fields #[.none, .bool false, .ref s.heap.objs.size, rawInt 0, .none, .none] } := by
    have z := Heap.get?_push_size (s.heap.push o) (o := { cls := .type "enumerate", data := .fields #[.none, .bool false, .ref s.heap.objs.size, rawInt 0, .none, .none] }) rfl
    rwa [Heap.size_push] at z
  rw [Heap.size_push]
  exact ⟨⟨_, en, rfl⟩, h _ en (Heap.get?_push_of_some _ (Heap.get?_push_size _ B.free)) fun b u e => Heap.get?_push_of_some _ (Heap.get?_push_of_some _ e)⟩
theorem pi_enumS {X : Cx} {e : Expr} {ta : TA} {p pos tpos : Pos} {elts : List Expr} {kk : Nat} (hg : Gl X "enumerate") (hm : X.mg "enumerate" = none) (ha : PA X [e] ta) (hs : starEach [e] X.env = [(false, eval e X.env)]) :
    PI X (.Tuple elts kk tpos) (.Call (.Name "enumerate" p) [e] [] pos) (iEnumS X.K ta) := ⟨fun pins s σ H R I h => by
  refine Call_ (ld_blt I hg hm boot_enumerate (PyProof.Rows.callWith_type1 (thn (ha.run pos pins s σ H _ I h) fun us s1 ⟨vs, H1, I1, r1, k, x, xs, ex, hx, q⟩ => ?_) hs rfl))
  subst ex
  obtain ⟨u, rfl, rx⟩ := r1.one
  obtain ⟨own, T, S⟩ := seq_of hx rx
  obtain ⟨o, Pre, B, p1, st1, l1⟩ := S.beg X pins σ H1 s1 rfl I1 hx
  refine enum_of B p1 fun h' he hit hk => wpAny_pyIter_enum he ?_
  have I2 : Inv X pins σ H1 { s1 with heap := h' } := I1.kept (t' := s1.toks) hk
  refine ⟨s1.heap.objs.size + 1, [s1.heap.objs.size + 1, s1.heap.objs.size], _, _, H1, rfl, I2, turn_enumS S (Nat.succ_ne_self _) (fun m => Nat.lt_irrefl _ (Nat.lt_of_succ_lt (l1 _ m))) (fun m => Nat.lt_irrefl _ (l1 _ m)), ⟨⟨.none, by simpa using he⟩, st1 _ _ hit⟩, fun b hb => ?_, q⟩
  have hle : s1.heap.objs.size ≤ b := by
    simp only [List.mem_cons, List.not_mem_nil, or_false] at hb
    rcases hb with rfl | rfl
    · exact Nat.le_add_right _ _
    · exact Nat.le_refl _
  exact I1.fpOk hle (I1.hok.fresh hle)⟩
theorem enumFrom_len : ∀ (ts : List PyData) (k : Nat), (enumFrom k ts).length = ts.length
  | [], _ => rfl
  | t :: ts, k => by simp [enumFrom, enumFrom_len ts (k + 1)]
theorem enumFrom_get : ∀ {ts : List PyData} {k i : Nat} {d : PyData}, ts[i]? = some d → (enumFrom k ts)[i]? = some (.tuple [.int ((k + i : Nat) : Int), d])
  | [], _, _, _, e => by simp at e
  | t :: ts, k, 0, d, e => by simp at e; subst e; simp [enumFrom]
  | t :: ts, k, i + 1, d, e => by
    have := enumFrom_get (ts := ts) (k := k + 1) (i := i) (by simpa using e)
    rw [show k + (i + 1) = k + 1 + i by omega]
    simpa [enumFrom] using this
theorem di_enum {elts : List Expr} {kk : Nat} {tpos : Pos} (v : NB Γ sc "enumerate") (ha : DV Γ N sc ea a) (se : ∀ env, starEach [ea] env = [(false, eval ea env)] := by intro _; rfl) : DI Γ N sc (.Tuple elts kk tpos) (.Call (.Name "enumerate" p) [ea] [] pos) (.enum a) := fun n I W X g =>
  (pi_enumS (v.g.g g) (g.nob _ v.m) (pa_cons (ha n I W X g) pa_nil (se _)) (se _)).imp fun σ H R q => by
    obtain ⟨env, s, eH, hr, er, _, pr⟩ := At.bind (Rel1 := PRl X.K) (ev2 := fun d env h1 => ofO ((itemsOf d).map (enumFrom 0)) h1) q
    refine ⟨env, s, eH, hr, er, trivial, PR.mono pr fun x H1 ⟨d, env, s, e, hr, er, ⟨_, rb⟩, pr⟩ => ?_⟩
    subst e
    replace pr : PR X.K I W s σ (ofO ((itemsOf d).map (enumFrom 0)) s.h) (JR X.K I.ci) R := pr
    cases e1 : itemsOf d with
    | none => rw [e1] at pr; exact False.elim pr
    | some ts =>
      rw [e1] at pr
      obtain ⟨k, xs, h1, q1, k1⟩ := rf_seq e1 rb
      refine ⟨k, x, xs, rfl, h1, pr s _ (.refl s) rfl hr fun s' le hr' i => ?_⟩
      rw [enumFrom_len, q1.length]
      refine ⟨fun hi => ⟨k1 s' le, hi⟩, fun hi => ⟨k1 s' le, hi⟩, fun v H' hi hy => ?_⟩
      obtain ⟨T, y, rfl, hT, rfl, ey⟩ := hy
      obtain ⟨d', e2, rd⟩ := (q1.keep le.kf).get' ey
      refine ⟨_, s'.put T (.tup [.int (i : Nat), y]) false, enumFrom_get e2, rfl, hr'.put_le hT, rfl, hr'.put hT, ?_⟩
      rw [Nat.zero_add]
      exact tup_new (K := X.K) (s := s') hT (.cons (.int _) (.cons rd .nil))
end
end Cd
set_option Elab.async false
set_option linter.all false
set_option maxRecDepth 100000
set_option maxHeartbeats 4000000
namespace Cd
open PySem PySem.Spec PyProof.Rows L2
/-! ### defs -/
/-- the heap back to its length -/
def Sx.cut (s : Sx) (n : Nat) : Sx := { s with h := s.h.take n }
theorem live_take {h : Hi} {n m k : Nat} (l : Live (h.take n) m k) : Live h m k := by
  have g : ∀ {m : Nat} {o : Ob}, (h.take n)[m]? = some o → h[m]? = some o := fun {m o} e => by
    rw [List.getElem?_take] at e
    split at e
    · exact e
    · cases e
  cases k with
  | zero => obtain ⟨o, e, nd⟩ := l; exact ⟨o, g e, nd⟩
  | succ k =>
    rcases l with ⟨c, fs, us, e, ef⟩ | ⟨kvs, q, us, e, ef⟩
    · exact .inl ⟨c, fs, us, g e, ef⟩
    · exact .inr ⟨kvs, q, us, g e, ef⟩
theorem HR.cut {K : PySem.W.Frag} {CI : CInf} {s : Sx} (hr : HR K CI s) (n : Nat) : HR K CI (s.cut n) where
  ob := fun m o e => by
    have e' : s.h[m]? = some o := by
      have e2 : (s.h.take n)[m]? = some o := e
      rw [List.getElem?_take] at e2
      split at e2
      · exact e2
      · cases e2
    exact (hr.ob m o e').move (s' := s.cut n) .refl e' fun j l => ⟨rfl, fun u h => h⟩
  inj := fun m j q k l1 l2 e => hr.inj m j q k (live_take l1) (live_take l2) e
  nf := fun m j l => hr.nf m j (live_take l)
  bt := fun b hb => let ⟨h1, h2, h3⟩ := hr.bt b hb; ⟨fun m j l => h1 m j (live_take l), h2, h3⟩
  ft := hr.ft
theorem cut_le {s s' : Sx} (l : Le s s') : Le s (s'.cut s.h.length) := ⟨by show s.h.length ≤ (s'.h.take s.h.length).length; rw [List.length_take]; have := l.len; omega, l.ph, l.kf, l.fr⟩
theorem slot_get : ∀ {env : Ev} {i : Nat} {v : Val}, slot env i = some v → env[i]? = some (some v)
  | [], _, _, h => by simp [slot] at h
  | x :: _, 0, v, h => by
    have e : x = some v := h
    rw [e]; rfl
  | _ :: r, i + 1, v, h => by
    have := slot_get (env := r) (i := i) (v := v) h
    simpa using this
theorem paired_get {α β : Type} {R : α → β → Prop} : ∀ {xs : List α} {ys : List β} {i : Nat} {x : α}, Paired R xs ys → xs[i]? = some x → ∃ y, ys[i]? = some y ∧ R x y
  | _, _, _, _, .nil, e => by simp at e
  | _, _, 0, _, .cons r _, e => by simp at e; subst e; exact ⟨_, rfl, r⟩
  | _, _, i + 1, x, .cons _ t, e => by
    obtain ⟨y, h1, h2⟩ := paired_get (i := i) (x := x) t (by simpa using e)
    exact ⟨y, by simpa using h1, h2⟩
theorem er_start {K : PySem.W.Frag} {s : Sx} {N : List Str} {d : FnD} {args : List Val} {vs : List V} (hN : N.length = d.ns) (r : Paired (VR K s) args vs) : ER K s (startE d args) (L2.start N vs) where
  len := by
    have := r.length
    unfold startE L2.start
    simp only [List.length_append, List.length_map, List.length_replicate]
    omega
  at_ := fun i v e => by
    have e1 := slot_get e
    have hl := r.length
    unfold startE at e1
    by_cases h : i < args.length
    · rw [List.getElem?_append_left (by simpa using h), List.getElem?_map] at e1
      cases e2 : args[i]? with
      | none => rw [e2] at e1; cases e1
      | some w =>
        rw [e2] at e1
        have e3 : w = v := by simpa using e1
        subst e3
        obtain ⟨x, h1, h2⟩ := paired_get r e2
        refine ⟨x, ?_, h2⟩
        unfold L2.start
        rw [List.getElem?_append_left (by simp; omega), List.getElem?_map, h1]
        rfl
    · rw [List.getElem?_append_right (by simp; omega), List.getElem?_replicate] at e1
      split at e1
      · cases e1
      · cases e1
/-- what the top tells, at the interpreter's fuel n -/
structure GD (P : Program) (w : World) (K : PySem.W.Frag) (mg : Str → Option Value) (base : Heap) (I : Inf) (Γ : Gm) (n : Nat) : Prop where
  fn : ∀ p ∈ Γ.defs, ∃ a, mg p.1 = some (.ref a) ∧ FAt P w K mg base I Γ.fns n p.2 a
  nob : ∀ x ∈ Γ.nobs, mg x = none
  con : ∀ p ∈ Γ.cons, ∃ u v, mg p.1 = some u ∧ RelV v u ∧ ∀ F H, RF K F H p.2 v
  cl : ∀ p ∈ Γ.cls, ∃ C names a, mg p.1 = some (.ref C) ∧ I.ci p.2.1 = some (C, names) ∧ Mk K C a ∧ FAt P w K mg base I Γ.fns n p.2.2 a
  mt : ∀ p ∈ Γ.meths, ∃ C names a, I.ci p.1 = some (C, names) ∧ Meth K C p.2.1 a ∧ p.2.1 ∉ names ∧ FAt P w K mg base I Γ.fns n p.2.2 a
  fl : ∀ p ∈ Γ.flds, ∃ C, I.ci p.1 = some (C, p.2) ∧ Cls K C ∧ p.2.Nodup ∧ p.2.length < 1000 ∧ ∀ x ∈ p.2, NoAttr K C x
  ci : ∀ c C names, I.ci c = some (C, names) → (c, names) ∈ Γ.flds
  xc : ∀ p ∈ Γ.excs, ∃ C, mg p.1 = some (.ref C) ∧ I.xi p.2 = some C ∧ XOk K C
  xm : ∀ c C c' C', I.xi c = some C → I.xi c' = some C' → PySem.W.exmOne K (.ref C) (.ref C') = some (subC c c')
  tb : ∀ p ∈ Γ.tabs, ∃ a, mg p.1 = some (.ref a) ∧ TabK K a p.2
def fnSco (st : Stmt) : Sco := ⟨defScope st, fun _ => true, true⟩
section
variable {P : Program} {w : World} {K : PySem.W.Frag} {mg : Str → Option Value} {base : Heap} {I : Inf} {Γ : Gm} {n fi : Nat}
theorem gx_of {N : List Str} {qual : Str} {st : Stmt} {f : Addr} {cdv : Value} {A : Around} {outer : List Env} {s : Shared} {H : Hp} {E : XK} (G : GD P w K mg base I Γ n) (nd : N.Nodup) (hr : Room (2 * n + 1) (A.deeper (envOfC qual (defScope st) s.heap.objs.size f cdv))) :
    GX Γ n I N (fnSco st) (fun cls d _ H => E cls d H) (cxOf (L2.CX P w) P w K mg base N qual (defScope st) f cdv A outer s H E) where
  hN := rfl
  nd := nd
  fnc := rfl
  sc := rfl
  calm := rfl
  tk := takes_of rfl rfl rfl rfl
  pass := passes_of rfl
  room := hr
  fn := G.fn
  nob := G.nob
  con := G.con
  cl := G.cl
  mt := G.mt
  fl := G.fl
  ci := G.ci
  xc := G.xc
  xm := G.xm
  tb := G.tb
  stk := fun _ => ⟨rfl, rfl⟩
/-- a def that stands at a, with its small program -/
structure FnSt (Γ : Gm) (K : PySem.W.Frag) (fi : Nat) (a : Addr) : Prop where
  kp : PySem.W.keepIn K (.ref a) = true
  isf : PySem.W.isFn K (.ref a) = true
  ex : ∃ (x qual : Str) (st : Stmt) (fd : FuncData) (N ps : List Str) (d : FnD), Fun K x qual st a fd ∧ FnScope N ps (defScope st) ∧ Binds K fd ps [] ∧ Γ.fns fi = some d ∧ ps.length = d.np ∧ N.length = d.ns ∧ DSs Γ N (fnSco st) (defBody st) d.body
theorem fn_sound {x qual : Str} {st : Stmt} {a : Addr} {fd : FuncData} {N ps : List Str} {d : FnD} (G : GD P w K mg base I Γ n) (F : Fun K x qual st a fd) (S : FnScope N ps (defScope st)) (e : Γ.fns fi = some d) (hp : ps.length = d.np) (hns : N.length = d.ns)
    (hb : DSs Γ N (fnSco st) (defBody st) d.body) : FnOk P w K mg base (L2.CX P w) (2 * (n + 1)) a fd ps (spF K I Γ.fns (n + 1) fi d.np) := by
  refine F.okX (k := 2 * n + 1) S (fun vs H Q E ⟨s, args, _, _, r, hl, _⟩ => by rw [← r.length, hl, hp]) fun cdv A outer s0 H vs Q E hr ⟨s, args, eH, hR, r, hl, h⟩ => ?_
  refine ⟨_, hb n I _ _ (gx_of G S.nd hr), startE d args, s, eH, hR, er_start hns r, trivial, ?_⟩
  have h' : (match finF s.h.length (evalSs (callF Γ.fns n) d.body (startE d args) s.h) with
    | .ok v h' => ∀ s' x, Le s s' → s'.h = h' → HR K I.ci s' → VR K s' v x → Q x s'.H
    | .exc e h' => ∀ s' cls d, Le s s' → s'.h = h' → HR K I.ci s' → XR K I s' e cls d → E cls d s'.H
    | .stuck => False) := by
    have h2 := h
    unfold callF at h2
    rw [e] at h2
    simp only [hl, if_true] at h2
    exact h2
  show PSt K I (fun cls d _ H => E cls d H) _ s (evalSs (callF Γ.fns n) d.body (startE d args) s.h)
  generalize evalSs (callF Γ.fns n) d.body (startE d args) s.h = rs at h' ⊢
  cases rs with
  | ok fl env1 h1 =>
    cases fl with
    | nx =>
      intro s' σ' l eh hr' er'
      subst eh
      exact h' (s'.cut s.h.length) .non (cut_le l) rfl (hr'.cut _) .non
    | bk => exact False.elim h'
    | ct => exact False.elim h'
    | rt v =>
      cases v with
      | p dd =>
        intro s' y l eh hr' rv
        subst eh
        exact h' (s'.cut s.h.length) y (cut_le l) rfl (hr'.cut _) rv
      | ref m =>
        intro s' y l eh hr' rv
        subst eh
        exact h' s' y l rfl hr' rv
  | exc e2 env1 h1 =>
    intro s' σ' cls dx l eh hr' er' xr
    subst eh
    exact h' (s'.cut s.h.length) cls dx (cut_le l) rfl (hr'.cut _) xr
  | stuck => exact h'
/-- what the top has written -/
structure GS (K : PySem.W.Frag) (mg : Str → Option Value) (I : Inf) (Γ : Gm) : Prop where
  fn : ∀ p ∈ Γ.defs, ∃ a, mg p.1 = some (.ref a) ∧ FnSt Γ K p.2 a
  nob : ∀ x ∈ Γ.nobs, mg x = none
  con : ∀ p ∈ Γ.cons, ∃ u v, mg p.1 = some u ∧ RelV v u ∧ ∀ F H, RF K F H p.2 v
  cl : ∀ p ∈ Γ.cls, ∃ C names a, mg p.1 = some (.ref C) ∧ I.ci p.2.1 = some (C, names) ∧ Mk K C a ∧ FnSt Γ K p.2.2 a
  mt : ∀ p ∈ Γ.meths, ∃ C names a, I.ci p.1 = some (C, names) ∧ Meth K C p.2.1 a ∧ p.2.1 ∉ names ∧ FnSt Γ K p.2.2 a
  fl : ∀ p ∈ Γ.flds, ∃ C, I.ci p.1 = some (C, p.2) ∧ Cls K C ∧ p.2.Nodup ∧ p.2.length < 1000 ∧ ∀ x ∈ p.2, NoAttr K C x
  ci : ∀ c C names, I.ci c = some (C, names) → (c, names) ∈ Γ.flds
  xc : ∀ p ∈ Γ.excs, ∃ C, mg p.1 = some (.ref C) ∧ I.xi p.2 = some C ∧ XOk K C
  xm : ∀ c C c' C', I.xi c = some C → I.xi c' = some C' → PySem.W.exmOne K (.ref C) (.ref C') = some (subC c c')
  tb : ∀ p ∈ Γ.tabs, ∃ a, mg p.1 = some (.ref a) ∧ TabK K a p.2
theorem fat_of {a : Addr} (h : FnSt Γ K fi a) (G : ∀ m, n = m + 1 → GD P w K mg base I Γ m) : FAt P w K mg base I Γ.fns n fi a := by
  obtain ⟨x, qual, st, fd, N, ps, d, F, S, B, e, hp, hns, hb⟩ := h.ex
  refine ⟨h.kp, h.isf, fd, ps, d, e, hp, B, ?_⟩
  cases n with
  | zero =>
    refine ⟨fun vs H Q E ⟨s, args, _, _, r, hl, h⟩ => False.elim h, fun A outer s H args us vs Q E hr he hb hv hs => ?_⟩
    obtain ⟨s, args, _, _, r, hl, h⟩ := hs
    exact False.elim h
  | succ m => exact fn_sound (G m rfl) F S e hp hns hb
theorem gd_all (g : GS K mg I Γ) : ∀ n, GD P w K mg base I Γ n := by
  intro n
  induction n with
  | zero => exact ⟨fun p hp => let ⟨a, h1, h2⟩ := g.fn p hp; ⟨a, h1, fat_of h2 fun m e => by cases e⟩, g.nob, g.con, fun p hp => let ⟨C, nm, a, h1, h2, h3, h4⟩ := g.cl p hp; ⟨C, nm, a, h1, h2, h3, fat_of h4 fun m e => by cases e⟩,
      fun p hp => let ⟨C, nm, a, h1, h2, h3, h4⟩ := g.mt p hp; ⟨C, nm, a, h1, h2, h3, fat_of h4 fun m e => by cases e⟩, g.fl, g.ci, g.xc, g.xm, g.tb⟩
  | succ n ih => exact ⟨fun p hp => let ⟨a, h1, h2⟩ := g.fn p hp; ⟨a, h1, fat_of h2 fun m e => by cases e; exact ih⟩, g.nob, g.con, fun p hp => let ⟨C, nm, a, h1, h2, h3, h4⟩ := g.cl p hp; ⟨C, nm, a, h1, h2, h3, fat_of h4 fun m e => by cases e; exact ih⟩,
      fun p hp => let ⟨C, nm, a, h1, h2, h3, h4⟩ := g.mt p hp; ⟨C, nm, a, h1, h2, h3, fat_of h4 fun m e => by cases e; exact ih⟩, g.fl, g.ci, g.xc, g.xm, g.tb⟩
end
/-! ### the law -/
def okTrue : R Val → Bool
  | .ok (.p (.bool true)) _ => true
  | _ => false
/-- the script as data -/
abbrev scriptD (ns : List Int) : Val := .p (.list (ns.map .int))
theorem law_sp {K : PySem.W.Frag} {I : Inf} {Γ : Gm} {n fi : Nat} {H : Hp} {a : Addr} {ns : List Int} (hH : SqL K H a (ns.map V.int)) (h : okTrue (callF Γ.fns n fi [scriptD ns] []) = true) :
    spF K I Γ.fns n fi 1 [.ref a] H (fun v _ => v = .bl true) fun _ _ _ => False := by
  refine ⟨⟨fun _ _ => 0, fun b => b = a ∧ ∃ o, H b = some o, [], H, fun _ => False⟩, [scriptD ns], rfl, ⟨fun n o e => by simp at e, fun n j m k l => by have := live_lt l; simp at this, fun n j l => by have := live_lt l; simp at this, fun b hb => hb.elim, fun b hb => hb.2⟩, .cons (.lst ?_ (.ofInts ns)) .nil, rfl, ?_⟩
  · rcases hH with h | h
    · exact .inl ⟨⟨rfl, h.elim (fun h => ⟨_, h⟩) fun ⟨o, h⟩ => ⟨_, h⟩⟩, h⟩
    · exact .inr h
  · show (match callF Γ.fns n fi [scriptD ns] [] with
    | .ok v h' => ∀ s' x, _ → s'.h = h' → HR K I.ci s' → VR K s' v x → x = .bl true
    | .exc e h' => ∀ s' cls d, _ → s'.h = h' → HR K I.ci s' → XR K I s' e cls d → False
    | .stuck => False)
    generalize callF Γ.fns n fi [scriptD ns] [] = r at h ⊢
    cases r with
    | ok v h1 =>
      cases v with
      | p d =>
        cases d with
        | bool b =>
          cases b with
          | true => exact fun s' x _ _ _ rv => RF.bl_inv rv
          | false => cases h
        | _ => cases h
      | ref m => cases h
    | exc e h1 => cases h
    | stuck => cases h
theorem fn_calm {P : Program} {w : World} {K : PySem.W.Frag} {mg : Str → Option Value} {base : Heap} {k : Nat} {a : Addr} {fd : FuncData} {ps : List Str} {sp : Sp} (F : FnOk P w K mg base (L2.CX P w) k a fd ps sp) : FnOk P w K mg base CX0 k a fd ps (fun vs H Q _ => sp vs H Q fun _ _ _ => False) where
  len := fun vs H Q _ h => F.len _ _ _ _ h
  run := fun A outer s H args us vs Q E hr he hb hv hs => codeAny_mono (F.run A outer s H args us vs Q _ hr he hb hv hs) fun r s' h => by
    cases r with
    | error e =>
      obtain ⟨_, _, _, _, _, _, _, _, _, _, _, _, z⟩ := h
      exact z.elim
    | ok fl => cases fl <;> exact h
/-- THE END: the interpreter says True for every script -/
theorem walk_end {l : PySem.W.OpenLaw} {m : Nat} {q : Program} {loose : List Str} {XP : (Str → Option Value) → Heap → Prop} {YP : World → Heap → Prop} {d : DefRec} {Γ : Gm} {fi n : Nat} (x : Str)
    (hn : l.most = some m) (hn2 : m ≤ sizeLine) (hdf : d.params.defaults = []) (hr : Room (2 * (n + 1)) callerA) (hm : ∀ ns : List Int, ns.length ≤ m → okTrue (callF Γ.fns (n + 1) fi [scriptD ns] []) = true)
    (F : ∀ (w : World) (mg : Str → Option Value) (fa : Addr) (h : Heap), YP w h → h.Ns mainGlobals mg → mg d.name = some (.ref fa) →
      ∃ (K : PySem.W.Frag) (I : Inf) (fd : FuncData), K.In h ∧ (∀ (s : Shared) (u : Value), BindsTo s fd ⟨[u], []⟩ [(x, u)]) ∧ GS K mg I Γ ∧ ∃ (x' qual : Str) (st : Stmt) (N : List Str) (dd : FnD), Fun K x' qual st fa fd ∧ FnScope N [x] (defScope st) ∧ Γ.fns fi = some dd ∧ dd.np = 1 ∧ N.length = dd.ns ∧ DSs Γ N (fnSco st) (defBody st) dd.body) :
    PySem.W.WalkO q loose XP YP l.row.toRowW d [] (fun f vs => PySem.call f vs) := by
  refine walk_ofE (n := m) (k := 2 * (n + 1)) (x := x) (CX := CX0) hn hn2 hdf hr (fun w mg fa h Y G hmg => ?_) fun _ _ _ _ z => z
  obtain ⟨K, I, fd, KX, hb, g, x', qual, st, N, dd, hF, S, e, hp, hns, ds⟩ := F w mg fa h Y G hmg
  refine ⟨K, fd, _, KX, hb, fun H a ns hl _ hS => ?_, fun base _ _ => fn_calm (fn_sound (n := n) (I := I) (gd_all g n) hF S e (by rw [hp]; rfl) hns ds)⟩
  rw [hp]
  exact law_sp hS (hm ns hl)
end Cd
set_option Elab.async false
set_option linter.all false
set_option maxRecDepth 100000
set_option maxHeartbeats 4000000
namespace Cd
open PySem PySem.Spec PyProof.Rows L2
/-! ### set of a list of ints -/
/-- an empty set, as it is made -/
abbrev eSet (w : World) : Obj := { cls := .type "set", dict := none, data := .set #[] 0 (.fresh 0 0 (!w.params.followText "set-order")) }
/-- a walker of a list, new -/
abbrev eIter (l : Addr) : Obj := { cls := .type "list_iterator", data := .fields #[.ref l, .int 0 0] }
section
variable {P : Program} {w : World} {A : Around} {E : Value → Shared → Prop} {s : Shared}
/-- what stands after set.__init__ -/
def SetDone (w : World) (s : Shared) (ns : List Int) (r : Value) (s2 : Shared) : Prop := r = .none ∧ ∃ h' tk c, s2 = { s with heap := h', toks := tk } ∧ SetR w h' s.heap.objs.size (fun j => decide (j ∈ ns)) c ∧ c ≤ ns.length ∧ ∀ b o, s.heap.get? b = some o → h'.get? b = some o
/-- the loop that fills it -/
theorem set_fill {B : Around} {l : Addr} {vs : Array Value} {ns : List Int} {E2 : Value → Shared → Prop} (hh : B.in1.handled = none) (hl : s.heap.IsList l vs) (iv : IntsAre vs.toList ns) (few : ns.length + 1 < scanBound) {R : Result → Shared → Prop}
    (hR : ∀ s2, SetDone w s ns .none s2 → R (.ok (.ret .none)) s2) :
    codeAny (model P w) B (.builtin "set.update.loop" ⟨[.ref s.heap.objs.size, .ref (s.heap.objs.size + 1)], []⟩) R { s with heap := (s.heap.push (eSet w)).push (eIter l) } := by
  have len : vs.size = ns.length := by simpa using iv.length
  have z1 : (s.heap.push (eSet w)).objs.size = s.heap.objs.size + 1 := Heap.size_push ..
  have ll : l < s.heap.objs.size := by
    obtain ⟨o, e, _⟩ := hl
    exact Heap.lt_size e
  have e1 : ((s.heap.push (eSet w)).push (eIter l)).get? s.heap.objs.size = some (eSet w) := Heap.get?_push_of_some _ (Heap.get?_push_size _ rfl)
  have e2 : ((s.heap.push (eSet w)).push (eIter l)).get? (s.heap.objs.size + 1) = some (eIter l) := by
    have q := Heap.get?_push_size (s.heap.push (eSet w)) (o := eIter l) rfl
    rwa [z1] at q
  have W := (Walks.list (prog := P) (w := w) hh (s.heap.objs.size + 1) l (Nat.ne_of_lt (Nat.lt_succ_of_lt ll)) vs).toS
  have nm : s.heap.objs.size ∉ [s.heap.objs.size + 1, l] := fun q => by
    rcases List.mem_cons.mp q with q | q
    · exact absurd q (Nat.ne_of_lt (Nat.lt_succ_self _))
    · exact absurd (List.mem_singleton.mp q).symm (Nat.ne_of_lt ll)
  refine set_update_ints W s.heap.objs.size nm ns len few (fun i v e => ?_) (vs.size - 0) 0 _ (by omega) (Nat.zero_le _) ⟨⟨_, e2, rfl, rfl⟩, (hl.push _).push _⟩ ⟨0, Nat.le_refl 0, setR_new_at e1⟩ fun s2 c mv hc R2 => hR s2 ?_
  · have il : i < ns.length := by rw [← len]; exact (Array.getElem?_eq_some_iff.mp e).1
    obtain ⟨t, e3⟩ := PyProof.Rows.IntsAre.int_at iv i v (by rw [Array.getElem?_toList]; exact e)
    refine ⟨ns[i], t, List.getElem?_eq_getElem il, ?_⟩
    rw [e3, List.getD_eq_getElem?_getD, List.getElem?_eq_getElem il]
    rfl
  · obtain ⟨h2, g2, d2, t2, o2⟩ := s2
    have q1 : g2 = s.gens := mv.gens
    have q2 : d2 = s.drawn := mv.drawn
    have q3 : o2 = s.os := mv.os
    subst q1 q2 q3
    refine ⟨rfl, h2, t2, c, rfl, R2, by rw [← len]; exact hc, fun b o e => ?_⟩
    have lb := Heap.lt_size e
    have nb : b ∉ [s.heap.objs.size, s.heap.objs.size + 1] := fun q => by
      rcases List.mem_cons.mp q with q | q
      · exact absurd q (Nat.ne_of_lt lb)
      · exact absurd (List.mem_singleton.mp q) (Nat.ne_of_lt (Nat.lt_succ_of_lt lb))
    exact mv.heap b o nb (Heap.get?_push_of_some _ (Heap.get?_push_of_some _ e))
set_option maxHeartbeats 3200000 in
theorem set_list_ints {l : Addr} {vs : Array Value} {ns : List Int} {Q : Value → Shared → Prop} (hh : A.handled = none) (hl : s.heap.IsList l vs) (iv : IntsAre vs.toList ns) (few : ns.length + 1 < scanBound)
    (hQ : ∀ s2, SetDone w s ns .none s2 → Q (.ref s.heap.objs.size) s2) : wpAny (model P w) A (call (.type "set") [.ref l]) Q E s := by
  obtain ⟨c, tl, m0⟩ := F.called_set.mro
  have m1 := F.called_set.made
  have m2 := F.called_set.sub
  refine wpAny_call (codeAny_of_tree ?_)
  show wpAny _ _ (callAny (.type "set") _) _ _ _
  refine wpAny_pure ⟨Code.quiet_builtin _ (by decide +kernel), codeAny_builtin F.entry_type_call ?_⟩
  rw [Around.under_plain (weight_type_call_type "set" [.ref l] []) rfl]
  have m3 := F.called_set.notType
  have m4 := F.called_set.canCreate
  have m5 := F.typeCall_set_1 (.ref l)
  repeat (any_goals (first | assumption | wp_step))
  refine codeAny_mono (code_set_led1 (.ref l) (E := E) (Q₁ := fun u s1 => u = .ref s.heap.objs.size ∧ s1 = { s with heap := s.heap.push (eSet w) }) ⟨rfl, rfl⟩) fun r s1 hr => ?_
  match r, hr with
  | .error e, hr => exact hr
  | .ok .next, hr => exact hr.elim
  | .ok .brk, hr => exact hr.elim
  | .ok .cont, hr => exact hr.elim
  | .ok (.ret u), ⟨e1, e2⟩ =>
    subst e1 e2
    have hT : Shared.TypeIs { s with heap := s.heap.push (eSet w) } (.ref s.heap.objs.size) "set" := ⟨_, Heap.get?_push_size _ rfl, rfl⟩
    have m6 := F.called_set.init.lookup
    have m7 := F.called_set.init.bind (.ref s.heap.objs.size)
    repeat (any_goals (first | assumption | wp_step))
    refine codeAny_mono (codeAny_call_builtin (R := wants (SetDone w s ns) E) F.called_set.init.plain F.entry_set_init (check_set_init_1 hT ?_)) fun r2 s2 hr2 => ?_
    · obtain ⟨⟨k1, k2, k3, k4⟩, o1, k5, k, k6⟩ := id hl
      simp only at k5 k6
      subst k5 k6
      have o2 : (s.heap.push (eSet w)).get? l = some { cls := .type "list", dict := k2, data := .seq vs k, slots := k4 } := Heap.get?_push_of_some _ o1
      have n1 := F.sub_list_set
      have n2 := F.sub_list_frozenset
      have n3 : (Value.type "list" == Value.type "dict") = false := by decide
      unfold Builtin.«set.__init__» noKeywords Builtin.Frozenset.updateFrom
      generalize hit : pyIter = it
      wp_walk
      subst hit
      refine wpAny_pyIter_list (hl.push _) (wpAny_bind (wpAny_runValue ?_))
      have z1 : (s.heap.push (eSet w)).objs.size = s.heap.objs.size + 1 := Heap.size_push ..
      rw [z1]
      refine set_fill (E2 := E) (by simp [hh]) hl iv few fun s2 d => ?_
      show wpAny _ _ _ _ _ _
      refine wpAny_pure ?_
      show wpAny _ _ (ret Value.none) _ _ _
      exact wpAny_pure d
    · match r2, hr2 with
      | .error e, hr2 => exact hr2
      | .ok .next, hr2 => exact hr2.elim
      | .ok .brk, hr2 => exact hr2.elim
      | .ok .cont, hr2 => exact hr2.elim
      | .ok (.ret u), d =>
        obtain ⟨rfl, d2⟩ := id d
        repeat (any_goals (first | assumption | wp_step))
        exact hQ _ d
end
end Cd
set_option Elab.async false
set_option linter.all false
set_option maxRecDepth 100000
set_option maxHeartbeats 4000000
namespace Cd
open PySem PySem.Spec PyProof.Rows L2
/-! ### sorted(set(..)) -/
def rSetI (K : PySem.W.Frag) (w : World) : List V → Hp → VK → Prop := fun xs H Q => ∃ (a : Addr) (ns : List Int), xs = [.ref a] ∧ SqL K H a (ns.map V.int) ∧ ns.length < 64 ∧ ∀ p c, H p = none → c ≤ ns.length → Q (.ref p) (upd H p (SetO w p (fun j => decide (j ∈ ns)) c))
theorem cr_setI {X : Cx} (hc : X.calm = true) : CallR X (.type "set") (rSetI X.K X.w) := by
  intro pins s σ H xs us Q I r ⟨a, ns, e, h, few, q⟩
  subst e
  rw [Vals.ref1 r]
  obtain ⟨its, rv, pl, _⟩ := I.list h
  refine set_list_ints (I.ok.hd hc) pl.isList (ns := ns) (intsAre_of (by simpa using rv)) (by unfold scanBound; omega) fun s2 ⟨_, h', tk, c, e, R, hc', k⟩ => ?_
  subst e
  have hn : H s.heap.objs.size = none := I.hok.fresh (Nat.le_refl _)
  refine ⟨.ref s.heap.objs.size, upd H s.heap.objs.size (SetO X.w s.heap.objs.size (fun j => decide (j ∈ ns)) c), I.laid (t' := tk) (fun b u e => k b u e) (Nat.le_refl _) (setO_new R), rfl, q _ c hn hc'⟩
theorem dedup_mem {ns : List Int} {k : Int} : k ∈ dedup ns ↔ k ∈ ns := by
  induction ns with
  | nil => simp [dedup]
  | cons x r ih =>
    unfold dedup
    split
    · rename_i h
      rw [ih]
      constructor
      · exact fun z => List.mem_cons_of_mem _ z
      · intro z
        rcases List.mem_cons.mp z with rfl | z
        · exact h
        · exact z
    · simp [ih]
theorem dedup_nodup (ns : List Int) : (dedup ns).Nodup := by
  induction ns with
  | nil => simp [dedup]
  | cons x r ih =>
    unfold dedup
    split
    · exact ih
    · rename_i h
      exact List.nodup_cons.mpr ⟨fun z => h (dedup_mem.mp z), ih⟩
theorem set_sorted {ms ns : List Int} (h1 : ms.Pairwise (· < ·)) (h2 : ∀ k : Int, k ∈ ms ↔ decide (k ∈ ns) = true) : ms = sortI (dedup ns) := by
  refine sorted_uniq (List.Perm.trans ?_ (sortI_perm _).symm) (h1.imp fun h => Int.le_of_lt h) (sortI_sorted _)
  refine (List.perm_ext_iff_of_nodup (h1.imp fun h => Int.ne_of_lt h) (dedup_nodup ns)).mpr fun k => ?_
  rw [dedup_mem, h2]
  simp
section
variable {Γ : Gm} {N : List Str} {sc : Sco} {e tg ea eb ec : Expr} {a b c : E} {ta : Te} {o : O2} {pos p p2 apos : Pos} {es : List Expr} {as : List E} {i j fi : Nat} {x y f m : Str} {t : Tg} {src : Src} {cl : Nat} {names : List Str}
theorem dn_sortedSet {q : Pos} (v : NB Γ sc "sorted") (v2 : NB Γ sc "set") (ha : DB Γ N sc ea a) (se1 : Se1 ea := by intro _; rfl) (se2 : Se1 (.Call (.Name "set" q) [ea] [] p2) := by intro _; rfl) :
    DN Γ N sc (.Call (.Name "sorted" p) [.Call (.Name "set" q) [ea] [] p2] [] pos) (.op1 .sortedSet a) := fun n I W X g =>
  (pe_bi1 g (cr_sortedSet g.calm) v (by decide +kernel) (pe_ty1 g (cr_setI g.calm) v2 (by decide +kernel) (ha n I W X g) se1) se2).imp fun σ H Q q => by
    have q' : tE X.K I W (fun env h => (bor env h a (evalE (callF Γ.fns n) env a h)).bind fun x h1 => Cd.ofO (sortedSetS x) h1) (RN X.K) σ H Q := by
      obtain ⟨env, s, eH, hr, er, _, pr⟩ := q
      refine ⟨env, s, eH, hr, er, trivial, ?_⟩
      replace pr : PR X.K I W s σ (((bor env s.h a (evalE (callF Γ.fns n) env a s.h)).bind fun x h1 => Cd.ofO ((sortedSetS x).map Val.p) h1).bind unP) (RN X.K) Q := pr
      show PR X.K I W s σ ((bor env s.h a (evalE (callF Γ.fns n) env a s.h)).bind fun x h1 => Cd.ofO (sortedSetS x) h1) (RN X.K) Q
      generalize bor env s.h a (evalE (callF Γ.fns n) env a s.h) = r at pr ⊢
      cases r with
      | ok d h1 =>
        simp only [R.bind_ok] at pr ⊢
        rw [ofO_unP] at pr
        exact pr
      | exc e h1 => exact pr
      | stuck => exact pr
    obtain ⟨env, s, eH, hr, er, _, pr⟩ := At.bind (Rel1 := RB X.K) (ev2 := fun x env h => Cd.ofO (sortedSetS x) h) q'
    refine ⟨env, s, eH, hr, er, trivial, ?_⟩
    refine PR.mono pr fun x H1 ⟨d, env, s, e, hr, er, ⟨_, rb⟩, pr⟩ => ?_
    subst e
    replace pr : PR X.K I W s σ (Cd.ofO (sortedSetS d) s.h) (RN X.K) Q := pr
    cases e1 : sortedSetS d with
    | none => rw [e1] at pr; exact False.elim pr
    | some d' =>
      rw [e1] at pr
      cases d with
      | list ts =>
        have e2 : ((intsD ts).bind fun ns => if ns.length < 64 then some (PyData.list ((sortI (dedup ns)).map .int)) else none) = some d' := e1
        rw [Option.bind_eq_some_iff] at e2
        obtain ⟨ns, e3, e4⟩ := e2
        split at e4
        · rename_i few
          cases e4
          obtain ⟨l, xs, rfl, h1, q1⟩ := rb.lst
          obtain ⟨rfl, _⟩ := q1.ints' e3
          refine ⟨l, ns, rfl, h1, few, fun p0 c hp hc => ?_⟩
          refine ⟨p0, _, c, rfl, upd_same, by omega, fun ms p1 s1 s2 s3 hp1 => ?_⟩
          obtain rfl := set_sorted s1 s2
          have hr1 := hr.put (o := SetO X.w p0 (fun j => decide (j ∈ ns)) c) (fz := false) hp
          have hp1' : (s.put p0 (SetO X.w p0 (fun j => decide (j ∈ ns)) c) false).H p1 = none := hp1
          exact pr ((s.put p0 _ false).put p1 (.lst _) false) _ ((hr.put_le hp).trans (hr1.put_le hp1')) rfl (hr1.put hp1') (RN.new hr1 hp1' (.ofInts _))
        · cases e4
      | _ => cases e1
/-! ### data that is made, as a value -/
theorem DP.toE (h : DP Γ N sc ea a) (nr : ∀ cf env h n, evalE cf env a h ≠ .ok (.ref n) h := by intro _ _ _ _ z; cases z) : DE Γ N sc ea a := fun n I W X g => (h.run n I W X g).imp fun σ H Q q => by
  obtain ⟨env, s, eH, hr, er, _, pr⟩ := q
  refine ⟨env, s, eH, hr, er, ?_⟩
  replace pr : PR X.K I W s σ (evalE (callF Γ.fns n) env a s.h) (VR X.K) Q := pr
  show (match evalE (callF Γ.fns n) env a s.h with
    | .ok (.p d) h' => h' = s.h ∧ ∀ x, RF X.K s.F s.H d x → Q x H
    | _ => False)
  rcases h.pure (callF Γ.fns n) env s.h with ⟨v, e⟩ | e
  · have nr' := nr (callF Γ.fns n) env s.h
    rw [e] at pr nr' ⊢
    cases v with
    | p d => exact ⟨rfl, fun x rx => by rw [← eH]; exact pr s x (.refl s) rfl hr rx⟩
    | ref m => exact absurd rfl (nr' m)
  · rw [e] at pr; exact False.elim pr
/-- ends with data, where it ends well -/
def Dat (a : E) : Prop := ∀ cf env h, (∃ d h', evalE cf env a h = .ok (.p d) h') ∨ (∀ v h', evalE cf env a h ≠ .ok v h')
theorem dat_bind {α : Type} {r : R α} {k : α → Hi → R Val} (hk : ∀ x h, (∃ d h', k x h = .ok (.p d) h') ∨ (∀ v h', k x h ≠ .ok v h')) : (∃ d h', r.bind k = .ok (.p d) h') ∨ (∀ v h', r.bind k ≠ .ok v h') := by
  cases r with
  | ok a h => exact hk a h
  | exc e h => exact .inr fun v h' z => by cases z
  | stuck => exact .inr fun v h' z => by cases z
theorem dat_ofO {o : Option PyData} {h : Hi} : (∃ d h', Cd.ofO (o.map Val.p) h = .ok (.p d) h') ∨ (∀ v h', Cd.ofO (o.map Val.p) h ≠ .ok v h') := by
  cases o with
  | none => exact .inr fun v h' z => by cases z
  | some d => exact .inl ⟨d, h, rfl⟩
theorem dat_op1 {o : O1} : Dat (.op1 o a) := fun cf env h => dat_bind fun x h1 => dat_ofO
theorem dat_op2 {o : O2} : Dat (.op2 o a b) := fun cf env h => dat_bind fun x h1 => dat_bind fun y h2 => dat_ofO
theorem dat_op2b {o : O2} : Dat (.op2b o a b) := fun cf env h => dat_bind fun x h1 => dat_bind fun y h2 => dat_ofO
theorem dat_op2d {o : O2} : Dat (.op2d o a b) := fun cf env h => dat_bind fun x h1 => dat_bind fun y h2 => dat_ofO
theorem dat_lst : Dat (.lst as) := fun cf env h => dat_bind fun x h1 => .inl ⟨_, _, rfl⟩
theorem dat_comp {own : List Nat} {cs : List Te} : Dat (.comp own t src cs a) := fun cf env h => dat_bind fun x h1 => by
  unfold compK2
  split
  · generalize compL _ _ _ _ _ _ = r
    cases r with
    | ok ys h => exact .inl ⟨_, _, rfl⟩
    | exc e h => exact .inr fun v h' z => by cases z
    | stuck => exact .inr fun v h' z => by cases z
  · exact .inr fun v h' z => by cases z
theorem DN.toE (h : DN Γ N sc ea a) (d : Dat a) : DE Γ N sc ea a := h.v.toE d
/-! ### two stores at once -/
def e0 (sc : Scope) : Env := { scope := sc, locals := 0, globals := 0, cells := [] }
theorem par_env {ts : List Expr} {v : Expr} {env : Env} : swappedStores ts v env = swappedStores ts v (e0 env.scope) := by
  unfold swappedStores Env.blockKind Env.kindOf e0
  rfl
theorem sw_env {v : Expr} {tg : Option Expr} {l : Nat} {env : Env} : swapsWith v tg l env = swapsWith v tg l (e0 env.scope) := by
  unfold swapsWith Env.blockKind Env.kindOf e0
  rfl
structure LOk (N : List Str) (sc : Sco) (i : Nat) (x : Str) : Prop where
  hN : N[i]? = some x
  loc : sc.s.names.lookup x = some .local
theorem ds_set2 {px py pt pt2 : Pos} {kt k2 : Nat} (v1 : LOk N sc i x) (v2 : LOk N sc j y) (ne : i ≠ j) (ha : DE Γ N sc ea a) (hb : DE Γ N sc eb b) (hw : swappedStores [.Tuple [.Name x px, .Name y py] kt pt] (.Tuple [ea, eb] k2 pt2) (e0 sc.s) = pure (some [x, y]))
    (hs : ∀ env, swapsWithSole [.Tuple [.Name x px, .Name y py] kt pt] (.Tuple [ea, eb] k2 pt2) pos.line env = pure false := by intro _; rfl) (se : Sec ea [eb] := by intro _; rfl) (se1 : Sec eb [] := by intro _; rfl) :
    DS Γ N sc (.Assign [.Tuple [.Name x px, .Name y py] kt pt] (.Tuple [ea, eb] k2 pt2) pos) (.set2 i j a b) := fun n I W X g =>
  (ps_par (i := i) (j := j) g.calm (by rw [g.hN]; exact g.nd) (by rw [g.hN]; exact v1.hN) (by rw [g.hN]; exact v2.hN) ne (by rw [g.sc]; exact v1.loc) (by rw [g.sc]; exact v2.loc) (pa_cons (ha n I W X g) (pa_cons (hb n I W X g) pa_nil (se1 _)) (se _)) (by rw [par_env, g.sc]; exact hw) (hs _)).imp fun D σ H q => by
    obtain ⟨env, s, eH, hr, er, _, pr⟩ := AtS.bind (Rel1 := VR X.K) (k := fun v env h1 => (evalE (callF Γ.fns n) env b h1).toS env fun w h2 => .ok .nx (setSlot (setSlot env i (some v)) j (some w)) h2) q
    refine ⟨env, s, eH, hr, er, trivial, PR.mono pr fun u H1 ⟨v, q⟩ => ?_⟩
    obtain ⟨env, s, eH, hr, er, _, pr⟩ := AtS.bind (Rel1 := VR X.K) (G' := fun s => VR X.K s v u) (k := fun w env h2 => .ok .nx (setSlot (setSlot env i (some v)) j (some w)) h2) q (fun s s' l g => g.2.le l)
    refine ⟨env, s, eH, hr, er, trivial, PR.mono pr fun u2 H2 ⟨w, env, s, e, hr, er, ⟨r1, r2⟩, pr⟩ => ?_⟩
    subst e
    exact ⟨u, u2, rfl, pr s _ (.refl s) rfl hr ((er.set r1).set r2)⟩
theorem ds_unpackP {tgs vs : List Expr} {kt k2 : Nat} {pt pt2 : Pos} (ht : DG Γ N sc (.Tuple tgs kt pt) t) (ha : DV Γ N sc (.Tuple vs k2 pt2) a) (hw : swappedStores [.Tuple tgs kt pt] (.Tuple vs k2 pt2) (e0 sc.s) = pure none) (hs : ∀ env, swapsWithSole [.Tuple tgs kt pt] (.Tuple vs k2 pt2) pos.line env = pure false := by intro _; rfl)
    (h1 : ∀ env, (assignEach [.Tuple tgs kt pt] env).map (·.2) = [assign (.Tuple tgs kt pt) env] := by intro _; rfl) : DS Γ N sc (.Assign [.Tuple tgs kt pt] (.Tuple vs k2 pt2) pos) (.unpack t a) :=
  ds_unpack ht ha hs (fun n I W X g => by rw [par_env, g.sc]; exact hw) h1
/-- a comprehension's list for a name that others see -/
theorem ds_setC (v : TOk N sc i x) (ha : DE Γ N sc ea a) (hs : swapsWith ea (some (.Name x p)) pos.line (e0 sc.s) = pure false) : DS Γ N sc (.Assign [.Name x p] ea pos) (.set i a) := fun n I W X g =>
  (ps_set (i := i) (by rw [g.hN]; exact g.nd) (by rw [g.hN]; exact v.hN) (by rw [g.sc]; exact v.loc) (ha n I W X g) (by rw [sw_env, g.sc]; exact hs) (by rw [g.fnc, g.sc]; exact v.fn)).imp fun D σ H q => by
    obtain ⟨env, s, eH, hr, er, _, pr⟩ := AtS.bind (Rel1 := VR X.K) (k := fun v env h1 => .ok .nx (setSlot env i (some v)) h1) q
    refine ⟨env, s, eH, hr, er, trivial, PR.mono pr fun x H1 ⟨v, env, s, e, hr, er, ⟨_, r⟩, pr⟩ => ?_⟩
    subst e
    exact pr s _ (.refl s) rfl hr (er.set r)
end
/-! ### facts by kernel -/
def voB (N : List Str) (sc : Sco) (i : Nat) (x : Str) : Bool := N[i]? == some x && (sc.s.names.lookup x == some .local || sc.s.names.lookup x == some .cell || sc.s.names.lookup x == some .free) && !(x == ("__debug__" : Str)) && !(x == ("__classdict__" : Str))
theorem vo {N : List Str} {sc : Sco} {i : Nat} {x : Str} (h : voB N sc i x = true) : VOk N sc i x := by
  simp only [voB, Bool.and_eq_true, Bool.or_eq_true, beq_iff_eq, Bool.not_eq_true'] at h
  exact ⟨h.1.1.1, by rcases h.1.1.2 with (h | h) | h; exact .inl h; exact .inr (.inl h); exact .inr (.inr h), h.1.2, h.2⟩
def goB (sc : Sco) (x : Str) : Bool := sc.s.names.lookup x == some .globalImplicit && !(x == ("__debug__" : Str)) && !(x == ("__name__" : Str))
theorem go {sc : Sco} {x : Str} (h : goB sc x = true) : GOk sc x := by
  simp only [goB, Bool.and_eq_true, beq_iff_eq, Bool.not_eq_true'] at h
  exact ⟨h.1.1, h.1.2, by have := h.2; simpa using this⟩
def memB {α : Type} [DecidableEq α] (x : α) (l : List α) : Bool := decide (x ∈ l)
theorem nb {Γ : Gm} {sc : Sco} {x : Str} (h : (goB sc x && decide (x ∈ Γ.nobs)) = true) : NB Γ sc x := by
  simp only [Bool.and_eq_true, decide_eq_true_eq] at h
  exact ⟨go h.1, h.2⟩
def toB (N : List Str) (sc : Sco) (i : Nat) (x : Str) : Bool := N[i]? == some x && ((sc.s.names.lookup x == some .local) || (sc.s.names.lookup x == some .cell && sc.fn x))
theorem to {N : List Str} {sc : Sco} {i : Nat} {x : Str} (h : toB N sc i x = true) : TOk N sc i x := by
  simp only [toB, Bool.and_eq_true, Bool.or_eq_true, beq_iff_eq] at h
  rcases h with ⟨h1, h2 | ⟨h2, h3⟩⟩
  · exact ⟨h1, .inl h2, .inr h2⟩
  · exact ⟨h1, .inr h2, .inl h3⟩
def loB (N : List Str) (sc : Sco) (i : Nat) (x : Str) : Bool := N[i]? == some x && (sc.s.names.lookup x == some .local)
theorem lo {N : List Str} {sc : Sco} {i : Nat} {x : Str} (h : loB N sc i x = true) : LOk N sc i x := by
  simp only [loB, Bool.and_eq_true, beq_iff_eq] at h
  exact ⟨h.1, h.2⟩
def blkB (N : List Str) (sc scope : Scope) (own : List (Str × Nat)) : Bool := scope.kind == .function && scope.names.all (fun y => scope.names.lookup y.1 == some y.2) && own.all (fun p => N[p.2]? == some p.1) &&
  scope.names.all (fun y => !(y.2 == .free) || (sc.names.lookup y.1 == some .cell || sc.names.lookup y.1 == some .free)) && scope.names.all (fun y => !(y.2 == .local || y.2 == .cell) || (decide (y.1 ∈ own.map (·.1)) || !decide (y.1 ∈ N)))
theorem bo {N : List Str} {sc scope : Scope} {own : List (Str × Nat)} (h : blkB N sc scope own = true) : BlkOk N sc scope own := by
  simp only [blkB, Bool.and_eq_true, List.all_eq_true, beq_iff_eq, Bool.or_eq_true, Bool.not_eq_true', decide_eq_true_eq, decide_eq_false_iff_not] at h
  obtain ⟨⟨⟨⟨h1, h2⟩, h3⟩, h4⟩, h5⟩ := h
  refine ⟨h1, h2, h3, fun y hy e => ?_, fun y hy e => ?_⟩
  · rcases h4 y hy with z | z
    · rw [e] at z; cases z
    · exact z
  · rcases h5 y hy with z | z
    · rcases e with e | e <;> (rw [e] at z; cases z)
    · exact z
def swB (N : List Str) (sc : Sco) (i : Nat) (y : Str) (scope : Scope) (pos py : Pos) (l : Nat) : Bool := N[i]? == some y && sc.s.kind == .function && sc.s.names.lookup y == some .local && py.line == pos.line && l == py.line && !(scope.names.any fun (n, k) => n == y && (k == .local || k == .cell))
theorem so {N : List Str} {sc : Sco} {i : Nat} {y : Str} {scope : Scope} {pos py : Pos} {l : Nat} (h : swB N sc i y scope pos py l = true) : SwOk N sc i y scope pos py l := by
  simp only [swB, Bool.and_eq_true, beq_iff_eq, Bool.not_eq_true'] at h
  obtain ⟨⟨⟨⟨⟨h1, h2⟩, h3⟩, h4⟩, h5⟩, h6⟩ := h
  exact ⟨h1, h2, h3, by rw [h4]; exact beq_self_eq_true _, h5, h6⟩
theorem mo {α : Type} [DecidableEq α] {x : α} {l : List α} (h : decide (x ∈ l) = true) : x ∈ l := of_decide_eq_true h
end Cd
namespace Cd
open PySem PySem.Spec PyProof.Rows L2
def fsB (N P : List Str) (sc : Scope) : Bool := sc.kind == .function && !sc.isCoroutine && !sc.isGenerator && decide N.Nodup && decide (N.take P.length = P) && P.all (fun x => sc.names.lookup x == some .local || sc.names.lookup x == some .cell) && sc.names.all fun y => !(y.2 == .free)
theorem fs {N P : List Str} {sc : Scope} (h : fsB N P sc = true) : FnScope N P sc := by
  simp only [fsB, Bool.and_eq_true, List.all_eq_true, beq_iff_eq, Bool.or_eq_true, Bool.not_eq_true', decide_eq_true_eq] at h
  obtain ⟨⟨⟨⟨⟨⟨h1, h2⟩, h3⟩, h4⟩, h5⟩, h6⟩, h7⟩ := h
  exact ⟨h1, h2, h3, h4, h5, h6, fun y hy e => by have := h7 y hy; rw [e] at this; cases this⟩
theorem walk_endK {l : PySem.W.OpenLaw} {m : Nat} {q : Program} {loose : List Str} {XP : (Str → Option Value) → Heap → Prop} {YP : World → Heap → Prop} {d : DefRec} {Γ : Gm} {fi n : Nat} {K : Params → PySem.W.Frag} (x : Str)
    (hn : l.most = some m) (hn2 : m ≤ sizeLine) (hdf : d.params.defaults = []) (hr : Room (2 * (n + 1)) callerA) (hm : ∀ ns : List Int, ns.length ≤ m → okTrue (callF Γ.fns (n + 1) fi [scriptD ns] []) = true) (hY : ∀ (w : World) (h : Heap), YP w h → (K w.params).In h)
    (F : ∀ (w : World) (mg : Str → Option Value) (fa : Addr) (h : Heap), (K w.params).In h → h.Ns mainGlobals mg → mg d.name = some (.ref fa) →
      ∃ (I : Inf) (fd : FuncData), (∀ (s : Shared) (u : Value), BindsTo s fd ⟨[u], []⟩ [(x, u)]) ∧ GS (K w.params) mg I Γ ∧ ∃ (x' qual : Str) (st : Stmt) (N : List Str) (dd : FnD), Fun (K w.params) x' qual st fa fd ∧ FnScope N [x] (defScope st) ∧ Γ.fns fi = some dd ∧ dd.np = 1 ∧ N.length = dd.ns ∧ DSs Γ N (fnSco st) (defBody st) dd.body) :
    PySem.W.WalkO q loose XP YP l.row.toRowW d [] (fun f vs => PySem.call f vs) :=
  walk_end x hn hn2 hdf hr hm fun w mg fa h Y G hmg => by
    obtain ⟨I, fd, hb, g, r⟩ := F w mg fa h (hY w h Y) G hmg
    exact ⟨_, I, fd, hY w h Y, hb, g, r⟩
end Cd
set_option Elab.async false
set_option linter.all false
set_option maxRecDepth 100000
set_option maxHeartbeats 4000000
namespace Cd
open PySem PySem.Spec PyProof.Rows L2
/-! ### x.count(y) -/
theorem scal_plain {d : PyData} (h : scalD d = true) : d.plain = true ∧ d.depth = 0 := by
  cases d <;> first | exact ⟨rfl, rfl⟩ | cases h
theorem scal_plainAll : ∀ {ds : List PyData}, ds.all scalD = true → PyData.plainAll ds = true
  | [], _ => by simp [PyData.plainAll]
  | d :: ds, h => by
    simp only [List.all_cons, Bool.and_eq_true] at h
    simp [PyData.plainAll, (scal_plain h.1).1, scal_plainAll h.2]
def rCnt (K : PySem.W.Frag) (t : Bool) : V → List V → Hp → VK → Prop := fun x xs H Q => ∃ (p : Addr) (ys : List V) (ds : List PyData) (y : V) (d : PyData), x = .ref p ∧ xs = [y] ∧ (if t = true then SqT K H p ys else SqL K H p ys) ∧ DpAll K H ys ds ∧ Dp K H y d ∧ ds.all scalD = true ∧ scalD d = true ∧
  Q (.int (ds.countP fun z => PyData.eqv z d : Nat)) H
section
variable {X : Cx}
theorem mt_cntL (hu : X.A.units + 64 < cLine) : MtR X "list.count" (rCnt X.K false) := by
  intro pins s σ H x xs v us Q I rx rxs h
  obtain ⟨p, ys, ds, y, d, rfl, rfl, hs, dp, dy, h1, h2, q⟩ := h
  cases rx
  obtain ⟨u, rfl, ru⟩ := rxs.one
  obtain ⟨its, rv, hl, _⟩ := I.list hs
  obtain ⟨as, ra⟩ := Dp.readsAll I _ _ its dp rv
  obtain ⟨bs, rb⟩ := Dp.reads I _ _ _ dy ru
  have e := (scal_plain h2).2
  exact PySem.SeqAt.count_list_data hl.isList ra rb (scal_plainAll h1) (scal_plain h2).1 (by rw [e, Nat.min_zero]; omega) ⟨.int _, H, I.tok _, ⟨_, rfl⟩, q⟩
theorem mt_cntT (hu : X.A.units + 64 < cLine) : MtR X "tuple.count" (rCnt X.K true) := by
  intro pins s σ H x xs v us Q I rx rxs h
  obtain ⟨p, ys, ds, y, d, rfl, rfl, hs, dp, dy, h1, h2, q⟩ := h
  cases rx
  obtain ⟨u, rfl, ru⟩ := rxs.one
  obtain ⟨its, rv, hl, _⟩ := I.tuple hs
  obtain ⟨as, ra⟩ := Dp.readsAll I _ _ its dp rv
  obtain ⟨bs, rb⟩ := Dp.reads I _ _ _ dy ru
  have e := (scal_plain h2).2
  exact PySem.SeqAt.count_tuple_data hl ra rb (scal_plainAll h1) (scal_plain h2).1 (by rw [e, Nat.min_zero]; omega) ⟨.int _, H, I.tok _, ⟨_, rfl⟩, q⟩
end
theorem countD_inv {x y z : PyData} (e : countD x y = some z) : ∃ ds, x = .list ds ∧ scalD y = true ∧ ds.all scalD = true ∧ z = .int (ds.countP fun w => PyData.eqv w y) := by
  unfold countD at e
  split at e
  · split at e
    · rename_i h
      simp only [Bool.and_eq_true] at h
      cases e
      exact ⟨_, rfl, h.1, h.2, rfl⟩
    · cases e
  · cases e
theorem countTD_inv {x y z : PyData} (e : countTD x y = some z) : ∃ ds, x = .tuple ds ∧ scalD y = true ∧ ds.all scalD = true ∧ z = .int (ds.countP fun w => PyData.eqv w y) := by
  unfold countTD at e
  split at e
  · split at e
    · rename_i h
      simp only [Bool.and_eq_true] at h
      cases e
      exact ⟨_, rfl, h.1, h.2, rfl⟩
    · cases e
  · cases e
section
variable {Γ : Gm} {N : List Str} {sc : Sco} {e tg ea eb ec : Expr} {a b c : E} {ta : Te} {o : O2} {pos p p2 apos : Pos} {es : List Expr} {as : List E} {i j : Nat} {x y f : Str} {t : Tg} {src : Src} {cl : Nat} {names : List Str}
/-- x.m(y), y looked up: a method that reads -/
theorem bm2_imp {o : O2} {T : String} {r : V → List V → Hp → VK → Prop} {n : Nat} {I : Inf} {W : WX} {X : Cx} (ok : ∀ (s : Sx) d1 d2 d x y (Q : VK), RB X.K s d1 x → RF X.K s.F s.H d2 y → opf2 o d1 d2 = some d → Fin X.K s d Q → r x [y] s.H Q)
    (ty : ∀ (s : Sx) d1 d2 d x, RB X.K s d1 x → opf2 o d1 d2 = some d → tyV X.K T x s.H) (hb : ∀ cf env h, (∃ v, evalE cf env b h = .ok v h) ∨ evalE cf env b h = .stuck) {σ : L2.St} {H : Hp} {Q : VK} (q : tE X.K I W (fun env h => evalE (callF Γ.fns n) env (.op2b o a b) h) (VR X.K) σ H Q) :
    tBM X.K T r (tE X.K I W (fun env h => bor env h a (evalE (callF Γ.fns n) env a h)) (RB X.K)) (tCons (tP X.K I (fun env h => evalE (callF Γ.fns n) env b h)) tNil) σ H Q := by
    obtain ⟨env, s, eH, hr, er, _, pr⟩ := At.bind (Rel1 := RB X.K) (ev2 := fun x env h => ((evalE (callF Γ.fns n) env b h).bind unP).bind fun y h2 => ofO ((opf2 o x y).map Val.p) h2) q
    refine ⟨env, s, eH, hr, er, trivial, ?_⟩
    refine PR.mono pr fun x H1 ⟨d, env, s, eH, hr, er, ⟨_, rb⟩, pr⟩ => ?_
    replace pr : PR X.K I W s σ (((evalE (callF Γ.fns n) env b s.h).bind unP).bind fun y h2 => ofO ((opf2 o d y).map Val.p) h2) (VR X.K) Q := pr
    rcases hb (callF Γ.fns n) env s.h with ⟨v, e⟩ | e
    · rw [e] at pr
      cases v with
      | ref m => exact False.elim pr
      | p y =>
        obtain ⟨d', e1, f⟩ := PR.fin (o := opf2 o d y) pr hr
        subst eH
        refine ⟨ty s d y d' x rb e1, env, s, rfl, hr, er, ?_⟩
        show (match evalE (callF Γ.fns n) env b s.h with
        | .ok (.p d2) h' => h' = s.h ∧ ∀ z, RF X.K s.F s.H d2 z → r x [z] s.H Q
        | _ => False)
        rw [e]
        exact ⟨rfl, fun z rz => ok s d y d' x z Q rb rz e1 f⟩
    · rw [e] at pr
      exact False.elim pr
theorem de_count (ha : DB Γ N sc ea a) (hb : DP Γ N sc eb b) (m : MOk p apos) (hbs : ∀ env, attributeBase ea "count" env (eval ea env) = eval ea env := by intro _; rfl) (hf : Few eb p := by intro _; rfl) (se : Se1 eb := by intro _; rfl) :
    DE Γ N sc (.Call (.Attribute ea "count" apos) [eb] [] p) (.op2b .count a b) := fun n I W X g =>
  (pe_bm PySem.F.plainAttrs_list PySem.F.slot_list_count PySem.F.type_list_count (mt_cntL g.hu) (ha n I W X g) (pa_cons (hb.run n I W X g) pa_nil (se _)) (hbs _) (hf _) m.line (se _) rfl).imp fun σ H Q q =>
    bm2_imp (fun s d1 d2 d x y Q r1 r2 e f => by
      obtain ⟨ds, rfl, h1, h2, rfl⟩ := countD_inv e
      obtain ⟨a, xs, rfl, k1, k2⟩ := r1.lst
      exact ⟨a, xs, ds, y, d2, rfl, rfl, k1, k2.dp, r2.dp, h2, h1, f.1 _ (.int _)⟩) (fun s d1 d2 d x r1 e => by
      obtain ⟨ds, rfl, h1, h2, rfl⟩ := countD_inv e
      obtain ⟨a, xs, rfl, k1, k2⟩ := r1.lst
      exact .inl ⟨rfl, xs, k1⟩) hb.pure q
/-! ### len(x), len(x.f), looked up -/
theorem dp_len1 (v : NB Γ sc "len") (vv : VOk N sc i x) (se : ∀ q : Pos, Se1 (.Name x q) := by intro _ _; rfl) : DP Γ N sc (.Call (.Name "len" p) [.Name x p2] [] pos) (.op1 .len (.var i)) where
  run := fun n I W X g => (pe_bi1 g call_len v boot_len (vv.pe g) (se _)).imp fun σ H Q q => by
    obtain ⟨env, s, eH, hr, er, pr⟩ := q
    subst eH
    replace pr : (match (bor env s.h (.var i) (ofO (slot env i) s.h)).bind fun x h1 => ofO ((lenD x).map Val.p) h1 with
      | .ok (.p d) h' => h' = s.h ∧ ∀ x, RF X.K s.F s.H d x → Q x s.H
      | _ => False) := pr
    cases e : slot env i with
    | none =>
      simp only [bor, peek, lstOf, slotRef, e, Option.bind_none, Option.map_none, ofO_none, R.bind_stuck] at pr
    | some w =>
      obtain ⟨y, h1, h2⟩ := er.at_ i _ e
      refine ⟨y, h1, ?_⟩
      cases w with
      | p d =>
        simp only [bor, peek, lstOf, slotRef, e, Option.bind_none, Option.map_none, ofO_some, R.bind_ok, unP] at pr
        cases e1 : lenD d with
        | none => rw [e1] at pr; exact False.elim pr
        | some k =>
          rw [e1] at pr
          exact ok_len s d k y Q (.inl h2) e1 ⟨fun z r => pr.2 z r, fun p u hp r => by
            unfold lenD at e1
            split at e1
            · cases e1; cases r
            · cases e1; cases r
            · split at e1
              · cases e1; cases r
              · cases e1
            · cases e1⟩
      | ref m =>
        cases e2 : listAt s.h m with
        | none =>
          simp only [bor, peek, lstOf, slotRef, e, e2, Option.bind_some, Option.map_none, ofO_some, R.bind_ok, unP, R.bind_stuck] at pr
        | some ts =>
          simp only [bor, peek, lstOf, slotRef, e, e2, Option.bind_some, Option.map_some, R.bind_ok, lenD, ofO_some] at pr
          obtain ⟨xs, k1, k2⟩ := hr.ob _ _ (listAt_of e2)
          obtain ⟨_, rfl⟩ := h2
          exact ⟨_, _, rfl, .inl ⟨xs, .inl (Rd.of k1), rfl⟩, by rw [← k2.length]; exact pr.2 _ (.int _)⟩
  pure := fun cf env h => by
    show (∃ v, ((bor env h (.var i) (ofO (slot env i) h)).bind fun x h1 => ofO ((lenD x).map Val.p) h1) = .ok v h) ∨ ((bor env h (.var i) (ofO (slot env i) h)).bind fun x h1 => ofO ((lenD x).map Val.p) h1) = .stuck
    have key : ∀ d, (∃ v, (ofO ((lenD d).map Val.p) h) = .ok v h) ∨ (ofO ((lenD d).map Val.p) h) = .stuck := fun d => by
      cases lenD d with
      | none => exact .inr rfl
      | some k => exact .inl ⟨_, rfl⟩
    unfold bor
    cases peek env h (.var i) with
    | some d => exact key d
    | none =>
      cases slot env i with
      | none => exact .inr rfl
      | some w =>
        cases w with
        | p d => exact key d
        | ref m => exact .inr rfl
theorem dp_lenF {q2 : Pos} {f : Str} (v : NB Γ sc "len") (vv : VOk N sc i x) (hf : FOk Γ cl names j f) (hab : Ab x p2 f := by intro _; rfl) (se : Se1 (.Attribute (.Name x p2) f q2) := by intro _; rfl) : DP Γ N sc (.Call (.Name "len" p) [.Attribute (.Name x p2) f q2] [] pos) (.op1 .len (.fld i j)) where
  run := fun n I W X g => (pe_bi1 g call_len v boot_len (pe_fld (vv.pe g) (hab _)) se).imp fun σ H Q q => by
    obtain ⟨env, s, eH, hr, er, pr⟩ := q
    subst eH
    replace pr : (match (bor env s.h (.fld i j) (ofO ((insOf env s.h i).bind fun p => fldK p.2.2[j]?) s.h)).bind fun x h1 => ofO ((lenD x).map Val.p) h1 with
      | .ok (.p d) h' => h' = s.h ∧ ∀ x, RF X.K s.F s.H d x → Q x s.H
      | _ => False) := pr
    cases e : insOf env s.h i with
    | none =>
      simp only [bor, peek, e, Option.bind_none, ofO_none, R.bind_stuck] at pr
    | some q =>
      cases eu : q.2.2[j]? with
      | none =>
        simp only [bor, peek, e, Option.bind_some, eu, fldK, ofO_none, R.bind_stuck] at pr
      | some u =>
        obtain ⟨C, dx, es, y, h1, h2, h3, h4, h5, h6⟩ := fld_at g hr er hf e eu
        refine ⟨_, h1, _, C, dx, es, y, rfl, h2, h3, h4, h5, ?_⟩
        cases u with
        | p d =>
          simp only [bor, peek, e, Option.bind_some, eu, fldK, ofO_some, R.bind_ok, unP] at pr
          cases e1 : lenD d with
          | none => rw [e1] at pr; exact False.elim pr
          | some k =>
            rw [e1] at pr
            exact ok_len s d k y Q (.inl h6) e1 ⟨fun z r => pr.2 z r, fun p u hp r => by
              unfold lenD at e1
              split at e1
              · cases e1; cases r
              · cases e1; cases r
              · split at e1
                · cases e1; cases r
                · cases e1
              · cases e1⟩
        | l ts =>
          simp only [bor, peek, e, Option.bind_some, eu, R.bind_ok, lenD, Option.map_some, ofO_some] at pr
          obtain ⟨rfl, xs, e2, r2⟩ := h6
          exact ⟨_, _, rfl, .inl ⟨xs, .inl (Rd.of e2), rfl⟩, by rw [← r2.length]; exact pr.2 _ (.int _)⟩
  pure := fun cf env h => by
    show (∃ v, ((bor env h (.fld i j) (ofO ((insOf env h i).bind fun p => fldK p.2.2[j]?) h)).bind fun x h1 => ofO ((lenD x).map Val.p) h1) = .ok v h) ∨ ((bor env h (.fld i j) (ofO ((insOf env h i).bind fun p => fldK p.2.2[j]?) h)).bind fun x h1 => ofO ((lenD x).map Val.p) h1) = .stuck
    have key : ∀ d, (∃ v, (ofO ((lenD d).map Val.p) h) = .ok v h) ∨ (ofO ((lenD d).map Val.p) h) = .stuck := fun d => by
      cases lenD d with
      | none => exact .inr rfl
      | some k => exact .inl ⟨_, rfl⟩
    unfold bor
    cases peek env h (.fld i j) with
    | some d => exact key d
    | none =>
      cases (insOf env h i).bind fun p => fldK p.2.2[j]? with
      | none => exact .inr rfl
      | some w =>
        cases w with
        | p d => exact key d
        | ref m => exact .inr rfl
/-! ### list(range(..)), tuple(range(..)) -/
theorem rgV_rf {K : PySem.W.Frag} {F : Addr → Prop} {H : Hp} {i j : Int} : RFs K F H (rangeD i (j - i).toNat 1) (rgV i j) := by
  unfold rangeD rgV
  generalize (j - i).toNat = k
  induction k with
  | zero => exact .nil
  | succ k ih =>
    rw [List.range_succ, List.map_append, List.map_append]
    refine ih.append (.cons ?_ .nil)
    show RF K F H (.int (i + (k : Int) * 1)) (V.int (i + (k : Int)))
    rw [Int.mul_one]
    exact .int _
theorem rangeS_inv {x z : PyData} (e : rangeS x = some z) : ∃ j, x = .int j ∧ rngOk j = true ∧ j.toNat ≤ 16777216 ∧ z = .list (rangeD 0 j.toNat 1) := by
  unfold rangeS at e
  split at e
  · split at e
    · rename_i h
      simp only [Bool.and_eq_true, decide_eq_true_eq] at h
      cases e
      exact ⟨_, rfl, h.1, h.2, rfl⟩
    · cases e
  · cases e
theorem fromS_inv {x y z : PyData} (e : fromS x y = some z) : ∃ i j, x = .int i ∧ y = .int j ∧ rngOk i = true ∧ rngOk j = true ∧ (j - i).toNat ≤ 16777216 ∧ z = .list (rangeD i (j - i).toNat 1) := by
  unfold fromS at e
  split at e
  · split at e
    · rename_i h
      simp only [Bool.and_eq_true, decide_eq_true_eq] at h
      cases e
      exact ⟨_, _, rfl, rfl, h.1.1, h.1.2, h.2, rfl⟩
    · cases e
  · cases e
/-- operations of two things that make a list: new each time -/
def Op2N (K : PySem.W.Frag) (r : R2) (o : O2) : Prop := ∀ (s : Sx) d1 d2 d x y (Q : VK), RF K s.F s.H d1 x → RF K s.F s.H d2 y → opf2 o d1 d2 = some d → (∀ p xs ts, d = .list ts → RFs K s.F s.H ts xs → s.H p = none → Q (.ref p) (upd s.H p (.lst xs))) → r x y s.H Q
theorem dn_op2d {r : Cx → R2} (hpe : ∀ n I W X, GX Γ n I N sc W X → ∀ ta tb, PE X ea ta → PE X eb tb → PE X e (tOp (r X) ta tb)) (ok : ∀ n I W X, GX Γ n I N sc W X → Op2N X.K (r X) o) (ha : DV Γ N sc ea a) (hb : DV Γ N sc eb b) : DN Γ N sc e (.op2d o a b) := fun n I W X g =>
  (hpe n I W X g _ _ (ha n I W X g) (hb n I W X g)).imp fun σ H Q q => by
    have q' : tE X.K I W (fun env h => ((evalE (callF Γ.fns n) env a h).bind unP).bind fun x h1 => ((evalE (callF Γ.fns n) env b h1).bind unP).bind fun y h2 => Cd.ofO (opf2 o x y) h2) (RN X.K) σ H Q := by
      obtain ⟨env, s, eH, hr, er, _, pr⟩ := q
      refine ⟨env, s, eH, hr, er, trivial, ?_⟩
      replace pr : PR X.K I W s σ ((((evalE (callF Γ.fns n) env a s.h).bind unP).bind fun x h1 => ((evalE (callF Γ.fns n) env b h1).bind unP).bind fun y h2 => Cd.ofO ((opf2 o x y).map .p) h2).bind unP) (RN X.K) Q := pr
      show PR X.K I W s σ (((evalE (callF Γ.fns n) env a s.h).bind unP).bind fun x h1 => ((evalE (callF Γ.fns n) env b h1).bind unP).bind fun y h2 => Cd.ofO (opf2 o x y) h2) (RN X.K) Q
      generalize (evalE (callF Γ.fns n) env a s.h).bind unP = r at pr ⊢
      cases r with
      | ok d h1 =>
        simp only [R.bind_ok] at pr ⊢
        generalize (evalE (callF Γ.fns n) env b h1).bind unP = r at pr ⊢
        cases r with
        | ok d2 h2 =>
          simp only [R.bind_ok] at pr ⊢
          rw [ofO_unP] at pr
          exact pr
        | exc e h1 => exact pr
        | stuck => exact pr
      | exc e h1 => exact pr
      | stuck => exact pr
    obtain ⟨env, s, eH, hr, er, _, pr⟩ := At.bind (Rel1 := PRl X.K) (ev2 := fun x env h1 => ((evalE (callF Γ.fns n) env b h1).bind unP).bind fun y h2 => Cd.ofO (opf2 o x y) h2) q'
    refine ⟨env, s, eH, hr, er, trivial, ?_⟩
    refine PR.mono pr fun x H1 ⟨d, q⟩ => ?_
    obtain ⟨env, s, eH, hr, er, _, pr⟩ := At.bind (Rel1 := PRl X.K) (G' := fun s => PRl X.K s d x) (ev2 := fun y env h2 => Cd.ofO (opf2 o d y) h2) q (fun s s' l g => g.2.le l)
    refine ⟨env, s, eH, hr, er, trivial, ?_⟩
    refine PR.mono pr fun y H2 ⟨d2, env, s, e, hr, er, ⟨r1, r2⟩, pr2⟩ => ?_
    subst e
    replace pr2 : PR X.K I W s σ (Cd.ofO (opf2 o d d2) s.h) (RN X.K) Q := pr2
    cases ez : opf2 o d d2 with
    | none => rw [ez] at pr2; exact False.elim pr2
    | some z =>
      rw [ez] at pr2
      refine ok n I W X g s d d2 z x y Q r1 r2 ez fun p xs ts ed rf hp => ?_
      subst ed
      exact pr2 (s.put p (.lst xs) false) _ (hr.put_le hp) rfl (hr.put hp) (RN.new hr hp rf)
theorem rg_ok {i j : Int} (h1 : rngOk i = true) (h2 : rngOk j = true) (h3 : (j - i).toNat ≤ 16777216) : RgOk i j := by
  obtain ⟨a1, a2⟩ := rngOk_of h1
  obtain ⟨b1, b2⟩ := rngOk_of h2
  exact ⟨a1, a2, b1, b2, h3⟩
theorem rng0 : rngOk 0 = true := by decide
def rLR1 : V → Hp → VK → Prop := fun x H Q => ∃ n, x = .int n ∧ RgOk 0 n ∧ ∀ q, H q = none → Q (.ref q) (upd H q (.lst (rgV 0 n)))
def rTR1 : V → Hp → VK → Prop := fun x H Q => ∃ n, x = .int n ∧ RgOk 0 n ∧ ∀ q, H q = none → Q (.ref q) (upd H q (.tup (rgV 0 n)))
def rLR2 : R2 := fun x y H Q => ∃ i j, x = .int i ∧ y = .int j ∧ RgOk i j ∧ ∀ q, H q = none → Q (.ref q) (upd H q (.lst (rgV i j)))
theorem rgV_rf0 {K : PySem.W.Frag} {F : Addr → Prop} {H : Hp} {j : Int} : RFs K F H (rangeD 0 j.toNat 1) (rgV 0 j) := by
  have := rgV_rf (K := K) (F := F) (H := H) (i := 0) (j := j)
  rw [Int.sub_zero] at this
  exact this
theorem dn_listRg1 (v : NB Γ sc "list") (v2 : NB Γ sc "range") (ha : DB Γ N sc ea a) (na : Se1 ea := by intro _; rfl) (na2 : Se1 (.Call (.Name "range" p2) [ea] [] apos) := by intro _; rfl) : DN Γ N sc (.Call (.Name "list" p) [.Call (.Name "range" p2) [ea] [] apos] [] pos) (.op1 .range a) :=
  dn_op1 (r := fun _ => rLR1) (fun _ _ _ X g ta h => pe_listRg g.calm (v.g.g g) (g.nob _ v.m) (prg_1 (v2.g.g g) (g.nob _ v2.m) h (na _)) (na2 _)) (fun _ _ _ X g s d1 d x Q r e f => by
    obtain ⟨j, rfl, h1, h2, rfl⟩ := rangeS_inv e
    exact ⟨j, r.int, rg_ok rng0 h1 (by rw [Int.sub_zero]; exact h2), fun q hq => f q _ _ rfl rgV_rf0 hq⟩) ha
theorem de_tupRg1 (v : NB Γ sc "tuple") (v2 : NB Γ sc "range") (ha : DB Γ N sc ea a) (na : Se1 ea := by intro _; rfl) (na2 : Se1 (.Call (.Name "range" p2) [ea] [] apos) := by intro _; rfl) : DE Γ N sc (.Call (.Name "tuple" p) [.Call (.Name "range" p2) [ea] [] apos] [] pos) (.op1 .rangeT a) :=
  de_op1 (r := fun _ => rTR1) (fun _ _ _ X g ta h => pe_tupRg g.calm (v.g.g g) (g.nob _ v.m) (prg_1 (v2.g.g g) (g.nob _ v2.m) h (na _)) (na2 _)) (fun _ _ _ X g s d1 d x Q r e f => by
    replace e : (rangeS d1).bind tupleS = some d := e
    rw [Option.bind_eq_some_iff] at e
    obtain ⟨z, e1, e2⟩ := e
    obtain ⟨j, rfl, h1, h2, rfl⟩ := rangeS_inv e1
    cases e2
    exact ⟨j, r.int, rg_ok rng0 h1 (by rw [Int.sub_zero]; exact h2), fun q hq => f.2 q _ hq (tup_new hq rgV_rf0)⟩) ha
theorem dn_listRg2 (v : NB Γ sc "list") (v2 : NB Γ sc "range") (ha : DV Γ N sc ea a) (hb : DV Γ N sc eb b) (na : Se2 ea eb := by intro _; rfl) (nb : Se1 eb := by intro _; rfl) (hp : ∀ env, (backTo apos (starEach [eb] env)).any (·.1) = false := by intro _; rfl) (na2 : Se1 (.Call (.Name "range" p2) [ea, eb] [] apos) := by intro _; rfl) : DN Γ N sc (.Call (.Name "list" p) [.Call (.Name "range" p2) [ea, eb] [] apos] [] pos) (.op2d .from_ a b) :=
  dn_op2d (r := fun _ => rLR2) (fun _ _ _ X g ta tb h1 h2 => (pe_listRg g.calm (v.g.g g) (g.nob _ v.m) (prg_2 (v2.g.g g) (g.nob _ v2.m) h1 h2 (na _) (nb _) (hp _)) (na2 _))) (fun _ _ _ X g s d1 d2 d x y Q r1 r2 e f => by
    obtain ⟨i, j, rfl, rfl, h1, h2, h3, rfl⟩ := fromS_inv e
    exact ⟨i, j, r1.int_inv, r2.int_inv, rg_ok h1 h2 h3, fun q hq => f q _ _ rfl rgV_rf hq⟩) ha hb
/-! ### in, not in -/
def rInA (K : PySem.W.Frag) (neg : Bool) : R2 := fun x y H Q => ∃ d ds, Dp K H x d ∧ (Dp K H y (.list ds) ∨ Dp K H y (.tuple ds)) ∧ d.plain = true ∧ PyData.plainAll ds = true ∧ d.depth ≤ 60 ∧ Q (.bl (if neg = true then !ds.any (fun z => PyData.eqv z d) else ds.any fun z => PyData.eqv z d)) H
theorem op_inA {X : Cx} (hu : X.A.units + 64 < cLine) : OpR X (compareOp .In) (rInA X.K false) := by
  intro pins s σ H x y v u Q I rx ry h
  obtain ⟨d, ds, hd, he, sd, se, hz, q⟩ := h
  obtain ⟨as, r1⟩ := Dp.reads I d x v hd rx
  rcases he with he | he
  · obtain ⟨bs, r2⟩ := Dp.reads I (.list ds) y u he ry
    exact PySem.SeqAt.in_list_data r2 r1 se sd (by omega) ⟨.bl _, H, I, rfl, q⟩
  · obtain ⟨bs, r2⟩ := Dp.reads I (.tuple ds) y u he ry
    exact PySem.SeqAt.in_tuple_data r2 r1 se sd (by omega) ⟨.bl _, H, I, rfl, q⟩
theorem op_notInA {X : Cx} (hu : X.A.units + 64 < cLine) : OpR X (compareOp .NotIn) (rInA X.K true) := by
  intro pins s σ H x y v u Q I rx ry h
  obtain ⟨d, ds, hd, he, sd, se, hz, q⟩ := h
  obtain ⟨as, r1⟩ := Dp.reads I d x v hd rx
  rcases he with he | he
  · obtain ⟨bs, r2⟩ := Dp.reads I (.list ds) y u he ry
    exact PySem.SeqAt.notIn_list_data r2 r1 se sd (by omega) ⟨.bl _, H, I, rfl, q⟩
  · obtain ⟨bs, r2⟩ := Dp.reads I (.tuple ds) y u he ry
    exact PySem.SeqAt.notIn_tuple_data r2 r1 se sd (by omega) ⟨.bl _, H, I, rfl, q⟩
theorem inD_inv {x : PyData} {ys : List PyData} {r : Bool} (h : inD x ys = some r) : x.plain = true ∧ PyData.plainAll ys = true ∧ x.depth ≤ 60 ∧ r = ys.any fun y => PyData.eqv y x := by
  unfold inD at h
  split at h
  · rename_i q
    simp only [Bool.and_eq_true, decide_eq_true_eq] at q
    cases h
    exact ⟨q.1.1, q.1.2, q.2, rfl⟩
  · cases h
theorem seqD_inv {d : PyData} {ts : List PyData} (h : seqD d = some ts) : d = .list ts ∨ d = .tuple ts := by
  cases d with
  | list us => cases h; exact .inl rfl
  | tuple us => cases h; exact .inr rfl
  | _ => cases h
theorem ok_isIn {K : PySem.W.Frag} : Op2Ok K (rInA K false) .isIn := fun s d1 d2 d x y Q r1 r2 e f => by
  replace e : (seqD d2).bind (fun ys => (inD d1 ys).map .bool) = some d := e
  rw [Option.bind_eq_some_iff] at e
  obtain ⟨ys, e1, e2⟩ := e
  rw [Option.map_eq_some_iff] at e2
  obtain ⟨r, e2, rfl⟩ := e2
  obtain ⟨h1, h2, h3, rfl⟩ := inD_inv e2
  exact ⟨d1, ys, r1.dp, (seqD_inv e1).imp (fun h => by rw [← h]; exact r2.dp) (fun h => by rw [← h]; exact r2.dp), h1, h2, h3, f.1 _ (.bl _)⟩
theorem ok_notIn {K : PySem.W.Frag} : Op2Ok K (rInA K true) .notIn := fun s d1 d2 d x y Q r1 r2 e f => by
  replace e : (seqD d2).bind (fun ys => (inD d1 ys).map fun b => .bool !b) = some d := e
  rw [Option.bind_eq_some_iff] at e
  obtain ⟨ys, e1, e2⟩ := e
  rw [Option.map_eq_some_iff] at e2
  obtain ⟨r, e2, rfl⟩ := e2
  obtain ⟨h1, h2, h3, rfl⟩ := inD_inv e2
  exact ⟨d1, ys, r1.dp, (seqD_inv e1).imp (fun h => by rw [← h]; exact r2.dp) (fun h => by rw [← h]; exact r2.dp), h1, h2, h3, f.1 _ (.bl _)⟩
theorem in_bool {x y d : PyData} {f : Bool → Bool} (e : ((seqD y).bind fun ys => (inD x ys).map fun b => PyData.bool (f b)) = some d) : ∃ b, d = .bool b := by
  rw [Option.bind_eq_some_iff] at e
  obtain ⟨ys, e1, e2⟩ := e
  rw [Option.map_eq_some_iff] at e2
  obtain ⟨r, e2, rfl⟩ := e2
  exact ⟨_, rfl⟩
theorem de_in (ha : DV Γ N sc ea a) (hb : DB Γ N sc eb b) (hm : behindInMarks .In eb = false := by with_unfolding_all rfl) : DE Γ N sc (.Compare ea [.In] [eb] pos) (.op2 .isIn a b) := de_op2 (r := fun X => rInA X.K false) (fun _ _ _ X g ta tb h1 h2 => pe_cmpR (op_inA g.hu) h1 h2 hm) (fun _ _ _ X g => ok_isIn) ha hb
theorem de_notIn (ha : DV Γ N sc ea a) (hb : DB Γ N sc eb b) (hm : behindInMarks .NotIn eb = false := by with_unfolding_all rfl) : DE Γ N sc (.Compare ea [.NotIn] [eb] pos) (.op2 .notIn a b) := de_op2 (r := fun X => rInA X.K true) (fun _ _ _ X g ta tb h1 h2 => pe_cmpR (op_notInA g.hu) h1 h2 hm) (fun _ _ _ X g => ok_notIn) ha hb
theorem dt_in (ha : DV Γ N sc ea a) (hb : DB Γ N sc eb b) (hm : behindInMarks .In eb = false := by with_unfolding_all rfl) : DT Γ N sc (.Compare ea [.In] [eb] pos) (.val (.op2 .isIn a b)) := dt_op2 (r := fun X => rInA X.K false) (fun _ _ _ X g ta tb h1 h2 => pt_cmpR (op_inA g.hu) h1 h2 hm) (fun _ _ _ X g => ok_isIn) (fun _ _ _ e => in_bool (f := id) e) ha hb
theorem dt_notIn (ha : DV Γ N sc ea a) (hb : DB Γ N sc eb b) (hm : behindInMarks .NotIn eb = false := by with_unfolding_all rfl) : DT Γ N sc (.Compare ea [.NotIn] [eb] pos) (.val (.op2 .notIn a b)) := dt_op2 (r := fun X => rInA X.K true) (fun _ _ _ X g ta tb h1 h2 => pt_cmpR (op_notInA g.hu) h1 h2 hm) (fun _ _ _ X g => ok_notIn) (fun _ _ _ e => in_bool (f := not) e) ha hb
/-! ### (..) * k -/
theorem ok_repT {K : PySem.W.Frag} : Op2Ok K (rRepT K) .repT := fun s d1 d2 d x y Q r1 r2 e f => by
  replace e : repTD d1 d2 = some d := e
  unfold repTD at e
  split at e
  · split at e
    · rename_i xs k h
      simp only [Bool.and_eq_true, Bool.not_eq_true', List.isEmpty_eq_false_iff, decide_eq_true_eq] at h
      cases e
      obtain ⟨a, vs, rfl, h1, q1⟩ := r1.tup
      obtain rfl := r2.int
      refine ⟨a, k, vs, rfl, rfl, h1, fun e => ?_, h.1.1.2, h.1.2, by rw [← q1.length]; exact h.2, fun p hp => f.2 p _ hp (tup_new hp (q1.rep _))⟩
      rw [e] at q1
      exact h.1.1.1 (List.eq_nil_of_length_eq_zero (by rw [q1.length]; rfl))
    · cases e
  · cases e
theorem de_repT (ha : DV Γ N sc ea a) (hb : DV Γ N sc eb b) : DE Γ N sc (.BinOp ea .Mult eb pos) (.op2d .repT a b) := de_op2d (r := fun X => rRepT X.K) (fun _ _ _ X g ta tb h1 h2 => pe_op op_repT h1 h2) (fun _ _ _ X g => ok_repT) ha hb
end
end Cd
set_option Elab.async false
set_option linter.all false
set_option maxRecDepth 100000
set_option maxHeartbeats 4000000
namespace Cd
open PySem PySem.Spec PyProof.Rows L2
/-! ### a field is written -/
theorem putF_at {f : Str} {y : V} : ∀ {es : List (Str × V)} {j : Nat} {v : V}, (es.map (·.1)).Nodup → es[j]? = some (f, v) → putF f y es = es.set j (f, y)
  | [], _, _, _, e => by simp at e
  | (g, w) :: r, 0, v, nd, e => by
    simp at e
    obtain ⟨rfl, rfl⟩ := e
    show (if g = g then (g, y) :: r else (g, w) :: putF g y r) = _
    rw [if_pos rfl]; rfl
  | (g, w) :: r, j + 1, v, nd, e => by
    have e' : r[j]? = some (f, v) := by simpa using e
    have nd' : g ∉ r.map (·.1) ∧ (r.map (·.1)).Nodup := by simpa using nd
    have ne : g ≠ f := by
      rintro rfl
      exact nd'.1 (List.mem_map.mpr ⟨_, List.mem_of_getElem? e', rfl⟩)
    show (if g = f then (g, y) :: r else (g, w) :: putF f y r) = _
    rw [if_neg ne, putF_at nd'.2 e']; rfl
theorem putF_new {f : Str} {y : V} : ∀ {es : List (Str × V)}, f ∉ es.map (·.1) → putF f y es = es ++ [(f, y)]
  | [], _ => rfl
  | (g, w) :: r, h => by
    have h' : f ≠ g ∧ f ∉ r.map (·.1) := by simpa using h
    show (if g = f then (g, y) :: r else (g, w) :: putF f y r) = _
    rw [if_neg (Ne.symm h'.1), putF_new h'.2]; rfl
theorem putFl_inv {fs fs' : List Fld} {j : Nat} {f : Fld} (h : putFl fs j f = some fs') : (j < fs.length ∧ fs' = fs.set j f) ∨ (j = fs.length ∧ fs' = fs ++ [f]) := by
  unfold putFl at h
  split at h
  · cases h; exact .inl ⟨by assumption, rfl⟩
  · split at h
    · cases h; exact .inr ⟨by assumption, rfl⟩
    · cases h
/-- what stands in the new list of fields -/
structure NewFl (fs fs' : List Fld) (j : Nat) (f : Fld) : Prop where
  le : fs'.length ≤ max fs.length (j + 1)
  ge : fs.length ≤ fs'.length
  at_ : fs'[j]? = some f
  oth : ∀ k, k ≠ j → fs'[k]? = fs[k]?
  jl : j ≤ fs.length
theorem newFl {fs fs' : List Fld} {j : Nat} {f : Fld} (h : putFl fs j f = some fs') : NewFl fs fs' j f := by
  rcases putFl_inv h with ⟨h1, rfl⟩ | ⟨rfl, rfl⟩
  · exact ⟨by rw [List.length_set]; omega, by rw [List.length_set]; omega, List.getElem?_set_self h1, fun k hk => List.getElem?_set_ne (Ne.symm hk), by omega⟩
  · refine ⟨by rw [List.length_append]; simp, by rw [List.length_append]; omega, by simp, fun k hk => ?_, by omega⟩
    by_cases l : k < fs.length
    · rw [List.getElem?_append_left l]
    · rw [List.getElem?_eq_none (by simp; omega), List.getElem?_eq_none (by omega)]
section
variable {K : PySem.W.Frag} {CI : CInf} {s : Sx} {n j : Nat} {xs xs' : List V} {c : Nat} {fs fs' : List Fld} {names : List Str} {es : List (Str × V)} {f : Str} {y : V} {C dx : Addr}
/-- the instance's own pairs behind the store -/
theorem put_es {fl : Fld} (h : putFl fs j fl = some fs') (h4 : es.map (·.1) = names.take fs.length) (h5 : fs.length ≤ names.length) (nd : names.Nodup) (hf : names[j]? = some f) :
    (putF f y es).map (·.1) = names.take fs'.length ∧ fs'.length ≤ names.length ∧ (putF f y es)[j]? = some (f, y) ∧ (∀ k, k ≠ j → (putF f y es)[k]? = es[k]?) := by
  have hl : es.length = fs.length := by
    have := congrArg List.length h4
    rw [List.length_map, List.length_take] at this
    omega
  have hjn : j < names.length := (List.getElem?_eq_some_iff.mp hf).1
  have hnd : (es.map (·.1)).Nodup := by rw [h4]; exact nd_take nd _
  rcases putFl_inv h with ⟨h1, rfl⟩ | ⟨rfl, rfl⟩
  · have e1 : (es.map (·.1))[j]? = some f := by rw [h4, List.getElem?_take]; rw [if_pos h1]; exact hf
    obtain ⟨p, e2, e3⟩ : ∃ p, es[j]? = some p ∧ p.1 = f := by
      rw [List.getElem?_map] at e1
      cases e : es[j]? with
      | none => rw [e] at e1; cases e1
      | some p => rw [e] at e1; exact ⟨p, rfl, by simpa using e1⟩
    obtain ⟨g, w⟩ := p
    simp only at e3
    subst e3
    rw [putF_at hnd e2]
    refine ⟨?_, by rw [List.length_set]; exact h5, List.getElem?_set_self (by omega), fun k hk => List.getElem?_set_ne (Ne.symm hk)⟩
    rw [List.length_set, ← h4, List.map_set]
    apply List.ext_getElem?
    intro m
    by_cases hm : m = j
    · subst hm
      rw [List.getElem?_set_self (by rw [List.length_map]; omega), e1]
    · rw [List.getElem?_set_ne (Ne.symm hm)]
  · have hn : f ∉ es.map (·.1) := by
      rw [h4]
      intro hm
      obtain ⟨k, hk⟩ := List.getElem?_of_mem hm
      rw [List.getElem?_take] at hk
      split at hk
      · rename_i hlt
        have := (List.getElem?_inj (by omega) nd).mp (hk.trans hf.symm)
        omega
      · cases hk
    rw [putF_new hn]
    refine ⟨?_, by rw [List.length_append]; simp; omega, by rw [List.getElem?_append_right (by omega), hl]; simp, fun k hk => ?_⟩
    · rw [List.map_append, h4, List.length_append, List.length_singleton, List.take_add_one, hf]; rfl
    · by_cases l : k < es.length
      · rw [List.getElem?_append_left l]
      · rw [List.getElem?_eq_none (by simp; omega), List.getElem?_eq_none (by omega)]
/-- live places behind the store of a field -/
theorem live_fld {fl : Fld} (h : NewFl fs fs' j fl) (hn : s.h[n]? = some (.ins c fs)) {m k : Nat} (l : Live (s.h.set n (.ins c fs')) m k) : (m = n ∧ k = j + 1 ∧ ∃ ts, fl = .l ts) ∨ (Live s.h m k ∧ ¬ (m = n ∧ k = j + 1)) := by
  rcases live_set l with ⟨h1, h2⟩ | ⟨rfl, h2⟩
  · exact .inr ⟨h2, fun z => h1 z.1⟩
  · cases k with
    | zero => exact .inr ⟨⟨_, hn, by intro z; cases z⟩, fun z => by omega⟩
    | succ k =>
      rcases h2 with ⟨c', fs2, us, e, ef⟩ | ⟨kvs, q, us, e, ef⟩
      · cases rep_get e
        by_cases hk : k = j
        · subst hk
          rw [h.at_] at ef
          cases ef
          exact .inl ⟨rfl, rfl, _, rfl⟩
        · rw [h.oth k hk] at ef
          exact .inr ⟨.inl ⟨c, fs, us, hn, ef⟩, fun z => hk (by omega)⟩
      · cases rep_get e
/-- a field gets data -/
theorem HR.fldP {d : PyData} (hr : HR K CI s) (hn : s.h[n]? = some (.ins c fs)) (h : putFl fs j (.p d) = some fs') (ci : CI c = some (C, names)) (hH : s.H (s.φ n 0) = some (.ins C dx es)) (h4 : es.map (·.1) = names.take fs.length) (h5 : fs.length ≤ names.length) (nd : names.Nodup)
    (hf : names[j]? = some f) (h6 : ∀ j f, fs[j]? = some f → ∃ x v, names[j]? = some x ∧ es[j]? = some (x, v) ∧ FlR K s n j f v) (r : RF K s.F s.H d y) :
    ∃ s', s'.h = s.h.set n (.ins c fs') ∧ s'.H = upd s.H (s.φ n 0) (.ins C dx (putF f y es)) ∧ HR K CI s' ∧ Le s s' := by
  have hl0 : Live s.h n 0 := ⟨_, hn, by intro z; cases z⟩
  have nf := newFl h
  obtain ⟨k1, k2, k3, k4⟩ := put_es (y := y) h h4 h5 nd hf
  have kp := own_keep (ob := .ins C dx (putF f y es)) hr hl0 rfl hH (by intro _ z; cases z) (by intro _ _ z; cases z) rfl
  refine ⟨{ s with h := s.h.set n (.ins c fs'), H := upd s.H (s.φ n 0) (.ins C dx (putF f y es)) }, rfl, rfl, hr.wrO hl0 hH (by intro _ z; cases z) (by intro _ _ z; cases z) (fun m k l => ?_) (fun m hm => ?_) (fun w e => ?_) (ob' := .ins c fs') ?_, wrO_le hr hl0 hH (by intro _ z; cases z) (by intro _ _ z; cases z) (by simp)⟩
  · rcases live_fld nf hn l with ⟨_, _, ts, z⟩ | ⟨z, _⟩
    · cases z
    · exact z
  · rw [List.getElem?_set_ne (Ne.symm hm)]
  · rcases get_set e with ⟨_, z⟩ | ⟨z, _⟩
    · exact z
    · exact absurd rfl z
  · refine ⟨C, names, dx, putF f y es, ci, upd_same, k1, k2, fun k u ek => ?_⟩
    by_cases hk : k = j
    · subst hk
      rw [nf.at_] at ek
      cases ek
      exact ⟨f, y, hf, k3, r.keep kp⟩
    · rw [nf.oth k hk] at ek
      obtain ⟨x, v, e1, e2, e3⟩ := h6 k u ek
      refine ⟨x, v, e1, by rw [k4 k hk]; exact e2, e3.move kp fun ts eq => ⟨rfl, fun zs q => ?_⟩⟩
      subst eq
      show upd s.H (s.φ n 0) _ (s.φ n (k + 1)) = _
      rw [upd_ne]
      · exact q
      · intro z
        have hlk : Live s.h n (k + 1) := .inl ⟨_, _, _, hn, ek⟩
        have := (hr.inj _ _ _ _ hlk hl0 z).2
        omega
/-- a field gets a new list of its own -/
theorem HR.fldL {ts : List PyData} {p : Addr} (hr : HR K CI s) (hn : s.h[n]? = some (.ins c fs)) (h : putFl fs j (.l ts) = some fs') (ci : CI c = some (C, names)) (hH : s.H (s.φ n 0) = some (.ins C dx es)) (h4 : es.map (·.1) = names.take fs.length) (h5 : fs.length ≤ names.length) (nd : names.Nodup)
    (hf : names[j]? = some f) (h6 : ∀ j f, fs[j]? = some f → ∃ x v, names[j]? = some x ∧ es[j]? = some (x, v) ∧ FlR K s n j f v) (hp : s.H p = some (.lst xs)) (r : RFs K s.F s.H ts xs) (nF : ¬ s.F p) (nl : NotLive s p) (nB : ¬ s.B p) :
    ∃ s', s'.h = s.h.set n (.ins c fs') ∧ s'.H = upd s.H (s.φ n 0) (.ins C dx (putF f (.ref p) es)) ∧ HR K CI s' ∧ Le s s' := by
  have hl0 : Live s.h n 0 := ⟨_, hn, by intro z; cases z⟩
  have nf := newFl h
  obtain ⟨k1, k2, k3, k4⟩ := put_es (y := V.ref p) h h4 h5 nd hf
  have kp := own_keep (ob := .ins C dx (putF f (.ref p) es)) hr hl0 rfl hH (by intro _ z; cases z) (by intro _ _ z; cases z) rfl
  have pn : p ≠ s.φ n 0 := fun e => nl n 0 hl0 e.symm
  let t : Sx := { s with φ := fun m k => if m = n ∧ k = j + 1 then p else s.φ m k, h := s.h.set n (.ins c fs'), H := upd s.H (s.φ n 0) (.ins C dx (putF f (.ref p) es)) }
  have p0 : ∀ m, t.φ m 0 = s.φ m 0 := fun m => if_neg (fun z => by omega)
  have pe : ∀ m k, ¬ (m = n ∧ k = j + 1) → t.φ m k = s.φ m k := fun m k z => if_neg z
  have pj : t.φ n (j + 1) = p := if_pos ⟨rfl, rfl⟩
  have tp : t.H p = some (.lst xs) := by show upd s.H _ _ p = _; rw [upd_ne pn]; exact hp
  have kp' : KeepF s.F s.H t.F t.H := kp
  refine ⟨t, rfl, rfl, ⟨fun m w e => ?_, fun m a q b l1 l2 e => ?_, fun m a l => ?_, fun b hb => ?_, fun b hb => ?_⟩, ⟨by show s.h.length ≤ (s.h.set _ _).length; simp, fun m _ => p0 m, kp', fun b hb => ⟨hb, by show upd s.H (s.φ n 0) _ b = _; rw [upd_ne (fun e => (hr.bt b hb).1 n 0 hl0 e.symm)]⟩⟩⟩
  · rcases get_set e with ⟨rfl, rfl⟩ | ⟨hm, e'⟩
    · refine ⟨C, names, dx, putF f (.ref p) es, ci, by rw [p0]; exact upd_same, k1, k2, fun k u ek => ?_⟩
      by_cases hk : k = j
      · subst hk
        rw [nf.at_] at ek
        cases ek
        exact ⟨f, .ref p, hf, k3, by rw [pj], xs, by rw [pj]; exact tp, r.keep kp'⟩
      · rw [nf.oth k hk] at ek
        obtain ⟨x, v, e1, e2, e3⟩ := h6 k u ek
        refine ⟨x, v, e1, by rw [k4 k hk]; exact e2, e3.move kp' fun ts' eq => ⟨pe _ _ (fun z => hk (by omega)), fun zs q => ?_⟩⟩
        subst eq
        show upd s.H (s.φ m 0) _ (s.φ m (k + 1)) = _
        rw [upd_ne]
        · exact q
        · intro z
          have hlk : Live s.h m (k + 1) := .inl ⟨_, _, _, hn, ek⟩
          have := (hr.inj _ _ _ _ hlk hl0 z).2
          omega
    · refine (hr.ob m w e').move (s' := t) kp' e' fun k l => ⟨pe _ _ (fun z => hm z.1), fun u q => ?_⟩
      show upd s.H (s.φ n 0) _ (s.φ m k) = _
      rw [upd_ne]
      · exact q
      · intro z
        exact hm (hr.inj _ _ _ _ l hl0 z).1
  · rcases live_fld nf hn l1 with ⟨h1, h2, _⟩ | ⟨h1, h2⟩ <;> rcases live_fld nf hn l2 with ⟨h3, h4, _⟩ | ⟨h3, h4⟩
    · exact ⟨h1.trans h3.symm, h2.trans h4.symm⟩
    · subst h1; subst h2
      rw [pj, pe _ _ h4] at e
      exact absurd e.symm (nl _ _ h3)
    · subst h3; subst h4
      rw [pj, pe _ _ h2] at e
      exact absurd e (nl _ _ h1)
    · rw [pe _ _ h2, pe _ _ h4] at e
      exact hr.inj _ _ _ _ h1 h3 e
  · rcases live_fld nf hn l with ⟨h1, h2, _⟩ | ⟨h1, h2⟩
    · subst h1; subst h2; rw [pj]; exact nF
    · rw [pe _ _ h2]; exact hr.nf _ _ h1
  · obtain ⟨h1, h2, w, h3⟩ := hr.bt b hb
    refine ⟨fun m a l => ?_, h2, w, by show upd s.H (s.φ n 0) _ b = _; rw [upd_ne (fun e => h1 n 0 hl0 e.symm)]; exact h3⟩
    rcases live_fld nf hn l with ⟨g1, g2, _⟩ | ⟨g1, g2⟩
    · subst g1; subst g2; rw [pj]; rintro rfl; exact nB hb
    · rw [pe _ _ g2]; exact h1 _ _ g1
  · obtain ⟨w, h3⟩ := hr.ft b hb
    exact ⟨w, by show upd s.H (s.φ n 0) _ b = _; rw [upd_ne (fun e => by subst e; exact hr.nf n 0 hl0 hb)]; exact h3⟩
end
section
variable {Γ : Gm} {N : List Str} {sc : Sco} {e tg ea eb ec : Expr} {a b c : E} {ta : Te} {o : O2} {pos p p2 apos : Pos} {es : List Expr} {as : List E} {i j : Nat} {x y f : Str} {t : Tg} {src : Src} {cl : Nat} {names : List Str}
/-- what an instance's field's name tells, for a store -/
theorem ins_at {n : Nat} {I : Inf} {W : WX} {X : Cx} {s : Sx} {env : Ev} {σ : L2.St} (g : GX Γ n I N sc W X) (hr : HR X.K I.ci s) (er : ER X.K s env σ) (hf : FOk Γ cl names j f) {q : Nat × Nat × List Fld} (e : insOf env s.h i = some q) :
    ∃ C dx es, σ[i]? = some (some (.ref (s.φ q.1 0))) ∧ s.H (s.φ q.1 0) = some (.ins C dx es) ∧ Cls X.K C ∧ NoAttr X.K C f ∧ I.ci q.2.1 = some (C, names) ∧ es.map (·.1) = names.take q.2.2.length ∧ q.2.2.length ≤ names.length ∧ names.Nodup ∧ names.length < 1000 ∧
      (∀ j f, q.2.2[j]? = some f → ∃ x v, names[j]? = some x ∧ es[j]? = some (x, v) ∧ FlR X.K s q.1 j f v) ∧ s.h[q.1]? = some (.ins q.2.1 q.2.2) := by
  obtain ⟨e1, e2⟩ := insOf_of e
  obtain ⟨y, h1, _, rfl⟩ := er.at_ i _ e1
  obtain ⟨C, nms, dx, es, ci, h3, h4, h5, h6⟩ := hr.ob _ _ e2
  have hm := g.ci _ _ _ ci
  obtain ⟨C', ci', k, nd, hz, na⟩ := g.fl (cl, names) (by rw [hf.fl]; exact List.mem_singleton.mpr rfl)
  rw [hf.fl] at hm
  have hm' := List.mem_singleton.mp hm
  obtain ⟨hc, hn⟩ := Prod.mk.inj hm'
  have ci0 := ci
  rw [hc] at ci
  subst hn
  rw [ci] at ci'
  cases ci'
  exact ⟨C, dx, es, h1, h3, k, na _ (List.mem_of_getElem? hf.at_), ci0, h4, h5, nd, hz, h6, e2⟩
theorem setFldH_inv {env : Ev} {i j : Nat} {f : Fld} {h h' : Hi} (e : setFldH env i j f h = some h') : ∃ q fs, insOf env h i = some q ∧ putFl q.2.2 j f = some fs ∧ h' = h.set q.1 (.ins q.2.1 fs) := by
  unfold setFldH at e
  rw [Option.bind_eq_some_iff] at e
  obtain ⟨q, e1, e2⟩ := e
  rw [Option.map_eq_some_iff] at e2
  obtain ⟨fs, e2, rfl⟩ := e2
  exact ⟨q, fs, e1, e2, rfl⟩
theorem ds_setFld {q q2 : Pos} (v : VOk N sc i x) (hf : FOk Γ cl names j f) (hv : DV Γ N sc ea a) (hs : ∀ env, swapsWith ea (some (.Attribute (.Name x q) f q2)) pos.line env = pure false := by intro _; rfl) : DS Γ N sc (.Assign [.Attribute (.Name x q) f q2] ea pos) (.setFld i j a) := fun n I W X g =>
  (ps_fld (v.pe g) (hv n I W X g) (hs _)).imp fun D σ H qq => by
    obtain ⟨env, s, eH, hr, er, _, pr⟩ := AtS.bind (Rel1 := PRl X.K) (k := fun d env h1 => ofH env (setFldH env i j (.p d) h1)) qq
    refine ⟨env, s, eH, hr, er, trivial, PR.mono pr fun y H1 ⟨d, env, s, e, hr, er, ⟨_, r⟩, pr⟩ => ?_⟩
    subst e
    replace pr : PSt X.K I W D s (ofH env (setFldH env i j (.p d) s.h)) := pr
    cases e0 : setFldH env i j (.p d) s.h with
    | none => rw [e0] at pr; exact False.elim pr
    | some h' =>
      rw [e0] at pr
      obtain ⟨q0, fs', e1, e2, rfl⟩ := setFldH_inv e0
      obtain ⟨C, dx, es, k1, k2, k3, k4, k5, k6, k7, k8, k9, k10, k11⟩ := ins_at g hr er hf e1
      obtain ⟨s', e3, e4, hr', l⟩ := hr.fldP k11 e2 k5 k2 k6 k7 k8 hf.at_ k10 r
      have hl : es.length < 1000 := by
        have := congrArg List.length k6
        rw [List.length_map, List.length_take] at this
        omega
      refine ⟨_, k1, _, C, dx, es, rfl, k2, k3, k4, hl, ?_⟩
      rw [← e4]
      exact pr s' σ l e3 hr' (er.le l)
theorem ds_newFld {q q2 : Pos} (v : VOk N sc i x) (hf : FOk Γ cl names j f) (hv : DN Γ N sc ea a) (hs : ∀ env, swapsWith ea (some (.Attribute (.Name x q) f q2)) pos.line env = pure false := by intro _; rfl) : DS Γ N sc (.Assign [.Attribute (.Name x q) f q2] ea pos) (.newFld i j a) := fun n I W X g =>
  (ps_fld (v.pe g) (hv n I W X g) (hs _)).imp fun D σ H qq => by
    obtain ⟨env, s, eH, hr, er, _, pr⟩ := AtS.bind (Rel1 := RN X.K) (ev1 := fun env h => (evalE (callF Γ.fns n) env a h).bind unP) (k := fun d env h1 => ofH env ((listD d).bind fun ts => setFldH env i j (.l ts) h1)) qq
    refine ⟨env, s, eH, hr, er, trivial, PR.mono pr fun y H1 ⟨d, env, s, e, hr, er, ⟨_, r⟩, pr⟩ => ?_⟩
    subst e
    obtain ⟨ts, p0, xs, rfl, rfl, hp, rf, nF, nl, nB⟩ := r
    replace pr : PSt X.K I W D s (ofH env (setFldH env i j (.l ts) s.h)) := pr
    cases e0 : setFldH env i j (.l ts) s.h with
    | none => rw [e0] at pr; exact False.elim pr
    | some h' =>
      rw [e0] at pr
      obtain ⟨q0, fs', e1, e2, rfl⟩ := setFldH_inv e0
      obtain ⟨C, dx, es, k1, k2, k3, k4, k5, k6, k7, k8, k9, k10, k11⟩ := ins_at g hr er hf e1
      obtain ⟨s', e3, e4, hr', l⟩ := hr.fldL k11 e2 k5 k2 k6 k7 k8 hf.at_ k10 hp rf nF nl nB
      have hl : es.length < 1000 := by
        have := congrArg List.length k6
        rw [List.length_map, List.length_take] at this
        omega
      refine ⟨_, k1, _, C, dx, es, rfl, k2, k3, k4, hl, ?_⟩
      rw [← e4]
      exact pr s' σ l e3 hr' (er.le l)
/-! ### raise -/
/-- X(), X an own exception class without own __init__ -/
theorem pmk_own0 {X : Cx} {C : Addr} {bmB : List Value} {B newId initId : String} {x : Str} {p pos : Pos} (F : ExcBaseFacts B newId initId bmB) (q : PySem.W.excIn X.K C bmB newId = true) (gC : X.mg x = some (.ref C)) (kC : PySem.W.keepIn X.K (.ref C) = true) (r : Raises X (.ref C)) (hg : Gl X x)
    (hdb : (x == ("__debug__" : Str)) = false) : PMk X (.Call (.Name x p) [] [] pos) (fun _ H Q => Q (.ref C) none H) := by
  intro pins s σ H Q I h
  refine wpAny_Call_Name_kw (ld_glob I hg gC ?_ hdb)
  refine PySem.W.callWith_K0 (first := []) I.kIn kC ?_
  show wpAny _ _ (call (.ref C) []) _ _ _
  obtain ⟨bm, N, nm, qn, bs, hdct, sn, sub, ab, col, dd, k0, k1, k2, k3, k5, mN, hC, hN, hni, T⟩ := exc_obj I.kIn q
  refine wpAny_call_exc_subT F T hC hN hni (fun h' e hm => ?_) (by show 0 ≤ sizeLine; omega)
  exact mk_of I hm r h (I.hok.gone hm.new)
theorem ds_raise0 {c : Nat} {q : Pos} (v : GOk sc x) (hx : (x, c) ∈ Γ.excs) : DS Γ N sc (.Raise (some (.Call (.Name x p) [] [] q)) none pos) (.raise_ c []) := fun n I W X g => by
  obtain ⟨C, hm, xi, ok⟩ := g.xc _ hx
  refine (ps_raise g.calm g.tk (pmk_own0 PySem.F.excBase_ValueError ok.q hm ok.kC (raises_own ok.sb ok.ty) (v.g g) v.db)).imp fun D σ H qq => ?_
  obtain ⟨env, s, eH, hr, er, _, pr⟩ := qq
  subst eH
  exact pr s σ (.ref C) none (.refl s) rfl hr er ⟨C, xi, rfl, trivial⟩
/-! ### try -/
/-- the same context, with other wishes about exceptions -/
theorem GX.tr {n : Nat} {I : Inf} {W W' : WX} {X : Cx} (g : GX Γ n I N sc W X) {pn : List (Addr × Obj)} {xe : Value → Shared → Prop} (tk : Takes (X.tr pn xe) W') (ps : PassesOwn (model X.prog X.w) X.A X.env xe) : GX Γ n I N sc W' (X.tr pn xe) where
  hN := g.hN
  nd := g.nd
  fnc := g.fnc
  sc := g.sc
  calm := g.calm
  tk := tk
  pass := ps
  room := g.room
  fn := g.fn
  nob := g.nob
  con := g.con
  cl := g.cl
  mt := g.mt
  fl := g.fl
  ci := g.ci
  xc := g.xc
  xm := g.xm
  tb := g.tb
  stk := g.stk
/-- a suite behind an except: plain things only -/
structure DSu (Γ : Gm) (N : List Str) (sc : Sco) (sts : List Stmt) (ss : List S) : Prop where
  run : ∀ n I W X, GX Γ n I N sc W X → ∀ (a : Addr) (oe : Obj) (pn : List (Addr × Obj)), PSs (X.suite a ((a, oe) :: pn)) sts (tS X.K I (fun _ _ _ _ => False) (fun env h => evalSs (callF Γ.fns n) ss env h))
  nox : ∀ cf env h e env' h', evalSs cf ss env h ≠ .exc e env' h'
inductive DHs (Γ : Gm) (N : List Str) (sc : Sco) : List ExceptHandler → List (Nat × List S) → Prop
  | nil : DHs Γ N sc [] []
  | cons {x : Str} {c : Nat} {b₀ : Stmt} {suite : List Stmt} {np pos' : Pos} {ss : List S} {hds : List ExceptHandler} {hs : List (Nat × List S)} (v : GOk sc x) (hx : (x, c) ∈ Γ.excs) (hsu : DSu Γ N sc (b₀ :: suite) ss) (r : DHs Γ N sc hds hs) :
      DHs Γ N sc (.ExceptHandler (some (.Name x np)) none (b₀ :: suite) pos' :: hds) ((c, ss) :: hs)
theorem hds_ok {n : Nat} {I : Inf} {W : WX} {X : Cx} (g : GX Γ n I N sc W X) {hds : List ExceptHandler} {hs : List (Nat × List S)} (h : DHs Γ N sc hds hs) :
    ∃ l, HdsOk X hds l ∧ ∀ (D : Ends) (s : Sx) (e : Ex) (env1 : Ev) (h1 : Hi), PSt X.K I W D s (evalHs (callF Γ.fns n) hs e env1 h1) → ∀ s' σ' cls d, Le s s' → s'.h = h1 → HR X.K I.ci s' → ER X.K s' env1 σ' → XR X.K I s' e cls d → wMany X.K W D l cls d σ' s'.H := by
  induction h with
  | nil => exact ⟨[], .nil, fun D s e env1 h1 pr s' σ' cls d l eh hr er xr => pr s' σ' cls d l eh hr er xr⟩
  | @cons x c b₀ suite np pos' ss hds hs v hx hsu r ih =>
    obtain ⟨l, h1, h2⟩ := ih
    obtain ⟨C, hm, xi, ok⟩ := g.xc _ hx
    refine ⟨(.ref C, fun a cls d => tS X.K I (fun _ _ _ _ => False) (fun env h => evalSs (callF Γ.fns n) ss env h)) :: l, .cons ⟨v.g g, v.db, .inl hm⟩ (fun a oe cls d pn hz hf => hsu.run n I W X g a oe pn) h1, fun D s e env1 h3 pr s' σ' cls d le eh hr er xr => ?_⟩
    obtain ⟨C', xi', rfl, xr'⟩ := id xr
    have ex := g.xm _ _ _ _ xi' xi
    refine ⟨_, ex, fun hb a ha => ?_, fun hb => ?_⟩
    · have pr' : PSt X.K I W D s (evalSs (callF Γ.fns n) ss env1 h3) := by
        have q : evalHs (callF Γ.fns n) ((c, ss) :: hs) e env1 h3 = (if subC e.c c = true then evalSs (callF Γ.fns n) ss env1 h3 else evalHs (callF Γ.fns n) hs e env1 h3) := rfl
        rw [q, if_pos hb] at pr
        exact pr
      refine ⟨env1, s', rfl, hr, er, trivial, ?_⟩
      show PSt X.K I _ D s' (evalSs (callF Γ.fns n) ss env1 s'.h)
      rw [eh]
      replace pr' := PSt.le pr' le
      have nx := hsu.nox (callF Γ.fns n) env1 h3
      generalize evalSs (callF Γ.fns n) ss env1 h3 = rs at pr' nx ⊢
      cases rs with
      | ok fl env2 h4 => cases fl <;> exact pr'
      | exc e2 env2 h4 => exact absurd rfl (nx _ _ _)
      | stuck => exact pr'
    · refine h2 D s e env1 h3 ?_ s' σ' _ d le eh hr er xr
      have q : evalHs (callF Γ.fns n) ((c, ss) :: hs) e env1 h3 = (if subC e.c c = true then evalSs (callF Γ.fns n) ss env1 h3 else evalHs (callF Γ.fns n) hs e env1 h3) := rfl
      rw [q, if_neg (by rw [hb]; decide)] at pr
      exact pr
theorem ds_try {h₀ : ExceptHandler} {hds : List ExceptHandler} {hs : List (Nat × List S)} {sts : List Stmt} {ss : List S} (hb : DSs Γ N sc sts ss) (hh : DHs Γ N sc (h₀ :: hds) hs) (ht : sc.top = true := by rfl) : DS Γ N sc (.Try sts (h₀ :: hds) [] [] pos) (.try_ ss hs) := fun n I W X g => by
  obtain ⟨l, ok, go⟩ := hds_ok g hh
  refine (ps_try_many (tb := fun W' => tS X.K I W' (fun env h => evalSs (callF Γ.fns n) ss env h)) (g.stk ht).1 (g.stk ht).2 g.tk (fun W' pn xe tk ps => hb n I W' _ (g.tr tk ps)) ok).imp fun D σ H q => ?_
  obtain ⟨env, s, eH, hr, er, _, pr⟩ := q
  refine ⟨env, s, eH, hr, er, trivial, ?_⟩
  replace pr : PSt X.K I W D s (match evalSs (callF Γ.fns n) ss env s.h with
    | .exc e env1 h1 => evalHs (callF Γ.fns n) hs e env1 h1
    | r => r) := pr
  show PSt X.K I (wMany X.K W D l) D s (evalSs (callF Γ.fns n) ss env s.h)
  generalize evalSs (callF Γ.fns n) ss env s.h = rs at pr ⊢
  cases rs with
  | ok fl env1 h1 => cases fl <;> exact pr
  | exc e env1 h1 => exact fun s' σ' cls d l eh hr' er' xr => go D s e env1 h1 pr s' σ' cls d l eh hr' er' xr
  | stuck => exact pr
/-- return c -/
theorem dsu_retS {z : Str} {j : Nat} : DSu Γ N sc [.Return (some (.Constant (.str z) j p)) pos] [.ret (.lit (.str z))] where
  run := fun n I W X g a oe pn => (pss_cons (ps_ret (pe_str)) pss_nil).imp fun D σ H q => by
    obtain ⟨env, s, eH, hr, er, _, pr⟩ := q
    subst eH
    exact pr s (.str z) (.refl s) rfl hr (.str z)
  nox := fun cf env h e env' h' z => by cases z
end
end Cd
set_option Elab.async false
set_option linter.all false
set_option maxRecDepth 100000
set_option maxHeartbeats 4000000
namespace Cd
open PySem PySem.Spec PyProof.Rows L2
mutual
theorem sameD_eq : ∀ {x y : PyData}, sameD x y = true → x = y
  | .none, .none, _ => rfl
  | .bool a, .bool b, h => by simp [sameD] at h; rw [h]
  | .int a, .int b, h => by simp [sameD] at h; rw [h]
  | .str a, .str b, h => by simp [sameD] at h; rw [h]
  | .list xs, .list ys, h => by rw [sameL_eq (show sameL xs ys = true by simpa [sameD] using h)]
  | .tuple xs, .tuple ys, h => by rw [sameL_eq (show sameL xs ys = true by simpa [sameD] using h)]
  | .dict _, _, h => by simp [sameD] at h
  | .none, .bool _, h | .none, .int _, h | .none, .str _, h | .none, .list _, h | .none, .tuple _, h | .none, .dict _, h => by simp [sameD] at h
  | .bool _, .none, h | .bool _, .int _, h | .bool _, .str _, h | .bool _, .list _, h | .bool _, .tuple _, h | .bool _, .dict _, h => by simp [sameD] at h
  | .int _, .none, h | .int _, .bool _, h | .int _, .str _, h | .int _, .list _, h | .int _, .tuple _, h | .int _, .dict _, h => by simp [sameD] at h
  | .str _, .none, h | .str _, .bool _, h | .str _, .int _, h | .str _, .list _, h | .str _, .tuple _, h | .str _, .dict _, h => by simp [sameD] at h
  | .list _, .none, h | .list _, .bool _, h | .list _, .int _, h | .list _, .str _, h | .list _, .tuple _, h | .list _, .dict _, h => by simp [sameD] at h
  | .tuple _, .none, h | .tuple _, .bool _, h | .tuple _, .int _, h | .tuple _, .str _, h | .tuple _, .list _, h | .tuple _, .dict _, h => by simp [sameD] at h
theorem sameL_eq : ∀ {xs ys : List PyData}, sameL xs ys = true → xs = ys
  | [], [], _ => rfl
  | [], _ :: _, h | _ :: _, [], h => by simp [sameL] at h
  | x :: xs, y :: ys, h => by
    simp only [sameL, Bool.and_eq_true] at h
    rw [sameD_eq h.1, sameL_eq h.2]
end
theorem still_eq {h : Hi} {n : Nat} {ts : List PyData} (e : stillL h n ts = true) : listAt h n = some ts := by
  unfold stillL at e
  cases e2 : listAt h n with
  | none => rw [e2] at e; cases e
  | some us => rw [e2] at e; rw [sameL_eq e]
section
variable {Γ : Gm} {N : List Str} {sc : Sco} {e tg ea eb ec : Expr} {a b c : E} {ta : Te} {o : O2} {pos p p2 apos : Pos} {es : List Expr} {as : List E} {i j : Nat} {x y f : Str} {t : Tg} {src : Src} {cl : Nat} {names : List Str} {sts : List Stmt} {ss : List S}
/-- x, y = a, b where they are not stored the other way about -/
theorem ds_set2U {px py pt pt2 : Pos} {kt k2 : Nat} (v1 : TOk N sc i x) (v2 : TOk N sc j y) (ha : DE Γ N sc ea a) (hb : DE Γ N sc eb b) (hw : swappedStores [.Tuple [.Name x px, .Name y py] kt pt] (.Tuple [ea, eb] k2 pt2) (e0 sc.s) = pure none)
    (hs : ∀ env, swapsWithSole [.Tuple [.Name x px, .Name y py] kt pt] (.Tuple [ea, eb] k2 pt2) pos.line env = pure false := by intro _; rfl) (se : Sec ea [eb] := by intro _; rfl) (se1 : Sec eb [] := by intro _; rfl)
    (h1 : ∀ env, (assignEach [.Tuple [.Name x px, .Name y py] kt pt] env).map (·.2) = [assign (.Tuple [.Name x px, .Name y py] kt pt) env] := by intro _; rfl) :
    DS Γ N sc (.Assign [.Tuple [.Name x px, .Name y py] kt pt] (.Tuple [ea, eb] k2 pt2) pos) (.set2 i j a b) := fun n I W X g =>
  (ps_asg (pe_tup (pa_cons (ha n I W X g) (pa_cons (hb n I W X g) pa_nil (se1 _)) (se _)))
    (pg_tup (n := 2) g.calm (pgs_cons (pg_name (i := i) (by rw [g.hN]; exact g.nd) (by rw [g.hN]; exact v1.hN) (by rw [g.sc]; exact v1.loc) (by rw [g.fnc, g.sc]; exact v1.fn))
      (pgs_cons (pg_name (i := j) (by rw [g.hN]; exact g.nd) (by rw [g.hN]; exact v2.hN) (by rw [g.sc]; exact v2.loc) (by rw [g.fnc, g.sc]; exact v2.fn)) pgs_nil)))
    (hs _) (by rw [par_env, g.sc]; exact hw) (h1 _)).imp fun D σ H q => by
    obtain ⟨env, s, eH, hr, er, _, pr⟩ := AtS.bind (Rel1 := VR X.K) (k := fun v env h1 => (evalE (callF Γ.fns n) env b h1).toS env fun w h2 => .ok .nx (setSlot (setSlot env i (some v)) j (some w)) h2) q
    refine ⟨env, s, eH, hr, er, trivial, PR.mono pr fun u H1 ⟨v, q⟩ => ?_⟩
    obtain ⟨env, s, eH, hr, er, _, pr⟩ := AtS.bind (Rel1 := VR X.K) (G' := fun s => VR X.K s v u) (k := fun w env h2 => .ok .nx (setSlot (setSlot env i (some v)) j (some w)) h2) q (fun s s' l g => g.2.le l)
    refine ⟨env, s, eH, hr, er, trivial, PR.mono pr fun u2 H2 ⟨w, env, s, e, hr, er, ⟨r1, r2⟩, pr⟩ => ?_⟩
    subst e
    refine ⟨by show 2 ≤ sizeLine; decide, fun p hp => ?_⟩
    have l := hr.put_le (fz := false) (o := .tup [u, u2]) hp
    refine ⟨p, [u, u2], rfl, SqT.of upd_same, rfl, u, [u2], rfl, u2, [], rfl, rfl, ?_⟩
    exact pr (s.put p (.tup [u, u2]) false) _ l rfl (hr.put hp) (((er.le l).set (r1.le l)).set (r2.le l))
/-- for t in a list of the heap -/
theorem ds_forB {q : Pos} (v : VOk N sc i x) (ht : DG Γ N sc tg t) (hb : DSs Γ N sc sts ss) (hs : ∀ env y, foldedSetIterable (.Name x q) env y = pure y := by intro _ _; rfl) : DS Γ N sc (.For tg (.Name x q) sts [] pos) (.forB t i ss) := fun n I W X g =>
  (ps_for g.pass g.calm (pi_seq (v.pe g)) (ht n I W X g) (hb n I W X g) (hs _)).imp fun D σ H qq => by
    obtain ⟨env, s, eH, hr, er, _, pr⟩ := qq
    subst eH
    replace pr : PSt X.K I W D s (match lstOf env s.h i with
      | none => .stuck
      | some p => forLB (fun h => stillL h p.1 p.2) (evalSs (callF Γ.fns n) ss) (bindT t) p.2 env s.h) := pr
    cases e0 : lstOf env s.h i with
    | none => rw [e0] at pr; exact False.elim pr
    | some p0 =>
      rw [e0] at pr
      obtain ⟨m, items⟩ := p0
      obtain ⟨k1, k2⟩ := lstOf_of e0
      obtain ⟨k6, k7⟩ := ref_addr er k1
      obtain ⟨xs0, k3, k4⟩ := hr.ob _ _ k2
      refine ⟨_, k6, .inl ⟨_, xs0, rfl, .inl (Rd.of k3), ?_⟩⟩
      simp only at pr k1 k2 k3 k4 k6 k7 ⊢
      refine ⟨fun i m' σ' H' => i ≤ items.length ∧ m' = items.length - i ∧ ∃ env' s', s'.H = H' ∧ HR X.K I.ci s' ∧ ER X.K s' env' σ' ∧ Le s s' ∧ PSt X.K I W D s' (forLB (fun h => stillL h m items) (evalSs (callF Γ.fns n) ss) (bindT t) (items.drop i) env' s'.h),
        ⟨_, Nat.zero_le _, rfl, env, s, rfl, hr, er, .refl s, by rw [List.drop_zero]; exact pr⟩, ?_⟩
      rintro i m' σ' H' ⟨hi, rfl, env', s', rfl, hr', er', l', pr'⟩
      by_cases hst : stillL s'.h m items = true
      · have la := still_eq hst
        obtain ⟨xs, k5, k8⟩ := hr'.ob _ _ (listAt_of la)
        rw [l'.ph m k7] at k5
        by_cases hin : i = items.length
        · left
          refine ⟨⟨xs, .inl (Rd.of k5), by rw [← k8.length]; omega⟩, ?_⟩
          rw [hin, List.drop_length] at pr'
          unfold forLB at pr'
          rw [if_pos hst] at pr'
          exact pr' s' _ (.refl _) rfl hr' er'
        · right
          have hlt : i < items.length := by omega
          have hlx : i < xs.length := by rw [← k8.length]; exact hlt
          refine ⟨⟨xs, xs[i], .inl (Rd.of k5), List.getElem?_eq_getElem hlx⟩, fun σ2 H2 => i + 1 ≤ items.length ∧ ∃ env2 s2, s2.H = H2 ∧ HR X.K I.ci s2 ∧ ER X.K s2 env2 σ2 ∧ Le s s2 ∧ PSt X.K I W D s2 (forLB (fun h => stillL h m items) (evalSs (callF Γ.fns n) ss) (bindT t) (items.drop (i + 1)) env2 s2.h),
            fun σ2 H2 ⟨h1, h2⟩ => ⟨items.length - (i + 1), by omega, h1, rfl, h2⟩, fun y H2 hy => ?_⟩
          obtain ⟨rfl, hy⟩ := hy
          obtain ⟨d, ed, rd⟩ := k8.get' (hy xs (.inl (Rd.of k5)))
          have edr : items.drop i = d :: items.drop (i + 1) := by
            obtain ⟨h, e⟩ := List.getElem?_eq_some_iff.mp ed
            rw [List.drop_eq_getElem_cons h, e]
          rw [edr] at pr'
          unfold forLB at pr'
          rw [if_pos hst] at pr'
          cases eb : bindT t d env' with
          | none => simp only [eb] at pr'; exact False.elim pr'
          | some env1 =>
            simp only [eb] at pr'
            refine ⟨env', s', d, env1, rfl, hr', er', rd, eb, fun σ1 er1 _ => ⟨env1, s', rfl, hr', er1, trivial, ?_⟩⟩
            show PSt X.K I W _ s' (evalSs (callF Γ.fns n) ss env1 s'.h)
            generalize evalSs (callF Γ.fns n) ss env1 s'.h = r at pr' ⊢
            cases r with
            | ok fl env2 h2 =>
              cases fl with
              | nx =>
                intro s3 σ3 l3 eh3 hr3 er3
                subst eh3
                exact ⟨by omega, env2, s3, rfl, hr3, er3, l'.trans l3, PSt.le pr' l3⟩
              | ct =>
                intro s3 σ3 l3 eh3 hr3 er3
                subst eh3
                exact ⟨by omega, env2, s3, rfl, hr3, er3, l'.trans l3, PSt.le pr' l3⟩
              | bk => exact pr'
              | rt v => exact pr'
            | exc e env2 h2 => exact pr'
            | stuck => exact pr'
      · exfalso
        cases hd : items.drop i with
        | nil =>
          rw [hd] at pr'
          unfold forLB at pr'
          rw [if_neg hst] at pr'
          exact pr'
        | cons d r =>
          rw [hd] at pr'
          unfold forLB at pr'
          rw [if_neg hst] at pr'
          exact pr'
end
end Cd
set_option Elab.async false
set_option linter.all false
set_option maxRecDepth 100000
set_option maxHeartbeats 1000000
namespace Cd
open PySem PySem.Spec PyProof.Rows L2
/-! ### len(dict(pairs)) -/
theorem putK_keys {k : Key} {v : V} (acc : List (Key × V)) : (k ∈ acc.map (·.1) ∧ (putK acc k v).map (·.1) = acc.map (·.1)) ∨ (k ∉ acc.map (·.1) ∧ (putK acc k v).map (·.1) = acc.map (·.1) ++ [k]) := by
  have ha : ((acc.any fun kv => decide (kv.1 = k)) = true) ↔ k ∈ acc.map (·.1) := by
    simp only [List.any_eq_true, decide_eq_true_eq, List.mem_map]
  unfold putK
  by_cases h : (acc.any fun kv => decide (kv.1 = k)) = true
  · left
    refine ⟨ha.mp h, ?_⟩
    rw [if_pos h, List.map_map]
    apply List.map_congr_left
    intro p _
    simp only [Function.comp_apply]
    split
    · rfl
    · rfl
  · right
    refine ⟨fun z => h (ha.mpr z), ?_⟩
    rw [if_neg h, List.map_append]; rfl
theorem merge_keys : ∀ (more acc : List (Key × V)), (acc.map (·.1)).Nodup → ((mergeK acc more).map (·.1)).Nodup ∧ ∀ q, q ∈ (mergeK acc more).map (·.1) ↔ q ∈ acc.map (·.1) ∨ q ∈ more.map (·.1)
  | [], acc, nd => ⟨nd, fun q => by simp [mergeK]⟩
  | kv :: more, acc, nd => by
    rcases putK_keys (k := kv.1) (v := kv.2) acc with ⟨hm, e⟩ | ⟨hm, e⟩
    · obtain ⟨h1, h2⟩ := merge_keys more (putK acc kv.1 kv.2) (by rw [e]; exact nd)
      refine ⟨h1, fun q => ?_⟩
      show q ∈ (mergeK (putK acc kv.1 kv.2) more).map (·.1) ↔ _
      rw [h2 q, e, List.map_cons, List.mem_cons]
      constructor
      · rintro (z | z)
        · exact .inl z
        · exact .inr (.inr z)
      · rintro (z | rfl | z)
        · exact .inl z
        · exact .inl hm
        · exact .inr z
    · obtain ⟨h1, h2⟩ := merge_keys more (putK acc kv.1 kv.2) (by
        rw [e]
        exact List.nodup_append.mpr ⟨nd, by simp, fun a ha b hb => by rw [List.mem_singleton.mp hb]; rintro rfl; exact hm ha⟩)
      refine ⟨h1, fun q => ?_⟩
      show q ∈ (mergeK (putK acc kv.1 kv.2) more).map (·.1) ↔ _
      rw [h2 q, e, List.map_cons, List.mem_cons, List.mem_append, List.mem_singleton, or_assoc]
theorem dedup_nodupG {α : Type} [DecidableEq α] : ∀ l : List α, (dedup l).Nodup ∧ ∀ x, x ∈ dedup l ↔ x ∈ l
  | [] => ⟨List.nodup_nil, fun _ => Iff.rfl⟩
  | x :: r => by
    obtain ⟨h1, h2⟩ := dedup_nodupG r
    unfold dedup
    split
    · rename_i h
      refine ⟨h1, fun y => ?_⟩
      rw [h2, List.mem_cons]
      exact ⟨.inr, fun z => z.elim (fun e => e ▸ h) id⟩
    · rename_i h
      refine ⟨List.nodup_cons.mpr ⟨fun z => h ((h2 x).mp z), h1⟩, fun y => ?_⟩
      rw [List.mem_cons, List.mem_cons, h2]
theorem merge_len (kvs : List (Key × V)) : (mergeK [] kvs).length = (dedup (kvs.map (·.1))).length := by
  obtain ⟨h1, h2⟩ := merge_keys kvs [] List.nodup_nil
  obtain ⟨h3, h4⟩ := dedup_nodupG (kvs.map (·.1))
  have := ((List.perm_ext_iff_of_nodup h1 h3).mpr fun q => by rw [h2, h4]; simp).length_eq
  rwa [List.length_map] at this
theorem key_kV {K : PySem.W.Frag} {F : Addr → Prop} {H : Hp} {k : PyData} {v : V} {q : Key} (e : key0 k = some q) (r : RF K F H k v) : v = kV q := by
  cases k with
  | int i => cases e; cases r; rfl
  | str x => cases e; cases r; rfl
  | _ => cases e
theorem pairs_inv {K : PySem.W.Frag} {F : Addr → Prop} {H : Hp} : ∀ (ts : List PyData) (xs : List V) (ks : List Key), RFs K F H ts xs → pairKeys ts = some ks → ∃ (ps : List Addr) (kvs : List (Key × V)), xs = ps.map V.ref ∧ Paired (fun p kv => SqT K H p [kV kv.1, kv.2]) ps kvs ∧ kvs.map (·.1) = ks
  | [], xs, ks, r, e => by
    cases r
    cases e
    exact ⟨[], [], rfl, .nil, rfl⟩
  | d :: ds, xs, ks, r, e => by
    unfold pairKeys at e
    split at e
    · rename_i heq; cases heq
    · rename_i k w r' heq
      injection heq with h1 h2
      subst h1 h2
      rw [Option.bind_eq_some_iff] at e
      obtain ⟨key, ek, e2⟩ := e
      rw [Option.map_eq_some_iff] at e2
      obtain ⟨ks', e3, rfl⟩ := e2
      cases r with
      | cons h t =>
        obtain ⟨ps, kvs, rfl, hP, hks⟩ := pairs_inv ds _ ks' t e3
        cases h with
        | tup hT hs =>
          rename_i a xs'
          cases hs with
          | cons hk hs2 =>
            rename_i vk vs2
            cases hs2 with
            | cons hw hs3 =>
              rename_i vw vs3
              cases hs3
              refine ⟨a :: ps, (key, vw) :: kvs, rfl, .cons ?_ hP, by rw [List.map_cons, hks]⟩
              rw [key_kV ek hk] at hT
              exact hT
    · cases e
section
variable {Γ : Gm} {N : List Str} {sc : Sco} {e tg ea eb ec : Expr} {a b c : E} {pos p p2 apos : Pos}
theorem de_lenDict {q : Pos} (v : NB Γ sc "len") (v2 : NB Γ sc "dict") (ha : DB Γ N sc ea a) (se1 : Se1 ea := by intro _; rfl) (se2 : Se1 (.Call (.Name "dict" q) [ea] [] p2) := by intro _; rfl) :
    DE Γ N sc (.Call (.Name "len" p) [.Call (.Name "dict" q) [ea] [] p2] [] pos) (.op1 .lenDict a) := fun n I W X g =>
  (pe_bi1 g call_lenD v boot_len (pe_ty1 g (call_dictP g.calm) v2 (by decide +kernel) (ha n I W X g) se1) se2).imp fun σ H Q q => by
    obtain ⟨env, s, eH, hr, er, _, pr⟩ := At.bind (Rel1 := RB X.K) (ev2 := fun x env h => Cd.ofO ((opf1 .lenDict x).map Val.p) h) q
    refine ⟨env, s, eH, hr, er, trivial, ?_⟩
    refine PR.mono pr fun x H1 ⟨d, env, s, e, hr, er, ⟨_, rb⟩, pr⟩ => ?_
    subst e
    replace pr : PR X.K I W s σ (Cd.ofO ((lenDictS d).map Val.p) s.h) (VR X.K) Q := pr
    cases e1 : lenDictS d with
    | none => rw [e1] at pr; exact False.elim pr
    | some d' =>
      rw [e1] at pr
      cases d with
      | list ts =>
        have e2 : (pairKeys ts).map (fun ks => PyData.int (dedup ks).length) = some d' := e1
        rw [Option.map_eq_some_iff] at e2
        obtain ⟨ks, e3, rfl⟩ := e2
        obtain ⟨l, xs, rfl, h1, q1⟩ := rb.lst
        obtain ⟨ps, kvs, rfl, hp, hk⟩ := pairs_inv ts xs ks q1 e3
        refine ⟨l, ps, kvs, rfl, h1, hp, fun p0 h0 => ?_⟩
        refine ⟨p0, mergeK [] kvs, rfl, upd_same, ?_⟩
        have ml := merge_len kvs
        rw [hk] at ml
        rw [ml]
        exact pr (s.put p0 (.dK (mergeK [] kvs)) false) _ (hr.put_le h0) rfl (hr.put h0) (.int _)
      | _ => cases e1
end
end Cd
set_option Elab.async false
set_option linter.all false
set_option maxRecDepth 100000
set_option maxHeartbeats 4000000
namespace Cd
open PySem PySem.Spec PyProof.Rows L2
section
variable {Γ : Gm} {N : List Str} {sc : Sco} {e tg ea eb ec : Expr} {a b c : E} {o : O2} {pos p p2 : Pos} {t : Tg} {src : Src} {i0 : Nat} {x : Str}
/-- what a comprehension's row asks, over an own list that its parts leave alone -/
theorem lcB_imp {n : Nat} {I : Inf} {W : WX} {X : Cx} {conds : List Te} {own : List (Str × Nat)} (hsub : ∀ k, k ∈ tgSlots t → k ∈ snds own) {σ : L2.St} {H : Hp} {Q : VK}
    (q : tE X.K I W (fun env h => (evalE (callF Γ.fns n) env (.compB i0 (snds own) t conds a) h).bind unP) (RN X.K) σ H Q) :
    tLc (iSeq X.K (tVar i0)) (tG X.K I.ci t) (tE X.K I (fun _ _ _ _ => False) (fun env h => evalTs (callF Γ.fns n) env conds h) (fun _ a x => x = a))
      (tE X.K I (fun _ _ _ _ => False) (fun env h => (evalE (callF Γ.fns n) env a h).bind unP) (PRl X.K)) (own.map (·.2)) σ H Q := by
  obtain ⟨env, s, eH, hr, er, _, pr⟩ := q
  subst eH
  replace pr : PR X.K I W s σ ((match lstOf env s.h i0 with
    | none => .stuck
    | some p => compK2 (compLB (fun h => stillL h p.1 p.2) (fun e h => (evalE (callF Γ.fns n) e a h).bind unP) (fun e h => evalTs (callF Γ.fns n) e conds h) (fun x e => bindT t x e) (wipeE env (snds own))) p.2 s.h : R Val).bind unP) (RN X.K) Q := pr
  cases e0 : lstOf env s.h i0 with
  | none => rw [e0] at pr; exact False.elim pr
  | some p0 =>
  rw [e0] at pr
  obtain ⟨m0, items⟩ := p0
  obtain ⟨k1, k2⟩ := lstOf_of e0
  obtain ⟨k6, k7⟩ := ref_addr er k1
  obtain ⟨xs0, k3, k4⟩ := hr.ob _ _ k2
  refine ⟨_, k6, .inl ⟨_, xs0, rfl, .inl (Rd.of k3), ?_⟩⟩
  simp only at pr k1 k2 k3 k4 k6 k7 ⊢
  intro D hD
  replace pr : PR X.K I W s σ ((compK2 (compLB (fun h => stillL h m0 items) (fun e h => (evalE (callF Γ.fns n) e a h).bind unP) (fun e h => evalTs (callF Γ.fns n) e conds h) (fun x e => bindT t x e) (wipeE env (snds own))) items s.h).bind unP) (RN X.K) Q := pr
  unfold compK2 at pr
  by_cases hz : items.length < sizeLine
  · rw [if_pos hz] at pr
    rcases compK_inv (r := compLB (fun h => stillL h m0 items) (fun e h => (evalE (callF Γ.fns n) e a h).bind unP) (fun e h => evalTs (callF Γ.fns n) e conds h) (fun x e => bindT t x e) (wipeE env (snds own)) items s.h) with ⟨ys, h2, e1, e2⟩ | e2
    · rw [e2] at pr
      replace pr : PR X.K I W s σ (R.ok (PyData.list ys) h2) (RN X.K) Q := pr
      have hD0 : s.H D = none := hD
      refine ⟨fun i m H' => i ≤ items.length ∧ m = items.length - i ∧ ∃ s' acc accT rest, s'.H = H' ∧ HR X.K I.ci s' ∧ Le s s' ∧ s'.B D ∧ s'.H D = some (.lst acc) ∧ RFs X.K s'.F s'.H accT acc ∧ accT.length ≤ i ∧
        compLB (fun h => stillL h m0 items) (fun e h => (evalE (callF Γ.fns n) e a h).bind unP) (fun e h => evalTs (callF Γ.fns n) e conds h) (fun x e => bindT t x e) (wipeE env (snds own)) (items.drop i) s'.h = .ok rest h2 ∧ accT ++ rest = ys,
        ⟨_, Nat.zero_le _, rfl, s.guard D, [], [], ys, rfl, hr.guard hD0, guard_le hr hD0, .inr rfl, upd_same, .nil, Nat.le_refl _, by rw [List.drop_zero]; exact e1, rfl⟩, ?_⟩
      rintro i m H' ⟨hi, rfl, s', acc, accT, rest, rfl, hr', l', hB, hDa, ra, hla, er1, er2⟩
      have hlen := ra.length
      have hst : stillL s'.h m0 items = true := by
        cases hq : stillL s'.h m0 items with
        | true => rfl
        | false =>
          cases hdr : items.drop i with
          | nil => rw [hdr] at er1; unfold compLB at er1; rw [hq] at er1; simp at er1
          | cons y r => rw [hdr] at er1; unfold compLB at er1; rw [hq] at er1; simp at er1
      have la := still_eq hst
      obtain ⟨us, k5, k8⟩ := hr'.ob _ _ (listAt_of la)
      rw [l'.ph m0 k7] at k5
      by_cases hin : i = items.length
      · left
        refine ⟨⟨us, .inl (Rd.of k5), by rw [← k8.length]; omega⟩, ?_⟩
        subst hin
        rw [List.drop_length] at er1
        unfold compLB at er1
        rw [if_pos hst] at er1
        cases er1
        rw [List.append_nil] at er2
        subst er2
        refine pr (s'.unguard s.B) (.ref D) ⟨l'.len, l'.ph, l'.kf, fun b hb => ⟨hb, (l'.fr b hb).2⟩⟩ rfl ⟨hr'.ob, hr'.inj, hr'.nf, fun b hb => hr'.bt b (l'.fr b hb).1, hr'.ft⟩ ?_
        exact ⟨accT, D, acc, rfl, rfl, hDa, ra, (hr'.bt D hB).2.1, (hr'.bt D hB).1, (hr.fresh hD0).2.2⟩
      · right
        have hlt : i < items.length := by omega
        have hlx : i < us.length := by rw [← k8.length]; exact hlt
        refine ⟨⟨us, us[i], .inl (Rd.of k5), List.getElem?_eq_getElem hlx⟩, fun H'' => i + 1 ≤ items.length ∧ ∃ s' acc accT rest, s'.H = H'' ∧ HR X.K I.ci s' ∧ Le s s' ∧ s'.B D ∧ s'.H D = some (.lst acc) ∧ RFs X.K s'.F s'.H accT acc ∧ accT.length ≤ i + 1 ∧
          compLB (fun h => stillL h m0 items) (fun e h => (evalE (callF Γ.fns n) e a h).bind unP) (fun e h => evalTs (callF Γ.fns n) e conds h) (fun x e => bindT t x e) (wipeE env (snds own)) (items.drop (i + 1)) s'.h = .ok rest h2 ∧ accT ++ rest = ys,
          fun H'' ⟨h1, h3⟩ => ⟨items.length - (i + 1), by omega, h1, rfl, h3⟩, fun x H2 hy => ?_⟩
        obtain ⟨rfl, hy⟩ := hy
        obtain ⟨d, ed, rd⟩ := k8.get' (hy us (.inl (Rd.of k5)))
        have l2 : Le s' s' := .refl s'
        have hr2 := hr'
        have eh2 : s'.h = s'.h := rfl
        have edr : items.drop i = d :: items.drop (i + 1) := by
          obtain ⟨h, e⟩ := List.getElem?_eq_some_iff.mp ed
          rw [List.drop_eq_getElem_cons h, e]
        rw [edr] at er1
        unfold compLB at er1
        rw [if_pos hst] at er1
        cases eb : bindT t d (wipeE env (snds own)) with
        | none => simp only [eb] at er1; cases er1
        | some env1 =>
          simp only [eb] at er1
          refine ⟨wipeE env (snds own), s', d, env1, rfl, hr2, ((er.le l').le l2).wipe _, rd, eb, fun σ1 er' ⟨k1, k2⟩ => ⟨?_, ?_⟩⟩
          · exact (wipe_eq (k1.trans (wipe_length _ _)) fun k hk => by rw [k2 k (fun z => hk (hsub k z)), wipe_out hk])
          · refine ⟨env1, s', rfl, hr2, er', trivial, ?_⟩
            rw [← eh2] at er1
            show PR X.K I (fun _ _ _ _ => False) s' σ1 (evalTs (callF Γ.fns n) env1 conds s'.h) _ _
            cases ec : evalTs (callF Γ.fns n) env1 conds s'.h with
            | exc e h => rw [ec] at er1; cases er1
            | stuck => rw [ec] at er1; cases er1
            | ok k h3 =>
              rw [ec] at er1
              rintro s3 k' l3 eh3 hr3 rfl
              subst eh3
              have l23 := l2.trans l3
              have hB3 : s3.B D ∧ s3.H D = some (.lst acc) := by
                obtain ⟨b1, b2⟩ := l23.fr D hB
                exact ⟨b1, b2.trans hDa⟩
              cases k' with
              | false =>
                simp only [R.bind_ok, Bool.false_eq_true, if_false] at er1 ⊢
                exact ⟨by omega, s3, acc, accT, rest, rfl, hr3, l'.trans l23, hB3.1, hB3.2, ra.keep l23.kf, by omega, er1, er2⟩
              | true =>
                simp only [R.bind_ok, if_true] at er1 ⊢
                refine ⟨env1, s3, rfl, hr3, er'.le l3, trivial, ?_⟩
                show PR X.K I (fun _ _ _ _ => False) s3 σ1 ((evalE (callF Γ.fns n) env1 a s3.h).bind unP) _ _
                cases ev : (evalE (callF Γ.fns n) env1 a s3.h).bind unP with
                | exc e h => rw [ev] at er1; cases er1
                | stuck => rw [ev] at er1; cases er1
                | ok y h4 =>
                  rw [ev] at er1
                  simp only [R.bind_ok] at er1
                  intro s4 z l4 eh4 hr4 rz
                  subst eh4
                  have hB4 : s4.B D ∧ s4.H D = some (.lst acc) := by
                    obtain ⟨b1, b2⟩ := l4.fr D hB3.1
                    exact ⟨b1, b2.trans hB3.2⟩
                  have l24 := l23.trans l4
                  cases er3 : compLB (fun h => stillL h m0 items) (fun e h => (evalE (callF Γ.fns n) e a h).bind unP) (fun e h => evalTs (callF Γ.fns n) e conds h) (fun x e => bindT t x e) (wipeE env (snds own)) (items.drop (i + 1)) s4.h with
                  | exc e h => rw [er3] at er1; cases er1
                  | stuck => rw [er3] at er1; cases er1
                  | ok rest2 h5 =>
                    rw [er3] at er1
                    cases er1
                    refine ⟨acc, hB4.2, by omega, by omega, s4.wr D (acc ++ [z]), acc ++ [z], accT ++ [y], rest2, rfl, hr4.wr hB4.1 hB4.2, wr_le (l'.trans l24) hD0 hr, hB4.1, upd_same, ?_, by simp; omega, er3, by rw [List.append_assoc]; exact er2⟩
                    exact ((ra.keep l24.kf).append (.cons rz .nil)).keep (wr_keep hr4 hB4.1 hB4.2)
    · rw [e2] at pr
      exact False.elim pr
  · rw [if_neg hz] at pr
    exact False.elim pr
theorem dn_compB {elt : Expr} {ifs : List Expr} {scope : Scope} {own : List (Str × Nat)} {conds : List Te} {q : Pos} (v : VOk N sc i0 x) (ok : BlkOk N sc.s scope own) (ht : DG Γ N (blkS sc scope) tg t) (hc : DTs Γ N (blkS sc scope) ifs conds) (he : DV Γ N (blkS sc scope) elt a)
    (hsub : ∀ k, k ∈ tgSlots t → k ∈ snds own) (hs : ∀ env y, foldedSetIterable (.Name x q) env y = pure y := by intro _ _; rfl) : DN Γ N sc (.ListComp elt [⟨tg, .Name x q, ifs, 0⟩] scope pos) (.compB i0 (snds own) t conds a) := fun n I W X g =>
  (pe_lc (own := own) (wi := iSeq X.K (tVar i0)) (g := tG X.K I.ci t) (tt := tE X.K I (fun _ _ _ _ => False) (fun env h => evalTs (callF Γ.fns n) env conds h) (fun _ a x => x = a))
    (te := tE X.K I (fun _ _ _ _ => False) (fun env h => (evalE (callF Γ.fns n) env a h).bind unP) (PRl X.K)) g.calm (by rw [g.hN]; exact g.nd) (pi_seq (v.pe g)) (by rw [g.hN, g.sc]; exact ok)
    (fun s H C cl fp => ht n I _ _ (g.blk scope s H C cl fp)) (fun s H C cl fp => hc n I _ _ (g.blk scope s H C cl fp)) (fun s H C cl fp => he n I _ _ (g.blk scope s H C cl fp)) (hs _)).imp fun σ H Q q => lcB_imp hsub q
theorem dat_compB {own : List Nat} {cs : List Te} : Dat (.compB i0 own t cs a) := fun cf env h => by
  show (∃ d h', (match lstOf env h i0 with
    | none => (R.stuck : R Val)
    | some p => compK2 (compLB (fun h => stillL h p.1 p.2) (fun e h => (evalE cf e a h).bind unP) (fun e h => evalTs cf e cs h) (fun x e => bindT t x e) (wipeE env own)) p.2 h) = .ok (.p d) h') ∨ (∀ v h', (match lstOf env h i0 with
    | none => (R.stuck : R Val)
    | some p => compK2 (compLB (fun h => stillL h p.1 p.2) (fun e h => (evalE cf e a h).bind unP) (fun e h => evalTs cf e cs h) (fun x e => bindT t x e) (wipeE env own)) p.2 h) ≠ .ok v h')
  cases lstOf env h i0 with
  | none => exact .inr fun v h' z => by cases z
  | some p =>
    simp only
    unfold compK2
    split
    · generalize compLB _ _ _ _ _ _ _ = r
      cases r with
      | ok ys h => exact .inl ⟨_, _, rfl⟩
      | exc e h => exact .inr fun v h' z => by cases z
      | stuck => exact .inr fun v h' z => by cases z
    · exact .inr fun v h' z => by cases z
end
end Cd
set_option Elab.async false
set_option linter.all false
set_option maxRecDepth 100000
set_option maxHeartbeats 1000000
namespace Cd
open PySem PySem.Spec PyProof.Rows L2
/-! ### a new dict -/
def Sx.mkD (s : Sx) (a : Addr) : Sx := { s with h := s.h ++ [.dct []], φ := fun m k => if m = s.h.length then a else s.φ m k }
theorem live_appD {h : Hi} {m k : Nat} (l : Live (h ++ [.dct []]) m k) : (m < h.length ∧ Live h m k) ∨ (m = h.length ∧ k = 0) := by
  cases k with
  | zero =>
    obtain ⟨o, e, nd⟩ := l
    rcases get_app e with ⟨h1, h2⟩ | ⟨h1, h2⟩
    · exact .inl ⟨h1, o, h2, nd⟩
    · exact .inr ⟨h1, rfl⟩
  | succ k =>
    rcases l with ⟨c, fs, us, e, ef⟩ | ⟨kvs, q, us, e, ef⟩
    · rcases get_app e with ⟨h1, h2⟩ | ⟨h1, h2⟩
      · exact .inl ⟨h1, .inl ⟨c, fs, us, h2, ef⟩⟩
      · cases h2
    · rcases get_app e with ⟨h1, h2⟩ | ⟨h1, h2⟩
      · exact .inl ⟨h1, .inr ⟨kvs, q, us, h2, ef⟩⟩
      · cases h2
        simp at ef
theorem HR.mkD {K : PySem.W.Frag} {CI : CInf} {s : Sx} {a : Addr} (hr : HR K CI s) (ha : s.H a = some (.dK [])) (nf : ¬ s.F a) (nl : NotLive s a) (nb : ¬ s.B a) : HR K CI (s.mkD a) where
  ob := fun m u e => by
    rcases get_app e with ⟨h1, h2⟩ | ⟨h1, h2⟩
    · exact (hr.ob m u h2).move (s' := s.mkD a) .refl h2 fun j l => ⟨if_neg (Nat.ne_of_lt h1), fun w e => e⟩
    · subst h1; subst h2
      refine ⟨[], ?_, rfl, List.nodup_nil, fun j k f e => by simp at e⟩
      show s.H (if s.h.length = s.h.length then a else s.φ s.h.length 0) = some (.dK [])
      rw [if_pos rfl]; exact ha
  inj := fun m j q k l1 l2 e => by
    have e' : (if m = s.h.length then a else s.φ m j) = (if q = s.h.length then a else s.φ q k) := e
    rcases live_appD l1 with ⟨h1, h2⟩ | ⟨h1, h2⟩ <;> rcases live_appD l2 with ⟨h3, h4⟩ | ⟨h3, h4⟩
    · rw [if_neg (Nat.ne_of_lt h1), if_neg (Nat.ne_of_lt h3)] at e'
      exact hr.inj _ _ _ _ h2 h4 e'
    · rw [if_neg (Nat.ne_of_lt h1), if_pos h3] at e'
      exact absurd e' (nl _ _ h2)
    · rw [if_pos h1, if_neg (Nat.ne_of_lt h3)] at e'
      exact absurd e'.symm (nl _ _ h4)
    · exact ⟨h1.trans h3.symm, h2.trans h4.symm⟩
  nf := fun m j l => by
    show ¬ s.F (if m = s.h.length then a else s.φ m j)
    rcases live_appD l with ⟨h1, h2⟩ | ⟨h1, h2⟩
    · rw [if_neg (Nat.ne_of_lt h1)]; exact hr.nf _ _ h2
    · rw [if_pos h1]; exact nf
  bt := fun b hb => by
    obtain ⟨h1, h2, h3⟩ := hr.bt b hb
    refine ⟨fun m j l => ?_, h2, h3⟩
    show (if m = s.h.length then a else s.φ m j) ≠ b
    rcases live_appD l with ⟨k1, k2⟩ | ⟨k1, k2⟩
    · rw [if_neg (Nat.ne_of_lt k1)]; exact h1 _ _ k2
    · rw [if_pos k1]; rintro rfl; exact nb hb
  ft := hr.ft
theorem mkD_le {s : Sx} {a : Addr} : Le s (s.mkD a) := ⟨by show s.h.length ≤ (s.h ++ [_]).length; simp, fun n h => if_neg (Nat.ne_of_lt h), .refl, fun _ h => ⟨h, rfl⟩⟩
section
variable {Γ : Gm} {N : List Str} {sc : Sco} {e tg ea eb ec : Expr} {a b c : E} {pos p p2 apos : Pos} {i : Nat} {x : Str}
/-- x = {} -/
theorem ds_newD0 (v : TOk N sc i x) (hs : ∀ env, swapsWith (.Dict [] [] p2) (some (.Name x p)) pos.line env = pure false := by intro _; rfl) : DS Γ N sc (.Assign [.Name x p] (.Dict [] [] p2) pos) (.newD i []) := fun n I W X g =>
  (ps_set (i := i) (by rw [g.hN]; exact g.nd) (by rw [g.hN]; exact v.hN) (by rw [g.sc]; exact v.loc) pe_dnewK (hs _) (by rw [g.fnc, g.sc]; exact v.fn)).imp fun D σ H q => by
    obtain ⟨env, s, eH, hr, er, _, pr⟩ := q
    subst eH
    replace pr : PSt X.K I W D s (.ok .nx (setSlot env i (some (.ref s.h.length))) (s.h ++ [.dct []])) := pr
    intro p0 hp
    have hr1 := hr.put (o := .dK []) (fz := false) hp
    have fr := hr.fresh hp
    have hr2 : HR X.K I.ci ((s.put p0 (.dK []) false).mkD p0) := hr1.mkD upd_same (fun z => by
      rcases z with z | ⟨z, _⟩
      · exact fr.1 z
      · cases z) fr.2.1 fr.2.2
    have le : Le s ((s.put p0 (.dK []) false).mkD p0) := (hr.put_le hp).trans mkD_le
    exact pr ((s.put p0 (.dK []) false).mkD p0) _ le rfl hr2 ((er.le le).set ⟨by show s.h.length < (s.h ++ [_]).length; simp, by show _ = V.ref (if s.h.length = s.h.length then p0 else _); rw [if_pos rfl]⟩)
end
end Cd
set_option Elab.async false
set_option linter.all false
set_option maxRecDepth 100000
set_option maxHeartbeats 1000000
namespace Cd
open PySem PySem.Spec PyProof.Rows L2
/-! ### d.get(k, x) of a dict of the small heap -/
theorem key_beq (q k : Key) : (q == k) = decide (q = k) := by
  rcases q with a | a <;> rcases k with b | b
  · show (a == b) = _
    by_cases h : a = b
    · subst h; simp
    · simp [h]
  · rfl
  · rfl
  · show (a == b) = _
    by_cases h : a = b
    · subst h; simp
    · simp [h]
theorem val_look {q : Key} : ∀ (kvs : List (Key × Fld)) (es : List (Key × V)) (R : Nat → Fld → V → Prop), es.map (·.1) = kvs.map (·.1) → (∀ j k f, kvs[j]? = some (k, f) → ∃ v, es[j]? = some (k, v) ∧ R j f v) →
    (kvs.lookup q = none ∧ valV es q = none) ∨ ∃ f v j, kvs.lookup q = some f ∧ valV es q = some v ∧ R j f v
  | [], [], R, _, _ => .inl ⟨rfl, rfl⟩
  | [], _ :: _, R, e, _ => nomatch e
  | _ :: _, [], R, e, _ => nomatch e
  | (k, f) :: r, (k', v) :: es, R, he, h => by
    have he' : k' = k ∧ es.map (·.1) = r.map (·.1) := by simpa using he
    obtain ⟨rfl, he2⟩ := he'
    obtain ⟨v0, e0, r0⟩ := h 0 k' f rfl
    have ev : v0 = v := by simpa using e0.symm
    subst ev
    by_cases c : q = k'
    · subst c
      right
      refine ⟨f, v0, 0, ?_, ?_, r0⟩
      · simp [List.lookup, key_beq]
      · simp [valV]
    · have c1 : (q == k') = false := by rw [key_beq]; exact decide_eq_false c
      have c2 : ¬ k' = q := fun z => c z.symm
      have l1 : ((k', f) :: r).lookup q = r.lookup q := by simp [List.lookup, c1]
      have l2 : valV ((k', v0) :: es) q = valV es q := by simp [valV, c2]
      rw [l1, l2]
      rcases val_look r es (fun j => R (j + 1)) he2 (fun j k g e => h (j + 1) k g e) with z | ⟨g, w, j, z1, z2, z3⟩
      · exact .inl z
      · exact .inr ⟨g, w, j + 1, z1, z2, z3⟩
section
variable {Γ : Gm} {N : List Str} {sc : Sco} {ek ed : Expr} {a b c : E} {pos p p2 apos : Pos} {i : Nat} {x : Str}
theorem de_dgetD (v : VOk N sc i x) (hk : DP Γ N sc ek a) (hd : DP Γ N sc ed b) (m : ∀ X : Cx, M2 X (.Name x p) "get" apos ek ed pos) : DE Γ N sc (.Call (.Attribute (.Name x p) "get" apos) [ek, ed] [] pos) (.dgetD i a b) := fun n I W X g =>
  (pe_dget2 (by have := g.hu; omega) (v.pe g) (hk.run n I W X g) (hd.run n I W X g) (m X)).imp fun σ H Q q => by
    obtain ⟨env, s, eH, hr, er, _, pr⟩ := q
    subst eH
    replace pr : PR X.K I W s σ (((evalE (callF Γ.fns n) env a s.h).bind unP).bind fun kd h1 => ((evalE (callF Γ.fns n) env b h1).bind unP).bind fun dd h2 => dgetDK env i kd dd h2) (VR X.K) Q := pr
    rcases hk.pure (callF Γ.fns n) env s.h with ⟨vk, e1⟩ | e1
    · cases vk with
      | ref m => rw [e1] at pr; exact False.elim pr
      | p kd =>
        rcases hd.pure (callF Γ.fns n) env s.h with ⟨vd, e2⟩ | e2
        · cases vd with
          | ref m => rw [e1] at pr; simp only [R.bind_ok, unP] at pr; rw [e2] at pr; exact False.elim pr
          | p dd =>
            rw [e1] at pr
            simp only [R.bind_ok, unP] at pr
            rw [e2] at pr
            simp only [R.bind_ok, unP] at pr
            unfold dgetDK at pr
            cases e3 : dctOf env s.h i with
            | none => rw [e3] at pr; exact False.elim pr
            | some pp =>
              cases e4 : keyOf kd with
              | none => rw [e3, e4] at pr; exact False.elim pr
              | some ky =>
                rw [e3, e4] at pr
                simp only at pr
                obtain ⟨k1, k2⟩ := dctOf_of e3
                obtain ⟨k6, k7⟩ := ref_addr er k1
                obtain ⟨es, h1, h2, h3, h4⟩ := hr.ob _ _ k2
                refine ⟨_, k6, _, rfl, .inl ⟨es, Rd.of h1⟩, env, s, rfl, hr, er, ?_⟩
                simp only [e1]
                refine ⟨trivial, fun y ry => ⟨env, s, rfl, hr, er, ?_⟩⟩
                simp only [e2]
                refine ⟨trivial, fun z rz => ?_⟩
                refine ⟨valV es ky, .inl ⟨es, ky, Rd.of h1, key_kV e4 ry, rfl⟩, ?_⟩
                rcases val_look (q := ky) pp.2 es (FlR X.K s pp.1) h2 h4 with ⟨l1, l2⟩ | ⟨f, w, j, l1, l2, l3⟩
                · rw [l1] at pr
                  rw [l2]
                  exact pr s _ (.refl s) rfl hr rz
                · rw [l1] at pr
                  rw [l2]
                  cases f with
                  | l ts => exact False.elim pr
                  | p d => exact pr s _ (.refl s) rfl hr l3
        · rw [e1] at pr; simp only [R.bind_ok, unP] at pr; rw [e2] at pr; exact False.elim pr
    · rw [e1] at pr; exact False.elim pr
end
end Cd
set_option Elab.async false
set_option linter.all false
set_option maxRecDepth 100000
set_option maxHeartbeats 1000000
namespace Cd
open PySem PySem.Spec PyProof.Rows L2
/-! ### d[k] = v of a dict of the small heap -/
theorem putK_cons_eq {k : Key} {v v0 : V} {es : List (Key × V)} (h : k ∉ es.map (·.1)) : putK ((k, v0) :: es) k v = (k, v) :: es := by
  unfold putK
  have a : ((((k, v0) :: es).any fun kv => decide (kv.1 = k)) = true) := by simp
  rw [if_pos a, List.map_cons]
  simp only [if_true]
  congr 1
  have : ∀ kv ∈ es, (if kv.1 = k then (kv.1, v) else kv) = kv := fun kv hk => if_neg (fun z => h (List.mem_map.mpr ⟨kv, hk, z⟩))
  rw [List.map_congr_left this, List.map_id']
theorem putK_cons_ne {k k' : Key} {v v0 : V} {es : List (Key × V)} (h : k' ≠ k) : putK ((k', v0) :: es) k v = (k', v0) :: putK es k v := by
  unfold putK
  have a : (((k', v0) :: es).any fun kv => decide (kv.1 = k)) = (es.any fun kv => decide (kv.1 = k)) := by simp [h]
  rw [a]
  by_cases c : (es.any fun kv => decide (kv.1 = k)) = true
  · rw [if_pos c, if_pos c, List.map_cons, if_neg h]
  · rw [if_neg c, if_neg c]; rfl
theorem put_both {k : Key} {f : Fld} {v : V} : ∀ (kvs : List (Key × Fld)) (es : List (Key × V)), es.map (·.1) = kvs.map (·.1) → (kvs.map (·.1)).Nodup →
    (putK es k v).map (·.1) = (setKV kvs k f).map (·.1) ∧ ((setKV kvs k f).map (·.1)).Nodup ∧ (∀ x, x ∈ (setKV kvs k f).map (·.1) → x = k ∨ x ∈ kvs.map (·.1)) ∧
    ∀ (j : Nat) (q' : Key) (f' : Fld), (setKV kvs k f)[j]? = some (q', f') → (f' = f ∧ (putK es k v)[j]? = some (q', v)) ∨ (kvs[j]? = some (q', f') ∧ ∃ w : V, es[j]? = some (q', w) ∧ (putK es k v)[j]? = some (q', w))
  | [], [], _, _ => by
    refine ⟨rfl, by simp [setKV], fun x hx => by simpa [setKV] using hx, fun j q' f' e => ?_⟩
    left
    cases j with
    | zero =>
      have e' : some (k, f) = some (q', f') := e
      cases e'
      exact ⟨rfl, rfl⟩
    | succ j => simp [setKV] at e
  | [], _ :: _, e, _ => nomatch e
  | _ :: _, [], e, _ => nomatch e
  | (k1, g) :: r, (k2, w) :: es, he, nd => by
    have he' : k2 = k1 ∧ es.map (·.1) = r.map (·.1) := by simpa using he
    obtain ⟨rfl, he2⟩ := he'
    have nd' : k2 ∉ r.map (·.1) ∧ (r.map (·.1)).Nodup := List.nodup_cons.mp nd
    by_cases c : k2 = k
    · subst c
      have s1 : setKV ((k2, g) :: r) k2 f = (k2, f) :: r := by unfold setKV; rw [if_pos rfl]
      rw [s1, putK_cons_eq (by rw [he2]; exact nd'.1)]
      refine ⟨by rw [List.map_cons, List.map_cons, he2], List.nodup_cons.mpr nd', fun x hx => .inr hx, fun j q' f' e => ?_⟩
      cases j with
      | zero =>
        have e' : some (k2, f) = some (q', f') := e
        cases e'
        exact .inl ⟨rfl, rfl⟩
      | succ j =>
        right
        have e' : r[j]? = some (q', f') := e
        refine ⟨e', ?_⟩
        have h1 : (r.map (·.1))[j]? = some q' := by rw [List.getElem?_map, e']; rfl
        rw [← he2, List.getElem?_map] at h1
        obtain ⟨p, hp, hq⟩ := Option.map_eq_some_iff.mp h1
        refine ⟨p.2, ?_, ?_⟩
        · show es[j]? = _; rw [hp, ← hq]
        · show es[j]? = _; rw [hp, ← hq]
    · have s1 : setKV ((k2, g) :: r) k f = (k2, g) :: setKV r k f := by rw [setKV.eq_def]; simp only; rw [if_neg c]
      rw [s1, putK_cons_ne c]
      obtain ⟨h1, h2, h3, h4⟩ := put_both (k := k) (f := f) (v := v) r es he2 nd'.2
      refine ⟨by rw [List.map_cons, List.map_cons, h1], List.nodup_cons.mpr ⟨fun z => ?_, h2⟩, fun x hx => ?_, fun j q' f' e => ?_⟩
      · rcases h3 _ z with z | z
        · exact c z
        · exact nd'.1 z
      · rcases List.mem_cons.mp hx with hx | hx
        · exact .inr (by rw [hx]; exact List.mem_cons_self)
        · rcases h3 x hx with z | z
          · exact .inl z
          · exact .inr (List.mem_cons_of_mem _ z)
      · cases j with
        | zero =>
          have e' : some (k2, g) = some (q', f') := e
          cases e'
          exact .inr ⟨rfl, w, rfl, rfl⟩
        | succ j => exact h4 j q' f' e
end Cd
set_option Elab.async false
set_option linter.all false
set_option maxRecDepth 100000
set_option maxHeartbeats 1000000
namespace Cd
open PySem PySem.Spec PyProof.Rows L2
theorem size1000' : (1000 : Nat) < sizeLine := by decide
section
variable {K : PySem.W.Frag} {CI : CInf} {s : Sx}
theorem own_dput {n : Nat} {kvs : List (Key × Fld)} {q : Key} {d : PyData} {v : V} (hr : HR K CI s) (hn : s.h[n]? = some (.dct kvs)) (r : RF K s.F s.H d v) :
    ∃ es, s.H (s.φ n 0) = some (.dK es) ∧ es.length = kvs.length ∧ ∃ s', s'.H = upd s.H (s.φ n 0) (.dK (putK es q v)) ∧ s'.h = s.h.set n (.dct (setKV kvs q (.p d))) ∧ HR K CI s' ∧ Le s s' := by
  obtain ⟨es, h1, h2, h3, h4⟩ := hr.ob _ _ hn
  have hl : Live s.h n 0 := ⟨_, hn, by intro z; cases z⟩
  obtain ⟨p1, p2, _, p4⟩ := put_both (k := q) (f := .p d) (v := v) kvs es h2 h3
  have kp := own_keep (ob := .dK (putK es q v)) hr hl rfl h1 (by intro _ z; cases z) (by intro _ _ z; cases z) rfl
  refine ⟨es, h1, by have := congrArg List.length h2; simpa using this, { s with h := s.h.set n (.dct (setKV kvs q (.p d))), H := upd s.H (s.φ n 0) (.dK (putK es q v)) }, rfl, rfl,
    hr.wrO hl h1 (by intro _ z; cases z) (by intro _ _ z; cases z) (fun m k l => ?_) (fun m hm => ?_) (fun w e => ?_) (ob' := .dct (setKV kvs q (.p d))) ⟨putK es q v, upd_same, p1, p2, fun j k f e => ?_⟩, wrO_le hr hl h1 (by intro _ z; cases z) (by intro _ _ z; cases z) (by simp)⟩
  · rcases live_set l with ⟨_, z⟩ | ⟨rfl, z⟩
    · exact z
    · cases k with
      | zero => exact hl
      | succ k =>
        rcases z with ⟨c, fs, us, e, ef⟩ | ⟨kvs', q', us, e, ef⟩
        · cases rep_get e
        · have e2 := rep_get e
          cases e2
          rcases p4 k q' _ ef with ⟨z, _⟩ | ⟨z, _⟩
          · cases z
          · exact .inr ⟨kvs, q', us, hn, z⟩
  · rw [List.getElem?_set_ne (Ne.symm hm)]
  · rcases get_set e with ⟨_, z⟩ | ⟨z, _⟩
    · exact z
    · exact absurd rfl z
  · rcases p4 j k f e with ⟨z1, z2⟩ | ⟨z1, w, z2, z3⟩
    · subst z1
      exact ⟨v, z2, r.keep kp⟩
    · obtain ⟨v', e1, fl⟩ := h4 j k f z1
      have ew : v' = w := by rw [z2] at e1; simpa using e1.symm
      subst ew
      refine ⟨v', z3, ?_⟩
      cases f with
      | p d' => exact RF.keep kp fl
      | l ts =>
        obtain ⟨f1, xs, f2, f3⟩ := fl
        refine ⟨f1, xs, ?_, f3.keep kp⟩
        show upd s.H (s.φ n 0) (.dK (putK es q v)) (s.φ n (j + 1)) = some (.lst xs)
        rw [upd_ne]
        · exact f2
        · intro z
          have := (hr.inj n (j + 1) n 0 (.inr ⟨kvs, k, ts, hn, z1⟩) hl z).2
          omega
end
section
variable {Γ : Gm} {N : List Str} {sc : Sco} {ev ek : Expr} {a b c : E} {pos p p2 apos : Pos} {i : Nat} {x : Str}
theorem ds_setKeyD {q : Pos} (v : VOk N sc i x) (hv : DV Γ N sc ev a) (hk : DP Γ N sc ek b) (hs : ∀ env, swapsWith ev (some (.Subscript (.Name x q) ek p)) pos.line env = pure false := by intro _; rfl) : DS Γ N sc (.Assign [.Subscript (.Name x q) ek p] ev pos) (.setKeyD i b a) := fun n I W X g =>
  (ps_dput (by have := g.hu; omega) (v.pe g) (hk.run n I W X g) (hv n I W X g) (hs _)).imp fun D σ H qq => by
    obtain ⟨env, s, eH, hr, er, _, pr⟩ := AtS.bind (Rel1 := PRl X.K) (k := fun d env h1 => ((evalE (callF Γ.fns n) env b h1).bind unP).toS env fun kd h2 => ofH env ((keyOf kd).bind fun q => setKeyH env i q (.p d) h2)) qq
    refine ⟨env, s, eH, hr, er, trivial, PR.mono pr fun y H1 ⟨d, env, s, e, hr, er, ⟨_, r⟩, pr⟩ => ?_⟩
    subst e
    replace pr : PSt X.K I W D s (((evalE (callF Γ.fns n) env b s.h).bind unP).toS env fun kd h2 => ofH env ((keyOf kd).bind fun q => setKeyH env i q (.p d) h2)) := pr
    rcases hk.pure (callF Γ.fns n) env s.h with ⟨vk, e1⟩ | e1
    · cases vk with
      | ref m => rw [e1] at pr; exact False.elim pr
      | p kd =>
        rw [e1] at pr
        replace pr : PSt X.K I W D s (ofH env ((keyOf kd).bind fun q => setKeyH env i q (.p d) s.h)) := pr
        cases e4 : keyOf kd with
        | none => rw [e4] at pr; exact False.elim pr
        | some ky =>
          rw [e4, Option.bind_some] at pr
          unfold setKeyH at pr
          cases e3 : dctOf env s.h i with
          | none => rw [e3] at pr; exact False.elim pr
          | some pp =>
            rw [e3, Option.bind_some] at pr
            by_cases hz : pp.2.length < 1000
            · rw [if_pos hz] at pr
              obtain ⟨k1, k2⟩ := dctOf_of e3
              obtain ⟨k6, k7⟩ := ref_addr er k1
              obtain ⟨es, h1, h2, s', h3, h4, h5, h6⟩ := own_dput (q := ky) hr k2 r
              refine ⟨_, k6, env, s, rfl, hr, er, ?_⟩
              simp only [e1]
              refine ⟨trivial, fun z rz => ?_⟩
              refine ⟨_, upd s.H (s.φ pp.1 0) (.dK (putK es ky y)), rfl, ?_, ?_⟩
              · rw [key_kV e4 rz]
                exact DPut.k h1 (by have := size1000'; omega)
              · rw [← h3]
                exact pr s' σ h6 h4 h5 (er.le h6)
            · rw [if_neg hz] at pr; exact False.elim pr
    · rw [e1] at pr; exact False.elim pr
end
end Cd
set_option Elab.async false
set_option linter.all false
set_option maxRecDepth 100000
set_option maxHeartbeats 1000000
namespace Cd
open PySem PySem.Spec PyProof.Rows L2
section
variable {prog : Program} {w : World} {A : Around} {E : Value → Shared → Prop} {s : Shared}
/-- all items of a list or tuple, in a list that is new -/
theorem collect_at {Q : List Value → Shared → Prop} {l : Addr} {T : String} {o : Obj} {items : Array Value} {n : Nat} (hT : T = "list" ∨ T = "tuple") (ho : s.heap.get? l = some o) (hc : o.cls = .type T) (hd : o.data = .seq items n) (hz : items.size ≤ sizeLine)
    (fin : ∀ h2 : Heap, (∀ b u, s.heap.get? b = some u → h2.get? b = some u) → s.heap.objs.size ≤ h2.objs.size → Q items.toList { s with heap := h2 }) : wpAny (model prog w) A (collect (.ref l)) Q E s := by
  let S := s.heap.objs.size
  let h1 : Heap := s.heap.push { cls := .type "list", data := .seq ([] : List Value).toArray }
  let h2 : Heap := h1.update S (Obj.mapSeq (· ++ items))
  have g1 : h1.get? S = some { cls := .type "list", data := .seq #[] 0 } := Heap.get?_push_size _ rfl
  have g2 := Heap.get?_update_self (Obj.mapSeq (· ++ items)) g1 rfl
  have keep : ∀ b u, s.heap.get? b = some u → h2.get? b = some u := fun b u e =>
    (Heap.get?_update_other h1 _ (Nat.ne_of_gt (Heap.lt_size e))).trans (Heap.get?_push_of_some _ e)
  have sz : S ≤ h2.objs.size := by
    show S ≤ (h1.update S _).objs.size
    rw [Heap.size_update, size_push']
    omega
  have e0 : ((#[] : Array Value) ++ items).toList = items.toList := by simp
  have last : wpAny (model prog w) A (do
      match (← load S).data with
      | .seq xs _ => pure xs.toList
      | _ => unsupported "internal:collect") Q E { s with heap := h2 } := by
    refine wpAny_bind (wpAny_load g2 (wpAny_pure ?_))
    show Q ((#[] : Array Value) ++ items).toList _
    rw [e0]; exact fin h2 keep sz
  unfold collect
  refine wpAny_bind (wpAny_runValue (codeAny_builtin F.entry_proto_collect (by
    rw [Around.under_plainId F.plain_proto_collect _]
    show wpAny _ A.in1 (newList [] >>= fun q => again (.builtin "list.__iadd__" ⟨[q, .ref l], []⟩)) _ _ s
    refine wpAny_bind (wpAny_newObj_type (wpAny_pure ⟨plainId_quiet F.plain_list_iadd _, codeAny_builtin F.entry_list_iadd (by
      rw [Around.under_plainId F.plain_list_iadd _]
      show wpAny _ A.in1 (Builtin.List.listExtendWith (.ref S) (.ref l) (.ref S)) _ _ _
      refine wpAny_mono (wpAny_extend_seq (hsz := hz) (A := A) (R := fun r s' => r = .ok (.ret (.ref S)) ∧ s' = { s with heap := h2 }) (s := { s with heap := h1 }) _ l _ 0 hT g1 (Heap.get?_push_of_some _ ho) hc hd ⟨rfl, rfl⟩) (fun f s' hf => ?_) (fun e s' hf => absurd hf.1 (by simp))
      cases f with
      | done f =>
        obtain ⟨e, rfl⟩ := hf
        cases e
        exact last
      | again c =>
        exact ⟨hf.1, codeAny_mono hf.2 fun r s2 hr => by
          obtain ⟨rfl, rfl⟩ := hr
          exact last⟩)⟩))))) 
/-- sorted of a tuple (or list): the new list stands beyond all that was -/
theorem sorted_seqA {l : Addr} {T : String} {o : Obj} {n : Nat} {vs : List Value} {ltv : Value → Value → Bool} {Q : Value → Shared → Prop} (O : SrtO.Swo ltv) (hT : T = "list" ∨ T = "tuple") (ho : s.heap.get? l = some o) (hc : o.cls = .type T) (hd : o.data = .seq vs.toArray n) (hz : vs.length ≤ sizeLine)
    (hS : ∀ (s1 : Shared) (a : Addr), 2 ≤ vs.length → SrtO.SortableO prog w A.in1.in1 s1 a vs ltv)
    (fin : ∀ (a : Addr) (h2 : Heap) (out : List Value), SrtO.Srtd ltv out → SrtO.Stb ltv out vs → s.heap.objs.size ≤ a → (∀ b u, s.heap.get? b = some u → h2.get? b = some u) → (∃ e, h2.get? a = some (seqObj "list" out.toArray e)) → Q (.ref a) { s with heap := h2 }) :
    wpAny (model prog w) A (call (.builtin "sorted") [.ref l]) Q E s :=
  Calls.call_function_entry kind_sorted plain_sorted entry_sorted (args_sorted1 _) (by
    unfold Builtin.«sorted»
    refine wpAny_bind (m := checkCount "sorted" 1 1 _) (wpAny_pure (wpAny_bind (collect_at hT ho hc hd (by simpa using hz) fun h' k sz => wpAny_bind (wpAny_newList ?_ hz))))
    have hL : (h'.push (seqObj "list" vs.toArray 0)).get? h'.objs.size = some (seqObj "list" vs.toArray 0) := Heap.get?_push_size _ rfl
    refine wpAny_bind (wpAny_holding (wpAny_call_entry slot_list_sort ⟨_, hL, rfl⟩ entry_list_sort (SrtO.list_sort_ord O hL hz (fun two => hS _ _ two) fun out ha hb => ⟨_, rfl, wpAny_pure ⟨_, rfl, ?_⟩⟩) (args_list_sort _)))
    refine fin _ _ out ha hb sz (fun b u e => ?_) (sortedHeap_at hL)
    have e2 := k b u e
    have lt := Heap.lt_size e2
    exact (sortedHeap_old (Nat.ne_of_lt lt) (by rw [size_push']; exact Nat.lt_succ_of_lt lt)).trans (Heap.get?_push_of_some _ e2))
end
/-- sorted(a list or tuple of ints) -/
def rSortedA (K : PySem.W.Frag) : List V → Hp → VK → Prop := fun vs H Q => ∃ (a : Addr) (ns : List Int), vs = [V.ref a] ∧ (SqL K H a (ns.map V.int) ∨ SqT K H a (ns.map V.int)) ∧
  ∀ p : Addr, H p = none → Q (.ref p) (upd H p (.lst ((sortI ns).map V.int)))
theorem cr_sortedA {X : Cx} : CallR X (.builtin "sorted") (rSortedA X.K) := by
  intro pins s σ H vs us Q I r h
  obtain ⟨a, ns, rfl, hs, q⟩ := h
  obtain ⟨its, T, o, n, hT, ho, hc, hd, rv, hz⟩ : ∃ (its : List Value) (T : String) (o : Obj) (n : Nat), (T = "list" ∨ T = "tuple") ∧ s.heap.get? a = some o ∧ o.cls = .type T ∧ o.data = .seq its.toArray n ∧ Vals (ns.map V.int) its ∧ (ns.map V.int).length ≤ sizeLine := by
    rcases hs with hs | hs
    · obtain ⟨its, rv, hl, hz⟩ := I.list hs
      obtain ⟨o, ho, hc, n, hd⟩ := hl.isList
      exact ⟨its, "list", o, n, .inl rfl, ho, hc, hd, rv, hz⟩
    · obtain ⟨its, rv, ⟨o, ho, hc, n, hd⟩, hz⟩ := I.tuple hs
      exact ⟨its, "tuple", o, n, .inr rfl, ho, hc, hd, rv, hz⟩
  rw [Vals.ref1 r]
  have hi := rv.ints
  refine sorted_seqA SrtO.swo_int hT ho hc hd (by rw [← rv.length]; exact hz) (fun s1 b h2 => SrtO.ints_sortable hi h2) fun b h2 out h3 h4 hb k ⟨e, he⟩ => ?_
  obtain ⟨k1, k2, k3⟩ := SrtO.ints_out hi h3 h4
  have es : out.map SrtO.iv = sortI ns := sorted_uniq (k2.trans (sortI_perm _).symm) k3 (sortI_sorted _)
  rw [es] at k1
  have hlen : ((sortI ns).map V.int).length ≤ sizeLine := by rw [List.length_map, (sortI_perm ns).length_eq]; rw [List.length_map] at hz; exact hz
  exact ⟨.ref b, upd H b (.lst ((sortI ns).map V.int)), I.laid (t' := s.toks) k hb ⟨hlen, out, e, vals_of_ints k1, he⟩, rfl, q b (I.hok.fresh hb)⟩
/-! ### pairs of ints -/
theorem leP_iff {p q : Int × Int} : leP p q = true ↔ p.1 < q.1 ∨ (p.1 = q.1 ∧ p.2 ≤ q.2) := by
  unfold leP
  simp
theorem insP_perm (x : Int × Int) : ∀ l : List (Int × Int), (insP x l).Perm (x :: l)
  | [] => .refl _
  | y :: r => by
    unfold insP
    split
    · exact .refl _
    · exact ((insP_perm x r).cons y).trans (.swap _ _ _)
theorem sortP_perm : ∀ l : List (Int × Int), (sortP l).Perm l
  | [] => .refl _
  | x :: r => (insP_perm x _).trans ((sortP_perm r).cons x)
theorem insP_sorted {x : Int × Int} : ∀ {l : List (Int × Int)}, l.Pairwise (fun p q => leP p q = true) → (insP x l).Pairwise fun p q => leP p q = true
  | [], _ => List.pairwise_singleton _ _
  | y :: r, h => by
    obtain ⟨h1, h2⟩ := List.pairwise_cons.mp h
    unfold insP
    split
    · rename_i c
      refine List.pairwise_cons.mpr ⟨fun z hz => ?_, h⟩
      rcases List.mem_cons.mp hz with rfl | hz
      · exact c
      · have a := leP_iff.mp c
        have b := leP_iff.mp (h1 z hz)
        exact leP_iff.mpr (by omega)
    · rename_i c
      refine List.pairwise_cons.mpr ⟨fun z hz => ?_, insP_sorted h2⟩
      rcases List.mem_cons.mp ((insP_perm x r).mem_iff.mp hz) with rfl | hz
      · have a : ¬ (z.1 < y.1 ∨ (z.1 = y.1 ∧ z.2 ≤ y.2)) := fun t => c (leP_iff.mpr t)
        exact leP_iff.mpr (by omega)
      · exact h1 z hz
theorem sortP_sorted : ∀ l : List (Int × Int), (sortP l).Pairwise fun p q => leP p q = true
  | [] => .nil
  | _ :: r => insP_sorted (sortP_sorted r)
theorem leP_uniq {l m : List (Int × Int)} (p : l.Perm m) (h1 : l.Pairwise fun p q => leP p q = true) (h2 : m.Pairwise fun p q => leP p q = true) : l = m :=
  p.eq_of_pairwise (fun a b _ _ x y => by
    have a1 := leP_iff.mp x
    have a2 := leP_iff.mp y
    exact Prod.ext (by omega) (by omega)) h1 h2
/-- the pairs in a list -/
def Prs (K : PySem.W.Frag) (H : Hp) (ps : List (Int × Int)) (xs : List V) : Prop := ps.length = xs.length ∧ ∀ (i : Nat) p, ps[i]? = some p → ∃ t, xs[i]? = some (.ref t) ∧ SqT K H t [.int p.1, .int p.2]
theorem Prs.rf {K : PySem.W.Frag} {F : Addr → Prop} {H : Hp} : ∀ {ps : List (Int × Int)} {xs : List V}, Prs K H ps xs → RFs K F H (ps.map pairD) xs
  | [], [], _ => .nil
  | [], _ :: _, h => absurd h.1 (by simp)
  | _ :: _, [], h => absurd h.1 (by simp)
  | p :: ps, x :: xs, h => by
    obtain ⟨t, e, s⟩ := h.2 0 p rfl
    cases e
    exact .cons (.tup s (.cons (.int _) (.cons (.int _) .nil))) (Prs.rf ⟨by simpa using h.1, fun i q e => by simpa using h.2 (i + 1) q (by simpa using e)⟩)
theorem Prs.of {K : PySem.W.Frag} {F : Addr → Prop} {H : Hp} : ∀ {ts : List PyData} {xs : List V} {ps : List (Int × Int)}, RFs K F H ts xs → pairsD ts = some ps → Prs K H ps xs
  | [], _, _, .nil, e => by cases e; exact ⟨rfl, fun i p e => by simp at e⟩
  | d :: ds, _, ps, .cons (v := v) (vs := vs) r t, e => by
    have : ∃ a b, d = .tuple [.int a, .int b] := by
      cases d with
      | tuple ts => match ts, e with
        | [.int a, .int b], _ => exact ⟨a, b, rfl⟩
      | _ => cases e
    obtain ⟨a, b, rfl⟩ := this
    replace e : (pairsD ds).map ((a, b) :: ·) = some ps := e
    rw [Option.map_eq_some_iff] at e
    obtain ⟨qs, e1, rfl⟩ := e
    have ih := Prs.of t e1
    obtain ⟨p, ys, rfl, s, r2⟩ := r.tup_inv
    cases r2 with
    | cons r3 r4 =>
      cases r4 with
      | cons r5 r6 =>
        cases r6
        rw [RF.int_inv r3, RF.int_inv r5] at s
        refine ⟨by simpa using ih.1, fun i q e => ?_⟩
        cases i with
        | zero => simp at e; subst e; exact ⟨p, rfl, s⟩
        | succ i => simpa using ih.2 i q (by simpa using e)
/-- sorted(a list of pairs of ints) -/
def rSortP (K : PySem.W.Frag) : List V → Hp → VK → Prop := fun vs H Q => ∃ (a : Addr) (xs : List V) (ps : List (Int × Int)), vs = [V.ref a] ∧ SqL K H a xs ∧ Prs K H ps xs ∧ ∀ (p : Addr) zs, H p = none → Prs K H (sortP ps) zs → Q (.ref p) (upd H p (.lst zs))
theorem cr_sortP {X : Cx} : CallR X (.builtin "sorted") (rSortP X.K) := by
  intro pins s σ H vs us Q I r h
  obtain ⟨a, xs, ps, rfl, hs, hx, q⟩ := h
  obtain ⟨its, rv, hl, hz⟩ := I.list hs
  rw [Vals.ref1 r]
  let k : Value → Int × Int := fun v => open Classical in if h : ∃ p : Int × Int, Srt.IsPair s.heap v p.1 p.2 then Classical.choose h else (0, 0)
  have hk : ∀ v p, Srt.IsPair s.heap v p.1 p.2 → k v = p := fun v p h => by
    have ex : ∃ p : Int × Int, Srt.IsPair s.heap v p.1 p.2 := ⟨p, h⟩
    have e : k v = Classical.choose ex := dif_pos ex
    rw [e]
    obtain ⟨a, o, t, u, n, e1, ho, hc, hd⟩ := Classical.choose_spec ex
    obtain ⟨a', o', t', u', n', e1', ho', hc', hd'⟩ := h
    rw [e1] at e1'
    cases e1'
    rw [ho] at ho'
    cases ho'
    rw [hd] at hd'
    injection hd' with h1 _
    have h2 := congrArg Array.toList h1
    simp at h2
    exact Prod.ext h2.1.1 h2.2.1
  have hpair : ∀ (i : Nat) v, its[i]? = some v → ∃ t p, v = .ref t ∧ ps[i]? = some p ∧ SqT X.K H t [.int p.1, .int p.2] ∧ k v = p := fun i v e => by
    obtain ⟨hi, _⟩ := List.getElem?_eq_some_iff.mp e
    have hl1 := rv.length
    have hl2 := hx.1
    have hp : ps[i]? = some (ps[i]'(by omega)) := List.getElem?_eq_getElem _
    obtain ⟨t, ex, st⟩ := hx.2 i _ hp
    obtain ⟨w, ew, rw⟩ := rv.get ex
    rw [e] at ew
    cases ew
    obtain rfl : v = Value.ref t := rw
    refine ⟨t, _, rfl, hp, st, hk _ _ ?_⟩
    obtain ⟨its2, r2, ⟨o, ho, hc, n, hd⟩, _⟩ := I.tuple st
    obtain ⟨u1, u2, rfl, ri, rj⟩ := vals2 r2
    obtain ⟨t1, rfl⟩ := ri
    obtain ⟨t2, rfl⟩ := rj
    exact ⟨t, o, t1, t2, n, rfl, ho, hc, hd⟩
  have mem : ∀ v ∈ its, ∃ t, v = .ref t ∧ SqT X.K H t [.int (k v).1, .int (k v).2] ∧ Srt.IsPair s.heap v (k v).1 (k v).2 := fun v hv => by
    obtain ⟨i, hi, e⟩ := List.getElem_of_mem hv
    obtain ⟨t, p, e1, _, st, ek⟩ := hpair i v (by rw [← e]; exact List.getElem?_eq_getElem hi)
    rw [ek]
    refine ⟨t, e1, st, ?_⟩
    obtain ⟨its2, r2, ⟨o, ho, hc, n, hd⟩, _⟩ := I.tuple st
    obtain ⟨u1, u2, rfl, ri, rj⟩ := vals2 r2
    obtain ⟨t1, rfl⟩ := ri
    obtain ⟨t2, rfl⟩ := rj
    exact ⟨t, o, t1, t2, n, e1, ho, hc, hd⟩
  have emap : its.map k = ps := by
    have hl1 := rv.length
    have hl2 := hx.1
    refine List.ext_getElem? fun i => ?_
    rw [List.getElem?_map]
    cases e : its[i]? with
    | none =>
      have := List.getElem?_eq_none_iff.mp e
      rw [List.getElem?_eq_none (by omega)]; rfl
    | some v =>
      obtain ⟨t, p, _, hp, _, ek⟩ := hpair i v e
      rw [hp, Option.map_some, ek]
  refine SrtO.sorted_pairsO (k := k) hl.isList (by rw [← rv.length]; exact hz) (fun v hv => (mem v hv).choose_spec.2.2) fun h' d out h1 h2 kp hd hn => ?_
  have h3 : ∀ u ∈ out, ∃ a, u = Value.ref a := fun u hu => by
    obtain ⟨t, e, _⟩ := mem u (h2.perm.mem_iff.mp hu)
    exact ⟨t, e⟩
  obtain ⟨n, hn⟩ := hn
  have eo : out.map k = sortP ps := by
    refine leP_uniq ((h2.perm.map k).trans (by rw [emap]; exact (sortP_perm ps).symm)) ?_ (sortP_sorted ps)
    rw [List.pairwise_map]
    refine List.Pairwise.imp ?_ h1
    intro x y hxy
    have := SrtO.lexB_no.mp hxy
    exact leP_iff.mpr (by omega)
  refine ⟨.ref d, upd H d (.lst (out.map backV)), I.laid (t' := s.toks) kp hd ⟨?_, out, n, vals_back h3, hn⟩, rfl, q d _ (I.hok.fresh hd) ⟨by rw [← eo]; simp, fun i p e => ?_⟩⟩
  · rw [List.length_map, h2.len, ← rv.length]
    exact hz
  · rw [← eo, List.getElem?_map, Option.map_eq_some_iff] at e
    obtain ⟨u, eu, rfl⟩ := e
    obtain ⟨t, e1, st, _⟩ := mem u (h2.perm.mem_iff.mp (List.mem_of_getElem? eu))
    refine ⟨t, ?_, st⟩
    rw [List.getElem?_map, eu, e1]
    rfl
theorem cr_sortedB {X : Cx} : CallR X (.builtin "sorted") (fun vs H Q => rSortedA X.K vs H Q ∨ rSortP X.K vs H Q) := by
  intro pins s σ H vs us Q I r h
  rcases h with h | h
  · exact cr_sortedA pins s σ H vs us Q I r h
  · exact cr_sortP pins s σ H vs us Q I r h
section
variable {K : PySem.W.Frag} {Γ : Gm} {N : List Str} {sc : Sco} {ea : Expr} {a : E} {pos p p2 : Pos}
theorem okN_sorted : Op1N K (one fun vs H Q => rSortedA K vs H Q ∨ rSortP K vs H Q) .sorted := fun s d1 d x Q r e f => by
  replace e : sortedS d1 = some d := e
  unfold sortedS at e
  split at e
  · obtain ⟨l, xs, rfl, h1, q1⟩ := r.lst
    split at e
    · rename_i ns e1
      cases e
      obtain ⟨rfl, _⟩ := q1.ints' e1
      exact .inl ⟨l, ns, rfl, .inl h1, fun p0 h0 => f p0 _ _ rfl (.ofInts _) h0⟩
    · rw [Option.map_eq_some_iff] at e
      obtain ⟨ps, e, rfl⟩ := e
      exact .inr ⟨l, xs, ps, rfl, h1, .of q1 e, fun p0 zs h0 hz => f p0 _ _ rfl hz.rf h0⟩
  · rw [Option.map_eq_some_iff] at e
    obtain ⟨ns, e, rfl⟩ := e
    obtain ⟨l, xs, rfl, h1, q1⟩ := r.tup
    obtain ⟨rfl, _⟩ := q1.ints' e
    exact .inl ⟨l, ns, rfl, .inr h1, fun p0 h0 => f p0 _ _ rfl (.ofInts _) h0⟩
  · cases e
theorem dn_sorted (v : NB Γ sc "sorted") (ha : DB Γ N sc ea a) (se : Se1 ea := by intro _; rfl) : DN Γ N sc (.Call (.Name "sorted" p) [ea] [] pos) (.op1 .sorted a) :=
  dn_op1 (fun _ _ _ X g ta h => pe_bi1 g cr_sortedB v (by decide +kernel) h se) (fun _ _ _ X g => okN_sorted) ha
end
end Cd
set_option Elab.async false
set_option linter.all false
set_option maxRecDepth 100000
set_option maxHeartbeats 4000000
namespace Cd
open PySem PySem.Spec PyProof.Rows L2
theorem toS_bind {α : Type} {r : R α} {env : Ev} {f : α → Hi → RS} {k : Ev → Hi → RS} : (r.toS env f).bind k = r.toS env fun a h => (f a h).bind k := by
  cases r <;> rfl
theorem bind_nx' {r : RS} : r.bind (fun env h => .ok .nx env h) = r := by
  cases r with
  | ok f env h => cases f <;> rfl
  | exc e env h => rfl
  | stuck => rfl
theorem gSub_mono {K : PySem.W.Frag} {I : Inf} {W : WX} {r : Ev → Hi → R PyData} {Rel : Sx → PyData → V → Prop} {i : Nat} {y : V} {σ : L2.St} {H : Hp} {Q Q' : L2.St → Hp → Prop} (h : gSub (tVar i) (tE K I W r Rel) rSetL y σ H Q) (m : ∀ σ H, Q σ H → Q' σ H) : gSub (tVar i) (tE K I W r Rel) rSetL y σ H Q' := by
  obtain ⟨v, h1, env, s, e, hr, er, g, pr⟩ := h
  exact ⟨v, h1, env, s, e, hr, er, g, PR.mono pr fun z H2 ⟨p, xs, k, j, h1, h2, h3, h4, h5⟩ => ⟨p, xs, k, j, h1, h2, h3, h4, m _ _ h5⟩⟩
section
variable {Γ : Gm} {N : List Str} {sc : Sco} {e tg ea eb ec ed : Expr} {a b c : E} {ta : Te} {o : O2} {pos p p2 : Pos} {i j : Nat} {x y : Str}
/-- o[i] = d, as one step of a target -/
theorem gsub_own {n : Nat} {I : Inf} {W : WX} {X : Cx} {D : Ends} {d : PyData} {y : V} {σ : L2.St} {H : Hp} {G : Sx → Prop} {k : Ev → Hi → RS}
    (mono : ∀ s s', Le s s' → G s → G s')
    (q : AtS X.K I W D σ H (fun s => G s ∧ PRl X.K s d y) (fun env h => (stIx (fun env h => evalE (callF Γ.fns n) env b h) (.var i) d env h).bind k)) :
    gSub (tVar i) (tE X.K I W (fun env h => (evalE (callF Γ.fns n) env b h).bind unP) (PRl X.K)) rSetL y σ H (fun σ' H' => AtS X.K I W D σ' H' G k) := by
  obtain ⟨env, s, eH, hr, er, ⟨g0, r⟩, pr⟩ := q
  subst eH
  replace pr : PSt X.K I W D s ((stIx (fun env h => evalE (callF Γ.fns n) env b h) (.var i) d env s.h).bind k) := pr
  unfold stIx at pr
  cases e0 : getL env s.h (.var i) with
  | none => rw [e0] at pr; exact False.elim pr
  | some ts0 =>
    rw [e0] at pr
    simp only at pr
    rw [toS_bind] at pr
    obtain ⟨m0, k1, k2, k3⟩ := own_var hr e0
    obtain ⟨k6, k7⟩ := ref_addr er k1
    refine ⟨_, k6, ?_⟩
    obtain ⟨env1, s1, eH1, hr1, er1, _, pr1⟩ := AtS.bind (Rel1 := PRl X.K) (ev1 := fun env h => (evalE (callF Γ.fns n) env b h).bind unP) (G := fun s' => (s'.φ m0 0 = s.φ m0 0 ∧ σ[i]? = some (some (.ref (s'.φ m0 0))) ∧ m0 < s'.h.length) ∧ PRl X.K s' d y ∧ G s') (G' := fun s' => (s'.φ m0 0 = s.φ m0 0 ∧ σ[i]? = some (some (.ref (s'.φ m0 0)))) ∧ PRl X.K s' d y ∧ G s') (k := fun q env h1 => (ofH env (setIxH env (.var i) q d h1)).bind k)
      ⟨env, s, rfl, hr, er, (⟨⟨rfl, k6, k7⟩, r, g0⟩ : (s.φ m0 0 = s.φ m0 0 ∧ σ[i]? = some (some (.ref (s.φ m0 0))) ∧ m0 < s.h.length) ∧ PRl X.K s d y ∧ G s), pr⟩ (fun s' s2 l g => by
        obtain ⟨⟨g1, g2, g3⟩, g4, g5⟩ := g
        rw [l.ph m0 g3]; exact ⟨⟨g1, g2⟩, g4.le l, mono _ _ l g5⟩)
    refine ⟨env1, s1, eH1, hr1, er1, trivial, PR.mono pr1 fun z H1 ⟨q, env2, s2, e2, hr2, er2, ⟨⟨⟨g1, g2⟩, g4, g5⟩, r2⟩, pr2⟩ => ?_⟩
    subst e2
    replace pr2 : PSt X.K I W D s2 ((ofH env2 (setIxH env2 (.var i) q d s2.h)).bind k) := pr2
    cases e3 : setIxH env2 (.var i) q d s2.h with
    | none => rw [e3] at pr2; exact False.elim pr2
    | some h' =>
      rw [e3] at pr2
      obtain ⟨k', ts, j, rfl, e4, e5, e6⟩ := setIx_inv e3
      obtain rfl := RF.int_inv r2
      obtain ⟨m2, j1, j2, j3⟩ := own_var hr2 e4
      obtain ⟨xs, j4, j5⟩ := j3.ex
      obtain ⟨j6, j7⟩ := ref_addr er2 j1
      rw [g2] at j6
      have j8 : s2.φ m0 0 = s2.φ m2 0 := by simpa using j6
      obtain ⟨s3, eH3, eh3, hr3, l3⟩ := j3.wr _ (xs.set j y) _ e6 (j5.set g4 j)
      refine ⟨_, xs, k', j, by rw [← g1, j8], rfl, j4, by rw [← j5.length]; exact e5, ?_⟩
      rw [← eH3]
      refine ⟨env2, s3, rfl, hr3, er2.le l3, mono _ _ l3 g5, ?_⟩
      rw [eh3]
      exact PSt.le (r := k env2 h') pr2 l3
/-- a[k], b[l] = x, y : two items of lists of the heap -/
theorem ds_setIx2 {q q2 p3 p4 : Pos} {kt k2 : Nat} (v1 : VOk N sc i x) (v2 : VOk N sc j y) (hk : DV Γ N sc ec b) (hl : DV Γ N sc ed c) {a1 a2 : E} (h1 : DV Γ N sc ea a1) (h2 : DV Γ N sc eb a2)
    (hw : swappedStores [.Tuple [.Subscript (.Name x q) ec p, .Subscript (.Name y q2) ed p2] kt p3] (.Tuple [ea, eb] k2 p4) (e0 sc.s) = pure none := by rfl)
    (hs : ∀ env, swapsWithSole [.Tuple [.Subscript (.Name x q) ec p, .Subscript (.Name y q2) ed p2] kt p3] (.Tuple [ea, eb] k2 p4) pos.line env = pure false := by intro _; rfl)
    (se : Sec ea [eb] := by intro _; rfl) (se1 : Sec eb [] := by intro _; rfl)
    (hc1 : ∀ env, (assignEach [.Subscript (.Name x q) ec p, .Subscript (.Name y q2) ed p2] env).map (·.2) = assign (.Subscript (.Name x q) ec p) env :: (assignEach [.Subscript (.Name y q2) ed p2] env).map (·.2) := by intro _; rfl)
    (hc2 : ∀ env, (assignEach [.Subscript (.Name y q2) ed p2] env).map (·.2) = assign (.Subscript (.Name y q2) ed p2) env :: (assignEach [] env).map (·.2) := by intro _; rfl)
    (hn : ∀ env, (assignEach [.Subscript (.Name x q) ec p, .Subscript (.Name y q2) ed p2] env).length = 2 := by intro _; rfl)
    (hst : ∀ env, (assignEach [.Subscript (.Name x q) ec p, .Subscript (.Name y q2) ed p2] env).findIdx? (·.1) = none := by intro _; rfl)
    (ha1 : ∀ env v, assign (.Subscript (.Name x q) ec p) env v = (do
      let ov ← holding [v] (eval (.Name x q) env)
      let iv ← holding [v, ov] (eval ec env)
      standAt p
      holding [v, ov, iv] (setItem ov iv v)
      release [v, ov, iv] []) := by intro _ _; rfl)
    (ha2 : ∀ env v, assign (.Subscript (.Name y q2) ed p2) env v = (do
      let ov ← holding [v] (eval (.Name y q2) env)
      let iv ← holding [v, ov] (eval ed env)
      standAt p2
      holding [v, ov, iv] (setItem ov iv v)
      release [v, ov, iv] []) := by intro _ _; rfl)
    (he : ∀ env, (assignEach [.Tuple [.Subscript (.Name x q) ec p, .Subscript (.Name y q2) ed p2] kt p3] env).map (·.2) = [assign (.Tuple [.Subscript (.Name x q) ec p, .Subscript (.Name y q2) ed p2] kt p3) env] := by intro _; rfl) :
    DS Γ N sc (.Assign [.Tuple [.Subscript (.Name x q) ec p, .Subscript (.Name y q2) ed p2] kt p3] (.Tuple [ea, eb] k2 p4) pos) (.setIx2 i j b c a1 a2) := fun n I W X g =>
  (ps_asg (pe_tup (pa_cons (h1 n I W X g) (pa_cons (h2 n I W X g) pa_nil (se1 _)) (se _)))
    (pg_tup (n := 2) g.calm (pgs_cons (pg_sub (v1.pe g) (hk n I W X g) set_list (ha1 _))
      (pgs_cons (pg_sub (v2.pe g) (hl n I W X g) set_list (ha2 _)) pgs_nil (hc2 _)) (hc1 _)) (hn _) (hst _))
    (hs _) (by rw [par_env, g.sc]; exact hw) (he _)).imp fun D σ H qq => by
    obtain ⟨env, s, eH, hr, er, _, pr⟩ := AtS.bind (Rel1 := PRl X.K) (k := fun d env h1 => ((evalE (callF Γ.fns n) env a2 h1).bind unP).toS env fun d2 h2 => (stIx (fun env h => evalE (callF Γ.fns n) env b h) (.var i) d env h2).bind fun env2 h3 => stIx (fun env h => evalE (callF Γ.fns n) env c h) (.var j) d2 env2 h3) qq
    refine ⟨env, s, eH, hr, er, trivial, PR.mono pr fun u H1 ⟨d, q⟩ => ?_⟩
    obtain ⟨env, s, eH, hr, er, _, pr⟩ := AtS.bind (Rel1 := PRl X.K) (G' := fun s => PRl X.K s d u) (k := fun d2 env h2 => (stIx (fun env h => evalE (callF Γ.fns n) env b h) (.var i) d env h2).bind fun env2 h3 => stIx (fun env h => evalE (callF Γ.fns n) env c h) (.var j) d2 env2 h3) q (fun s s' l g => g.2.le l)
    refine ⟨env, s, eH, hr, er, trivial, PR.mono pr fun u2 H2 ⟨d2, env, s, e, hr, er, ⟨r1, r2⟩, pr⟩ => ?_⟩
    subst e
    refine ⟨by show 2 ≤ sizeLine; decide, fun p hp => ?_⟩
    have l := hr.put_le (fz := false) (o := .tup [u, u2]) hp
    refine ⟨p, [u, u2], rfl, SqT.of upd_same, rfl, u, [u2], rfl, ?_⟩
    have hh := gsub_own (Γ := Γ) (n := n) (I := I) (W := W) (X := X) (D := D) (i := i) (b := b) (d := d) (y := u) (σ := σ) (G := fun s => PRl X.K s d2 u2) (k := fun env2 h3 => stIx (fun env h => evalE (callF Γ.fns n) env c h) (.var j) d2 env2 h3) (fun _ _ l g => g.le l)
      ⟨env, s.put p (.tup [u, u2]) false, rfl, hr.put hp, er.le l, ⟨r2.le l, r1.le l⟩, PSt.le pr l⟩
    refine gSub_mono hh fun σ' H' ⟨env', s', e', hr', er', r', pr'⟩ => ?_
    refine ⟨u2, [], rfl, ?_⟩
    have hh2 := gsub_own (Γ := Γ) (n := n) (I := I) (W := W) (X := X) (D := D) (i := j) (b := c) (d := d2) (y := u2) (σ := σ') (H := H') (G := fun _ => True) (k := fun env h => .ok .nx env h) (fun _ _ _ g => g)
      ⟨env', s', e', hr', er', ⟨trivial, r'⟩, by simp only [bind_nx']; exact pr'⟩
    refine gSub_mono hh2 fun σ2 H2 ⟨env2, s2, e2, hr2, er2, _, pr2⟩ => ?_
    subst e2
    exact ⟨rfl, pr2 s2 σ2 (.refl _) rfl hr2 er2⟩
end
end Cd
set_option Elab.async false
set_option linter.all false
set_option maxRecDepth 100000
set_option maxHeartbeats 4000000
namespace Cd
open PySem PySem.Spec PyProof.Rows L2
/-! ### a table of the module, at a tuple of ints -/
theorem TabEs.all {K : PySem.W.Frag} {P : Program} {w : World} {h : Heap} (X : K.In h) : ∀ {kvs : List (List Int × Int)} {es : List DictEntry}, TabEs K kvs es →
    ∃ xs : List (List Key × Addr × Value), es = xs.map (entryOfKey (tupleKind (mixKind P w))) ∧ xs.map (·.1) = kvs.map (fun p => p.1.map Sum.inl) ∧ (∀ x ∈ xs, IsTupleKey (mixKind P w) h x.1 x.2.1) ∧
      ∀ ks i, kvs.lookup ks = some i → ∃ t tok, atKey xs (ks.map Sum.inl) = some (t, .int i tok)
  | [], [], _ => ⟨[], rfl, rfl, (fun x hx => by cases hx), (fun ks i e => by cases e)⟩
  | [], _ :: _, z => False.elim z
  | _ :: _, [], z => False.elim z
  | p :: ps, e :: es, z => by
    obtain ⟨⟨t, tok, o, items, n, e1, e2, e3, hl, hc, hd, hi⟩, z2⟩ := z
    obtain ⟨xs, h1, h2, h3, h4⟩ := TabEs.all (P := P) (w := w) X z2
    have it : ∀ {ks : List Int} {vs : List Value}, IntsAre vs ks → ItemsAre (mixKind P w) (ks.map Sum.inl) vs := fun {ks vs} h => by
      induction h with
      | nil => exact .nil
      | cons n t _ ih => exact .cons (mixKind_int P w n t) ih
    refine ⟨(p.1.map Sum.inl, t, .int p.2 tok) :: xs, ?_, by rw [List.map_cons, List.map_cons, h2], fun x hx => ?_, fun ks i e => ?_⟩
    · rw [List.map_cons, h1]
      congr 1
      obtain ⟨eh, ek, ev⟩ := e
      simp only at e1 e2 e3
      rw [e1, e2, e3 P w]
      rfl
    · rcases List.mem_cons.mp hx with rfl | hx
      · exact ⟨o, items, n, X _ _ hl, hc, hd, it hi⟩
      · exact h3 x hx
    · have inj : ∀ {a b : List Int}, a.map (Sum.inl : Int → Key) = b.map Sum.inl → a = b := fun {a b} h => (List.map_inj_right (fun x y z => by cases z; rfl)).mp h
      rw [List.lookup_cons] at e
      unfold atKey
      by_cases c : ks = p.1
      · subst c
        simp at e
        subst e
        exact ⟨t, tok, by simp⟩
      · have c2 : (ks == p.1) = false := by simpa using c
        rw [c2] at e
        obtain ⟨t2, tok2, e4⟩ := h4 ks i e
        refine ⟨t2, tok2, ?_⟩
        unfold atKey at e4
        rw [List.find?_cons_of_neg]
        · exact e4
        · simp only [decide_eq_true_eq]
          exact fun z => c (inj z.symm)
def rTab (K : PySem.W.Frag) (kvs : List (List Int × Int)) (a : Addr) : V → Hp → VK → Prop := fun y H Q => ∃ (t : Addr) (ks : List Int) (i : Int), y = .ref t ∧ SqT K H t (ks.map V.int) ∧ kvs.lookup ks = some i ∧ Q (.int i) H
theorem ix_tab {X : Cx} {kvs : List (List Int × Int)} {a : Addr} (hu : X.A.units + 64 < cLine) (tk : TabK X.K a kvs) : IxR X (fun x y H Q => x = .ref a ∧ rTab X.K kvs a y H Q) := by
  intro value slice pins s σ H x y v u Q I rx ry h hs
  obtain ⟨rfl, t, ks, i, rfl, st, e, q⟩ := h
  obtain rfl : v = Value.ref a := rx
  obtain rfl : u = Value.ref t := ry
  obtain ⟨es, m, hl, hes, nd⟩ := tk
  obtain ⟨xs, h1, h2, h3, h4⟩ := hes.all (P := X.prog) (w := X.w) I.kIn
  obtain ⟨t2, tok, e2⟩ := h4 ks i e
  have hm : s.heap.DictOfH (tupleKind (mixKind X.prog X.w)) a xs := ⟨_, es, m, I.kIn _ _ hl, ⟨rfl, rfl, rfl⟩, rfl, h1, h3, by
    rw [h2]
    refine List.Pairwise.map _ (fun p q hne z => hne ?_) (List.pairwise_map.mp nd)
    exact (List.map_inj_right (fun x y z => by cases z; rfl)).mp z⟩
  obtain ⟨its, r, ⟨o, ho, hc, n, hd⟩, hz⟩ := I.tuple st
  have it : ∀ {ks : List Int} {vs : List Value}, IntsAre vs ks → ItemsAre (mixKind X.prog X.w) (ks.map Sum.inl) vs := fun {ks vs} h => by
    induction h with
    | nil => exact .nil
    | cons n t _ ih => exact .cons (mixKind_int X.prog X.w n t) ih
  have hkey : IsTupleKey (mixKind X.prog X.w) s.heap (ks.map Sum.inl) t := ⟨o, _, n, ho, hc, hd, by simpa using it r.ints⟩
  exact tail_any hm.typeIs slot_dict_getitem.lookup (wpAny_getItem_heap (tupleKind_room_in1 (by omega)) hkey hm e2 ⟨.int i, H, I.tok _, ⟨tok, rfl⟩, q⟩) hs
section
variable {Γ : Gm} {N : List Str} {sc : Sco} {e tg ea eb ec : Expr} {a b c : E} {ta : Te} {o : O2} {pos p p2 p3 : Pos} {i j : Nat} {x y : Str}
theorem de_look {q : Pos} {kvs : List (List Int × Int)} (v : GOk sc x) (hf : (x, kvs) ∈ Γ.tabs) (hb : DB Γ N sc eb b) (hs : PlainIx eb := by intro _ _; rfl) : DE Γ N sc (.Subscript (.Name x q) eb pos) (.op1 (.look kvs) b) := fun n I W X g => by
  obtain ⟨C, hm, tk⟩ := g.tb _ hf
  have ok : Op1Ok X.K (fun y H Q => V.ref C = V.ref C ∧ rTab X.K kvs C y H Q) (.look kvs) := fun s d1 d x Q r e f => by
    replace e : lookS kvs d1 = some d := e
    unfold lookS at e
    split at e
    · rw [Option.bind_eq_some_iff] at e
      obtain ⟨ks, e1, e2⟩ := e
      rw [Option.map_eq_some_iff] at e2
      obtain ⟨i, e2, rfl⟩ := e2
      obtain ⟨t, xs, rfl, h1, q1⟩ := r.tup
      obtain ⟨rfl, _⟩ := q1.ints' e1
      exact ⟨rfl, t, ks, i, rfl, h1, e2, f.1 _ (.int i)⟩
    · cases e
  exact (pe_ix (ix_tab g.hu tk) (pe_glob (v := .ref C) (v.g g) hm rfl v.db) (hb n I W X g) hs).imp fun σ H Q q => op1_imp ok q
/-! ### a list of ours, handed back: from now on it is data -/
theorem de_freeze {q : Pos} (v : VOk N sc i x) : DE Γ N sc (.Name x q) (.freeze i) := fun n I W X g => (v.pe g).imp fun σ H Q qq => by
  obtain ⟨env, s, eH, hr, er, _, pr⟩ := qq
  subst eH
  replace pr : PR X.K I W s σ (freezeK env i s.h) (VR X.K) Q := pr
  unfold freezeK at pr
  cases e0 : lstOf env s.h i with
  | none => rw [e0] at pr; exact False.elim pr
  | some p0 =>
    rw [e0] at pr
    obtain ⟨m, ts⟩ := p0
    obtain ⟨k1, k2⟩ := lstOf_of e0
    obtain ⟨k6, k7⟩ := ref_addr er k1
    obtain ⟨xs, k3, k4⟩ := hr.ob _ _ k2
    refine ⟨_, k6, ?_⟩
    simp only at pr k2 k3 k4 k6 k7
    have lm : Live s.h m 0 := ⟨_, k2, by intro z; cases z⟩
    have kf : KeepF s.F s.H (fun b => s.F b ∨ b = s.φ m 0) s.H := ⟨fun _ f => .inl f, fun _ _ _ e => e, fun _ _ e => e, fun _ _ _ e => e⟩
    have get : ∀ n, (s.h.set m .dead)[n]? = if m = n then some .dead else s.h[n]? := fun n => by
      rw [List.getElem?_set]
      by_cases c : m = n
      · rw [if_pos c, if_pos c, if_pos k7]
      · rw [if_neg c, if_neg c]
    have live : ∀ n j, Live (s.h.set m .dead) n j → n ≠ m ∧ Live s.h n j := fun n j l => by
      have ne : n ≠ m := by
        rintro rfl
        cases j with
        | zero =>
          obtain ⟨o, e, nd⟩ := l
          rw [get, if_pos rfl] at e
          exact nd (Option.some.inj e).symm
        | succ j =>
          rcases l with ⟨c, fs, ts, e, _⟩ | ⟨kvs, k, ts, e, _⟩
          · rw [get, if_pos rfl] at e; cases e
          · rw [get, if_pos rfl] at e; cases e
      refine ⟨ne, ?_⟩
      cases j with
      | zero =>
        obtain ⟨o, e, nd⟩ := l
        rw [get, if_neg (Ne.symm ne)] at e
        exact ⟨o, e, nd⟩
      | succ j =>
        rcases l with ⟨c, fs, ts, e, ef⟩ | ⟨kvs, k, ts, e, ef⟩
        · rw [get, if_neg (Ne.symm ne)] at e
          exact .inl ⟨c, fs, ts, e, ef⟩
        · rw [get, if_neg (Ne.symm ne)] at e
          exact .inr ⟨kvs, k, ts, e, ef⟩
    let s' : Sx := { s with h := s.h.set m .dead, F := fun b => s.F b ∨ b = s.φ m 0 }
    have le : Le s s' := ⟨by show s.h.length ≤ (s.h.set m .dead).length; rw [List.length_set]; exact Nat.le_refl _, fun _ _ => rfl, kf, fun b hb => ⟨hb, rfl⟩⟩
    have hr' : HR X.K I.ci s' := by
      refine ⟨fun n o e => ?_, fun n j m2 k l1 l2 e => hr.inj n j m2 k (live _ _ l1).2 (live _ _ l2).2 e, fun n j l f => ?_, fun b hb => ?_, fun b hb => ?_⟩
      · have e' : (s.h.set m .dead)[n]? = some o := e
        rw [get] at e'
        by_cases c : m = n
        · rw [if_pos c] at e'
          cases e'
          trivial
        · rw [if_neg c] at e'
          exact (hr.ob n o e').move (s' := s') kf e' fun j l => ⟨rfl, fun u e => e⟩
      · obtain ⟨ne, l'⟩ := live _ _ l
        rcases f with f | f
        · exact hr.nf n j l' f
        · exact ne (hr.inj n j m 0 l' lm f).1
      · obtain ⟨h1, h2, u, e⟩ := hr.bt b hb
        exact ⟨fun n j l => h1 n j (live _ _ l).2, fun f => f.elim h2 fun z => h1 m 0 lm z.symm, u, e⟩
      · rcases hb with hb | rfl
        · exact hr.ft b hb
        · exact ⟨_, k3⟩
    exact pr s' (.ref (s.φ m 0)) le rfl hr' (.lst (.inl ⟨.inr rfl, Rd.of k3⟩) (k4.keep kf))
theorem dat_freeze : Dat (.freeze i) := fun cf env h => by
  show (∃ d h', freezeK env i h = .ok (.p d) h') ∨ (∀ v h', freezeK env i h ≠ .ok v h')
  unfold freezeK
  cases lstOf env h i with
  | none => exact .inr fun v h' z => by cases z
  | some p => exact .inl ⟨_, _, rfl⟩
/-! ### a new list from the end on -/
theorem okN_rev {K : PySem.W.Frag} : Op1N K (fun x H Q => ∃ a xs, x = .ref a ∧ SqL K H a xs ∧ ∀ p, H p = none → Q (.ref p) (upd H p (.lst xs.reverse))) .rev := fun s d1 d x Q r e f => by
  replace e : revS d1 = some d := e
  unfold revS at e
  split at e
  · cases e
    obtain ⟨l, xs, rfl, h1, q1⟩ := r.lst
    exact ⟨l, xs, rfl, h1, fun p hp => f p _ _ rfl q1.reverse hp⟩
  · cases e
theorem dn_rev {k : Nat} {p1 p2 p3 : Pos} (ha : DB Γ N sc ea a) : DN Γ N sc (.Subscript ea (.Slice none none (some (.UnaryOp .USub (.Constant (.int 1) k p1) p2)) p3) pos) (.op1 .rev a) :=
  dn_op1 (r := fun X x H Q => ∃ a xs, x = .ref a ∧ SqL X.K H a xs ∧ ∀ p, H p = none → Q (.ref p) (upd H p (.lst xs.reverse))) (fun _ _ _ X g ta h => pe_revL h) (fun _ _ _ X g => okN_rev) ha
end
end Cd
set_option Elab.async false
set_option linter.all false
set_option maxRecDepth 100000
set_option maxHeartbeats 4000000
namespace Cd
open PySem PySem.Spec PyProof.Rows L2
/-! ### set of a list of texts -/
/-- how many unlike ones -/
abbrev cntS (xs : List Str) : Nat := (dedup xs.reverse).length
theorem setOf_at {P : Program} {w : World} {h h' : Heap} {a : Addr} {S : Str → Bool} {n : Nat} (x : h.SetOf (strKind P w) a S n) (k : ∀ o, h.get? a = some o → h'.get? a = some o) : h'.SetOf (strKind P w) a S n := by
  obtain ⟨o, es, ep, t, ho, r⟩ := x
  exact ⟨o, es, ep, t, k o ho, r⟩
theorem cntS_snoc (xs : List Str) (x : Str) : cntS (xs ++ [x]) = if decide (x ∈ xs) = true then cntS xs else cntS xs + 1 := by
  unfold cntS
  rw [List.reverse_append]
  show (dedup (x :: xs.reverse)).length = _
  rw [dedup.eq_2]
  by_cases c : x ∈ xs
  · rw [if_pos (List.mem_reverse.mpr c), if_pos (decide_eq_true c)]
  · rw [if_neg (fun z => c (List.mem_reverse.mp z)), if_neg (by simpa using c), List.length_cons]
theorem cntS_le (xs : List Str) : cntS xs ≤ xs.length := by
  have : ∀ ys : List Str, (dedup ys).length ≤ ys.length := fun ys => by
    induction ys with
    | nil => exact Nat.le_refl _
    | cons y r ih => unfold dedup; split <;> simp <;> omega
  have := this xs.reverse
  rw [List.length_reverse] at this
  exact this
section
variable {P : Program} {w : World} {A : Around} {E : Value → Shared → Prop} {s : Shared}
/-- the loop, from the i-th on -/
theorem loop_strs {it : Addr} {fp wr : List Addr} {G : Array GenState → Array GenState → Prop} {n : Nat} {Pv : Nat → Value → Prop} {St : Nat → Shared → Prop} {R : Result → Shared → Prop} (W : WalksS P w A.in1 it fp wr G n Pv St) {D : Addr} (out : D ∉ fp) {xs : List Str} (hl : xs.length = n) (few : n + 1 < scanBound) (val : ∀ i v, Pv i v → ∃ x t, xs[i]? = some x ∧ v = .str x t) :
    ∀ (m i : Nat) (s : Shared), i + m = n → St i s → s.heap.SetOf (strKind P w) D (fun x => decide (x ∈ xs.take i)) (cntS (xs.take i)) → (∀ s', Moved (D :: wr) G s s' → s'.heap.SetOf (strKind P w) D (fun x => decide (x ∈ xs)) (cntS xs) → R (.ok (.ret .none)) s') →
      codeAny (model P w) A (.builtin "set.update.loop" ⟨[.ref D, .ref it], []⟩) R s
  | 0, i, s, e, st, hS, fin => codeAny_builtin F.entry_set_update_loop (by
      have dw : D ∉ wr := fun z => out (W.sub _ z)
      obtain rfl : i = n := by omega
      rw [List.take_of_length_le (by omega)] at hS
      rw [Around.under_plainId F.plain_set_update_loop _]
      show wpAny _ A.in1 (pyNext (.ref it) >>= _) _ _ s
      exact wpAny_bind (W.done s _ _ st fun s1 mv => wpAny_pure (fin s1 (mv.mono fun b hb => List.mem_cons_of_mem _ hb) (setOf_at hS fun o q => mv.heap D o dw q))))
  | m + 1, i, s, e, st, hS, fin => codeAny_builtin F.entry_set_update_loop (by
      have dw : D ∉ wr := fun z => out (W.sub _ z)
      rw [Around.under_plainId F.plain_set_update_loop _]
      show wpAny _ A.in1 (pyNext (.ref it) >>= _) _ _ s
      refine wpAny_bind (W.item i s _ _ (by omega) st fun v s1 hP st1 mv => ?_)
      obtain ⟨x, t, hx, rfl⟩ := val i v hP
      have hS1 := setOf_at hS fun o q => mv.heap D o dw q
      show wpAny _ A.in1 (holding [Value.str x t] (setAdd D (.str x t)) >>= _) _ _ s1
      refine wpAny_bind (wpAny_holding ?_)
      unfold setAdd
      refine wpAny_holding (wpAny_bind ((strKind P w).pyHash (k := x) (strKind_is _ _ _ _) ?_))
      have room : cntS (xs.take i) + 1 < scanBound := by
        have := cntS_le (xs.take i)
        rw [List.length_take] at this
        omega
      refine wpAny_setAddHashed_of (knd := strKind P w) (s := { s1 with toks := s1.toks + 1 }) (strKind_is _ _ _ _) rfl hS1 room fun h2 same hS2 => ?_
      have tk : xs.take (i + 1) = xs.take i ++ [x] := by rw [List.take_add_one, hx]; rfl
      have hS3 : h2.SetOf (strKind P w) D (fun y => decide (y ∈ xs.take (i + 1))) (cntS (xs.take (i + 1))) := SetOf_congr hS2 (fun y => by rw [tk]; simp [List.mem_append]) (by rw [tk, cntS_snoc])
      have ne : ∀ b, b ∈ fp → b ≠ D := fun b hb z => out (z ▸ hb)
      refine wpAny_pure ⟨plainId_quiet F.plain_set_update_loop _, loop_strs W out hl few val m (i + 1) _ (by omega) (W.frame _ s1 _ _ st1 (Nat.le_succ _) fun b hb o q => (same.2 b (ne b hb)).trans q) hS3 fun s3 mv3 hS4 => fin s3 ?_ hS4⟩
      refine Moved.trans W.gtrans ((mv.mono fun b hb => List.mem_cons_of_mem _ hb).then_heap (Nat.le_succ _) fun b o hb q => ?_) mv3
      exact (same.2 b (fun z : b = D => hb (z ▸ List.mem_cons_self))).trans q)
/-- what stands after set.__init__ -/
def SetDoneS (P : Program) (w : World) (s : Shared) (xs : List Str) (r : Value) (s2 : Shared) : Prop := r = .none ∧ ∃ h' tk, s2 = { s with heap := h', toks := tk } ∧ h'.SetOf (strKind P w) s.heap.objs.size (fun x => decide (x ∈ xs)) (cntS xs) ∧ ∀ b o, s.heap.get? b = some o → h'.get? b = some o
theorem set_fillS {B : Around} {l : Addr} {vs : Array Value} {xs : List Str} (hh : B.in1.handled = none) (hl : s.heap.IsList l vs) (iv : StrsAre vs.toList xs) (few : xs.length + 1 < scanBound) {R : Result → Shared → Prop}
    (hR : ∀ s2, SetDoneS P w s xs .none s2 → R (.ok (.ret .none)) s2) :
    codeAny (model P w) B (.builtin "set.update.loop" ⟨[.ref s.heap.objs.size, .ref (s.heap.objs.size + 1)], []⟩) R { s with heap := (s.heap.push (eSet w)).push (eIter l) } := by
  have len : xs.length = vs.size := by simpa using iv.length.symm
  have z1 : (s.heap.push (eSet w)).objs.size = s.heap.objs.size + 1 := Heap.size_push ..
  have ll : l < s.heap.objs.size := by
    obtain ⟨o, e, _⟩ := hl
    exact Heap.lt_size e
  have e1 : ((s.heap.push (eSet w)).push (eIter l)).get? s.heap.objs.size = some (eSet w) := Heap.get?_push_of_some _ (Heap.get?_push_size _ rfl)
  have e2 : ((s.heap.push (eSet w)).push (eIter l)).get? (s.heap.objs.size + 1) = some (eIter l) := by
    have q := Heap.get?_push_size (s.heap.push (eSet w)) (o := eIter l) rfl
    rwa [z1] at q
  have W := (Walks.list (prog := P) (w := w) hh (s.heap.objs.size + 1) l (Nat.ne_of_lt (Nat.lt_succ_of_lt ll)) vs).toS
  have nm : s.heap.objs.size ∉ [s.heap.objs.size + 1, l] := fun q => by
    rcases List.mem_cons.mp q with q | q
    · exact absurd q (Nat.ne_of_lt (Nat.lt_succ_self _))
    · exact absurd (List.mem_singleton.mp q).symm (Nat.ne_of_lt ll)
  have s0 : ((s.heap.push (eSet w)).push (eIter l)).SetOf (strKind P w) s.heap.objs.size (fun x => decide (x ∈ xs.take 0)) (cntS (xs.take 0)) :=
    SetOf_congr ((setObjOf_fresh (knd := strKind P w) _).setOf e1 (by unfold scanBound; omega)) (fun x => by simp) rfl
  refine loop_strs W nm len (by omega) (fun i v e => ?_) vs.size 0 _ (by omega) ⟨⟨_, e2, rfl, rfl⟩, (hl.push _).push _⟩ s0 fun s2 mv R2 => hR s2 ?_
  · have il : i < xs.length := by rw [len]; exact (Array.getElem?_eq_some_iff.mp e).1
    have e3 : vs.toList[i]? = some v := by rw [Array.getElem?_toList]; exact e
    have at_ : ∀ {us : List Value} {ys : List Str} (j : Nat), StrsAre us ys → us[j]? = some v → ∃ x t, ys[j]? = some x ∧ v = .str x t := fun {us ys} j h => by
      induction h generalizing j with
      | nil => intro e; simp at e
      | cons y t h2 ih =>
        intro e
        cases j with
        | zero => simp at e; exact ⟨y, t, rfl, e.symm⟩
        | succ j => simpa using ih j (by simpa using e)
    exact at_ i iv e3
  · obtain ⟨h2, g2, d2, t2, o2⟩ := s2
    have q1 : g2 = s.gens := mv.gens
    have q2 : d2 = s.drawn := mv.drawn
    have q3 : o2 = s.os := mv.os
    subst q1 q2 q3
    refine ⟨rfl, h2, t2, rfl, R2, fun b o e => ?_⟩
    have lb := Heap.lt_size e
    have nb : b ∉ [s.heap.objs.size, s.heap.objs.size + 1] := fun q => by
      rcases List.mem_cons.mp q with q | q
      · exact absurd q (Nat.ne_of_lt lb)
      · exact absurd (List.mem_singleton.mp q) (Nat.ne_of_lt (Nat.lt_succ_of_lt lb))
    exact mv.heap b o nb (Heap.get?_push_of_some _ (Heap.get?_push_of_some _ e))
set_option maxHeartbeats 3200000 in
theorem set_list_strs {l : Addr} {vs : Array Value} {xs : List Str} {Q : Value → Shared → Prop} (hh : A.handled = none) (hl : s.heap.IsList l vs) (iv : StrsAre vs.toList xs) (few : xs.length + 1 < scanBound)
    (hQ : ∀ s2, SetDoneS P w s xs .none s2 → Q (.ref s.heap.objs.size) s2) : wpAny (model P w) A (call (.type "set") [.ref l]) Q E s := by
  obtain ⟨c, tl, m0⟩ := F.called_set.mro
  have m1 := F.called_set.made
  have m2 := F.called_set.sub
  refine wpAny_call (codeAny_of_tree ?_)
  show wpAny _ _ (callAny (.type "set") _) _ _ _
  refine wpAny_pure ⟨Code.quiet_builtin _ (by decide +kernel), codeAny_builtin F.entry_type_call ?_⟩
  rw [Around.under_plain (weight_type_call_type "set" [.ref l] []) rfl]
  have m3 := F.called_set.notType
  have m4 := F.called_set.canCreate
  have m5 := F.typeCall_set_1 (.ref l)
  repeat (any_goals (first | assumption | wp_step))
  refine codeAny_mono (code_set_led1 (.ref l) (E := E) (Q₁ := fun u s1 => u = .ref s.heap.objs.size ∧ s1 = { s with heap := s.heap.push (eSet w) }) ⟨rfl, rfl⟩) fun r s1 hr => ?_
  match r, hr with
  | .error e, hr => exact hr
  | .ok .next, hr => exact hr.elim
  | .ok .brk, hr => exact hr.elim
  | .ok .cont, hr => exact hr.elim
  | .ok (.ret u), ⟨e1, e2⟩ =>
    subst e1 e2
    have hT : Shared.TypeIs { s with heap := s.heap.push (eSet w) } (.ref s.heap.objs.size) "set" := ⟨_, Heap.get?_push_size _ rfl, rfl⟩
    have m6 := F.called_set.init.lookup
    have m7 := F.called_set.init.bind (.ref s.heap.objs.size)
    repeat (any_goals (first | assumption | wp_step))
    refine codeAny_mono (codeAny_call_builtin (R := wants (SetDoneS P w s xs) E) F.called_set.init.plain F.entry_set_init (check_set_init_1 hT ?_)) fun r2 s2 hr2 => ?_
    · obtain ⟨⟨k1, k2, k3, k4⟩, o1, k5, k, k6⟩ := id hl
      simp only at k5 k6
      subst k5 k6
      have o2 : (s.heap.push (eSet w)).get? l = some { cls := .type "list", dict := k2, data := .seq vs k, slots := k4 } := Heap.get?_push_of_some _ o1
      have n1 := F.sub_list_set
      have n2 := F.sub_list_frozenset
      have n3 : (Value.type "list" == Value.type "dict") = false := by decide
      unfold Builtin.«set.__init__» noKeywords Builtin.Frozenset.updateFrom
      generalize hit : pyIter = it
      wp_walk
      subst hit
      refine wpAny_pyIter_list (hl.push _) (wpAny_bind (wpAny_runValue ?_))
      have z1 : (s.heap.push (eSet w)).objs.size = s.heap.objs.size + 1 := Heap.size_push ..
      rw [z1]
      refine set_fillS (by simp [hh]) hl iv few fun s2 d => ?_
      show wpAny _ _ _ _ _ _
      refine wpAny_pure ?_
      show wpAny _ _ (ret Value.none) _ _ _
      exact wpAny_pure d
    · match r2, hr2 with
      | .error e, hr2 => exact hr2
      | .ok .next, hr2 => exact hr2.elim
      | .ok .brk, hr2 => exact hr2.elim
      | .ok .cont, hr2 => exact hr2.elim
      | .ok (.ret u), d =>
        obtain ⟨rfl, d2⟩ := id d
        repeat (any_goals (first | assumption | wp_step))
        exact hQ _ d
end
/-! ### over the hand layer -/
/-- a set of n texts -/
def SetX (P : Program) (w : World) (a : Addr) (n : Nat) : HO := .ext fun h => ∃ S, h.SetOf (strKind P w) a S n
theorem setX_ok {P : Program} {w : World} {H : Hp} {h : Heap} {a : Addr} {S : Str → Bool} {n : Nat} (R : h.SetOf (strKind P w) a S n) : ObjOk P w H h a (SetX P w a n) :=
  ⟨⟨S, R⟩, ⟨_, R.choose_spec.choose_spec.choose_spec.choose_spec.1⟩, fun h1 h2 ⟨S, x⟩ k => ⟨S, setOf_at x k⟩⟩
def rSetX (P : Program) (K : PySem.W.Frag) (w : World) : List V → Hp → VK → Prop := fun vs H Q => ∃ (a : Addr) (xs : List Str), vs = [V.ref a] ∧ SqL K H a (xs.map V.str) ∧ xs.length < 1000 ∧ ∀ p, H p = none → Q (.ref p) (upd H p (SetX P w p (cntS xs)))
theorem cr_setX {X : Cx} (hc : X.calm = true) : CallR X (.type "set") (rSetX X.prog X.K X.w) := by
  intro pins s σ H vs us Q I r ⟨a, xs, e, h, few, q⟩
  subst e
  rw [Vals.ref1 r]
  obtain ⟨its, rv, pl, _⟩ := I.list h
  refine set_list_strs (I.ok.hd hc) pl.isList (xs := xs) (strsAre_of (by simpa using rv)) (by unfold scanBound; omega) fun s2 ⟨_, h', tk, e, R, k⟩ => ?_
  subst e
  have hn : H s.heap.objs.size = none := I.hok.fresh (Nat.le_refl _)
  refine ⟨.ref s.heap.objs.size, upd H s.heap.objs.size (SetX X.prog X.w s.heap.objs.size (cntS xs)), I.laid (t' := tk) (fun b u e => k b u e) (Nat.le_refl _) (setX_ok R), rfl, q _ hn⟩
def rLenX (P : Program) (w : World) : List V → Hp → VK → Prop := fun vs H Q => ∃ (a : Addr) (n : Nat), vs = [V.ref a] ∧ H a = some (SetX P w a n) ∧ n < 4000 ∧ Q (.int n) H
theorem call_lenX {X : Cx} : CallR X (.builtin "len") (rLenX X.prog X.w) := by
  intro pins s σ H vs us Q I r ⟨a, n, e, ha, few, q⟩
  subst e
  rw [Vals.ref1 r]
  obtain ⟨S, o, es, ep, t, ho, hex, hd, _, _, _, hf, hn⟩ := (I.hok a _ ha).1
  refine call_len_set ho hex hd hf (by rw [hn] <;> omega) ⟨.int n, H, I.tok _, ⟨_, by rw [hn]⟩, q⟩
end Cd
set_option Elab.async false
set_option linter.all false
set_option maxRecDepth 100000
set_option maxHeartbeats 4000000
namespace Cd
open PySem PySem.Spec PyProof.Rows L2
theorem strs_inv {K : PySem.W.Frag} {F : Addr → Prop} {H : Hp} : ∀ {ds : List PyData} {vs : List V} {xs : List Str}, RFs K F H ds vs → strsD ds = some xs → vs = xs.map V.str
  | _, _, _, .nil, e => by simp [strsD] at e; subst e; rfl
  | _, _, xs, .cons (d := d) (ds := ds) r t, e => by
    cases r with
    | str x =>
      simp only [strsD, Option.map_eq_some_iff] at e
      obtain ⟨ys, e1, rfl⟩ := e
      rw [strs_inv t e1]; rfl
    | _ => simp [strsD] at e
section
variable {Γ : Gm} {N : List Str} {sc : Sco} {e tg ea eb ec : Expr} {a b c : E} {ta : Te} {o : O2} {pos p p2 p3 : Pos} {i j : Nat} {x y : Str}
/-- len(set(a list of texts)) -/
theorem de_lenSet {q : Pos} (v : NB Γ sc "len") (v2 : NB Γ sc "set") (ha : DB Γ N sc ea a) (se1 : Se1 ea := by intro _; rfl) (se2 : Se1 (.Call (.Name "set" q) [ea] [] p2) := by intro _; rfl) :
    DE Γ N sc (.Call (.Name "len" p) [.Call (.Name "set" q) [ea] [] p2] [] pos) (.op1 .lenSet a) := fun n I W X g =>
  (pe_bi1 g call_lenX v boot_len (pe_ty1 g (cr_setX g.calm) v2 (by decide +kernel) (ha n I W X g) se1) se2).imp fun σ H Q q => by
    obtain ⟨env, s, eH, hr, er, _, pr⟩ := At.bind (Rel1 := RB X.K) (ev2 := fun x env h => Cd.ofO ((opf1 .lenSet x).map Val.p) h) q
    refine ⟨env, s, eH, hr, er, trivial, ?_⟩
    refine PR.mono pr fun x H1 ⟨d, env, s, e, hr, er, ⟨_, rb⟩, pr⟩ => ?_
    subst e
    replace pr : PR X.K I W s σ (Cd.ofO ((lenSetS d).map Val.p) s.h) (VR X.K) Q := pr
    cases e1 : lenSetS d with
    | none => rw [e1] at pr; exact False.elim pr
    | some d' =>
      rw [e1] at pr
      cases d with
      | list ts =>
        have e2 : ((strsD ts).bind fun xs => if xs.length < 1000 then some (PyData.int (dedup xs.reverse).length) else none) = some d' := e1
        rw [Option.bind_eq_some_iff] at e2
        obtain ⟨xs, e3, e4⟩ := e2
        split at e4
        · rename_i few
          cases e4
          obtain ⟨l, us, rfl, h1, q1⟩ := rb.lst
          rw [strs_inv q1 e3] at h1
          have cl := cntS_le xs
          refine ⟨l, xs, rfl, h1, few, fun p0 hp => ?_⟩
          refine ⟨p0, cntS xs, rfl, upd_same, by omega, ?_⟩
          have hr1 := hr.put (o := SetX X.prog X.w p0 (cntS xs)) (fz := false) hp
          exact pr (s.put p0 _ false) _ (hr.put_le hp) rfl hr1 (.int _)
        · cases e4
      | _ => cases e1
end
end Cd
set_option Elab.async false
set_option linter.all false
set_option maxRecDepth 100000
set_option maxHeartbeats 4000000
namespace Cd
open PySem PySem.Spec PyProof.Rows L2
/-! ### what data leans on, told more narrowly -/
structure KeepW (F : Addr → Prop) (H : Hp) (F' : Addr → Prop) (H' : Hp) : Prop where
  up : ∀ a, F a → F' a
  fz : ∀ a o, F a → H a = some o → H' a = some o
  tp : ∀ a xs, H a = some (.tup xs) → H' a = some (.tup xs)
  zt : ∀ a o xs, H a = some (.frz o (.tup xs)) → H' a = some (.frz o (.tup xs))
  zl : ∀ a o xs, H a = some (.frz o (.lst xs)) → H' a = some (.frz o (.lst xs))
mutual
theorem RF.keepW {K : PySem.W.Frag} {F F' : Addr → Prop} {H H' : Hp} (k : KeepW F H F' H') : ∀ {d : PyData} {v : V}, RF K F H d v → RF K F' H' d v
  | _, _, .non => .non
  | _, _, .bl b => .bl b
  | _, _, .int i => .int i
  | _, _, .str x => .str x
  | _, _, .lst s r => .lst (s.elim (fun h => .inl ⟨k.up _ h.1, h.2.elim (fun e => .inl (k.fz _ _ h.1 e)) fun ⟨o, e⟩ => .inr ⟨o, k.zl _ _ _ e⟩⟩) .inr) (RFs.keepW k r)
  | _, _, .tup s r => .tup (s.elim (fun h => .inl (h.elim (fun e => .inl (k.tp _ _ e)) fun ⟨o, e⟩ => .inr ⟨o, k.zt _ _ _ e⟩)) .inr) (RFs.keepW k r)
theorem RFs.keepW {K : PySem.W.Frag} {F F' : Addr → Prop} {H H' : Hp} (k : KeepW F H F' H') : ∀ {ds : List PyData} {vs : List V}, RFs K F H ds vs → RFs K F' H' ds vs
  | _, _, .nil => .nil
  | _, _, .cons r t => .cons (RF.keepW k r) (RFs.keepW k t)
end
section
variable {K : PySem.W.Frag} {CI : CInf}
theorem FlR.moveW {s s' : Sx} {n j : Nat} {f : Fld} {v : V} (r : FlR K s n j f v) (k : KeepW s.F s.H s'.F s'.H)
    (ph : ∀ ts, f = .l ts → s'.φ n (j + 1) = s.φ n (j + 1) ∧ ∀ xs, s.H (s.φ n (j + 1)) = some (.lst xs) → s'.H (s.φ n (j + 1)) = some (.lst xs)) : FlR K s' n j f v := by
  cases f with
  | p d => exact RF.keepW k r
  | l ts =>
    obtain ⟨e, xs, hx, q⟩ := r
    obtain ⟨e1, e2⟩ := ph ts rfl
    exact ⟨by rw [e1]; exact e, xs, by rw [e1]; exact e2 xs hx, q.keepW k⟩
theorem ObR.moveW {s s' : Sx} {n : Nat} {o : Ob} (r : ObR K CI s n o) (k : KeepW s.F s.H s'.F s'.H) (hn : s.h[n]? = some o)
    (ph : ∀ j, Live s.h n j → s'.φ n j = s.φ n j ∧ ∀ u, s.H (s.φ n j) = some u → s'.H (s.φ n j) = some u) : ObR K CI s' n o := by
  cases o with
  | lst ts =>
    obtain ⟨xs, e, q⟩ := r
    obtain ⟨e1, e2⟩ := ph 0 ⟨_, hn, by intro z; cases z⟩
    exact ⟨xs, by rw [e1]; exact e2 _ e, q.keepW k⟩
  | dct kvs =>
    obtain ⟨es, e, m, nd, q⟩ := r
    obtain ⟨e1, e2⟩ := ph 0 ⟨_, hn, by intro z; cases z⟩
    refine ⟨es, by rw [e1]; exact e2 _ e, m, nd, fun j y f ef => ?_⟩
    obtain ⟨v, h1, h2⟩ := q j y f ef
    refine ⟨v, h1, h2.moveW k fun ts eq => ?_⟩
    subst eq
    obtain ⟨a, b⟩ := ph (j + 1) (.inr ⟨kvs, y, ts, hn, ef⟩)
    exact ⟨a, fun xs => b _⟩
  | ins c fs =>
    obtain ⟨C, names, dx, es, ci, e, m, l, q⟩ := r
    obtain ⟨e1, e2⟩ := ph 0 ⟨_, hn, by intro z; cases z⟩
    refine ⟨C, names, dx, es, ci, by rw [e1]; exact e2 _ e, m, l, fun j f ef => ?_⟩
    obtain ⟨x, v, h0, h1, h2⟩ := q j f ef
    refine ⟨x, v, h0, h1, h2.moveW k fun ts eq => ?_⟩
    subst eq
    obtain ⟨a, b⟩ := ph (j + 1) (.inl ⟨c, fs, ts, hn, ef⟩)
    exact ⟨a, fun xs => b _⟩
  | dead => trivial
end
theorem scal_rf {K : PySem.W.Frag} {F F' : Addr → Prop} {H H' : Hp} {d : PyData} {v : V} (h : scalD d = true) (r : RF K F H d v) : RF K F' H' d v := by
  cases r with
  | non => exact .non
  | bl b => exact .bl b
  | int i => exact .int i
  | str x => exact .str x
  | lst => cases h
  | tup => cases h
theorem key_rf {K : PySem.W.Frag} {F : Addr → Prop} {H : Hp} (k : Key) : RF K F H (keyD k) (kV k) := by
  cases k with
  | inl i => exact .int i
  | inr x => exact .str x
theorem items_at : ∀ {kvs : List (Key × Fld)} {items : List PyData}, itemsD kvs = some items → kvs.length = items.length ∧ ∀ (j : Nat) k f, kvs[j]? = some (k, f) → ∃ d, f = .p d ∧ scalD d = true ∧ items[j]? = some (.tuple [keyD k, d])
  | [], _, e => by cases e; exact ⟨rfl, fun j k f e => by simp at e⟩
  | (k0, .l ts) :: r, _, e => by cases e
  | (k0, .p d0) :: r, items, e => by
    unfold itemsD at e
    split at e
    · rename_i hs
      rw [Option.map_eq_some_iff] at e
      obtain ⟨rest, e1, rfl⟩ := e
      obtain ⟨h1, h2⟩ := items_at e1
      refine ⟨by simp [h1], fun j k f e => ?_⟩
      cases j with
      | zero => simp at e; obtain ⟨rfl, rfl⟩ := e; exact ⟨d0, rfl, hs, rfl⟩
      | succ j => simpa using h2 j k f (by simpa using e)
    · cases e
/-- the pairs of a locked dict -/
theorem jr_items {K : PySem.W.Frag} {CI : CInf} {s : Sx} {d : Addr} {od : Obj} {es : List (Key × V)} {items : List PyData} (h0 : s.H d = some (.frz od (.dK es))) (hl : es.length = items.length)
    (hv : ∀ (j : Nat) k v, es[j]? = some (k, v) → ∃ x, items[j]? = some (.tuple [keyD k, x]) ∧ ∀ F H, RF K F H x v) : JR K CI s items (Iti d od es) := fun s' l hr' i => by
  have h1 : s'.H d = some (.frz od (.dK es)) := l.kf.zz _ _ _ h0
  refine ⟨fun hi => ⟨h1, by omega⟩, fun hi => ⟨h1, by omega⟩, fun x H' hi ⟨T, k, v, e1, e2, hT, e3⟩ => ?_⟩
  subst e2 e3
  obtain ⟨y, e4, ry⟩ := hv i k v e1
  have hr2 := hr'.put (o := .tup [kV k, v]) (fz := false) hT
  refine ⟨_, s'.put T (.tup [kV k, v]) false, e4, rfl, hr'.put_le hT, rfl, hr2, ?_⟩
  exact .tup (SqT.of upd_same) (.cons (key_rf k) (.cons (ry _ _) .nil))
section
variable {Γ : Gm} {N : List Str} {sc : Sco} {e tg ea eb ec : Expr} {a b c : E} {o : O2} {pos p p2 : Pos} {t : Tg} {src : Src} {i0 : Nat} {x : Str}
theorem lcI_imp {n : Nat} {I : Inf} {W : WX} {X : Cx} {conds : List Te} {own : List (Str × Nat)} (hsub : ∀ k, k ∈ tgSlots t → k ∈ snds own) {σ : L2.St} {H : Hp} {Q : VK}
    (q : tE X.K I W (fun env h => (evalE (callF Γ.fns n) env (.compI i0 (snds own) t conds a) h).bind unP) (RN X.K) σ H Q) :
    tLockE (tLc (iItems (tVar i0)) (tG X.K I.ci t) (tE X.K I (fun _ _ _ _ => False) (fun env h => evalTs (callF Γ.fns n) env conds h) (fun _ a x => x = a))
      (tE X.K I (fun _ _ _ _ => False) (fun env h => (evalE (callF Γ.fns n) env a h).bind unP) (PRl X.K)) (own.map (·.2))) σ H Q := by
  obtain ⟨env, s, eH, hr, er, _, pr⟩ := q
  subst eH
  let run : List PyData → Hi → R (List PyData) := compL (fun e h => (evalE (callF Γ.fns n) e a h).bind unP) (fun e h => evalTs (callF Γ.fns n) e conds h) (fun x e => bindT t x e) (wipeE env (snds own))
  replace pr : PR X.K I W s σ ((match dctOf env s.h i0 with
    | none => .stuck
    | some p => match itemsD p.2 with
      | none => .stuck
      | some items => (compK2 run items (s.h.set p.1 .dead)).bind fun v h2 => .ok v (h2.set p.1 (.dct p.2)) : R Val).bind unP) (RN X.K) Q := pr
  cases e0 : dctOf env s.h i0 with
  | none => rw [e0] at pr; exact False.elim pr
  | some p0 =>
  rw [e0] at pr
  obtain ⟨m, kvs⟩ := p0
  simp only at pr
  cases ei : itemsD kvs with
  | none => rw [ei] at pr; exact False.elim pr
  | some items =>
  rw [ei] at pr
  replace pr : PR X.K I W s σ (((compK2 run items (s.h.set m .dead)).bind fun v h2 => .ok v (h2.set m (.dct kvs))).bind unP) (RN X.K) Q := pr
  obtain ⟨k1, k2⟩ := dctOf_of e0
  obtain ⟨k6, k7⟩ := ref_addr er k1
  obtain ⟨es, k3, km, knd, kf⟩ := hr.ob _ _ k2
  obtain ⟨il, ia⟩ := items_at ei
  have el : es.length = kvs.length := by simpa using congrArg List.length km
  refine ⟨s.φ m 0, .dK es, k3, trivial, fun od => ?_⟩
  have lm : Live s.h m 0 := ⟨_, k2, by intro z; cases z⟩
  have nF : ¬ s.F (s.φ m 0) := hr.nf m 0 lm
  have get : ∀ (h : Hi) (o : Ob) n, m < h.length → (h.set m o)[n]? = if m = n then some o else h[n]? := fun h o n hm => by
    rw [List.getElem?_set]
    by_cases c : m = n
    · rw [if_pos c, if_pos c, if_pos hm]
    · rw [if_neg c, if_neg c]
  have live : ∀ (h : Hi) n j, m < h.length → Live (h.set m .dead) n j → n ≠ m ∧ Live h n j := fun h n j hm l => by
    have ne : n ≠ m := by
      rintro rfl
      cases j with
      | zero =>
        obtain ⟨o, e, nd⟩ := l
        rw [get _ _ _ hm, if_pos rfl] at e
        exact nd (Option.some.inj e).symm
      | succ j =>
        rcases l with ⟨c, fs, ts, e, _⟩ | ⟨kvs, k, ts, e, _⟩
        · rw [get _ _ _ hm, if_pos rfl] at e; cases e
        · rw [get _ _ _ hm, if_pos rfl] at e; cases e
    refine ⟨ne, ?_⟩
    cases j with
    | zero =>
      obtain ⟨o, e, nd⟩ := l
      rw [get _ _ _ hm, if_neg (Ne.symm ne)] at e
      exact ⟨o, e, nd⟩
    | succ j =>
      rcases l with ⟨c, fs, ts, e, ef⟩ | ⟨kvs, k, ts, e, ef⟩
      · rw [get _ _ _ hm, if_neg (Ne.symm ne)] at e
        exact .inl ⟨c, fs, ts, e, ef⟩
      · rw [get _ _ _ hm, if_neg (Ne.symm ne)] at e
        exact .inr ⟨kvs, k, ts, e, ef⟩
  have Bne : ∀ b, s.B b → b ≠ s.φ m 0 := fun b hb z => (hr.bt b hb).1 m 0 lm z.symm
  -- locked
  let s1 : Sx := { s with h := s.h.set m .dead, H := upd s.H (s.φ m 0) (.frz od (.dK es)), B := fun b => s.B b ∨ b = s.φ m 0 }
  have kf1 : KeepF s.F s.H s1.F s1.H := ⟨fun _ f => f, fun b o f e => by
      show upd s.H _ _ b = some o
      rw [upd_ne (fun z => nF (by rw [← z]; exact f))]; exact e, fun b xs e => by
      show upd s.H _ _ b = some _
      rw [upd_ne (fun z => by rw [z, k3] at e; cases e)]; exact e, fun b o u e => by
      show upd s.H _ _ b = some _
      rw [upd_ne (fun z => by rw [z, k3] at e; cases e)]; exact e⟩
  have le1 : Le s s1 := ⟨by show s.h.length ≤ (s.h.set m .dead).length; rw [List.length_set]; exact Nat.le_refl _, fun _ _ => rfl, kf1, fun b hb => ⟨.inl hb, by
    show upd s.H _ _ b = _
    rw [upd_ne (Bne b hb)]⟩⟩
  have hr1 : HR X.K I.ci s1 := by
    refine ⟨fun n o e => ?_, fun n j m2 k l1 l2 e => hr.inj n j m2 k (live _ _ _ k7 l1).2 (live _ _ _ k7 l2).2 e, fun n j l f => hr.nf n j (live _ _ _ k7 l).2 f, fun b hb => ?_, fun b hb => ?_⟩
    · have e' : (s.h.set m .dead)[n]? = some o := e
      rw [get _ _ _ k7] at e'
      by_cases c : m = n
      · rw [if_pos c] at e'
        cases e'
        trivial
      · rw [if_neg c] at e'
        exact (hr.ob n o e').move (s' := s1) kf1 e' fun j l => ⟨rfl, fun u e => by
          show upd s.H _ _ (s.φ n j) = some u
          rw [upd_ne (fun z => c (hr.inj n j m 0 l lm z).1.symm)]; exact e⟩
    · rcases hb with hb | hb
      · obtain ⟨h1, h2, u, e⟩ := hr.bt b hb
        exact ⟨fun n j l => h1 n j (live _ _ _ k7 l).2, h2, u, by show upd s.H _ _ b = some u; rw [upd_ne (Bne b hb)]; exact e⟩
      · subst hb
        exact ⟨fun n j l z => (live _ _ _ k7 l).1 (hr.inj n j m 0 (live _ _ _ k7 l).2 lm z).1, nF, _, upd_same⟩
    · obtain ⟨u, e⟩ := hr.ft b hb
      exact ⟨u, by show upd s.H _ _ b = some u; rw [upd_ne (fun z => nF (by rw [← z]; exact hb))]; exact e⟩
  -- the walk
  have key := lc_imp (Γ := Γ) (n := n) (I := I) (W := W) (X := X) (t := t) (src := .e (.lit (.list items))) (a := a) (conds := conds) hsub (σ := σ) (H := s1.H) (Q := fun v H' => H' (s.φ m 0) = some (.frz od (.dK es)) ∧ Q v (upd H' (s.φ m 0) (.dK es))) ⟨env, s1, rfl, hr1, er.le le1, trivial, by
    show PR X.K I W s1 σ ((compK2 run items (s.h.set m .dead)).bind unP) (RN X.K) _
    generalize compK2 run items (s.h.set m .dead) = r at pr ⊢
    cases r with
    | stuck => exact False.elim pr
    | exc e h2 => exact fun s' cls d l eh hr' xr => pr s' cls d (le1.trans l) eh hr' xr
    | ok v h2 =>
      cases v with
      | ref n => exact False.elim pr
      | p d =>
        intro s2 x l2 eh hr2 rn
        subst eh
        have hB : s2.B (s.φ m 0) ∧ s2.H (s.φ m 0) = some (.frz od (.dK es)) := by
          obtain ⟨b1, b2⟩ := l2.fr (s.φ m 0) (.inr rfl)
          exact ⟨b1, b2.trans upd_same⟩
        obtain ⟨bn, bF, _⟩ := hr2.bt _ hB.1
        have hm2 : m < s2.h.length := Nat.lt_of_lt_of_le (by show m < (s.h.set m .dead).length; rw [List.length_set]; exact k7) l2.len
        have ph2 : s2.φ m 0 = s.φ m 0 := l2.ph m (by show m < (s.h.set m .dead).length; rw [List.length_set]; exact k7)
        let s3 : Sx := { s2 with h := s2.h.set m (.dct kvs), H := upd s2.H (s.φ m 0) (.dK es), B := s.B }
        have ne2 : ∀ {b u}, s2.H b = some u → (∀ o w, u ≠ .frz o (.dK w)) → upd s2.H (s.φ m 0) (.dK es) b = some u := fun {b u} e z => by
          rw [upd_ne (fun w => by rw [w, hB.2] at e; exact z od es (Option.some.inj e).symm)]; exact e
        have kf2 : KeepW s2.F s2.H s3.F s3.H := ⟨fun _ f => f, fun b o f e => by
            show upd s2.H _ _ b = some o
            rw [upd_ne (fun z => bF (by rw [← z]; exact f))]; exact e, fun b xs e => ne2 e (fun _ _ z => by cases z), fun b o xs e => ne2 e (fun _ _ z => by cases z), fun b o xs e => ne2 e (fun _ _ z => by cases z)⟩
        have le3 : Le s s3 := by
          refine ⟨by show s.h.length ≤ (s2.h.set m _).length; rw [List.length_set]; exact Nat.le_trans le1.len l2.len, fun n hn => (l2.ph n (Nat.lt_of_lt_of_le hn le1.len)).trans (le1.ph n hn), ⟨fun b f => l2.kf.up b f, fun b o f e => ?_, fun b xs e => ?_, fun b o u e => ?_⟩, fun b hb => ⟨hb, ?_⟩⟩
          · show upd s2.H _ _ b = some o
            rw [upd_ne (fun z => nF (by rw [← z]; exact f))]
            exact l2.kf.fz b o f (kf1.fz b o f e)
          · show upd s2.H _ _ b = some _
            rw [upd_ne (fun z => by rw [z, k3] at e; cases e)]
            exact l2.kf.tp b xs (kf1.tp b xs e)
          · show upd s2.H _ _ b = some _
            rw [upd_ne (fun z => by rw [z, k3] at e; cases e)]
            exact l2.kf.zz b o u (kf1.zz b o u e)
          · show upd s2.H _ _ b = s.H b
            rw [upd_ne (Bne b hb), (l2.fr b (.inl hb)).2]
            show upd s.H _ _ b = _
            rw [upd_ne (Bne b hb)]
        have live3 : ∀ n j, Live s3.h n j → (n = m ∧ j = 0) ∨ (n ≠ m ∧ Live s2.h n j) := fun n j l => by
          replace l : Live (s2.h.set m (.dct kvs)) n j := l
          by_cases c : n = m
          · subst c
            left
            refine ⟨rfl, ?_⟩
            cases j with
            | zero => rfl
            | succ j =>
              exfalso
              rcases l with ⟨c, fs, ts, e, ef⟩ | ⟨kvs', k, ts, e, ef⟩
              · rw [get _ _ _ hm2, if_pos rfl] at e; cases e
              · rw [get _ _ _ hm2, if_pos rfl] at e
                cases e
                obtain ⟨d, ed, _⟩ := ia j k _ ef
                cases ed
          · refine .inr ⟨c, ?_⟩
            cases j with
            | zero =>
              obtain ⟨o, e, nd⟩ := l
              rw [get _ _ _ hm2, if_neg (Ne.symm c)] at e
              exact ⟨o, e, nd⟩
            | succ j =>
              rcases l with ⟨c2, fs, ts, e, ef⟩ | ⟨kvs', k, ts, e, ef⟩
              · rw [get _ _ _ hm2, if_neg (Ne.symm c)] at e
                exact .inl ⟨c2, fs, ts, e, ef⟩
              · rw [get _ _ _ hm2, if_neg (Ne.symm c)] at e
                exact .inr ⟨kvs', k, ts, e, ef⟩
        have hr3 : HR X.K I.ci s3 := by
          refine ⟨fun n o e => ?_, fun n j m2 k l1 l2 e => ?_, fun n j l f => ?_, fun b hb => ?_, fun b hb => ?_⟩
          · have e' : (s2.h.set m (.dct kvs))[n]? = some o := e
            rw [get _ _ _ hm2] at e'
            by_cases c : m = n
            · rw [if_pos c] at e'
              cases e'
              subst c
              refine ⟨es, by show upd s2.H _ _ (s2.φ m 0) = _; rw [ph2]; exact upd_same, km, knd, fun j k f ef => ?_⟩
              obtain ⟨v, h1, h2⟩ := kf j k f ef
              obtain ⟨d, rfl, hd, _⟩ := ia j k f ef
              exact ⟨v, h1, scal_rf hd h2⟩
            · rw [if_neg c] at e'
              exact (hr2.ob n o e').moveW (s' := s3) kf2 e' fun j l => ⟨rfl, fun u e => by
                show upd s2.H _ _ (s2.φ n j) = some u
                rw [upd_ne (bn n j l)]; exact e⟩
          · rcases live3 _ _ l1 with ⟨rfl, rfl⟩ | ⟨n1, l1'⟩ <;> rcases live3 _ _ l2 with ⟨rfl, rfl⟩ | ⟨n2, l2'⟩
            · exact ⟨rfl, rfl⟩
            · exact absurd (e.symm.trans ph2) (bn _ _ l2')
            · exact absurd (e.trans ph2) (bn _ _ l1')
            · exact hr2.inj _ _ _ _ l1' l2' e
          · rcases live3 _ _ l with ⟨rfl, rfl⟩ | ⟨_, l'⟩
            · have f' : s2.F (s2.φ n 0) := f
              rw [ph2] at f'
              exact bF f'
            · exact hr2.nf _ _ l' f
          · obtain ⟨h1, h2, u, e⟩ := hr2.bt b ((l2.fr b (.inl hb)).1)
            refine ⟨fun n j l z => ?_, h2, u, by show upd s2.H _ _ b = some u; rw [upd_ne (Bne b hb)]; exact e⟩
            rcases live3 _ _ l with ⟨rfl, rfl⟩ | ⟨_, l'⟩
            · have z' : s2.φ n 0 = b := z
              rw [ph2] at z'
              exact Bne b hb z'.symm
            · exact h1 _ _ l' z
          · obtain ⟨u, e⟩ := hr2.ft b hb
            exact ⟨u, by show upd s2.H _ _ b = some u; rw [upd_ne (fun z => bF (by rw [← z]; exact hb))]; exact e⟩
        refine ⟨hB.2, pr s3 x le3 rfl hr3 ?_⟩
        obtain ⟨ts, D, acc, e1, e2, e3, e4, e5, e6, e7⟩ := rn
        have Dd : D ≠ s.φ m 0 := fun z => by rw [z, hB.2] at e3; cases e3
        refine ⟨ts, D, acc, e1, e2, ne2 e3 (fun _ _ z => by cases z), e4.keepW kf2, e5, fun n j l z => ?_, fun z => e7 ((l2.fr D (.inl z)).1)⟩
        rcases live3 _ _ l with ⟨rfl, rfl⟩ | ⟨_, l'⟩
        · have z' : s2.φ n 0 = D := z
          rw [ph2] at z'
          exact Dd z'.symm
        · exact e6 _ _ l' z⟩
  obtain ⟨env', s', eH', hr', er', _, prS⟩ := key
  replace prS : PR X.K I W s' σ (R.ok items s'.h) (JR X.K I.ci) _ := prS
  have hd' : s'.H (s.φ m 0) = some (.frz od (.dK es)) := by rw [eH']; exact upd_same
  have go := prS s' (Iti (s.φ m 0) od es) (.refl s') rfl hr' (jr_items hd' (by omega) fun j k v e => by
    have hj : j < kvs.length := by rw [← el]; exact (List.getElem?_eq_some_iff.mp e).1
    have ek : kvs[j]? = some (kvs[j].1, kvs[j].2) := List.getElem?_eq_getElem hj
    obtain ⟨v', h1, h2⟩ := kf j _ _ ek
    rw [e] at h1
    cases h1
    obtain ⟨d, e1, hd, e2⟩ := ia j _ _ ek
    rw [e1] at h2
    exact ⟨d, e2, fun F H => scal_rf hd h2⟩)
  rw [eH'] at go
  exact ⟨_, k6, s.φ m 0, od, es, rfl, upd_same, go⟩
theorem dn_compI {elt : Expr} {ifs elts : List Expr} {kk : Nat} {tpos apos cpos : Pos} {scope : Scope} {own : List (Str × Nat)} {conds : List Te} {q : Pos} (v : VOk N sc i0 x) (ok : BlkOk N sc.s scope own) (ht : DG Γ N (blkS sc scope) (.Tuple elts kk tpos) t) (hc : DTs Γ N (blkS sc scope) ifs conds) (he : DV Γ N (blkS sc scope) elt a)
    (hsub : ∀ k, k ∈ tgSlots t → k ∈ snds own) (hab : Ab x q "items" := by intro _; rfl) (hline : (apos.endLine == cpos.line) = true := by rfl) (hs : ∀ env y, foldedSetIterable (.Call (.Attribute (.Name x q) "items" apos) [] [] cpos) env y = pure y := by intro _ _; rfl) : DN Γ N sc (.ListComp elt [⟨.Tuple elts kk tpos, .Call (.Attribute (.Name x q) "items" apos) [] [] cpos, ifs, 0⟩] scope pos) (.compI i0 (snds own) t conds a) := fun n I W X g =>
  (pe_lock (pe_lc (own := own) (wi := iItems (tVar i0)) (g := tG X.K I.ci t) (tt := tE X.K I (fun _ _ _ _ => False) (fun env h => evalTs (callF Γ.fns n) env conds h) (fun _ a x => x = a))
    (te := tE X.K I (fun _ _ _ _ => False) (fun env h => (evalE (callF Γ.fns n) env a h).bind unP) (PRl X.K)) g.calm (by rw [g.hN]; exact g.nd) (pi_items (v.pe g) (hab _) hline) (by rw [g.hN, g.sc]; exact ok)
    (fun s H C cl fp => ht n I _ _ (g.blk scope s H C cl fp)) (fun s H C cl fp => hc n I _ _ (g.blk scope s H C cl fp)) (fun s H C cl fp => he n I _ _ (g.blk scope s H C cl fp)) (hs _))).imp fun σ H Q q => lcI_imp hsub q
theorem dat_compI {own : List Nat} {cs : List Te} : Dat (.compI i0 own t cs a) := fun cf env h => by
  show (∃ d h', (match dctOf env h i0 with
    | none => (R.stuck : R Val)
    | some p => match itemsD p.2 with
      | none => .stuck
      | some items => (compK2 (compL (fun e h => (evalE cf e a h).bind unP) (fun e h => evalTs cf e cs h) (fun x e => bindT t x e) (wipeE env own)) items (h.set p.1 .dead)).bind fun v h2 => .ok v (h2.set p.1 (.dct p.2))) = .ok (.p d) h') ∨ (∀ v h', (match dctOf env h i0 with
    | none => (R.stuck : R Val)
    | some p => match itemsD p.2 with
      | none => .stuck
      | some items => (compK2 (compL (fun e h => (evalE cf e a h).bind unP) (fun e h => evalTs cf e cs h) (fun x e => bindT t x e) (wipeE env own)) items (h.set p.1 .dead)).bind fun v h2 => .ok v (h2.set p.1 (.dct p.2))) ≠ .ok v h')
  cases dctOf env h i0 with
  | none => exact .inr fun v h' z => by cases z
  | some p =>
    simp only
    cases itemsD p.2 with
    | none => exact .inr fun v h' z => by cases z
    | some items =>
      simp only
      unfold compK2
      split
      · rcases compK_inv (r := compL (fun e h => (evalE cf e a h).bind unP) (fun e h => evalTs cf e cs h) (fun x e => bindT t x e) (wipeE env own) items (h.set p.1 .dead)) with ⟨ys, h2, e1, e2⟩ | e2
        · rw [e2]; exact .inl ⟨_, _, rfl⟩
        · rw [e2]; exact .inr fun v h' z => by cases z
      · exact .inr fun v h' z => by cases z
end
end Cd
set_option Elab.async false
set_option linter.all false
set_option maxRecDepth 100000
set_option maxHeartbeats 4000000
namespace Cd
open PySem PySem.Spec PyProof.Rows L2
/-! ### constants of the module -/
/-- the hash of a tuple of ints -/
def hashT (ks : List Int) : Int := reduceHash (Builtin.Tuple.tupleHashOf (ks.map hashInt))
theorem hashT_eq (P : Program) (w : World) (ks : List Int) : tupleKeyHash (mixKind P w) (ks.map Sum.inl) = hashT ks := by
  unfold tupleKeyHash hashT
  rw [List.map_map]
  rfl
section
variable {K : PySem.W.Frag} {a t : Addr} {n : Nat} {tok : Tok} {h i : Int} {ks : List Int} {its : List Value} {xs : List V} {ts : List PyData}
theorem con_tup (hl : K.lookup a = some ⟨.type "tuple", none, .seq its.toArray n, #[]⟩) (hz : its.length ≤ 1000) (r : Vals xs its) (q : ∀ F H, RFs K F H ts xs) : ∀ F H, RF K F H (.tuple ts) (.ref a) := fun F H =>
  .tup (.inr ⟨_, its.toArray, n, hl, rfl, rfl, by rw [List.size_toArray]; exact Nat.le_trans hz (by decide), r⟩) (q F H)
theorem tab_ent (hh : h = hashT ks) (hl : K.lookup t = some ⟨.type "tuple", none, .seq its.toArray n, #[]⟩) (hi : IntsAre its ks) : TabEnt K ks i ⟨h, .ref t, .int i tok⟩ :=
  ⟨t, tok, _, its.toArray, n, rfl, rfl, fun P w => by rw [hashT_eq]; exact hh, hl, rfl, rfl, hi⟩
end
end Cd
set_option Elab.async false
set_option linter.all false
set_option maxRecDepth 100000
set_option maxHeartbeats 4000000
namespace Cd
open PySem PySem.Spec PyProof.Rows L2
/-! ### int(x), ranges down, a ≤ b ≤ c -/
section
variable {Γ : Gm} {N : List Str} {sc : Sco} {e ea eb ec : Expr} {a b c : E} {o : O2} {pos p p2 p3 : Pos} {tg : Expr} {K : PySem.W.Frag}
theorem ok_int : Op1Ok K (one (fun xs H Q => (∃ i, xs = [.int i] ∧ Q (.int i) H) ∨ ∃ k, xs = [.bl k] ∧ Q (.int (if k then 1 else 0)) H)) .int := fun s d1 d x Q r e f => by
  replace e : intS d1 = some d := e
  unfold intS at e
  split at e
  · cases e
    rw [r.int]
    exact .inl ⟨_, rfl, f.1 _ (.int _)⟩
  · cases e
    rw [r.bl]
    exact .inr ⟨_, rfl, f.1 _ (.int _)⟩
  · cases e
theorem de_int (v : NB Γ sc "int") (ha : DB Γ N sc ea a) (se : Se1 ea := by intro _; rfl) : DE Γ N sc (.Call (.Name "int" p) [ea] [] pos) (.op1 .int a) := de_op1 (fun _ _ _ X g ta h => pe_ty1 g call_int1 v (by decide +kernel) h se) (fun _ _ _ X g => ok_int) ha
theorem pe_neg1 {X : Cx} {k : Nat} : PE X (.UnaryOp .USub (.Constant (.int 1) k p2) p3) (tUn (rU fun i => .int (-i)) (fun σ H Q => Q (.int 1) H)) := pe_un un_neg pe_int
theorem di_rng3 {k : Nat} (v : NB Γ sc "range") (ha : DV Γ N sc ea a) (hb : DV Γ N sc eb b)
    (se : ∀ env, starEach [ea, eb, .UnaryOp .USub (.Constant (.int 1) k p2) p3] env = [(false, eval ea env), (false, eval eb env), (false, eval (.UnaryOp .USub (.Constant (.int 1) k p2) p3) env)] := by intro _; rfl)
    (se2 : ∀ env, starEach [eb, .UnaryOp .USub (.Constant (.int 1) k p2) p3] env = [(false, eval eb env), (false, eval (.UnaryOp .USub (.Constant (.int 1) k p2) p3) env)] := by intro _; rfl) :
    DI Γ N sc tg (.Call (.Name "range" p) [ea, eb, .UnaryOp .USub (.Constant (.int 1) k p2) p3] [] pos) (.rng3 a b) := fun n I W X g =>
  (pi_range3 (v.g.g g) (g.nob _ v.m) (pa_cons (ha n I W X g) (pa_cons (hb n I W X g) (pa_cons pe_neg1 pa_nil (by rfl)) (by rw [se2]; rfl)) (by rw [se, se2])) (by rw [se, se2]) (by rw [se2]; rfl)).imp fun σ H R q => by
    obtain ⟨env, s, eH, hr, er, _, pr⟩ := At.bind (Rel1 := PRl X.K) (ev2 := fun d env h1 => ((evalE (callF Γ.fns n) env b h1).bind unP).bind fun e h2 => rng3K d e h2) q
    refine ⟨env, s, eH, hr, er, trivial, ?_⟩
    refine PR.mono pr fun x H1 ⟨d, q⟩ => ?_
    obtain ⟨env, s, eH, hr, er, _, pr⟩ := At.bind (Rel1 := PRl X.K) (G' := fun s => PRl X.K s d x) (ev2 := fun e env h2 => rng3K d e h2) q (fun s s' l g => g.2.le l)
    refine ⟨env, s, eH, hr, er, trivial, ?_⟩
    refine PR.mono pr fun y H2 ⟨d2, env, s, e, hr, er, ⟨r1, r2⟩, pr2⟩ => ?_
    subst e
    replace pr2 : PR X.K I W s σ (rng3K d d2 s.h) (JR X.K I.ci) R := pr2
    rcases rng3K_inv d d2 s.h with ⟨i, j, rfl, rfl, g1, g2, e⟩ | e
    · rw [e] at pr2
      obtain rfl := RF.int_inv r1
      obtain rfl := RF.int_inv r2
      obtain ⟨h1, h2⟩ := rngOk_of g1
      obtain ⟨h3, h4⟩ := rngOk_of g2
      refine ⟨1, rfl, i, j, -1, _, rfl, RgC.neg h1 h2 h3 h4, ?_⟩
      exact pr2 s _ (.refl s) rfl hr jr_rngC
    · rw [e] at pr2
      exact False.elim pr2
/-- two comparisons one behind the other, of things that are looked up -/
theorem de_chain {op op' : CmpOp} {o o' : O2} {r r' : Cx → R2} (hr1 : ∀ n I W X, GX Γ n I N sc W X → OpR X (compareOp op) (r X)) (hr2 : ∀ n I W X, GX Γ n I N sc W X → OpR X (compareOp op') (r' X))
    (ok1 : ∀ X : Cx, Op2Pu X.K (r X) o) (ok2 : ∀ X : Cx, Op2Pu X.K (r' X) o') (bo : ∀ x y d, opf2 o x y = some d → ∃ k, d = .bool k)
    (hm : ∀ b c : Expr, lastMarks [op, op'] [b, c] = false)
    (ha : DP Γ N sc ea a) (hb : DP Γ N sc eb b) (hc : DP Γ N sc ec c) : DE Γ N sc (.Compare ea [op, op'] [eb, ec] pos) (.and_ (.op2d o a b) (.op2d o' b c)) := fun n I W X g =>
  (pe_chain (hr1 n I W X g) (hr2 n I W X g) (ha.run n I W X g) (hb.run n I W X g) (hc.run n I W X g) (hm eb ec)).imp fun σ H Q q => by
    obtain ⟨env, s, eH, hr, er, _, pr⟩ := q
    refine ⟨env, s, eH, hr, er, ?_⟩
    replace pr : PR X.K I W s σ ((((evalE (callF Γ.fns n) env a s.h).bind unP).bind fun x h1 => ((evalE (callF Γ.fns n) env b h1).bind unP).bind fun y h2 => ofO ((opf2 o x y).map Val.p) h2).bind fun v h1 => andK (fun h2 => ((evalE (callF Γ.fns n) env b h2).bind unP).bind fun x h3 => ((evalE (callF Γ.fns n) env c h3).bind unP).bind fun y h4 => ofO ((opf2 o' x y).map Val.p) h4) v h1) (VR X.K) Q := pr
    subst eH
    rcases ha.pure (callF Γ.fns n) env s.h with ⟨v, e⟩ | e
    case inr => rw [e] at pr; exact False.elim pr
    rcases hb.pure (callF Γ.fns n) env s.h with ⟨v2, e2⟩ | e2
    case inr =>
      cases v with
      | ref m => rw [e] at pr; exact False.elim pr
      | p d1 =>
        rw [e] at pr
        simp only [R.bind_ok, unP, e2] at pr
        exact False.elim pr
    cases v with
    | ref m => rw [e] at pr; exact False.elim pr
    | p d1 =>
      cases v2 with
      | ref m =>
        rw [e] at pr
        simp only [R.bind_ok, unP, e2] at pr
        exact False.elim pr
      | p d2 =>
        rw [e] at pr
        simp only [R.bind_ok, unP, e2] at pr
        show (match evalE (callF Γ.fns n) env a s.h with
        | .ok (.p d) h' => h' = s.h ∧ ∀ x, RF X.K s.F s.H d x → _
        | _ => False)
        rw [e]
        refine ⟨rfl, fun x rx => ⟨env, s, rfl, hr, er, ?_⟩⟩
        show (match evalE (callF Γ.fns n) env b s.h with
        | .ok (.p d) h' => h' = s.h ∧ ∀ x, RF X.K s.F s.H d x → _
        | _ => False)
        rw [e2]
        refine ⟨rfl, fun y ry => ?_⟩
        cases e3 : opf2 o d1 d2 with
        | none => rw [e3] at pr; exact False.elim pr
        | some d3 =>
          rw [e3] at pr
          obtain ⟨k, rfl⟩ := bo _ _ _ e3
          refine ok1 X s d1 d2 _ x y _ (.inl rx) (.inl ry) e3 fun z rz => ?_
          obtain rfl : z = .bl k := RF.bl_inv rz
          refine ⟨k, rfl, ?_⟩
          cases k with
          | false =>
            rw [if_neg (by decide)]
            exact pr s _ (.refl s) rfl hr (.bl _)
          | true =>
            rw [if_pos rfl]
            refine ⟨env, s, rfl, hr, er, ?_⟩
            show (match evalE (callF Γ.fns n) env c s.h with
            | .ok (.p d) h' => h' = s.h ∧ ∀ x, RF X.K s.F s.H d x → _
            | _ => False)
            simp only [Option.map_some, ofO_some, R.bind_ok, andK, e2, unP] at pr
            rcases hc.pure (callF Γ.fns n) env s.h with ⟨v4, e4⟩ | e4
            case inr => rw [e4] at pr; exact False.elim pr
            rw [e4] at pr ⊢
            cases v4 with
            | ref m => exact False.elim pr
            | p d4 =>
              simp only [R.bind_ok, unP] at pr
              refine ⟨rfl, fun w rw' => ?_⟩
              cases e5 : opf2 o' d2 d4 with
              | none => rw [e5] at pr; exact False.elim pr
              | some d5 =>
                rw [e5] at pr
                exact ok2 X s d2 d4 d5 y w _ (.inl ry) (.inl rw') e5 fun z rz => pr s _ (.refl s) rfl hr rz
theorem de_leLe (ha : DP Γ N sc ea a) (hb : DP Γ N sc eb b) (hc : DP Γ N sc ec c) : DE Γ N sc (.Compare ea [.LtE, .LtE] [eb, ec] pos) (.and_ (.op2d .le a b) (.op2d .le b c)) :=
  de_chain (r := fun X => rCmp X.K (fun i j => decide (i ≤ j)) fun d e => !PySem.W.dataLt e d) (r' := fun X => rCmp X.K (fun i j => decide (i ≤ j)) fun d e => !PySem.W.dataLt e d) (fun _ _ _ X g => op_le.or (op_leG g.hu)) (fun _ _ _ X g => op_le.or (op_leG g.hu)) (fun _ => ok_cmp fun _ _ => rfl) (fun _ => ok_cmp fun _ _ => rfl) (fun _ _ _ e => cmp_bool e) (fun b c => by simp only [lastMarks]; exact nomark c) ha hb hc
end
end Cd
set_option Elab.async false
set_option linter.all false
set_option maxRecDepth 100000
set_option maxHeartbeats 4000000
namespace Cd
open PySem L2
/-! ### small programs, printed by gen2.py -/
/-- Round.__init__: 0 self, 1 chips, 2 forced, 3 first, 4 many, 5 bet -/
def b0 : List S := [.newFld 0 0 (.comp [4, 5] (.tup [(.name 4), (.name 5)]) (.zip (.var 1) (.var 2)) [] (.op2d .sub (.var 4) (.var 5))), .newFld 0 1 (.op1 .list (.var 2)), .newFld 0 2 (.op2b .rep (.lst [(.lit (.bool false))]) (.op1 .len (.var 1))), .newFld 0 3 (.op2b .rep (.lst [(.lit (.bool false))]) (.op1 .len (.var 1))), .setFld 0 4 (.op1 .max (.var 2)), .setFld 0 5 (.op2 .max2 (.op1 .max (.var 2)) (.lit (.int 1))), .setFld 0 6 (.var 3), .expr (.meth 0 2 0 [])]
def d0 : FnD := ⟨4, 6, b0⟩
/-- Round.must_act: 0 self, 1 seat -/
def b1 : List S := [.if_ (.or_ (.val (.op2b .ix (.fld 0 2) (.var 1))) (.val (.op2 .eq (.op2b .ix (.fld 0 0) (.var 1)) (.lit (.int 0))))) [.ret (.lit (.bool false))] [], .ret (.or_ (.not_ (.op2b .ix (.fld 0 3) (.var 1))) (.op2 .lt (.op2b .ix (.fld 0 1) (.var 1)) (.fld 0 4)))]
def d1 : FnD := ⟨2, 2, b1⟩
/-- Round.find_turn: 0 self, 1 many, 2 here, 3 seats, 4 asked, 5 seat -/
def b2 : List S := [.set 1 (.op1 .len (.fld 0 1)), .set 2 (.fld 0 6), .setFld 0 6 (.lit .none), .if_ (.val (.op2 .gt (.op2b .count (.fld 0 2) (.lit (.bool false))) (.lit (.int 1)))) [.set 3 (.op2d .add (.op2d .from_ (.var 2) (.var 1)) (.op1 .range (.var 2))), .set 4 (.comp [5] (.name 5) (.e (.var 3)) [(.val (.meth 0 1 0 [(.var 5)]))] (.var 5)), .if_ (.val (.var 4)) [.setFld 0 6 (.op2b .ix (.var 4) (.lit (.int 0)))] []] []]
def d2 : FnD := ⟨1, 6, b2⟩
/-- Round.turn: 0 self -/
def b3 : List S := [.ret (.fld 0 6)]
def d3 : FnD := ⟨1, 1, b3⟩
/-- Round.seat_now: 0 self -/
def b4 : List S := [.if_ (.val (.op1 .isNone (.fld 0 6))) [.raise_ 4 []] [], .ret (.fld 0 6)]
def d4 : FnD := ⟨1, 1, b4⟩
/-- Round.end_turn: 0 self, 1 seat -/
def b5 : List S := [.setIx (.fld 0 3) (.var 1) (.lit (.bool true)), .setFld 0 6 (.op2d .add (.var 1) (.lit (.int 1))), .if_ (.val (.op2 .eq (.fld 0 6) (.op1 .len (.fld 0 1)))) [.setFld 0 6 (.lit (.int 0))] [], .expr (.meth 0 2 0 [])]
def d5 : FnD := ⟨2, 2, b5⟩
/-- Round.lay: 0 self, 1 seat, 2 many -/
def b6 : List S := [.setIx (.fld 0 0) (.var 1) (.op2d .sub (.op2b .ix (.fld 0 0) (.var 1)) (.var 2)), .setIx (.fld 0 1) (.var 1) (.op2d .add (.op2b .ix (.fld 0 1) (.var 1)) (.var 2))]
def d6 : FnD := ⟨3, 3, b6⟩
/-- Round.fold: 0 self, 1 seat -/
def b7 : List S := [.set 1 (.meth 0 4 0 []), .setIx (.fld 0 2) (.var 1) (.lit (.bool true)), .expr (.meth 0 5 0 [(.var 1)])]
def d7 : FnD := ⟨1, 2, b7⟩
/-- Round.call: 0 self, 1 seat -/
def b8 : List S := [.set 1 (.meth 0 4 0 []), .expr (.meth 0 6 0 [(.var 1), (.op2 .min2 (.op2d .sub (.fld 0 4) (.op2b .ix (.fld 0 1) (.var 1))) (.op2b .ix (.fld 0 0) (.var 1)))]), .expr (.meth 0 5 0 [(.var 1)])]
def d8 : FnD := ⟨1, 2, b8⟩
/-- Round.raise_to: 0 self, 1 bet, 2 seat, 3 more -/
def b9 : List S := [.set 2 (.meth 0 4 0 []), .set 3 (.op2d .sub (.var 1) (.op2b .ix (.fld 0 1) (.var 2))), .if_ (.or_ (.val (.op2 .le (.var 1) (.fld 0 4))) (.val (.op2 .gt (.var 3) (.op2b .ix (.fld 0 0) (.var 2))))) [.raise_ 3 []] [], .if_ (.and_ (.val (.op2 .lt (.var 1) (.op2d .add (.fld 0 4) (.fld 0 5)))) (.val (.op2 .lt (.var 3) (.op2b .ix (.fld 0 0) (.var 2))))) [.raise_ 3 []] [], .setFld 0 5 (.op2 .max2 (.fld 0 5) (.op2d .sub (.var 1) (.fld 0 4))), .setFld 0 4 (.var 1), .expr (.meth 0 6 0 [(.var 2), (.var 3)]), .newFld 0 3 (.op2b .rep (.lst [(.lit (.bool false))]) (.op1 .len (.fld 0 1))), .expr (.meth 0 5 0 [(.var 2)])]
def d9 : FnD := ⟨2, 4, b9⟩
/-- Round.bets: 0 self -/
def b10 : List S := [.ret (.op1 .tuple (.fld 0 1))]
def d10 : FnD := ⟨1, 1, b10⟩
/-- Round.chips: 0 self -/
def b11 : List S := [.ret (.op1 .tuple (.fld 0 0))]
def d11 : FnD := ⟨1, 1, b11⟩
/-- Round.folded: 0 self -/
def b12 : List S := [.ret (.op1 .tuple (.fld 0 2))]
def d12 : FnD := ⟨1, 1, b12⟩
/-- _law_draw: 0 _law_script, 1 _law_town, 2 _law_many, 3 _law_k, 4 _law_cell, 5 _law_number, 6 _law_more -/
def b13 : List S := [.app (.var 1) (.lit (.int 0)), .set 3 (.op1 .len (.var 1)), .set 4 (.lit (.int 0)), .if_ (.val (.var 0)) [.set 4 (.op2b .ix (.var 0) (.op2d .mod (.var 3) (.op1 .len (.var 0))))] [], .set 5 (.op2d .mod (.op2d .add (.var 4) (.op2d .mul (.lit (.int 104729)) (.var 3))) (.lit (.int 4294967291))), .set 5 (.op2d .mod (.op2d .mul (.op2d .mod (.op2d .mul (.var 5) (.var 5)) (.lit (.int 4294967279))) (.lit (.int 48271))) (.lit (.int 4294967291))), .set 6 (.op2d .mod (.op2d .mul (.op2d .mod (.op2d .mul (.var 5) (.var 5)) (.lit (.int 4294967279))) (.lit (.int 69621))) (.lit (.int 4294967291))), .ret (.op2d .mod (.op2d .add (.op2d .mul (.op2d .fdiv (.var 5) (.lit (.int 64))) (.lit (.int 67108864))) (.op2d .fdiv (.var 6) (.lit (.int 64)))) (.var 2))]
def d13 : FnD := ⟨3, 7, b13⟩
/-- _law_pick: 0 _law_script, 1 _law_town, 2 _law_some -/
def b14 : List S := [.ret (.op2 .ix (.var 2) (.call 13 [(.var 0), (.var 1), (.op1 .len (.var 2))]))]
def d14 : FnD := ⟨3, 3, b14⟩
/-- _law_setup: 0 _law_script, 1 _law_town, 2 _law_seats, 3 _law_chips, 4 _law_forced, 5 _law_k, 6 _law_many -/
def b15 : List S := [.set 2 (.op2d .add (.lit (.int 2)) (.call 13 [(.var 0), (.var 1), (.lit (.int 5))])), .set 3 (.op1 .tuple (.comp [5] (.name 5) (.rng1 (.var 2)) [] (.op2d .add (.call 14 [(.var 0), (.var 1), (.lst [(.lit (.int 0)), (.lit (.int 5)), (.lit (.int 20)), (.lit (.int 40)), (.lit (.int 100))])]) (.call 13 [(.var 0), (.var 1), (.lit (.int 9))])))), .set 4 (.op1 .tuple (.comp [6] (.name 6) (.e (.var 3)) [] (.op2 .min2 (.var 6) (.call 14 [(.var 0), (.var 1), (.lst [(.lit (.int 0)), (.lit (.int 0)), (.lit (.int 1)), (.lit (.int 2)), (.lit (.int 5))])])))), .ret (.tup [(.var 3), (.var 4), (.call 13 [(.var 0), (.var 1), (.var 2)])])]
def d15 : FnD := ⟨2, 7, b15⟩
/-- _law_word: 0 _law_script, 1 _law_town, 2 _law_table, 3 _law_seat, 4 _law_high, 5 _law_word_here, 6 _law_bet -/
def b16 : List S := [.set2 3 4 (.meth 0 3 2 []) (.op1 .max (.meth 0 10 2 [])), .set 5 (.call 14 [(.var 0), (.var 1), (.lst [(.lit (.str ("call" : Str))), (.lit (.str ("call" : Str))), (.lit (.str ("raise" : Str))), (.lit (.str ("raise" : Str))), (.lit (.str ("fold" : Str)))])]), .set 6 (.op2d .add (.var 4) (.call 14 [(.var 0), (.var 1), (.lst [(.lit (.int 0)), (.lit (.int 1)), (.lit (.int 2)), (.lit (.int 5)), (.lit (.int 10)), (.lit (.int 30))])])), .if_ (.and_ (.val (.op1 .notNone (.var 3))) (.val (.op2 .eq (.call 13 [(.var 0), (.var 1), (.lit (.int 4))]) (.lit (.int 0))))) [.set 6 (.op2d .add (.op2d .add (.op2b .ix (.meth 0 10 2 []) (.var 3)) (.op2b .ix (.meth 0 11 2 []) (.var 3))) (.call 14 [(.var 0), (.var 1), (.lst [(.lit (.int 0)), (.lit (.int 0)), (.lit (.int 1)), (.op1 .neg (.lit (.int 1)))])]))] [], .ret (.tup [(.var 5), (.var 6)])]
def d16 : FnD := ⟨3, 7, b16⟩
/-- _law_do: 0 _law_table, 1 _law_word_here, 2 _law_bet -/
def b17 : List S := [.try_ [.if_ (.val (.op2 .eq (.var 1) (.lit (.str ("fold" : Str))))) [.expr (.meth 0 7 0 [])] [.if_ (.val (.op2 .eq (.var 1) (.lit (.str ("call" : Str))))) [.expr (.meth 0 8 0 [])] [.expr (.meth 0 9 0 [(.var 2)])]]] [(3, [.ret (.lit (.str ("BadDeed" : Str)))]), (4, [.ret (.lit (.str ("Over" : Str)))])], .ret (.lit (.str ("" : Str)))]
def d17 : FnD := ⟨3, 3, b17⟩
/-- _law_state: 0 _law_table -/
def b18 : List S := [.ret (.tup [(.meth 0 3 0 []), (.meth 0 10 0 []), (.meth 0 11 0 []), (.meth 0 12 0 [])])]
def d18 : FnD := ⟨1, 1, b18⟩
/-- _law_bad_raises: 0 _law_table, 1 _law_seat, 2 _law_high, 3 _law_most -/
def b19 : List S := [.set2 1 2 (.meth 0 3 0 []) (.op1 .max (.meth 0 10 0 [])), .if_ (.val (.op1 .isNone (.var 1))) [.ret (.lst [(.lit (.int 0)), (.var 2), (.op2d .add (.var 2) (.lit (.int 1)))])] [], .set 3 (.op2d .add (.op2b .ix (.meth 0 10 0 []) (.var 1)) (.op2b .ix (.meth 0 11 0 []) (.var 1))), .ret (.lst [(.lit (.int 0)), (.var 2), (.op2d .sub (.var 2) (.lit (.int 1))), (.op2d .add (.op2 .max2 (.var 2) (.var 3)) (.lit (.int 1))), (.op2d .add (.op2 .max2 (.var 2) (.var 3)) (.lit (.int 50)))])]
def d19 : FnD := ⟨1, 4, b19⟩
/-- _law_refused: 0 _law_table, 1 _law_before, 2 _law_due, 3 _law_bet -/
def b20 : List S := [.set 1 (.call 18 [(.var 0)]), .set 2 (.ite (.val (.op1 .isNone (.meth 0 3 0 []))) (.lit (.str ("Over" : Str))) (.lit (.str ("BadDeed" : Str)))), .for_ (.name 3) (.e (.call 19 [(.var 0)])) [.if_ (.or_ (.val (.op2 .ne (.call 17 [(.var 0), (.lit (.str ("raise" : Str))), (.var 3)]) (.var 2))) (.val (.op2 .ne (.call 18 [(.var 0)]) (.var 1)))) [.ret (.lit (.bool false))] []], .ret (.lit (.bool true))]
def d20 : FnD := ⟨1, 4, b20⟩
/-- law: 0 _law_script, 1 _law_town, 2 _law_k, 3 _law_chips, 4 _law_forced, 5 _law_first, 6 _law_one, 7 _law_other, 8 _law_j, 9 _law_word_here, 10 _law_bet -/
def b21 : List S := [.set 1 (.mk (.lst [])), .for_ (.name 2) (.rng1 (.lit (.int 4))) [.unpack (.tup [(.name 3), (.name 4), (.name 5)]) (.call 15 [(.var 0), (.var 1)]), .set2 6 7 (.new 0 0 [(.var 3), (.var 4), (.var 5)]) (.new 0 0 [(.var 3), (.var 4), (.var 5)]), .for_ (.name 8) (.rng1 (.lit (.int 25))) [.if_ (.and_ (.val (.call 13 [(.var 0), (.var 1), (.lit (.int 2))])) (.not_ (.val (.call 20 [(.var 7)])))) [.ret (.lit (.bool false))] [], .unpack (.tup [(.name 9), (.name 10)]) (.call 16 [(.var 0), (.var 1), (.var 6)]), .if_ (.val (.op2 .ne (.call 17 [(.var 6), (.var 9), (.var 10)]) (.call 17 [(.var 7), (.var 9), (.var 10)]))) [.ret (.lit (.bool false))] [], .if_ (.or_ (.val (.op2 .ne (.call 18 [(.var 6)]) (.call 18 [(.var 7)]))) (.val (.op2 .ne (.call 18 [(.var 6)]) (.call 18 [(.var 6)])))) [.ret (.lit (.bool false))] []], .while_ (.val (.op1 .notNone (.meth 0 3 6 []))) [.expr (.meth 0 8 6 []), .expr (.meth 0 8 7 [])], .if_ (.val (.op2 .ne (.call 18 [(.var 6)]) (.call 18 [(.var 7)]))) [.ret (.lit (.bool false))] [], .for_ (.name 9) (.e (.tup [(.lit (.str ("call" : Str))), (.lit (.str ("fold" : Str))), (.lit (.str ("raise" : Str)))])) [.if_ (.or_ (.val (.op2 .ne (.call 17 [(.var 6), (.var 9), (.lit (.int 99))]) (.lit (.str ("Over" : Str))))) (.val (.op2 .ne (.call 18 [(.var 6)]) (.call 18 [(.var 7)])))) [.ret (.lit (.bool false))] []]], .ret (.lit (.bool true))]
def d21 : FnD := ⟨1, 11, b21⟩
/-- _law_deed_holds: 0 _law_before, 1 _law_after, 2 _law_word_here, 3 _law_bet, 4 _law_seat, 5 _law_bets, 6 _law_chips, 7 _law_gone, 8 _law_laid -/
def b22 : List S := [.unpack (.tup [(.name 4), (.name 5), (.name 6), (.name 7)]) (.var 0), .set 8 (.op2d .sub (.op2b .ix (.op2b .ix (.var 1) (.lit (.int 1))) (.var 4)) (.op2b .ix (.var 5) (.var 4))), .if_ (.val (.op2 .eq (.var 2) (.lit (.str ("fold" : Str))))) [.ret (.and_ (.op2 .eq (.var 8) (.lit (.int 0))) (.op2 .eq (.op2b .ix (.var 1) (.lit (.int 3))) (.op2d .add (.op2d .add (.op3b (.slice false true) (.var 7) (.lit .none) (.var 4)) (.tup [(.lit (.bool true))])) (.op3b (.slice true false) (.var 7) (.op2d .addI (.var 4) (.lit (.int 1))) (.lit .none)))))] [], .if_ (.val (.op2 .ne (.op2b .ix (.var 1) (.lit (.int 3))) (.var 7))) [.ret (.lit (.bool false))] [], .if_ (.val (.op2 .eq (.var 2) (.lit (.str ("call" : Str))))) [.ret (.op2 .eq (.var 8) (.op2 .min2 (.op2d .sub (.op1 .max (.var 5)) (.op2b .ix (.var 5) (.var 4))) (.op2b .ix (.var 6) (.var 4))))] [], .ret (.and_ (.op2 .eq (.op2b .ix (.op2b .ix (.var 1) (.lit (.int 1))) (.var 4)) (.var 3)) (.op2 .gt (.var 3) (.op1 .max (.var 5))))]
def d22 : FnD := ⟨4, 9, b22⟩
/-- law: 0 _law_script, 1 _law_town, 2 _law_k, 3 _law_chips, 4 _law_forced, 5 _law_first, 6 _law_table, 7 _law_state_here, 8 _law_j, 9 _law_word_here, 10 _law_bet, 11 _law_told, 12 _law_after, 13 _law_seat, 14 _law_other, 15 _law_same, 16 _law_one, 17 _law_two -/
def b23 : List S := [.set 1 (.mk (.lst [])), .for_ (.name 2) (.rng1 (.lit (.int 5))) [.unpack (.tup [(.name 3), (.name 4), (.name 5)]) (.call 15 [(.var 0), (.var 1)]), .set 6 (.new 0 0 [(.var 3), (.var 4), (.var 5)]), .set 7 (.call 18 [(.var 6)]), .if_ (.or_ (.val (.op2 .ne (.op2b .ix (.var 7) (.lit (.int 1))) (.var 4))) (.val (.op2 .ne (.op2b .ix (.var 7) (.lit (.int 3))) (.op2d .repT (.tup [(.lit (.bool false))]) (.op1 .len (.var 3)))))) [.ret (.lit (.bool false))] [], .for_ (.name 8) (.rng1 (.lit (.int 30))) [.unpack (.tup [(.name 9), (.name 10)]) (.call 16 [(.var 0), (.var 1), (.var 6)]), .set 11 (.call 17 [(.var 6), (.var 9), (.var 10)]), .set 12 (.call 18 [(.var 6)]), .if_ (.val (.op2 .ne (.op2 .eq (.var 11) (.lit (.str ("Over" : Str)))) (.op1 .isNone (.op2b .ix (.var 7) (.lit (.int 0)))))) [.ret (.lit (.bool false))] [], .if_ (.or_ (.val (.op2 .ne (.comp [16, 17] (.tup [(.name 16), (.name 17)]) (.zip (.op2b .ix (.var 12) (.lit (.int 1))) (.op2b .ix (.var 12) (.lit (.int 2)))) [] (.op2d .add (.var 16) (.var 17))) (.op1 .list (.var 3)))) (.val (.op2 .lt (.op1 .min (.op2b .ix (.var 12) (.lit (.int 2)))) (.lit (.int 0))))) [.ret (.lit (.bool false))] [], .if_ (.val (.op2 .ne (.var 11) (.lit (.str ("" : Str))))) [.if_ (.val (.op2 .ne (.var 12) (.var 7))) [.ret (.lit (.bool false))] [], .cont] [], .set 13 (.op2b .ix (.var 7) (.lit (.int 0))), .for_ (.name 14) (.rng1 (.op1 .len (.var 3))) [.set 15 (.and_ (.op2 .eq (.op2b .ix (.op2b .ix (.var 12) (.lit (.int 1))) (.var 14)) (.op2b .ix (.op2b .ix (.var 7) (.lit (.int 1))) (.var 14))) (.op2 .eq (.op2b .ix (.op2b .ix (.var 12) (.lit (.int 2))) (.var 14)) (.op2b .ix (.op2b .ix (.var 7) (.lit (.int 2))) (.var 14)))), .if_ (.and_ (.val (.op2 .ne (.var 14) (.var 13))) (.not_ (.val (.var 15)))) [.ret (.lit (.bool false))] []], .if_ (.or_ (.val (.op2 .lt (.op2b .ix (.op2b .ix (.var 12) (.lit (.int 1))) (.var 13)) (.op2b .ix (.op2b .ix (.var 7) (.lit (.int 1))) (.var 13)))) (.not_ (.val (.call 22 [(.var 7), (.var 12), (.var 9), (.var 10)])))) [.ret (.lit (.bool false))] [], .set 7 (.var 12)]], .ret (.lit (.bool true))]
def d23 : FnD := ⟨1, 18, b23⟩
/-- _law_order: 0 _law_many, 1 _law_first -/
def b24 : List S := [.ret (.op2d .add (.op2d .from_ (.var 1) (.var 0)) (.op1 .range (.var 1)))]
def d24 : FnD := ⟨2, 2, b24⟩
/-- _law_raised: 0 _law_script, 1 _law_town, 2 _law_chips, 3 _law_forced, 4 _law_first, 5 _law_table, 6 _law_seats, 7 _law_at, 8 _law_high, 9 _law_many, 10 _law_bets, 11 _law_seat, 12 _law_other -/
def b25 : List S := [.set2 5 6 (.new 0 0 [(.var 2), (.var 3), (.var 4)]) (.call 24 [(.op1 .len (.var 2)), (.var 4)]), .set 7 (.call 13 [(.var 0), (.var 1), (.op1 .len (.var 6))]), .set2 8 9 (.op1 .max (.var 3)) (.op1 .len (.var 2)), .set 10 (.mk (.op1 .list (.var 3))), .for_ (.name 11) (.e (.op3b (.slice false true) (.var 6) (.lit .none) (.var 7))) [.if_ (.val (.op2 .gt (.op2b .ix (.var 2) (.var 11)) (.op2b .ix (.var 10) (.var 11)))) [.setIx (.var 10) (.var 11) (.op2 .min2 (.var 8) (.op2b .ix (.var 2) (.var 11))), .expr (.meth 0 8 5 [])] []], .set 11 (.op2b .ix (.var 6) (.var 7)), .if_ (.or_ (.val (.op2 .le (.op2b .ix (.var 2) (.var 11)) (.op2b .ix (.var 10) (.var 11)))) (.val (.op2 .le (.op2b .ix (.var 2) (.var 11)) (.var 8)))) [.ret (.lit (.bool true))] [], .setIx (.var 10) (.var 11) (.op2b .ix (.var 2) (.var 11)), .if_ (.or_ (.val (.op2 .ne (.meth 0 3 5 []) (.var 11))) (.val (.op2 .ne (.call 17 [(.var 5), (.lit (.str ("raise" : Str))), (.op2b .ix (.var 2) (.var 11))]) (.lit (.str ("" : Str)))))) [.ret (.lit (.bool false))] [], .for_ (.name 12) (.e (.call 24 [(.var 9), (.ite (.val (.op2 .lt (.op2d .add (.var 11) (.lit (.int 1))) (.var 9))) (.op2d .add (.var 11) (.lit (.int 1))) (.lit (.int 0)))])) [.if_ (.and_ (.val (.op2 .ne (.var 12) (.var 11))) (.val (.op2 .gt (.op2b .ix (.var 2) (.var 12)) (.op2b .ix (.var 10) (.var 12))))) [.if_ (.val (.op2 .ne (.meth 0 3 5 []) (.var 12))) [.ret (.lit (.bool false))] [], .expr (.meth 0 8 5 []), .setIx (.var 10) (.var 12) (.op2 .min2 (.op2b .ix (.var 2) (.var 11)) (.op2b .ix (.var 2) (.var 12)))] []], .ret (.and_ (.op1 .isNone (.meth 0 3 5 [])) (.and_ (.op2 .eq (.meth 0 10 5 []) (.op1 .tuple (.var 10))) (.op2 .notIn (.lit (.bool true)) (.meth 0 12 5 []))))]
def d25 : FnD := ⟨5, 13, b25⟩
/-- law: 0 _law_script, 1 _law_town, 2 _law_k, 3 _law_chips, 4 _law_forced, 5 _law_first, 6 _law_table, 7 _law_high, 8 _law_seat, 9 _law_due, 10 _law_many, 11 _law_bet -/
def b26 : List S := [.set 1 (.mk (.lst [])), .for_ (.name 2) (.rng1 (.lit (.int 10))) [.unpack (.tup [(.name 3), (.name 4), (.name 5)]) (.call 15 [(.var 0), (.var 1)]), .set2 6 7 (.new 0 0 [(.var 3), (.var 4), (.var 5)]) (.op1 .max (.var 4)), .for_ (.name 8) (.e (.call 24 [(.op1 .len (.var 3)), (.var 5)])) [.if_ (.val (.op2 .gt (.op2b .ix (.var 3) (.var 8)) (.op2b .ix (.var 4) (.var 8)))) [.if_ (.val (.op2 .ne (.meth 0 3 6 []) (.var 8))) [.ret (.lit (.bool false))] [], .expr (.meth 0 8 6 [])] []], .set 9 (.op1 .tuple (.comp [10] (.name 10) (.e (.var 3)) [] (.op2 .min2 (.var 7) (.var 10)))), .if_ (.or_ (.val (.op1 .notNone (.meth 0 3 6 []))) (.or_ (.val (.op2 .ne (.meth 0 10 6 []) (.var 9))) (.val (.op2 .ne (.meth 0 12 6 []) (.op2d .repT (.tup [(.lit (.bool false))]) (.op1 .len (.var 3))))))) [.ret (.lit (.bool false))] [], .if_ (.val (.op2 .ne (.meth 0 11 6 []) (.op1 .tuple (.comp [10, 11] (.tup [(.name 10), (.name 11)]) (.zip (.var 3) (.var 9)) [] (.op2d .sub (.var 10) (.var 11)))))) [.ret (.lit (.bool false))] [], .if_ (.not_ (.val (.call 25 [(.var 0), (.var 1), (.var 3), (.var 4), (.var 5)]))) [.ret (.lit (.bool false))] []], .ret (.lit (.bool true))]
def d26 : FnD := ⟨1, 12, b26⟩
/-- pots: 0 bets, 1 folded, 2 seats, 3 levels, 4 found, 5 before, 6 level, 7 many, 8 seat, 9 gone, 10 bet -/
def b27 : List S := [.set 2 (.comp [8, 9] (.tup [(.name 8), (.name 9)]) (.enum (.var 1)) [(.not_ (.val (.var 9)))] (.var 8)), .set 3 (.op1 .sortedSet (.comp [8] (.name 8) (.e (.var 2)) [] (.op2b .ix (.var 0) (.var 8)))), .set 4 (.mk (.lst [])), .set 5 (.lit (.int 0)), .for_ (.name 6) (.e (.var 3)) [.set 7 (.op1 .sum (.comp [10] (.name 10) (.e (.var 0)) [] (.op2d .sub (.op2 .min2 (.var 10) (.var 6)) (.op2 .min2 (.var 10) (.var 5))))), .if_ (.val (.op2 .eq (.var 6) (.op2b .ix (.var 3) (.op1 .neg (.lit (.int 1)))))) [.set 7 (.op1 .sum (.comp [10] (.name 10) (.e (.var 0)) [] (.op2d .sub (.var 10) (.op2 .min2 (.var 10) (.var 5)))))] [], .if_ (.val (.op2 .gt (.var 7) (.lit (.int 0)))) [.app (.var 4) (.tup [(.var 7), (.op1 .tuple (.comp [8] (.name 8) (.e (.var 2)) [(.val (.op2 .ge (.op2b .ix (.var 0) (.var 8)) (.var 6)))] (.var 8)))])] [], .set 5 (.var 6)], .ret (.op1 .tuple (.var 4))]
def d27 : FnD := ⟨2, 11, b27⟩
/-- _law_times: 0 _law_row, 1 _law_times_here, 2 _law_one -/
def b28 : List S := [.ret (.op1 .tuple (.comp [2] (.name 2) (.e (.var 0)) [] (.op2d .mul (.var 1) (.var 2))))]
def d28 : FnD := ⟨2, 3, b28⟩
/-- law: 0 _law_script, 1 _law_town, 2 _law_k, 3 _law_chips, 4 _law_forced, 5 _law_first, 6 _law_times_here, 7 _law_one, 8 _law_other, 9 _law_j, 10 _law_word_here, 11 _law_bet, 12 _law_rows, 13 _law_many, 14 _law_some -/
def b29 : List S := [.set 1 (.mk (.lst [])), .for_ (.name 2) (.rng1 (.lit (.int 5))) [.unpack (.tup [(.name 3), (.name 4), (.name 5)]) (.call 15 [(.var 0), (.var 1)]), .set 6 (.op2d .add (.lit (.int 2)) (.call 13 [(.var 0), (.var 1), (.lit (.int 4))])), .set2 7 8 (.new 0 0 [(.var 3), (.var 4), (.var 5)]) (.new 0 0 [(.call 28 [(.var 3), (.var 6)]), (.call 28 [(.var 4), (.var 6)]), (.var 5)]), .for_ (.name 9) (.rng1 (.lit (.int 25))) [.unpack (.tup [(.name 10), (.name 11)]) (.call 16 [(.var 0), (.var 1), (.var 7)]), .if_ (.val (.op2 .ne (.call 17 [(.var 7), (.var 10), (.var 11)]) (.call 17 [(.var 8), (.var 10), (.op2d .mul (.var 11) (.var 6))]))) [.ret (.lit (.bool false))] [], .if_ (.or_ (.val (.op2 .ne (.meth 0 3 7 []) (.meth 0 3 8 []))) (.val (.op2 .ne (.meth 0 12 7 []) (.meth 0 12 8 [])))) [.ret (.lit (.bool false))] [], .if_ (.or_ (.val (.op2 .ne (.call 28 [(.meth 0 10 7 []), (.var 6)]) (.meth 0 10 8 []))) (.val (.op2 .ne (.call 28 [(.meth 0 11 7 []), (.var 6)]) (.meth 0 11 8 [])))) [.ret (.lit (.bool false))] [], .set 12 (.call 27 [(.meth 0 10 7 []), (.meth 0 12 7 [])]), .if_ (.val (.op2 .ne (.call 27 [(.meth 0 10 8 []), (.meth 0 12 8 [])]) (.op1 .tuple (.comp [13, 14] (.tup [(.name 13), (.name 14)]) (.e (.var 12)) [] (.tup [(.op2d .mul (.var 6) (.var 13)), (.var 14)]))))) [.ret (.lit (.bool false))] [], .if_ (.val (.op2 .ne (.op1 .sum (.comp [13, 14] (.tup [(.name 13), (.name 14)]) (.e (.var 12)) [] (.var 13))) (.op1 .sum (.meth 0 10 7 [])))) [.ret (.lit (.bool false))] []]], .ret (.lit (.bool true))]
def d29 : FnD := ⟨1, 15, b29⟩
/-- _law_again: 0 _law_start, 1 _law_deeds, 2 _law_table, 3 _law_word_here, 4 _law_bet -/
def b30 : List S := [.set 2 (.new 0 0 [(.op2b .ix (.var 0) (.lit (.int 0))), (.op2b .ix (.var 0) (.lit (.int 1))), (.op2b .ix (.var 0) (.lit (.int 2)))]), .forB (.tup [(.name 3), (.name 4)]) 1 [.expr (.call 17 [(.var 2), (.var 3), (.var 4)])], .ret (.var 2)]
def d30 : FnD := ⟨2, 5, b30⟩
/-- _law_may: 0 _law_table, 1 _law_raises, 2 _law_bet, 3 _law_seat, 4 _law_high, 5 _law_most -/
def b31 : List S := [.set2 3 4 (.meth 0 3 0 []) (.op1 .max (.meth 0 10 0 [])), .set 5 (.op2d .add (.op2b .ix (.meth 0 10 0 []) (.var 3)) (.op2b .ix (.meth 0 11 0 []) (.var 3))), .if_ (.or_ (.val (.op2 .le (.var 2) (.var 4))) (.val (.op2 .gt (.var 2) (.var 5)))) [.ret (.lit (.bool false))] [], .ret (.or_ (.op2 .eq (.var 2) (.var 5)) (.op2 .ge (.op2d .sub (.var 2) (.var 4)) (.op1 .max (.var 1))))]
def d31 : FnD := ⟨3, 6, b31⟩
/-- _law_bets_hold: 0 _law_start, 1 _law_deeds, 2 _law_raises, 3 _law_table, 4 _law_seat, 5 _law_high, 6 _law_most, 7 _law_bet, 8 _law_other, 9 _law_before -/
def b32 : List S := [.set 3 (.call 30 [(.var 0), (.var 1)]), .set2 4 5 (.meth 0 3 3 []) (.op1 .max (.meth 0 10 3 [])), .set 6 (.op2d .add (.op2b .ix (.meth 0 10 3 []) (.var 4)) (.op2b .ix (.meth 0 11 3 []) (.var 4))), .for_ (.name 7) (.e (.tup [(.op2d .sub (.var 5) (.lit (.int 1))), (.var 5), (.op2d .add (.var 5) (.lit (.int 1))), (.op2d .sub (.op2d .add (.var 5) (.op1 .max (.var 2))) (.lit (.int 1))), (.op2d .add (.var 5) (.op1 .max (.var 2))), (.op2d .sub (.var 6) (.lit (.int 1))), (.var 6), (.op2d .add (.var 6) (.lit (.int 1)))])) [.set 8 (.call 30 [(.var 0), (.var 1)]), .set 9 (.call 18 [(.var 8)]), .if_ (.val (.op2 .ne (.call 17 [(.var 8), (.lit (.str ("raise" : Str))), (.var 7)]) (.ite (.val (.call 31 [(.var 3), (.var 2), (.var 7)])) (.lit (.str ("" : Str))) (.lit (.str ("BadDeed" : Str)))))) [.ret (.lit (.bool false))] [], .if_ (.not_ (.val (.call 31 [(.var 3), (.var 2), (.var 7)]))) [.if_ (.val (.op2 .ne (.call 18 [(.var 8)]) (.var 9))) [.ret (.lit (.bool false))] []] [.if_ (.or_ (.val (.op2 .ne (.op2b .ix (.meth 0 10 8 []) (.var 4)) (.var 7))) (.or_ (.val (.op2 .ne (.op2b .ix (.meth 0 11 8 []) (.var 4)) (.op2d .sub (.var 6) (.var 7)))) (.val (.op2 .eq (.meth 0 3 8 []) (.var 4))))) [.ret (.lit (.bool false))] []]], .ret (.lit (.bool true))]
def d32 : FnD := ⟨3, 10, b32⟩
/-- law: 0 _law_script, 1 _law_town, 2 _law_k, 3 _law_start, 4 _law_deeds, 5 _law_raises, 6 _law_table, 7 _law_j, 8 _law_high, 9 _law_word_here, 10 _law_bet -/
def b33 : List S := [.set 1 (.mk (.lst [])), .for_ (.name 2) (.rng1 (.lit (.int 3))) [.set2 3 4 (.call 15 [(.var 0), (.var 1)]) (.mk (.lst [])), .set2 5 6 (.mk (.lst [(.lit (.int 1)), (.op1 .max (.op2b .ix (.var 3) (.lit (.int 1))))])) (.new 0 0 [(.op2b .ix (.var 3) (.lit (.int 0))), (.op2b .ix (.var 3) (.lit (.int 1))), (.op2b .ix (.var 3) (.lit (.int 2)))]), .for_ (.name 7) (.rng1 (.lit (.int 12))) [.if_ (.val (.op1 .isNone (.meth 0 3 6 []))) [.brk] [], .if_ (.not_ (.val (.call 32 [(.var 3), (.var 4), (.var 5)]))) [.ret (.lit (.bool false))] [], .set 8 (.op1 .max (.meth 0 10 6 [])), .unpack (.tup [(.name 9), (.name 10)]) (.call 16 [(.var 0), (.var 1), (.var 6)]), .if_ (.val (.op2 .eq (.call 17 [(.var 6), (.var 9), (.var 10)]) (.lit (.str ("" : Str))))) [.app (.var 4) (.tup [(.var 9), (.var 10)]), .if_ (.val (.op2 .eq (.var 9) (.lit (.str ("raise" : Str))))) [.app (.var 5) (.op2d .sub (.var 10) (.var 8))] []] []]], .ret (.lit (.bool true))]
def d33 : FnD := ⟨1, 11, b33⟩
/-- _law_over: 0 _law_table, 1 _law_state_here, 2 _law_word_here -/
def b34 : List S := [.set 1 (.call 18 [(.var 0)]), .for_ (.name 2) (.e (.tup [(.lit (.str ("fold" : Str))), (.lit (.str ("call" : Str))), (.lit (.str ("raise" : Str)))])) [.if_ (.or_ (.val (.op2 .ne (.call 17 [(.var 0), (.var 2), (.op2d .add (.op1 .max (.op2b .ix (.var 1) (.lit (.int 1)))) (.lit (.int 1)))]) (.lit (.str ("Over" : Str))))) (.val (.op2 .ne (.call 18 [(.var 0)]) (.var 1)))) [.ret (.lit (.bool false))] []], .ret (.op1 .isNone (.op2b .ix (.var 1) (.lit (.int 0))))]
def d34 : FnD := ⟨1, 3, b34⟩
/-- _law_ended: 0 _law_table, 1 _law_bets, 2 _law_chips, 3 _law_gone, 4 _law_stays, 5 _law_seat -/
def b35 : List S := [.unpack (.tup [(.name 1), (.name 2), (.name 3)]) (.tup [(.meth 0 10 0 []), (.meth 0 11 0 []), (.meth 0 12 0 [])]), .set 4 (.comp [5] (.name 5) (.rng1 (.op1 .len (.var 1))) [(.not_ (.val (.op2b .ix (.var 3) (.var 5))))] (.var 5)), .if_ (.val (.op2 .eq (.op1 .len (.var 4)) (.lit (.int 1)))) [.ret (.lit (.bool true))] [], .ret (.op1 .all (.comp [5] (.name 5) (.e (.var 4)) [] (.or_ (.op2 .eq (.op2b .ix (.var 1) (.var 5)) (.op1 .max (.var 1))) (.op2 .eq (.op2b .ix (.var 2) (.var 5)) (.lit (.int 0))))))]
def d35 : FnD := ⟨1, 6, b35⟩
/-- law: 0 _law_script, 1 _law_town, 2 _law_k, 3 _law_chips, 4 _law_forced, 5 _law_first, 6 _law_table, 7 _law_quiet, 8 _law_asked_seats, 9 _law_j, 10 _law_word_here, 11 _law_many, 12 _law_empty, 13 _law_bet, 14 _law_seat -/
def b36 : List S := [.set 1 (.mk (.lst [])), .for_ (.name 2) (.rng1 (.lit (.int 5))) [.unpack (.tup [(.name 3), (.name 4), (.name 5)]) (.call 15 [(.var 0), (.var 1)]), .set2 6 7 (.new 0 0 [(.var 3), (.var 4), (.var 5)]) (.new 0 0 [(.var 3), (.var 4), (.var 5)]), .set 8 (.mk (.lst [])), .while_ (.and_ (.val (.op1 .notNone (.meth 0 3 7 []))) (.val (.op2 .lt (.op1 .len (.var 8)) (.lit (.int 9))))) [.app (.var 8) (.meth 0 3 7 []), .expr (.meth 0 8 7 [])], .if_ (.or_ (.val (.op2 .ne (.op1 .lenDict (.compB 8 [14] (.name 14) [] (.tup [(.var 14), (.lit (.int 0))]))) (.op1 .len (.var 8)))) (.not_ (.val (.call 34 [(.var 7)])))) [.ret (.lit (.bool false))] [], .if_ (.or_ (.not_ (.val (.call 35 [(.var 7)]))) (.val (.op1 .any (.compB 8 [14] (.name 14) [] (.op2 .eq (.op2d .sub (.op2b .ix (.var 3) (.var 14)) (.op2b .ix (.var 4) (.var 14))) (.lit (.int 0))))))) [.ret (.lit (.bool false))] [], .for_ (.name 9) (.rng1 (.call 13 [(.var 0), (.var 1), (.lit (.int 12))])) [.unpack (.tup [(.name 10), (.name 13)]) (.call 16 [(.var 0), (.var 1), (.var 6)]), .expr (.call 17 [(.var 6), (.var 10), (.var 13)])], .set2 10 11 (.call 14 [(.var 0), (.var 1), (.lst [(.lit (.str ("call" : Str))), (.lit (.str ("fold" : Str)))])]) (.lit (.int 0)), .while_ (.and_ (.val (.op1 .notNone (.meth 0 3 6 []))) (.val (.op2 .lt (.var 11) (.lit (.int 20))))) [.expr (.call 17 [(.var 6), (.var 10), (.lit (.int 0))]), .set 11 (.op2d .add (.var 11) (.lit (.int 1)))], .if_ (.or_ (.val (.op2 .gt (.var 11) (.op1 .len (.var 3)))) (.not_ (.val (.call 34 [(.var 6)])))) [.ret (.lit (.bool false))] [], .if_ (.not_ (.val (.call 35 [(.var 6)]))) [.ret (.lit (.bool false))] [], .set 12 (.new 0 0 [(.var 4), (.var 4), (.var 5)]), .if_ (.or_ (.val (.op1 .notNone (.meth 0 3 12 []))) (.not_ (.val (.call 34 [(.var 12)])))) [.ret (.lit (.bool false))] []], .ret (.lit (.bool true))]
def d36 : FnD := ⟨1, 15, b36⟩
/-- _law_bets: 0 _law_script, 1 _law_town, 2 _law_seats, 3 _law_bets_here, 4 _law_gone, 5 _law_at, 6 _law_k -/
def b37 : List S := [.set 2 (.op2d .add (.lit (.int 2)) (.call 13 [(.var 0), (.var 1), (.lit (.int 5))])), .set 3 (.mk (.comp [6] (.name 6) (.rng1 (.var 2)) [] (.call 14 [(.var 0), (.var 1), (.lst [(.lit (.int 0)), (.lit (.int 5)), (.lit (.int 5)), (.lit (.int 10)), (.lit (.int 20)), (.call 13 [(.var 0), (.var 1), (.lit (.int 40))])])]))), .set 4 (.mk (.comp [6] (.name 6) (.rng1 (.var 2)) [] (.op2 .eq (.call 13 [(.var 0), (.var 1), (.lit (.int 3))]) (.lit (.int 0))))), .set 5 (.call 13 [(.var 0), (.var 1), (.var 2)]), .setIx2 4 3 (.var 5) (.var 5) (.lit (.bool false)) (.op2d .add (.op2b .ix (.var 3) (.var 5)) (.lit (.int 1))), .ret (.tup [(.op1 .tuple (.var 3)), (.op1 .tuple (.var 4))])]
def d37 : FnD := ⟨2, 7, b37⟩
/-- _law_taken_off: 0 _law_bets_here, 1 _law_gone, 2 _law_level, 3 _law_left, 4 _law_bet, 5 _law_is_gone, 6 _law_more -/
def b38 : List S := [.set 3 (.op1 .tuple (.comp [4] (.name 4) (.e (.var 0)) [] (.op2 .max2 (.lit (.int 0)) (.op2d .sub (.var 4) (.var 2))))), .ret (.tup [(.var 3), (.op1 .tuple (.comp [5, 6] (.tup [(.name 5), (.name 6)]) (.zip (.var 1) (.var 3)) [] (.or_ (.var 5) (.op2 .eq (.var 6) (.lit (.int 0))))))])]
def d38 : FnD := ⟨3, 7, b38⟩
/-- _law_first_holds: 0 _law_bets_here, 1 _law_gone, 2 _law_rows, 3 _law_stays, 4 _law_left, 5 _law_others, 6 _law_seat -/
def b39 : List S := [.set 3 (.comp [6] (.name 6) (.rng1 (.op1 .len (.var 0))) [(.and_ (.not_ (.val (.op2b .ix (.var 1) (.var 6)))) (.val (.op2 .gt (.op2b .ix (.var 0) (.var 6)) (.lit (.int 0)))))] (.op2b .ix (.var 0) (.var 6))), .unpack (.tup [(.name 4), (.name 5)]) (.call 38 [(.var 0), (.var 1), (.op1 .min (.var 3))]), .if_ (.val (.op2 .isIn (.lit (.bool false)) (.var 5))) [.ret (.op2 .eq (.call 27 [(.var 4), (.var 5)]) (.op3b (.slice true false) (.var 2) (.lit (.int 1)) (.lit .none)))] [], .ret (.and_ (.op2 .eq (.op1 .len (.var 2)) (.lit (.int 1))) (.op2 .eq (.op2b .ix (.op2b .ix (.var 2) (.lit (.int 0))) (.lit (.int 0))) (.op1 .sum (.var 0))))]
def d39 : FnD := ⟨3, 7, b39⟩
/-- law: 0 _law_script, 1 _law_town, 2 _law_k, 3 _law_bets_here, 4 _law_gone, 5 _law_rows, 6 _law_more, 7 _law_seat, 8 _law_many, 9 _law_bet, 10 _law_less, 11 _law_some, 12 _law_one -/
def b40 : List S := [.set 1 (.mk (.lst [])), .for_ (.name 2) (.rng1 (.lit (.int 12))) [.unpack (.tup [(.name 3), (.name 4)]) (.call 37 [(.var 0), (.var 1)]), .set 5 (.call 27 [(.var 3), (.var 4)]), .if_ (.or_ (.val (.op2 .eq (.var 5) (.tup []))) (.not_ (.val (.call 39 [(.var 3), (.var 4), (.var 5)])))) [.ret (.lit (.bool false))] [], .set 6 (.call 27 [(.op1 .tuple (.comp [9] (.name 9) (.e (.var 3)) [] (.op2d .add (.var 9) (.lit (.int 1))))), (.var 4)]), .if_ (.or_ (.val (.op2 .ne (.op1 .sum (.comp [8, 11] (.tup [(.name 8), (.name 11)]) (.e (.var 6)) [] (.var 8))) (.op2d .add (.op1 .sum (.var 3)) (.op1 .len (.var 3))))) (.val (.op2 .ne (.op2b .ix (.op2b .ix (.var 6) (.op1 .neg (.lit (.int 1)))) (.lit (.int 1))) (.op2b .ix (.op2b .ix (.var 5) (.op1 .neg (.lit (.int 1)))) (.lit (.int 1)))))) [.ret (.lit (.bool false))] [], .if_ (.val (.op2 .ne (.op2b .ix (.op2b .ix (.var 6) (.lit (.int 0))) (.lit (.int 1))) (.op1 .tuple (.comp [7] (.name 7) (.rng1 (.op1 .len (.var 3))) [(.not_ (.val (.op2b .ix (.var 4) (.var 7))))] (.var 7))))) [.ret (.lit (.bool false))] [], .for_ (.name 7) (.rng1 (.op1 .len (.var 3))) [.if_ (.and_ (.val (.op2b .ix (.var 4) (.var 7))) (.val (.op2 .gt (.op2b .ix (.var 3) (.var 7)) (.lit (.int 0))))) [.set 10 (.call 27 [(.op2d .add (.op2d .add (.op3b (.slice false true) (.var 3) (.lit .none) (.var 7)) (.tup [(.op2d .sub (.op2b .ix (.var 3) (.var 7)) (.lit (.int 1)))])) (.op3b (.slice true false) (.var 3) (.op2d .addI (.var 7) (.lit (.int 1))) (.lit .none))), (.var 4)]), .if_ (.val (.op2 .ne (.op1 .sum (.comp [8, 11] (.tup [(.name 8), (.name 11)]) (.e (.var 10)) [] (.var 8))) (.op2d .sub (.op1 .sum (.var 3)) (.lit (.int 1))))) [.ret (.lit (.bool false))] [], .if_ (.val (.op1 .any (.comp [8, 11] (.tup [(.name 8), (.name 11)]) (.e (.var 10)) [] (.op2 .notIn (.var 11) (.comp [12] (.name 12) (.e (.var 5)) [] (.op2b .ix (.var 12) (.lit (.int 1)))))))) [.ret (.lit (.bool false))] []] []], .set2 8 9 (.op1 .len (.var 3)) (.op2d .add (.lit (.int 1)) (.call 13 [(.var 0), (.var 1), (.lit (.int 50))])), .if_ (.val (.op2 .ne (.call 27 [(.op2d .repT (.tup [(.var 9)]) (.var 8)), (.op2d .repT (.tup [(.lit (.bool false))]) (.var 8))]) (.tup [(.tup [(.op2d .mul (.var 9) (.var 8)), (.op1 .rangeT (.var 8))])]))) [.ret (.lit (.bool false))] []], .ret (.lit (.bool true))]
def d40 : FnD := ⟨1, 13, b40⟩
/-- _law_mixed: 0 _law_script, 1 _law_town, 2 _law_row, 3 _law_left, 4 _law_got -/
def b41 : List S := [.set2 3 4 (.mk (.op1 .list (.var 2))) (.mk (.lst [])), .while_ (.val (.var 3)) [.app (.var 4) (.pop 3 (.call 13 [(.var 0), (.var 1), (.op1 .len (.var 3))]))], .ret (.op1 .tuple (.var 4))]
def d41 : FnD := ⟨3, 5, b41⟩
/-- _law_bets: 0 _law_script, 1 _law_town, 2 _law_seats, 3 _law_bets_here, 4 _law_gone, 5 _law_k -/
def b44 : List S := [.set 2 (.op2d .add (.lit (.int 2)) (.call 13 [(.var 0), (.var 1), (.lit (.int 5))])), .set 3 (.op1 .tuple (.comp [5] (.name 5) (.rng1 (.var 2)) [] (.call 14 [(.var 0), (.var 1), (.lst [(.lit (.int 0)), (.lit (.int 5)), (.lit (.int 5)), (.lit (.int 10)), (.lit (.int 20)), (.call 13 [(.var 0), (.var 1), (.lit (.int 40))])])]))), .set 4 (.mk (.comp [5] (.name 5) (.rng1 (.var 2)) [] (.op2 .eq (.call 13 [(.var 0), (.var 1), (.lit (.int 3))]) (.lit (.int 0))))), .setIx (.var 4) (.call 13 [(.var 0), (.var 1), (.var 2)]) (.lit (.bool false)), .ret (.tup [(.var 3), (.op1 .tuple (.var 4))])]
def d44 : FnD := ⟨2, 6, b44⟩
/-- _law_layers_hold: 0 _law_bets_here, 1 _law_gone, 2 _law_rows, 3 _law_stays, 4 _law_before, 5 _law_seats, 6 _law_at, 7 _law_many, 8 _law_some, 9 _law_level, 10 _law_seat, 11 _law_bet -/
def b45 : List S := [.set 3 (.comp [10] (.name 10) (.rng1 (.op1 .len (.var 0))) [(.not_ (.val (.op2b .ix (.var 1) (.var 10))))] (.var 10)), .unpack (.tup [(.name 4), (.name 5)]) (.tup [(.lit (.int 0)), (.var 3)]), .for_ (.tup [(.name 6), (.tup [(.name 7), (.name 8)])]) (.enum (.var 2)) [.if_ (.or_ (.val (.op2 .ne (.op1 .list (.var 8)) (.comp [10] (.name 10) (.e (.var 5)) [(.val (.op2 .gt (.op2b .ix (.var 0) (.var 10)) (.var 4)))] (.var 10)))) (.or_ (.val (.op2 .ne (.op1 .list (.var 8)) (.op1 .sorted (.var 8)))) (.val (.op2 .lt (.var 7) (.lit (.int 1)))))) [.ret (.lit (.bool false))] [], .set 9 (.op1 .min (.comp [10] (.name 10) (.e (.var 8)) [] (.op2b .ix (.var 0) (.var 10)))), .if_ (.val (.op2 .eq (.var 6) (.op2d .sub (.op1 .len (.var 2)) (.lit (.int 1))))) [.set 9 (.op1 .max (.var 0)), .if_ (.val (.op2 .ne (.op1 .lenDict (.comp [10] (.name 10) (.e (.var 8)) [] (.tup [(.op2b .ix (.var 0) (.var 10)), (.lit (.int 0))]))) (.lit (.int 1)))) [.ret (.lit (.bool false))] []] [], .if_ (.val (.op2 .ne (.var 7) (.op1 .sum (.comp [11] (.name 11) (.e (.var 0)) [] (.op2d .sub (.op2 .min2 (.var 11) (.var 9)) (.op2 .min2 (.var 11) (.var 4))))))) [.ret (.lit (.bool false))] [], .unpack (.tup [(.name 4), (.name 5)]) (.tup [(.op1 .min (.comp [10] (.name 10) (.e (.var 8)) [] (.op2b .ix (.var 0) (.var 10)))), (.op1 .list (.var 8))])], .ret (.lit (.bool true))]
def d45 : FnD := ⟨3, 12, b45⟩
/-- law: 0 _law_script, 1 _law_town, 2 _law_k, 3 _law_bets_here, 4 _law_gone, 5 _law_rows, 6 _law_most, 7 _law_times, 8 _law_order, 9 _law_other, 10 _law_seat, 11 _law_many, 12 _law_some, 13 _law_bet -/
def b46 : List S := [.set 1 (.mk (.lst [])), .for_ (.name 2) (.rng1 (.lit (.int 12))) [.unpack (.tup [(.name 3), (.name 4)]) (.call 44 [(.var 0), (.var 1)]), .set 5 (.call 27 [(.var 3), (.var 4)]), .if_ (.or_ (.val (.op2 .ne (.op1 .sum (.comp [11, 12] (.tup [(.name 11), (.name 12)]) (.e (.var 5)) [] (.var 11))) (.op1 .sum (.var 3)))) (.val (.op2 .ne (.op2 .eq (.var 5) (.tup [])) (.op2 .eq (.op1 .sum (.var 3)) (.lit (.int 0)))))) [.ret (.lit (.bool false))] [], .set 6 (.op1 .max (.comp [10] (.name 10) (.rng1 (.op1 .len (.var 3))) [(.not_ (.val (.op2b .ix (.var 4) (.var 10))))] (.op2b .ix (.var 3) (.var 10)))), .if_ (.and_ (.val (.op2 .gt (.var 6) (.lit (.int 0)))) (.not_ (.val (.call 45 [(.var 3), (.var 4), (.var 5)])))) [.ret (.lit (.bool false))] [], .set 7 (.op2d .add (.lit (.int 1)) (.call 13 [(.var 0), (.var 1), (.lit (.int 5))])), .if_ (.val (.op2 .ne (.call 27 [(.op1 .tuple (.comp [13] (.name 13) (.e (.var 3)) [] (.op2d .mul (.var 7) (.var 13)))), (.var 4)]) (.op1 .tuple (.comp [11, 12] (.tup [(.name 11), (.name 12)]) (.e (.var 5)) [] (.tup [(.op2d .mul (.var 7) (.var 11)), (.var 12)]))))) [.ret (.lit (.bool false))] [], .set 8 (.call 41 [(.var 0), (.var 1), (.op1 .range (.op1 .len (.var 3)))]), .set 9 (.call 27 [(.op1 .tuple (.comp [10] (.name 10) (.e (.var 8)) [] (.op2b .ix (.var 3) (.var 10)))), (.op1 .tuple (.comp [10] (.name 10) (.e (.var 8)) [] (.op2b .ix (.var 4) (.var 10))))]), .if_ (.val (.op2 .ne (.comp [11, 12] (.tup [(.name 11), (.name 12)]) (.e (.var 9)) [] (.var 11)) (.comp [11, 12] (.tup [(.name 11), (.name 12)]) (.e (.var 5)) [] (.var 11)))) [.ret (.lit (.bool false))] [], .if_ (.val (.op2 .ne (.comp [11, 12] (.tup [(.name 11), (.name 12)]) (.e (.var 9)) [] (.op1 .sorted (.comp [10] (.name 10) (.e (.var 12)) [] (.op2b .ix (.var 8) (.var 10))))) (.comp [11, 12] (.tup [(.name 11), (.name 12)]) (.e (.var 5)) [] (.op1 .list (.var 12))))) [.ret (.lit (.bool false))] [], .if_ (.val (.op2 .ne (.call 27 [(.op2d .repT (.tup [(.lit (.int 0))]) (.op1 .len (.var 3))), (.var 4)]) (.tup []))) [.ret (.lit (.bool false))] []], .ret (.lit (.bool true))]
def d46 : FnD := ⟨1, 14, b46⟩
/-- paid: 0 rows, 1 ranks, 2 found, 3 many, 4 seats, 5 best, 6 first, 7 each, 8 more, 9 k, 10 seat -/
def b47 : List S := [.set 2 (.mk (.op2b .rep (.lst [(.lit (.int 0))]) (.op1 .len (.var 1)))), .for_ (.tup [(.name 3), (.name 4)]) (.e (.var 0)) [.set 5 (.op1 .max (.comp [10] (.name 10) (.e (.var 4)) [] (.op2b .ix (.var 1) (.var 10)))), .set 6 (.comp [10] (.name 10) (.e (.var 4)) [(.val (.op2 .eq (.op2b .ix (.var 1) (.var 10)) (.var 5)))] (.var 10)), .set 7 (.op2d .fdiv (.var 3) (.op1 .len (.var 6))), .set 8 (.op2d .sub (.var 3) (.op2d .mul (.var 7) (.op1 .len (.var 6)))), .for_ (.tup [(.name 9), (.name 10)]) (.enum (.var 6)) [.setIx (.var 2) (.var 10) (.op2d .add (.op2b .ix (.var 2) (.var 10)) (.var 7)), .if_ (.val (.op2 .lt (.var 9) (.var 8))) [.setIx (.var 2) (.var 10) (.op2d .add (.op2b .ix (.var 2) (.var 10)) (.lit (.int 1)))] []]], .ret (.op1 .tuple (.var 2))]
def d47 : FnD := ⟨2, 11, b47⟩
/-- row_top: 0 ranks, 1 k -/
def b48 : List S := [.if_ (.val (.op2 .eq (.var 0) (.lit (.tuple [(.int 14), (.int 5), (.int 4), (.int 3), (.int 2)])))) [.ret (.lit (.int 5))] [], .if_ (.val (.op2 .eq (.var 0) (.op1 .tuple (.comp [1] (.name 1) (.rng1 (.lit (.int 5))) [] (.op2d .sub (.op2b .ix (.var 0) (.lit (.int 0))) (.var 1)))))) [.ret (.op2b .ix (.var 0) (.lit (.int 0)))] [], .ret (.lit (.int 0))]
def d48 : FnD := ⟨1, 2, b48⟩
/-- grouped: 0 five, 1 often, 2 rank, 3 suit, 4 rows, 5 many -/
def b49 : List S := [.newD 1 [], .for_ (.tup [(.name 2), (.name 3)]) (.e (.var 0)) [.setKeyD 1 (.var 2) (.op2d .add (.dgetD 1 (.var 2) (.lit (.int 0))) (.lit (.int 1)))], .set 4 (.op1 .rev (.op1 .sorted (.compI 1 [2, 5] (.tup [(.name 2), (.name 5)]) [] (.tup [(.var 5), (.var 2)])))), .ret (.tup [(.op1 .tuple (.comp [5, 2] (.tup [(.name 5), (.name 2)]) (.e (.var 4)) [] (.var 2))), (.op1 .tuple (.comp [5, 2] (.tup [(.name 5), (.name 2)]) (.e (.var 4)) [] (.var 5)))])]
def d49 : FnD := ⟨1, 6, b49⟩
/-- rank_of: 0 five, 1 ranks, 2 shape, 3 top, 4 alike, 5 rank, 6 suit -/
def b50 : List S := [.unpack (.tup [(.name 1), (.name 2)]) (.call 49 [(.var 0)]), .if_ (.val (.op2 .lt (.op1 .len (.var 1)) (.lit (.int 5)))) [.ret (.tup [(.op1 (.look [([2, 1, 1, 1], 1), ([2, 2, 1], 2), ([3, 1, 1], 3), ([3, 2], 6), ([4, 1], 7)]) (.var 2)), (.var 1)])] [], .set 3 (.call 48 [(.var 1)]), .set 4 (.op2 .eq (.op1 .lenSet (.comp [5, 6] (.tup [(.name 5), (.name 6)]) (.e (.var 0)) [] (.var 6))) (.lit (.int 1))), .if_ (.and_ (.val (.op2 .gt (.var 3) (.lit (.int 0)))) (.val (.var 4))) [.ret (.tup [(.lit (.int 8)), (.tup [(.var 3)])])] [], .if_ (.val (.var 4)) [.ret (.tup [(.lit (.int 5)), (.var 1)])] [], .if_ (.val (.op2 .gt (.var 3) (.lit (.int 0)))) [.ret (.tup [(.lit (.int 4)), (.tup [(.var 3)])])] [], .ret (.tup [(.lit (.int 0)), (.var 1)])]
def d50 : FnD := ⟨1, 7, b50⟩
/-- _law_cards: 0 _law_script, 1 _law_town, 2 _law_many, 3 _law_every, 4 _law_ranks_here, 5 _law_left, 6 _law_got, 7 _law_rank, 8 _law_k, 9 _law_suit -/
def b51 : List S := [.set 3 (.tup [(.lit (.int 2)), (.lit (.int 3)), (.lit (.int 4)), (.lit (.int 5)), (.lit (.int 6)), (.lit (.int 7)), (.lit (.int 8)), (.lit (.int 9)), (.lit (.int 10)), (.lit (.int 11)), (.lit (.int 12)), (.lit (.int 13)), (.lit (.int 14))]), .set 4 (.call 14 [(.var 0), (.var 1), (.lst [(.var 3), (.var 3), (.tup [(.lit (.int 2)), (.lit (.int 3)), (.lit (.int 4)), (.lit (.int 5)), (.lit (.int 14))]), (.tup [(.lit (.int 9)), (.lit (.int 10)), (.lit (.int 11)), (.lit (.int 12)), (.lit (.int 13))]), (.tup [(.lit (.int 6)), (.lit (.int 7)), (.lit (.int 8)), (.lit (.int 9))])])]), .set2 5 6 (.mk (.lst [])) (.tup []), .for_ (.name 7) (.e (.var 4)) [.ext (.var 5) (.comp [9] (.name 9) (.e (.lit (.str ("cdhs" : Str)))) [] (.tup [(.var 7), (.var 9)]))], .for_ (.name 8) (.rng1 (.var 2)) [.set 6 (.op2d .add (.var 6) (.tup [(.pop 5 (.call 13 [(.var 0), (.var 1), (.op1 .len (.var 5))]))]))], .ret (.var 6)]
def d51 : FnD := ⟨3, 10, b51⟩
/-- _law_ranks: 0 _law_script, 1 _law_town, 2 _law_gone, 3 _law_some, 4 _law_k, 5 _law_is_gone -/
def b52 : List S := [.set 3 (.comp [4] (.name 4) (.rng1 (.lit (.int 3))) [] (.call 50 [(.call 51 [(.var 0), (.var 1), (.lit (.int 5))])])), .ret (.op1 .tuple (.comp [5] (.name 5) (.e (.var 2)) [] (.ite (.val (.var 5)) (.lit .none) (.call 14 [(.var 0), (.var 1), (.var 3)]))))]
def d52 : FnD := ⟨3, 6, b52⟩
/-- _law_pot_holds: 0 _law_row, 1 _law_ranks_here, 2 _law_many, 3 _law_seats, 4 _law_told, 5 _law_best, 6 _law_first, 7 _law_parts, 8 _law_seat -/
def b53 : List S := [.unpack (.tup [(.name 2), (.name 3)]) (.var 0), .unpack (.tup [(.name 4), (.name 5)]) (.tup [(.call 47 [(.tup [(.var 0)]), (.var 1)]), (.op1 .max (.comp [8] (.name 8) (.e (.op2b .ix (.var 0) (.lit (.int 1)))) [] (.op2b .ix (.var 1) (.var 8))))]), .set 6 (.comp [8] (.name 8) (.e (.var 3)) [(.val (.op2 .eq (.op2b .ix (.var 1) (.var 8)) (.var 5)))] (.var 8)), .set 7 (.comp [8] (.name 8) (.e (.var 6)) [] (.op2b .ix (.var 4) (.var 8))), .if_ (.or_ (.val (.op2 .ne (.op1 .sum (.var 4)) (.var 2))) (.or_ (.val (.op2 .ne (.op1 .sum (.var 7)) (.var 2))) (.val (.op2 .ne (.var 7) (.op1 .rev (.op1 .sorted (.var 7))))))) [.ret (.lit (.bool false))] [], .ret (.op2 .le (.op2d .sub (.op1 .max (.var 7)) (.op1 .min (.var 7))) (.lit (.int 1)))]
def d53 : FnD := ⟨2, 9, b53⟩
/-- law: 0 _law_script, 1 _law_town, 2 _law_k, 3 _law_bets_here, 4 _law_gone, 5 _law_rows, 6 _law_ranks_here, 7 _law_told, 8 _law_parts, 9 _law_great, 10 _law_part, 11 _law_row, 12 _law_seat, 13 _law_better, 14 _law_many, 15 _law_some, 16 _law_one, 17 _law_two -/
def b54 : List S := [.set 1 (.mk (.lst [])), .for_ (.name 2) (.rng1 (.lit (.int 10))) [.unpack (.tup [(.name 3), (.name 4)]) (.call 44 [(.var 0), (.var 1)]), .unpack (.tup [(.name 5), (.name 6)]) (.tup [(.call 27 [(.var 3), (.var 4)]), (.call 52 [(.var 0), (.var 1), (.var 4)])]), .set 7 (.call 47 [(.var 5), (.var 6)]), .if_ (.or_ (.val (.op2 .ne (.op1 .len (.var 7)) (.op1 .len (.var 3)))) (.or_ (.val (.op2 .ne (.op1 .sum (.var 7)) (.op1 .sum (.var 3)))) (.not_ (.val (.op1 .all (.comp [11] (.name 11) (.e (.var 5)) [] (.call 53 [(.var 11), (.var 6)]))))))) [.ret (.lit (.bool false))] [], .set 8 (.comp [11] (.name 11) (.e (.var 5)) [] (.call 47 [(.tup [(.var 11)]), (.var 6)])), .if_ (.val (.op2 .ne (.op1 .list (.var 7)) (.comp [12] (.name 12) (.rng1 (.op1 .len (.var 3))) [] (.op1 .sum (.comp [10] (.name 10) (.e (.var 8)) [] (.op2b .ix (.var 10) (.var 12))))))) [.ret (.lit (.bool false))] [], .set 9 (.op1 .tuple (.comp [14, 15] (.tup [(.name 14), (.name 15)]) (.e (.var 5)) [] (.tup [(.op2d .mul (.lit (.int 60)) (.var 14)), (.var 15)]))), .for_ (.tup [(.name 10), (.name 11)]) (.zip (.var 8) (.var 9)) [.if_ (.val (.op1 .any (.comp [16, 17] (.tup [(.name 16), (.name 17)]) (.zip (.call 47 [(.tup [(.var 11)]), (.var 6)]) (.var 10)) [] (.op2 .notIn (.op2d .fdiv (.var 16) (.lit (.int 60))) (.tup [(.var 17), (.op2d .sub (.var 17) (.lit (.int 1))), (.op2d .add (.var 17) (.lit (.int 1)))]))))) [.ret (.lit (.bool false))] []], .for_ (.name 12) (.rng1 (.op1 .len (.var 3))) [.if_ (.and_ (.val (.op2b .ix (.var 4) (.var 12))) (.val (.op2 .ne (.op2b .ix (.var 7) (.var 12)) (.lit (.int 0))))) [.ret (.lit (.bool false))] [], .set 13 (.op2d .add (.op2d .add (.op3b (.slice false true) (.var 6) (.lit .none) (.var 12)) (.tup [(.tup [(.lit (.int 8)), (.tup [(.lit (.int 14))])])])) (.op3b (.slice true false) (.var 6) (.op2d .addI (.var 12) (.lit (.int 1))) (.lit .none))), .if_ (.and_ (.not_ (.val (.op2b .ix (.var 4) (.var 12)))) (.val (.op2 .lt (.op2b .ix (.call 47 [(.var 5), (.var 13)]) (.var 12)) (.op2b .ix (.var 7) (.var 12))))) [.ret (.lit (.bool false))] []], .if_ (.val (.op2 .ne (.call 47 [(.tup []), (.var 6)]) (.op2d .repT (.tup [(.lit (.int 0))]) (.op1 .len (.var 3))))) [.ret (.lit (.bool false))] []], .ret (.lit (.bool true))]
def d54 : FnD := ⟨1, 18, b54⟩
/-- choices: 0 cards, 1 many, 2 found, 3 at, 4 more -/
def b55 : List S := [.if_ (.val (.op2 .eq (.var 1) (.lit (.int 0)))) [.ret (.lst [(.tup [])])] [], .set 2 (.mk (.lst [])), .for_ (.name 3) (.rng1 (.op2d .add (.op2d .sub (.op1 .len (.var 0)) (.var 1)) (.lit (.int 1)))) [.for_ (.name 4) (.e (.call 55 [(.op3b (.slice true false) (.var 0) (.op2d .addI (.var 3) (.lit (.int 1))) (.lit .none)), (.op2d .sub (.var 1) (.lit (.int 1)))])) [.app (.var 2) (.op2d .add (.tup [(.op2b .ix (.var 0) (.var 3))]) (.var 4))]], .ret (.freeze 2)]
def d55 : FnD := ⟨2, 5, b55⟩
/-- best_rank: 0 cards, 1 five -/
def b56 : List S := [.ret (.op1 .max (.comp [1] (.name 1) (.e (.call 55 [(.var 0), (.lit (.int 5))])) [] (.call 50 [(.var 1)])))]
def d56 : FnD := ⟨1, 2, b56⟩
/-- winners: 0 holes, 1 board, 2 ranks, 3 hole, 4 seat, 5 rank -/
def b57 : List S := [.set 2 (.comp [3] (.name 3) (.e (.var 0)) [] (.call 56 [(.op2d .add (.var 3) (.var 1))])), .ret (.op1 .tuple (.comp [4, 5] (.tup [(.name 4), (.name 5)]) (.enum (.var 2)) [(.val (.op2 .eq (.var 5) (.op1 .max (.var 2))))] (.var 4)))]
def d57 : FnD := ⟨2, 6, b57⟩
/-- beaten_by: 0 hole, 1 board, 2 stub, 3 own, 4 two -/
def b58 : List S := [.set 3 (.call 56 [(.op2d .add (.var 0) (.var 1))]), .ret (.op1 .tuple (.comp [4] (.name 4) (.e (.call 55 [(.var 2), (.lit (.int 2))])) [(.val (.op2 .gt (.call 56 [(.op2d .add (.var 4) (.var 1))]) (.var 3)))] (.var 4)))]
def d58 : FnD := ⟨3, 5, b58⟩
/-- _law_cards: 0 _law_script, 1 _law_town, 2 _law_many, 3 _law_every, 4 _law_ranks, 5 _law_left, 6 _law_got, 7 _law_rank, 8 _law_k, 9 _law_suit -/
def b59 : List S := [.set 3 (.tup [(.lit (.int 2)), (.lit (.int 3)), (.lit (.int 4)), (.lit (.int 5)), (.lit (.int 6)), (.lit (.int 7)), (.lit (.int 8)), (.lit (.int 9)), (.lit (.int 10)), (.lit (.int 11)), (.lit (.int 12)), (.lit (.int 13)), (.lit (.int 14))]), .set 4 (.call 14 [(.var 0), (.var 1), (.lst [(.var 3), (.var 3), (.tup [(.lit (.int 2)), (.lit (.int 3)), (.lit (.int 4)), (.lit (.int 5)), (.lit (.int 14))]), (.tup [(.lit (.int 9)), (.lit (.int 10)), (.lit (.int 11)), (.lit (.int 12)), (.lit (.int 13))]), (.tup [(.lit (.int 6)), (.lit (.int 7)), (.lit (.int 8)), (.lit (.int 9))])])]), .set2 5 6 (.mk (.lst [])) (.tup []), .for_ (.name 7) (.e (.var 4)) [.ext (.var 5) (.comp [9] (.name 9) (.e (.lit (.str ("cdhs" : Str)))) [] (.tup [(.var 7), (.var 9)]))], .for_ (.name 8) (.rng1 (.var 2)) [.set 6 (.op2d .add (.var 6) (.tup [(.pop 5 (.call 13 [(.var 0), (.var 1), (.op1 .len (.var 5))]))]))], .ret (.var 6)]
def d59 : FnD := ⟨3, 10, b59⟩
/-- _law_wins_all: 0 _law_holes, 1 _law_board, 2 _law_seat, 3 _law_other -/
def b61 : List S := [.for_ (.name 3) (.rng1 (.op1 .len (.var 0))) [.if_ (.and_ (.val (.op2 .ne (.var 3) (.var 2))) (.val (.op2 .notIn (.lit (.int 0)) (.call 57 [(.tup [(.op2b .ix (.var 0) (.var 2)), (.op2b .ix (.var 0) (.var 3))]), (.var 1)])))) [.ret (.lit (.bool false))] []], .ret (.lit (.bool true))]
def d61 : FnD := ⟨3, 4, b61⟩
/-- _law_twos: 0 _law_cards_here, 1 _law_found, 2 _law_at, 3 _law_later -/
def b62 : List S := [.set 1 (.mk (.lst [])), .for_ (.name 2) (.rng1 (.op1 .len (.var 0))) [.ext (.var 1) (.comp [3] (.name 3) (.e (.op3b (.slice true false) (.var 0) (.op2d .addI (.var 2) (.lit (.int 1))) (.lit .none))) [] (.tup [(.op2b .ix (.var 0) (.var 2)), (.var 3)]))], .ret (.freeze 1)]
def d62 : FnD := ⟨1, 4, b62⟩
/-- law: 0 _law_script, 1 _law_town, 2 _law_k, 3 _law_seats, 4 _law_board_many, 5 _law_cards_here, 6 _law_holes, 7 _law_board, 8 _law_some, 9 _law_due, 10 _law_order, 11 _law_other, 12 _law_best, 13 _law_seat, 14 _law_top, 15 _law_low, 16 _law_rest, 17 _law_less, 18 _law_hole, 19 _law_two, 20 _law_rank, 21 _law_at, 22 _law_one -/
def b63 : List S := [.set 1 (.mk (.lst [])), .for_ (.name 2) (.rng1 (.lit (.int 2))) [.set2 3 4 (.op2d .add (.lit (.int 2)) (.call 13 [(.var 0), (.var 1), (.lit (.int 3))])) (.op2d .add (.lit (.int 3)) (.call 13 [(.var 0), (.var 1), (.lit (.int 3))])), .set 5 (.call 59 [(.var 0), (.var 1), (.op2d .add (.op2d .mul (.lit (.int 2)) (.var 3)) (.var 4))]), .unpack (.tup [(.name 6), (.name 7)]) (.tup [(.op1 .tuple (.comp [21] (.name 21) (.rng1 (.var 3)) [] (.op3b (.slice true true) (.var 5) (.op2d .mul (.lit (.int 2)) (.var 21)) (.op2d .addI (.op2d .mul (.lit (.int 2)) (.var 21)) (.lit (.int 2)))))), (.op3b (.slice true false) (.var 5) (.op2d .mul (.lit (.int 2)) (.var 3)) (.lit .none))]), .set 8 (.call 57 [(.var 6), (.var 7)]), .set 9 (.comp [13] (.name 13) (.rng1 (.var 3)) [(.val (.call 61 [(.var 6), (.var 7), (.var 13)]))] (.var 13)), .if_ (.or_ (.val (.op2 .ne (.op1 .list (.var 8)) (.var 9))) (.val (.op2 .eq (.var 8) (.tup [])))) [.ret (.lit (.bool false))] [], .set 10 (.call 41 [(.var 0), (.var 1), (.op1 .range (.var 3))]), .set 11 (.call 57 [(.op1 .tuple (.comp [13] (.name 13) (.e (.var 10)) [] (.op2b .ix (.var 6) (.var 13)))), (.var 7)]), .if_ (.val (.op2 .ne (.op1 .sorted (.comp [13] (.name 13) (.e (.var 11)) [] (.op2b .ix (.var 10) (.var 13)))) (.op1 .list (.var 8)))) [.ret (.lit (.bool false))] [], .set 12 (.comp [18] (.name 18) (.e (.var 6)) [] (.call 56 [(.op2d .add (.var 18) (.var 7))])), .if_ (.not_ (.val (.op1 .all (.comp [13] (.name 13) (.rng1 (.var 3)) [] (.op2 .eq (.op2 .eq (.op2b .ix (.var 12) (.var 13)) (.op1 .max (.var 12))) (.op2 .isIn (.var 13) (.var 8))))))) [.ret (.lit (.bool false))] [], .for_ (.name 13) (.rng1 (.var 3)) [.if_ (.and_ (.val (.op2 .gt (.var 3) (.lit (.int 2)))) (.val (.op2 .notIn (.var 13) (.var 8)))) [.set 17 (.call 57 [(.op2d .add (.op3b (.slice false true) (.var 6) (.lit .none) (.var 13)) (.op3b (.slice true false) (.var 6) (.op2d .addI (.var 13) (.lit (.int 1))) (.lit .none))), (.var 7)]), .if_ (.val (.op2 .ne (.var 17) (.op1 .tuple (.comp [22] (.name 22) (.e (.var 8)) [] (.op2d .sub (.var 22) (.op1 .int (.op2 .gt (.var 22) (.var 13)))))))) [.ret (.lit (.bool false))] []] []], .if_ (.val (.op2 .eq (.var 4) (.lit (.int 5)))) [.set 16 (.op2d .add (.op2b .ix (.var 6) (.lit (.int 1))) (.ite (.val (.op2 .gt (.var 3) (.lit (.int 2)))) (.op2b .ix (.var 6) (.lit (.int 2))) (.tup []))), .set 9 (.comp [19] (.name 19) (.e (.call 62 [(.var 16)])) [(.val (.op2 .eq (.call 57 [(.tup [(.var 19), (.op2b .ix (.var 6) (.lit (.int 0)))]), (.var 7)]) (.tup [(.lit (.int 0))])))] (.var 19)), .if_ (.val (.op2 .ne (.op1 .list (.call 58 [(.op2b .ix (.var 6) (.lit (.int 0))), (.var 7), (.var 16)])) (.var 9))) [.ret (.lit (.bool false))] []] [], .set 14 (.op1 .tuple (.comp [20] (.name 20) (.e (.tup [(.lit (.int 10)), (.lit (.int 11)), (.lit (.int 12)), (.lit (.int 13)), (.lit (.int 14))])) [] (.tup [(.var 20), (.lit (.str ("h" : Str)))]))), .set 15 (.op1 .tuple (.comp [21] (.name 21) (.rng1 (.var 3)) [] (.tup [(.tup [(.op2d .add (.lit (.int 2)) (.var 21)), (.lit (.str ("c" : Str)))]), (.tup [(.op2d .add (.lit (.int 2)) (.var 21)), (.lit (.str ("d" : Str)))])]))), .if_ (.val (.op2 .ne (.call 57 [(.var 15), (.var 14)]) (.op1 .rangeT (.var 3)))) [.ret (.lit (.bool false))] []], .ret (.lit (.bool true))]
def d63 : FnD := ⟨1, 23, b63⟩
end Cd
set_option Elab.async false
set_option linter.all false
set_option maxRecDepth 100000
set_option maxHeartbeats 4000000
namespace Cd
def fns : Nat → Option FnD
  | 55 => some d55
  | 48 => some d48
  | 49 => some d49
  | 50 => some d50
  | 56 => some d56
  | 57 => some d57
  | 58 => some d58
  | 13 => some d13
  | 14 => some d14
  | 59 => some d59
  | 41 => some d41
  | 61 => some d61
  | 62 => some d62
  | 63 => some d63
  | _ => none
end Cd
set_option Elab.async false
set_option linter.all false
set_option maxRecDepth 100000
set_option maxHeartbeats 4000000
namespace Cd
open PySem PySem.Spec PyProof.Rows L2
/-! ### the law k20: derivations, printed by gen2.py -/
def top (i : Nat) : Stmt := PySem.Challenge.pw_cardhands_k20_whole_winners_by_pairs.main.body.getD i (.Pass ⟨0, 0, 0, 0⟩)
abbrev s55 : Stmt := top 1
abbrev N55 : List Str := [("cards" : Str), ("many" : Str), ("found" : Str), ("at" : Str), ("more" : Str)]
abbrev s48 : Stmt := top 5
abbrev N48 : List Str := [("ranks" : Str), ("k" : Str)]
abbrev s49 : Stmt := top 6
abbrev N49 : List Str := [("five" : Str), ("often" : Str), ("rank" : Str), ("suit" : Str), ("rows" : Str), ("many" : Str)]
abbrev s50 : Stmt := top 7
abbrev N50 : List Str := [("five" : Str), ("ranks" : Str), ("shape" : Str), ("top" : Str), ("alike" : Str), ("rank" : Str), ("suit" : Str)]
abbrev s56 : Stmt := top 8
abbrev N56 : List Str := [("cards" : Str), ("five" : Str)]
abbrev s57 : Stmt := top 10
abbrev N57 : List Str := [("holes" : Str), ("board" : Str), ("ranks" : Str), ("hole" : Str), ("seat" : Str), ("rank" : Str)]
abbrev s58 : Stmt := top 11
abbrev N58 : List Str := [("hole" : Str), ("board" : Str), ("stub" : Str), ("own" : Str), ("two" : Str)]
abbrev s13 : Stmt := top 13
abbrev N13 : List Str := [("_law_script" : Str), ("_law_town" : Str), ("_law_many" : Str), ("_law_k" : Str), ("_law_cell" : Str), ("_law_number" : Str), ("_law_more" : Str)]
abbrev s14 : Stmt := top 14
abbrev N14 : List Str := [("_law_script" : Str), ("_law_town" : Str), ("_law_some" : Str)]
abbrev s59 : Stmt := top 15
abbrev N59 : List Str := [("_law_script" : Str), ("_law_town" : Str), ("_law_many" : Str), ("_law_every" : Str), ("_law_ranks" : Str), ("_law_left" : Str), ("_law_got" : Str), ("_law_rank" : Str), ("_law_k" : Str), ("_law_suit" : Str)]
abbrev s41 : Stmt := top 16
abbrev N41 : List Str := [("_law_script" : Str), ("_law_town" : Str), ("_law_row" : Str), ("_law_left" : Str), ("_law_got" : Str)]
abbrev s61 : Stmt := top 19
abbrev N61 : List Str := [("_law_holes" : Str), ("_law_board" : Str), ("_law_seat" : Str), ("_law_other" : Str)]
abbrev s62 : Stmt := top 20
abbrev N62 : List Str := [("_law_cards_here" : Str), ("_law_found" : Str), ("_law_at" : Str), ("_law_later" : Str)]
abbrev s63 : Stmt := top 21
abbrev N63 : List Str := [("_law_script" : Str), ("_law_town" : Str), ("_law_k" : Str), ("_law_seats" : Str), ("_law_board_many" : Str), ("_law_cards_here" : Str), ("_law_holes" : Str), ("_law_board" : Str), ("_law_some" : Str), ("_law_due" : Str), ("_law_order" : Str), ("_law_other" : Str), ("_law_best" : Str), ("_law_seat" : Str), ("_law_top" : Str), ("_law_low" : Str), ("_law_rest" : Str), ("_law_less" : Str), ("_law_hole" : Str), ("_law_two" : Str), ("_law_rank" : Str), ("_law_at" : Str), ("_law_one" : Str)]
def Γ0 : Gm where
  fns := fns
  defs := [(("choices" : Str), 55), (("row_top" : Str), 48), (("grouped" : Str), 49), (("rank_of" : Str), 50), (("best_rank" : Str), 56), (("winners" : Str), 57), (("beaten_by" : Str), 58), (("_law_draw" : Str), 13), (("_law_pick" : Str), 14), (("_law_cards" : Str), 59), (("_law_mixed" : Str), 41), (("_law_wins_all" : Str), 61), (("_law_twos" : Str), 62), (("law" : Str), 63)]
  nobs := [("all" : Str), ("enumerate" : Str), ("int" : Str), ("len" : Str), ("list" : Str), ("max" : Str), ("range" : Str), ("set" : Str), ("sorted" : Str), ("tuple" : Str)]
  cons := [(("LOW_ROW" : Str), (.tuple [(.int 14), (.int 5), (.int 4), (.int 3), (.int 2)]))]
  cls := []
  meths := []
  flds := []
  excs := []
  tabs := [(("SHAPES" : Str), [([2, 1, 1, 1], 1), ([2, 2, 1], 2), ([3, 1, 1], 3), ([3, 2], 6), ([4, 1], 7)])]
theorem ds55 : DSs Γ0 N55 (fnSco s55) (defBody s55) b55 := by exact
  (dss_cons (ds_if (dt_eq (DE.v (de_var (vo (by decide +kernel)))) (DV.b (DP.v dp_int))) (dss_cons (ds_ret (DN.toE (dn_lst (dps_cons (DE.v (de_tup dps_nil)) dps_nil)) dat_lst))
  dss_nil) dss_nil)
  (dss_cons (ds_set (to (by decide +kernel)) (de_mk (dn_lst dps_nil)))
  (dss_cons (ds_for (di_rng1 (nb (by decide +kernel)) (DE.v (de_addD (DE.v (de_subD (DE.v (de_len (nb (by decide +kernel)) (db_var (vo (by decide +kernel))))) (DE.v (de_var (vo (by decide +kernel)))))) (DP.v dp_int)))) (dg_name (to (by decide +kernel))) (dss_cons (ds_for (di_e (DE.v (de_call (go (by decide +kernel)) (mo (by decide +kernel)) (das_cons (de_slice (db_var (vo (by decide +kernel))) (do_some (dp_add (dp_var (vo (by decide +kernel))) dp_int)) do_none) (das_cons (de_subD (DE.v (de_var (vo (by decide +kernel)))) (DP.v dp_int)) das_nil))))) (dg_name (to (by decide +kernel))) (dss_cons (ds_app (vo (by decide +kernel)) (DE.v (de_addD (DE.v (de_tup (dps_cons (DE.v (de_ixB (db_var (vo (by decide +kernel))) (dp_var (vo (by decide +kernel))))) dps_nil))) (DE.v (de_var (vo (by decide +kernel)))))) ⟨rfl⟩)
  dss_nil))
  dss_nil))
  (dss_cons (ds_ret (de_freeze (vo (by decide +kernel))))
  dss_nil))))
theorem ds48 : DSs Γ0 N48 (fnSco s48) (defBody s48) b48 := by exact
  (dss_cons (ds_if (dt_eq (DE.v (de_var (vo (by decide +kernel)))) (DV.b (DP.v (dp_con (go (by decide +kernel)) (.head _))))) (dss_cons (ds_ret (DP.toE dp_int))
  dss_nil) dss_nil)
  (dss_cons (ds_if (dt_eq (DE.v (de_var (vo (by decide +kernel)))) (DV.b (DE.v (de_tuple (nb (by decide +kernel)) (DV.b (DN.v (dn_comp (own := [(("k" : Str), 1)]) (di_rng1 (nb (by decide +kernel)) (DP.v dp_int)) (bo (by decide +kernel)) (dg_name (to (by decide +kernel))) dts_nil (DE.v (de_subD (DE.v (de_ixB (db_var (vo (by decide +kernel))) dp_int)) (DE.v (de_var (vo (by decide +kernel)))))) (by decide +kernel)))))))) (dss_cons (ds_ret (de_ixB (db_var (vo (by decide +kernel))) dp_int))
  dss_nil) dss_nil)
  (dss_cons (ds_ret (DP.toE dp_int))
  dss_nil)))
theorem ds49 : DSs Γ0 N49 (fnSco s49) (defBody s49) b49 := by exact
  (dss_cons (ds_newD0 (to (by decide +kernel)))
  (dss_cons (ds_for (di_e (DE.v (de_var (vo (by decide +kernel))))) (dg_tup (dgs_cons (dg_name (to (by decide +kernel))) (dgs_cons (dg_name (to (by decide +kernel))) dgs_nil))) (dss_cons (ds_setKeyD (vo (by decide +kernel)) (DE.v (de_addD (DE.v (de_dgetD (vo (by decide +kernel)) (dp_var (vo (by decide +kernel))) dp_int (fun X => ⟨rfl, rfl, rfl, rfl⟩))) (DP.v dp_int))) (dp_var (vo (by decide +kernel))))
  dss_nil))
  (dss_cons (ds_set (to (by decide +kernel)) (DN.toE (dn_rev (DV.b (DN.v (dn_sorted (nb (by decide +kernel)) (DV.b (DN.v (dn_compI (own := [(("rank" : Str), 2), (("many" : Str), 5)]) (vo (by decide +kernel)) (bo (by decide +kernel)) (dg_tup (dgs_cons (dg_name (to (by decide +kernel))) (dgs_cons (dg_name (to (by decide +kernel))) dgs_nil))) dts_nil (DE.v (de_tup (dps_cons (DE.v (de_var (vo (by decide +kernel)))) (dps_cons (DE.v (de_var (vo (by decide +kernel)))) dps_nil)))) (by decide +kernel)))))))) dat_op1))
  (dss_cons (ds_ret (de_tup (dps_cons (DE.v (de_tuple (nb (by decide +kernel)) (DV.b (DN.v (dn_comp (own := [(("many" : Str), 5), (("rank" : Str), 2)]) (di_e (DE.v (de_var (vo (by decide +kernel))))) (bo (by decide +kernel)) (dg_tup (dgs_cons (dg_name (to (by decide +kernel))) (dgs_cons (dg_name (to (by decide +kernel))) dgs_nil))) dts_nil (DE.v (de_var (vo (by decide +kernel)))) (by decide +kernel)))))) (dps_cons (DE.v (de_tuple (nb (by decide +kernel)) (DV.b (DN.v (dn_comp (own := [(("many" : Str), 5), (("rank" : Str), 2)]) (di_e (DE.v (de_var (vo (by decide +kernel))))) (bo (by decide +kernel)) (dg_tup (dgs_cons (dg_name (to (by decide +kernel))) (dgs_cons (dg_name (to (by decide +kernel))) dgs_nil))) dts_nil (DE.v (de_var (vo (by decide +kernel)))) (by decide +kernel)))))) dps_nil))))
  dss_nil))))
theorem ds50 : DSs Γ0 N50 (fnSco s50) (defBody s50) b50 := by exact
  (dss_cons (ds_unpack (dg_tup (dgs_cons (dg_name (to (by decide +kernel))) (dgs_cons (dg_name (to (by decide +kernel))) dgs_nil))) (DE.v (de_call (go (by decide +kernel)) (mo (by decide +kernel)) (das_cons (de_var (vo (by decide +kernel))) das_nil))))
  (dss_cons (ds_if (dt_lt (DE.v (de_len (nb (by decide +kernel)) (db_var (vo (by decide +kernel))))) (DV.b (DP.v dp_int))) (dss_cons (ds_ret (de_tup (dps_cons (DE.v (de_look (go (by decide +kernel)) (by decide) (db_var (vo (by decide +kernel))))) (dps_cons (DE.v (de_var (vo (by decide +kernel)))) dps_nil))))
  dss_nil) dss_nil)
  (dss_cons (ds_set (to (by decide +kernel)) (de_call (go (by decide +kernel)) (mo (by decide +kernel)) (das_cons (de_var (vo (by decide +kernel))) das_nil)))
  (dss_cons (ds_set (to (by decide +kernel)) (de_eq (DE.v (de_lenSet (nb (by decide +kernel)) (nb (by decide +kernel)) (DV.b (DN.v (dn_comp (own := [(("rank" : Str), 5), (("suit" : Str), 6)]) (di_e (DE.v (de_var (vo (by decide +kernel))))) (bo (by decide +kernel)) (dg_tup (dgs_cons (dg_name (to (by decide +kernel))) (dgs_cons (dg_name (to (by decide +kernel))) dgs_nil))) dts_nil (DE.v (de_var (vo (by decide +kernel)))) (by decide +kernel)))))) (DV.b (DP.v dp_int))))
  (dss_cons (ds_if (DW.t (dw_and (dt_gt (DE.v (de_var (vo (by decide +kernel)))) (DV.b (DP.v dp_int))) (dw_and1 (dt_val (db_var (vo (by decide +kernel))))))) (dss_cons (ds_ret (de_tup (dps_cons (DP.v dp_int) (dps_cons (DE.v (de_tup (dps_cons (DE.v (de_var (vo (by decide +kernel)))) dps_nil))) dps_nil))))
  dss_nil) dss_nil)
  (dss_cons (ds_if (dt_val (db_var (vo (by decide +kernel)))) (dss_cons (ds_ret (de_tup (dps_cons (DP.v dp_int) (dps_cons (DE.v (de_var (vo (by decide +kernel)))) dps_nil))))
  dss_nil) dss_nil)
  (dss_cons (ds_if (dt_gt (DE.v (de_var (vo (by decide +kernel)))) (DV.b (DP.v dp_int))) (dss_cons (ds_ret (de_tup (dps_cons (DP.v dp_int) (dps_cons (DE.v (de_tup (dps_cons (DE.v (de_var (vo (by decide +kernel)))) dps_nil))) dps_nil))))
  dss_nil) dss_nil)
  (dss_cons (ds_ret (de_tup (dps_cons (DP.v dp_int) (dps_cons (DE.v (de_var (vo (by decide +kernel)))) dps_nil))))
  dss_nil))))))))
theorem ds56 : DSs Γ0 N56 (fnSco s56) (defBody s56) b56 := by exact
  (dss_cons (ds_ret (de_max (nb (by decide +kernel)) (DV.b (DN.v (dn_comp (own := [(("five" : Str), 1)]) (di_e (DE.v (de_call (go (by decide +kernel)) (mo (by decide +kernel)) (das_cons (de_var (vo (by decide +kernel))) (das_cons (DP.toE dp_int) das_nil))))) (bo (by decide +kernel)) (dg_name (to (by decide +kernel))) dts_nil (DE.v (de_call (go (by decide +kernel)) (mo (by decide +kernel)) (das_cons (de_var (vo (by decide +kernel))) das_nil))) (by decide +kernel))))))
  dss_nil)
theorem ds57 : DSs Γ0 N57 (fnSco s57) (defBody s57) b57 := by exact
  (dss_cons (ds_setC (to (by decide +kernel)) (DN.toE (dn_comp (own := [(("hole" : Str), 3)]) (di_e (DE.v (de_var (vo (by decide +kernel))))) (bo (by decide +kernel)) (dg_name (to (by decide +kernel))) dts_nil (DE.v (de_call (go (by decide +kernel)) (mo (by decide +kernel)) (das_cons (de_addD (DE.v (de_var (vo (by decide +kernel)))) (DE.v (de_var (vo (by decide +kernel))))) das_nil))) (by decide +kernel)) dat_comp) (by rfl))
  (dss_cons (ds_ret (de_tuple (nb (by decide +kernel)) (DV.b (DN.v (dn_comp (own := [(("seat" : Str), 4), (("rank" : Str), 5)]) (di_enum (nb (by decide +kernel)) (DE.v (de_var (vo (by decide +kernel))))) (bo (by decide +kernel)) (dg_tup (dgs_cons (dg_name (to (by decide +kernel))) (dgs_cons (dg_name (to (by decide +kernel))) dgs_nil))) (dts_one (dt_eq (DE.v (de_var (vo (by decide +kernel)))) (DV.b (DE.v (de_max (nb (by decide +kernel)) (db_var (vo (by decide +kernel)))))))) (DE.v (de_var (vo (by decide +kernel)))) (by decide +kernel))))))
  dss_nil))
theorem ds58 : DSs Γ0 N58 (fnSco s58) (defBody s58) b58 := by exact
  (dss_cons (ds_set (to (by decide +kernel)) (de_call (go (by decide +kernel)) (mo (by decide +kernel)) (das_cons (de_addD (DE.v (de_var (vo (by decide +kernel)))) (DE.v (de_var (vo (by decide +kernel))))) das_nil)))
  (dss_cons (ds_ret (de_tuple (nb (by decide +kernel)) (DV.b (DN.v (dn_comp (own := [(("two" : Str), 4)]) (di_e (DE.v (de_call (go (by decide +kernel)) (mo (by decide +kernel)) (das_cons (de_var (vo (by decide +kernel))) (das_cons (DP.toE dp_int) das_nil))))) (bo (by decide +kernel)) (dg_name (to (by decide +kernel))) (dts_one (dt_gt (DE.v (de_call (go (by decide +kernel)) (mo (by decide +kernel)) (das_cons (de_addD (DE.v (de_var (vo (by decide +kernel)))) (DE.v (de_var (vo (by decide +kernel))))) das_nil))) (db_var (vo (by decide +kernel))))) (DE.v (de_var (vo (by decide +kernel)))) (by decide +kernel))))))
  dss_nil))
theorem ds13 : DSs Γ0 N13 (fnSco s13) (defBody s13) b13 := by exact
  (dss_cons (ds_app (vo (by decide +kernel)) (DP.v dp_int) ⟨rfl⟩)
  (dss_cons (ds_set (to (by decide +kernel)) (de_len (nb (by decide +kernel)) (db_var (vo (by decide +kernel)))))
  (dss_cons (ds_set (to (by decide +kernel)) (DP.toE dp_int))
  (dss_cons (ds_if (dt_val (db_var (vo (by decide +kernel)))) (dss_cons (ds_set (to (by decide +kernel)) (de_ixB (db_var (vo (by decide +kernel))) (dp_mod (dp_var (vo (by decide +kernel))) (dp_len1 (nb (by decide +kernel)) (vo (by decide +kernel))))))
  dss_nil) dss_nil)
  (dss_cons (ds_set (to (by decide +kernel)) (de_modD (DE.v (de_addD (DE.v (de_var (vo (by decide +kernel)))) (DE.v (de_mulD (DP.v dp_int) (DE.v (de_var (vo (by decide +kernel)))))))) (DP.v dp_int)))
  (dss_cons (ds_set (to (by decide +kernel)) (de_modD (DE.v (de_mulD (DE.v (de_modD (DE.v (de_mulD (DE.v (de_var (vo (by decide +kernel)))) (DE.v (de_var (vo (by decide +kernel)))))) (DP.v dp_int))) (DP.v dp_int))) (DP.v dp_int)))
  (dss_cons (ds_set (to (by decide +kernel)) (de_modD (DE.v (de_mulD (DE.v (de_modD (DE.v (de_mulD (DE.v (de_var (vo (by decide +kernel)))) (DE.v (de_var (vo (by decide +kernel)))))) (DP.v dp_int))) (DP.v dp_int))) (DP.v dp_int)))
  (dss_cons (ds_ret (de_modD (DE.v (de_addD (DE.v (de_mulD (DE.v (de_divD (DE.v (de_var (vo (by decide +kernel)))) (DP.v dp_int))) (DP.v dp_int))) (DE.v (de_divD (DE.v (de_var (vo (by decide +kernel)))) (DP.v dp_int))))) (DE.v (de_var (vo (by decide +kernel))))))
  dss_nil))))))))
theorem ds14 : DSs Γ0 N14 (fnSco s14) (defBody s14) b14 := by exact
  (dss_cons (ds_ret (de_ix (DE.v (de_var (vo (by decide +kernel)))) (DV.b (DE.v (de_call (go (by decide +kernel)) (mo (by decide +kernel)) (das_cons (de_var (vo (by decide +kernel))) (das_cons (de_var (vo (by decide +kernel))) (das_cons (de_len (nb (by decide +kernel)) (db_var (vo (by decide +kernel)))) das_nil))))))))
  dss_nil)
theorem ds59 : DSs Γ0 N59 (fnSco s59) (defBody s59) b59 := by exact
  (dss_cons (ds_set (to (by decide +kernel)) (de_tup (dps_cons (DP.v dp_int) (dps_cons (DP.v dp_int) (dps_cons (DP.v dp_int) (dps_cons (DP.v dp_int) (dps_cons (DP.v dp_int) (dps_cons (DP.v dp_int) (dps_cons (DP.v dp_int) (dps_cons (DP.v dp_int) (dps_cons (DP.v dp_int) (dps_cons (DP.v dp_int) (dps_cons (DP.v dp_int) (dps_cons (DP.v dp_int) (dps_cons (DP.v dp_int) dps_nil)))))))))))))))
  (dss_cons (ds_set (to (by decide +kernel)) (de_call (go (by decide +kernel)) (mo (by decide +kernel)) (das_cons (de_var (vo (by decide +kernel))) (das_cons (de_var (vo (by decide +kernel))) (das_cons (DN.toE (dn_lst (dps_cons (DE.v (de_var (vo (by decide +kernel)))) (dps_cons (DE.v (de_var (vo (by decide +kernel)))) (dps_cons (DE.v (de_tup (dps_cons (DP.v dp_int) (dps_cons (DP.v dp_int) (dps_cons (DP.v dp_int) (dps_cons (DP.v dp_int) (dps_cons (DP.v dp_int) dps_nil))))))) (dps_cons (DE.v (de_tup (dps_cons (DP.v dp_int) (dps_cons (DP.v dp_int) (dps_cons (DP.v dp_int) (dps_cons (DP.v dp_int) (dps_cons (DP.v dp_int) dps_nil))))))) (dps_cons (DE.v (de_tup (dps_cons (DP.v dp_int) (dps_cons (DP.v dp_int) (dps_cons (DP.v dp_int) (dps_cons (DP.v dp_int) dps_nil)))))) dps_nil)))))) dat_lst) das_nil)))))
  (dss_cons (ds_set2 (lo (by decide +kernel)) (lo (by decide +kernel)) (by decide) (de_mk (dn_lst dps_nil)) (de_tup dps_nil) (by rfl))
  (dss_cons (ds_for (di_e (DE.v (de_var (vo (by decide +kernel))))) (dg_name (to (by decide +kernel))) (dss_cons (ds_ext (vo (by decide +kernel)) (dn_comp (own := [(("_law_suit" : Str), 9)]) (di_e (DP.v dp_str)) (bo (by decide +kernel)) (dg_name (to (by decide +kernel))) dts_nil (DE.v (de_tup (dps_cons (DE.v (de_var (vo (by decide +kernel)))) (dps_cons (DE.v (de_var (vo (by decide +kernel)))) dps_nil)))) (by decide +kernel)) ⟨rfl⟩)
  dss_nil))
  (dss_cons (ds_for (di_rng1 (nb (by decide +kernel)) (DE.v (de_var (vo (by decide +kernel))))) (dg_name (to (by decide +kernel))) (dss_cons (ds_set (to (by decide +kernel)) (de_addD (DE.v (de_var (vo (by decide +kernel)))) (DE.v (de_tup (dps_cons (DE.v (de_pop (vo (by decide +kernel)) (DE.v (de_call (go (by decide +kernel)) (mo (by decide +kernel)) (das_cons (de_var (vo (by decide +kernel))) (das_cons (de_var (vo (by decide +kernel))) (das_cons (de_len (nb (by decide +kernel)) (db_var (vo (by decide +kernel)))) das_nil))))) ⟨rfl⟩)) dps_nil)))))
  dss_nil))
  (dss_cons (ds_ret (de_var (vo (by decide +kernel))))
  dss_nil))))))
theorem ds41 : DSs Γ0 N41 (fnSco s41) (defBody s41) b41 := by exact
  (dss_cons (ds_set2 (lo (by decide +kernel)) (lo (by decide +kernel)) (by decide) (de_mk (dn_list (nb (by decide +kernel)) (db_var (vo (by decide +kernel))))) (de_mk (dn_lst dps_nil)) (by rfl))
  (dss_cons (ds_while (dt_val (db_var (vo (by decide +kernel)))) (dss_cons (ds_app (vo (by decide +kernel)) (DE.v (de_pop (vo (by decide +kernel)) (DE.v (de_call (go (by decide +kernel)) (mo (by decide +kernel)) (das_cons (de_var (vo (by decide +kernel))) (das_cons (de_var (vo (by decide +kernel))) (das_cons (de_len (nb (by decide +kernel)) (db_var (vo (by decide +kernel)))) das_nil))))) ⟨rfl⟩)) ⟨rfl⟩)
  dss_nil))
  (dss_cons (ds_ret (de_tuple (nb (by decide +kernel)) (db_var (vo (by decide +kernel)))))
  dss_nil)))
theorem ds61 : DSs Γ0 N61 (fnSco s61) (defBody s61) b61 := by exact
  (dss_cons (ds_for (di_rng1 (nb (by decide +kernel)) (DE.v (de_len (nb (by decide +kernel)) (db_var (vo (by decide +kernel)))))) (dg_name (to (by decide +kernel))) (dss_cons (ds_if (DW.t (dw_and (dt_ne (DE.v (de_var (vo (by decide +kernel)))) (db_var (vo (by decide +kernel)))) (dw_and1 (dt_notIn (DP.v dp_int) (DV.b (DE.v (de_call (go (by decide +kernel)) (mo (by decide +kernel)) (das_cons (de_tup (dps_cons (DE.v (de_ixB (db_var (vo (by decide +kernel))) (dp_var (vo (by decide +kernel))))) (dps_cons (DE.v (de_ixB (db_var (vo (by decide +kernel))) (dp_var (vo (by decide +kernel))))) dps_nil))) (das_cons (de_var (vo (by decide +kernel))) das_nil))))))))) (dss_cons (ds_ret (DP.toE dp_bool))
  dss_nil) dss_nil)
  dss_nil))
  (dss_cons (ds_ret (DP.toE dp_bool))
  dss_nil))
theorem ds62 : DSs Γ0 N62 (fnSco s62) (defBody s62) b62 := by exact
  (dss_cons (ds_set (to (by decide +kernel)) (de_mk (dn_lst dps_nil)))
  (dss_cons (ds_for (di_rng1 (nb (by decide +kernel)) (DE.v (de_len (nb (by decide +kernel)) (db_var (vo (by decide +kernel)))))) (dg_name (to (by decide +kernel))) (dss_cons (ds_ext (vo (by decide +kernel)) (dn_comp (own := [(("_law_later" : Str), 3)]) (di_e (DE.v (de_slice (db_var (vo (by decide +kernel))) (do_some (dp_add (dp_var (vo (by decide +kernel))) dp_int)) do_none))) (bo (by decide +kernel)) (dg_name (to (by decide +kernel))) dts_nil (DE.v (de_tup (dps_cons (DE.v (de_ixB (db_var (vo (by decide +kernel))) (dp_var (vo (by decide +kernel))))) (dps_cons (DE.v (de_var (vo (by decide +kernel)))) dps_nil)))) (by decide +kernel)) ⟨rfl⟩)
  dss_nil))
  (dss_cons (ds_ret (de_freeze (vo (by decide +kernel))))
  dss_nil)))
theorem ds63 : DSs Γ0 N63 (fnSco s63) (defBody s63) b63 := by exact
  (dss_cons (ds_set (to (by decide +kernel)) (de_mk (dn_lst dps_nil)))
  (dss_cons (ds_for (di_rng1 (nb (by decide +kernel)) (DP.v dp_int)) (dg_name (to (by decide +kernel))) (dss_cons (ds_set2 (lo (by decide +kernel)) (lo (by decide +kernel)) (by decide) (de_addD (DP.v dp_int) (DE.v (de_call (go (by decide +kernel)) (mo (by decide +kernel)) (das_cons (de_var (vo (by decide +kernel))) (das_cons (de_var (vo (by decide +kernel))) (das_cons (DP.toE dp_int) das_nil)))))) (de_addD (DP.v dp_int) (DE.v (de_call (go (by decide +kernel)) (mo (by decide +kernel)) (das_cons (de_var (vo (by decide +kernel))) (das_cons (de_var (vo (by decide +kernel))) (das_cons (DP.toE dp_int) das_nil)))))) (by rfl))
  (dss_cons (ds_set (to (by decide +kernel)) (de_call (go (by decide +kernel)) (mo (by decide +kernel)) (das_cons (de_var (vo (by decide +kernel))) (das_cons (de_var (vo (by decide +kernel))) (das_cons (de_addD (DE.v (de_mulD (DP.v dp_int) (DE.v (de_var (vo (by decide +kernel)))))) (DE.v (de_var (vo (by decide +kernel))))) das_nil)))))
  (dss_cons (ds_unpackP (dg_tup (dgs_cons (dg_name (to (by decide +kernel))) (dgs_cons (dg_name (to (by decide +kernel))) dgs_nil))) (DE.v (de_tup (dps_cons (DE.v (de_tuple (nb (by decide +kernel)) (DV.b (DN.v (dn_comp (own := [(("_law_at" : Str), 21)]) (di_rng1 (nb (by decide +kernel)) (DE.v (de_var (vo (by decide +kernel))))) (bo (by decide +kernel)) (dg_name (to (by decide +kernel))) dts_nil (DE.v (de_slice (db_var (vo (by decide +kernel))) (do_some (dp_mul dp_int (dp_var (vo (by decide +kernel))))) (do_some (dp_add (dp_mul dp_int (dp_var (vo (by decide +kernel)))) dp_int)))) (by decide +kernel)))))) (dps_cons (DE.v (de_slice (db_var (vo (by decide +kernel))) (do_some (dp_mul dp_int (dp_var (vo (by decide +kernel))))) do_none)) dps_nil)))) (by rfl))
  (dss_cons (ds_set (to (by decide +kernel)) (de_call (go (by decide +kernel)) (mo (by decide +kernel)) (das_cons (de_var (vo (by decide +kernel))) (das_cons (de_var (vo (by decide +kernel))) das_nil))))
  (dss_cons (ds_comp (so (by decide +kernel)) (own := [(("_law_seat" : Str), 13)]) (di_rng1 (nb (by decide +kernel)) (DE.v (de_var (vo (by decide +kernel))))) (bo (by decide +kernel)) (dg_name (to (by decide +kernel))) (dts_one (dt_val (DV.b (DE.v (de_call (go (by decide +kernel)) (mo (by decide +kernel)) (das_cons (de_var (vo (by decide +kernel))) (das_cons (de_var (vo (by decide +kernel))) (das_cons (de_var (vo (by decide +kernel))) das_nil)))))))) (DE.v (de_var (vo (by decide +kernel)))) (by decide +kernel))
  (dss_cons (ds_if (DW.t (dw_or (dt_ne (DN.v (dn_list (nb (by decide +kernel)) (db_var (vo (by decide +kernel))))) (db_var (vo (by decide +kernel)))) (dw_or1 (dt_eq (DE.v (de_var (vo (by decide +kernel)))) (DV.b (DE.v (de_tup dps_nil))))))) (dss_cons (ds_ret (DP.toE dp_bool))
  dss_nil) dss_nil)
  (dss_cons (ds_set (to (by decide +kernel)) (de_call (go (by decide +kernel)) (mo (by decide +kernel)) (das_cons (de_var (vo (by decide +kernel))) (das_cons (de_var (vo (by decide +kernel))) (das_cons (DN.toE (dn_listRg1 (nb (by decide +kernel)) (nb (by decide +kernel)) (db_var (vo (by decide +kernel)))) dat_op1) das_nil)))))
  (dss_cons (ds_set (to (by decide +kernel)) (de_call (go (by decide +kernel)) (mo (by decide +kernel)) (das_cons (de_tuple (nb (by decide +kernel)) (DV.b (DN.v (dn_comp (own := [(("_law_seat" : Str), 13)]) (di_e (DE.v (de_var (vo (by decide +kernel))))) (bo (by decide +kernel)) (dg_name (to (by decide +kernel))) dts_nil (DE.v (de_ixB (db_var (vo (by decide +kernel))) (dp_var (vo (by decide +kernel))))) (by decide +kernel))))) (das_cons (de_var (vo (by decide +kernel))) das_nil))))
  (dss_cons (ds_if (dt_ne (DN.v (dn_sorted (nb (by decide +kernel)) (DV.b (DN.v (dn_comp (own := [(("_law_seat" : Str), 13)]) (di_e (DE.v (de_var (vo (by decide +kernel))))) (bo (by decide +kernel)) (dg_name (to (by decide +kernel))) dts_nil (DE.v (de_ixB (db_var (vo (by decide +kernel))) (dp_var (vo (by decide +kernel))))) (by decide +kernel)))))) (DV.b (DN.v (dn_list (nb (by decide +kernel)) (db_var (vo (by decide +kernel))))))) (dss_cons (ds_ret (DP.toE dp_bool))
  dss_nil) dss_nil)
  (dss_cons (ds_setC (to (by decide +kernel)) (DN.toE (dn_comp (own := [(("_law_hole" : Str), 18)]) (di_e (DE.v (de_var (vo (by decide +kernel))))) (bo (by decide +kernel)) (dg_name (to (by decide +kernel))) dts_nil (DE.v (de_call (go (by decide +kernel)) (mo (by decide +kernel)) (das_cons (de_addD (DE.v (de_var (vo (by decide +kernel)))) (DE.v (de_var (vo (by decide +kernel))))) das_nil))) (by decide +kernel)) dat_comp) (by rfl))
  (dss_cons (ds_if (dt_not (dt_val (DV.b (DE.v (de_all (nb (by decide +kernel)) (DV.b (DN.v (dn_comp (own := [(("_law_seat" : Str), 13)]) (di_rng1 (nb (by decide +kernel)) (DE.v (de_var (vo (by decide +kernel))))) (bo (by decide +kernel)) (dg_name (to (by decide +kernel))) dts_nil (DE.v (de_eq (DE.v (de_eq (DE.v (de_ixB (db_var (vo (by decide +kernel))) (dp_var (vo (by decide +kernel))))) (DV.b (DE.v (de_max (nb (by decide +kernel)) (db_var (vo (by decide +kernel)))))))) (DV.b (DE.v (de_in (DE.v (de_var (vo (by decide +kernel)))) (db_var (vo (by decide +kernel)))))))) (by decide +kernel))))))))) (dss_cons (ds_ret (DP.toE dp_bool))
  dss_nil) dss_nil)
  (dss_cons (ds_for (di_rng1 (nb (by decide +kernel)) (DE.v (de_var (vo (by decide +kernel))))) (dg_name (to (by decide +kernel))) (dss_cons (ds_if (DW.t (dw_and (dt_gt (DE.v (de_var (vo (by decide +kernel)))) (DV.b (DP.v dp_int))) (dw_and1 (dt_notIn (DE.v (de_var (vo (by decide +kernel)))) (db_var (vo (by decide +kernel))))))) (dss_cons (ds_set (to (by decide +kernel)) (de_call (go (by decide +kernel)) (mo (by decide +kernel)) (das_cons (de_addD (DE.v (de_slice (db_var (vo (by decide +kernel))) do_none (do_some (dp_var (vo (by decide +kernel)))))) (DE.v (de_slice (db_var (vo (by decide +kernel))) (do_some (dp_add (dp_var (vo (by decide +kernel))) dp_int)) do_none))) (das_cons (de_var (vo (by decide +kernel))) das_nil))))
  (dss_cons (ds_if (dt_ne (DE.v (de_var (vo (by decide +kernel)))) (DV.b (DE.v (de_tuple (nb (by decide +kernel)) (DV.b (DN.v (dn_comp (own := [(("_law_one" : Str), 22)]) (di_e (DE.v (de_var (vo (by decide +kernel))))) (bo (by decide +kernel)) (dg_name (to (by decide +kernel))) dts_nil (DE.v (de_subD (DE.v (de_var (vo (by decide +kernel)))) (DE.v (de_int (nb (by decide +kernel)) (DV.b (DE.v (de_gt (DE.v (de_var (vo (by decide +kernel)))) (db_var (vo (by decide +kernel)))))))))) (by decide +kernel)))))))) (dss_cons (ds_ret (DP.toE dp_bool))
  dss_nil) dss_nil)
  dss_nil)) dss_nil)
  dss_nil))
  (dss_cons (ds_if (dt_eq (DE.v (de_var (vo (by decide +kernel)))) (DV.b (DP.v dp_int))) (dss_cons (ds_set (to (by decide +kernel)) (de_addD (DE.v (de_ixB (db_var (vo (by decide +kernel))) dp_int)) (DE.v (de_ite (dt_gt (DE.v (de_var (vo (by decide +kernel)))) (DV.b (DP.v dp_int))) (de_ixB (db_var (vo (by decide +kernel))) dp_int) (de_tup dps_nil)))))
  (dss_cons (ds_comp (so (by decide +kernel)) (own := [(("_law_two" : Str), 19)]) (di_e (DE.v (de_call (go (by decide +kernel)) (mo (by decide +kernel)) (das_cons (de_var (vo (by decide +kernel))) das_nil)))) (bo (by decide +kernel)) (dg_name (to (by decide +kernel))) (dts_one (dt_eq (DE.v (de_call (go (by decide +kernel)) (mo (by decide +kernel)) (das_cons (de_tup (dps_cons (DE.v (de_var (vo (by decide +kernel)))) (dps_cons (DE.v (de_ixB (db_var (vo (by decide +kernel))) dp_int)) dps_nil))) (das_cons (de_var (vo (by decide +kernel))) das_nil)))) (DV.b (DE.v (de_tup (dps_cons (DP.v dp_int) dps_nil)))))) (DE.v (de_var (vo (by decide +kernel)))) (by decide +kernel))
  (dss_cons (ds_if (dt_ne (DN.v (dn_list (nb (by decide +kernel)) (DV.b (DE.v (de_call (go (by decide +kernel)) (mo (by decide +kernel)) (das_cons (de_ixB (db_var (vo (by decide +kernel))) dp_int) (das_cons (de_var (vo (by decide +kernel))) (das_cons (de_var (vo (by decide +kernel))) das_nil)))))))) (db_var (vo (by decide +kernel)))) (dss_cons (ds_ret (DP.toE dp_bool))
  dss_nil) dss_nil)
  dss_nil))) dss_nil)
  (dss_cons (ds_set (to (by decide +kernel)) (de_tuple (nb (by decide +kernel)) (DV.b (DN.v (dn_comp (own := [(("_law_rank" : Str), 20)]) (di_e (DE.v (de_tup (dps_cons (DP.v dp_int) (dps_cons (DP.v dp_int) (dps_cons (DP.v dp_int) (dps_cons (DP.v dp_int) (dps_cons (DP.v dp_int) dps_nil)))))))) (bo (by decide +kernel)) (dg_name (to (by decide +kernel))) dts_nil (DE.v (de_tup (dps_cons (DE.v (de_var (vo (by decide +kernel)))) (dps_cons (DP.v dp_str) dps_nil)))) (by decide +kernel))))))
  (dss_cons (ds_set (to (by decide +kernel)) (de_tuple (nb (by decide +kernel)) (DV.b (DN.v (dn_comp (own := [(("_law_at" : Str), 21)]) (di_rng1 (nb (by decide +kernel)) (DE.v (de_var (vo (by decide +kernel))))) (bo (by decide +kernel)) (dg_name (to (by decide +kernel))) dts_nil (DE.v (de_tup (dps_cons (DE.v (de_tup (dps_cons (DE.v (de_addD (DP.v dp_int) (DE.v (de_var (vo (by decide +kernel)))))) (dps_cons (DP.v dp_str) dps_nil)))) (dps_cons (DE.v (de_tup (dps_cons (DE.v (de_addD (DP.v dp_int) (DE.v (de_var (vo (by decide +kernel)))))) (dps_cons (DP.v dp_str) dps_nil)))) dps_nil)))) (by decide +kernel))))))
  (dss_cons (ds_if (dt_ne (DE.v (de_call (go (by decide +kernel)) (mo (by decide +kernel)) (das_cons (de_var (vo (by decide +kernel))) (das_cons (de_var (vo (by decide +kernel))) das_nil)))) (DV.b (DE.v (de_tupRg1 (nb (by decide +kernel)) (nb (by decide +kernel)) (db_var (vo (by decide +kernel))))))) (dss_cons (ds_ret (DP.toE dp_bool))
  dss_nil) dss_nil)
  dss_nil)))))))))))))))))
  (dss_cons (ds_ret (DP.toE dp_bool))
  dss_nil)))
theorem all_mk {K : PySem.W.Frag} {h : Heap} {mg : Str → Option Value} {fa f55 f48 f49 f50 f56 f57 f58 f13 f14 f59 f41 f61 f62 f63 : Addr} (X : K.In h) (G : h.Ns mainGlobals mg) (hfa : mg "law" = some (.ref fa))
    {tT0_0_0 : Tok} {tT0_0_1 : Tok} {tT0_0_2 : Tok} {tT0_0_3 : Tok} {tA0_0 : Addr} {tN0_0 : Nat} {tH0_0 : Int} {tV0_0 : Tok} {tT0_1_0 : Tok} {tT0_1_1 : Tok} {tT0_1_2 : Tok} {tA0_1 : Addr} {tN0_1 : Nat} {tH0_1 : Int} {tV0_1 : Tok} {tT0_2_0 : Tok} {tT0_2_1 : Tok} {tT0_2_2 : Tok} {tA0_2 : Addr} {tN0_2 : Nat} {tH0_2 : Int} {tV0_2 : Tok} {tT0_3_0 : Tok} {tT0_3_1 : Tok} {tA0_3 : Addr} {tN0_3 : Nat} {tH0_3 : Int} {tV0_3 : Tok} {tT0_4_0 : Tok} {tT0_4_1 : Tok} {tA0_4 : Addr} {tN0_4 : Nat} {tH0_4 : Int} {tV0_4 : Tok} {tB0 : Addr} {tM0 : Nat} {cT0_0 : Tok} {cT0_1 : Tok} {cT0_2 : Tok} {cT0_3 : Tok} {cT0_4 : Tok} {cA0 : Addr} {cN0 : Nat}
    {od55 an55 od48 an48 od49 an49 od50 an50 od56 an56 od57 an57 od58 an58 od13 an13 od14 an14 od59 an59 od41 an41 od61 an61 od62 an62 od63 an63 : Option Addr} {sl55 sl48 sl49 sl50 sl56 sl57 sl58 sl13 sl14 sl59 sl41 sl61 sl62 sl63 : Array (Option Value)} {oc55 kV55 dc55 pm55 cd55 ct55 oc48 kV48 dc48 pm48 cd48 ct48 oc49 kV49 dc49 pm49 cd49 ct49 oc50 kV50 dc50 pm50 cd50 ct50 oc56 kV56 dc56 pm56 cd56 ct56 oc57 kV57 dc57 pm57 cd57 ct57 oc58 kV58 dc58 pm58 cd58 ct58 oc13 kV13 dc13 pm13 cd13 ct13 oc14 kV14 dc14 pm14 cd14 ct14 oc59 kV59 dc59 pm59 cd59 ct59 oc41 kV41 dc41 pm41 cd41 ct41 oc61 kV61 dc61 pm61 cd61 ct61 oc62 kV62 dc62 pm62 cd62 ct62 oc63 kV63 dc63 pm63 cd63 ct63 : Value}
    (tn0 : PySem.W.nsIn K mainGlobals "SHAPES" = some (some (.ref tB0)))
    (tb0 : K.lookup tB0 = some ⟨.type "dict", none, .dict [⟨tH0_0, .ref tA0_0, .int 1 tV0_0⟩, ⟨tH0_1, .ref tA0_1, .int 2 tV0_1⟩, ⟨tH0_2, .ref tA0_2, .int 3 tV0_2⟩, ⟨tH0_3, .ref tA0_3, .int 6 tV0_3⟩, ⟨tH0_4, .ref tA0_4, .int 7 tV0_4⟩].toArray tM0, #[]⟩)
    (a55 : PySem.W.nsIn K mainGlobals "choices" = some (some (.ref f55)))
    (i55 : PySem.W.isFn K (.ref f55) = true)
    (l55 : K.lookup f55 = some ⟨oc55, od55, .func (PySem.W.fnOf "choices" "choices" (defArgs s55) (defBody s55) (defScope s55) .none kV55 dc55 pm55 an55 cd55 ct55), sl55⟩)
    (c55 : PySem.W.codeIn K cd55 "choices" = true)
    (k55 : PySem.W.keepIn K (.ref f55) = true)
    (a48 : PySem.W.nsIn K mainGlobals "row_top" = some (some (.ref f48)))
    (i48 : PySem.W.isFn K (.ref f48) = true)
    (l48 : K.lookup f48 = some ⟨oc48, od48, .func (PySem.W.fnOf "row_top" "row_top" (defArgs s48) (defBody s48) (defScope s48) .none kV48 dc48 pm48 an48 cd48 ct48), sl48⟩)
    (c48 : PySem.W.codeIn K cd48 "row_top" = true)
    (k48 : PySem.W.keepIn K (.ref f48) = true)
    (a49 : PySem.W.nsIn K mainGlobals "grouped" = some (some (.ref f49)))
    (i49 : PySem.W.isFn K (.ref f49) = true)
    (l49 : K.lookup f49 = some ⟨oc49, od49, .func (PySem.W.fnOf "grouped" "grouped" (defArgs s49) (defBody s49) (defScope s49) .none kV49 dc49 pm49 an49 cd49 ct49), sl49⟩)
    (c49 : PySem.W.codeIn K cd49 "grouped" = true)
    (k49 : PySem.W.keepIn K (.ref f49) = true)
    (a50 : PySem.W.nsIn K mainGlobals "rank_of" = some (some (.ref f50)))
    (i50 : PySem.W.isFn K (.ref f50) = true)
    (l50 : K.lookup f50 = some ⟨oc50, od50, .func (PySem.W.fnOf "rank_of" "rank_of" (defArgs s50) (defBody s50) (defScope s50) .none kV50 dc50 pm50 an50 cd50 ct50), sl50⟩)
    (c50 : PySem.W.codeIn K cd50 "rank_of" = true)
    (k50 : PySem.W.keepIn K (.ref f50) = true)
    (a56 : PySem.W.nsIn K mainGlobals "best_rank" = some (some (.ref f56)))
    (i56 : PySem.W.isFn K (.ref f56) = true)
    (l56 : K.lookup f56 = some ⟨oc56, od56, .func (PySem.W.fnOf "best_rank" "best_rank" (defArgs s56) (defBody s56) (defScope s56) .none kV56 dc56 pm56 an56 cd56 ct56), sl56⟩)
    (c56 : PySem.W.codeIn K cd56 "best_rank" = true)
    (k56 : PySem.W.keepIn K (.ref f56) = true)
    (a57 : PySem.W.nsIn K mainGlobals "winners" = some (some (.ref f57)))
    (i57 : PySem.W.isFn K (.ref f57) = true)
    (l57 : K.lookup f57 = some ⟨oc57, od57, .func (PySem.W.fnOf "winners" "winners" (defArgs s57) (defBody s57) (defScope s57) .none kV57 dc57 pm57 an57 cd57 ct57), sl57⟩)
    (c57 : PySem.W.codeIn K cd57 "winners" = true)
    (k57 : PySem.W.keepIn K (.ref f57) = true)
    (a58 : PySem.W.nsIn K mainGlobals "beaten_by" = some (some (.ref f58)))
    (i58 : PySem.W.isFn K (.ref f58) = true)
    (l58 : K.lookup f58 = some ⟨oc58, od58, .func (PySem.W.fnOf "beaten_by" "beaten_by" (defArgs s58) (defBody s58) (defScope s58) .none kV58 dc58 pm58 an58 cd58 ct58), sl58⟩)
    (c58 : PySem.W.codeIn K cd58 "beaten_by" = true)
    (k58 : PySem.W.keepIn K (.ref f58) = true)
    (a13 : PySem.W.nsIn K mainGlobals "_law_draw" = some (some (.ref f13)))
    (i13 : PySem.W.isFn K (.ref f13) = true)
    (l13 : K.lookup f13 = some ⟨oc13, od13, .func (PySem.W.fnOf "_law_draw" "_law_draw" (defArgs s13) (defBody s13) (defScope s13) .none kV13 dc13 pm13 an13 cd13 ct13), sl13⟩)
    (c13 : PySem.W.codeIn K cd13 "_law_draw" = true)
    (k13 : PySem.W.keepIn K (.ref f13) = true)
    (a14 : PySem.W.nsIn K mainGlobals "_law_pick" = some (some (.ref f14)))
    (i14 : PySem.W.isFn K (.ref f14) = true)
    (l14 : K.lookup f14 = some ⟨oc14, od14, .func (PySem.W.fnOf "_law_pick" "_law_pick" (defArgs s14) (defBody s14) (defScope s14) .none kV14 dc14 pm14 an14 cd14 ct14), sl14⟩)
    (c14 : PySem.W.codeIn K cd14 "_law_pick" = true)
    (k14 : PySem.W.keepIn K (.ref f14) = true)
    (a59 : PySem.W.nsIn K mainGlobals "_law_cards" = some (some (.ref f59)))
    (i59 : PySem.W.isFn K (.ref f59) = true)
    (l59 : K.lookup f59 = some ⟨oc59, od59, .func (PySem.W.fnOf "_law_cards" "_law_cards" (defArgs s59) (defBody s59) (defScope s59) .none kV59 dc59 pm59 an59 cd59 ct59), sl59⟩)
    (c59 : PySem.W.codeIn K cd59 "_law_cards" = true)
    (k59 : PySem.W.keepIn K (.ref f59) = true)
    (a41 : PySem.W.nsIn K mainGlobals "_law_mixed" = some (some (.ref f41)))
    (i41 : PySem.W.isFn K (.ref f41) = true)
    (l41 : K.lookup f41 = some ⟨oc41, od41, .func (PySem.W.fnOf "_law_mixed" "_law_mixed" (defArgs s41) (defBody s41) (defScope s41) .none kV41 dc41 pm41 an41 cd41 ct41), sl41⟩)
    (c41 : PySem.W.codeIn K cd41 "_law_mixed" = true)
    (k41 : PySem.W.keepIn K (.ref f41) = true)
    (a61 : PySem.W.nsIn K mainGlobals "_law_wins_all" = some (some (.ref f61)))
    (i61 : PySem.W.isFn K (.ref f61) = true)
    (l61 : K.lookup f61 = some ⟨oc61, od61, .func (PySem.W.fnOf "_law_wins_all" "_law_wins_all" (defArgs s61) (defBody s61) (defScope s61) .none kV61 dc61 pm61 an61 cd61 ct61), sl61⟩)
    (c61 : PySem.W.codeIn K cd61 "_law_wins_all" = true)
    (k61 : PySem.W.keepIn K (.ref f61) = true)
    (a62 : PySem.W.nsIn K mainGlobals "_law_twos" = some (some (.ref f62)))
    (i62 : PySem.W.isFn K (.ref f62) = true)
    (l62 : K.lookup f62 = some ⟨oc62, od62, .func (PySem.W.fnOf "_law_twos" "_law_twos" (defArgs s62) (defBody s62) (defScope s62) .none kV62 dc62 pm62 an62 cd62 ct62), sl62⟩)
    (c62 : PySem.W.codeIn K cd62 "_law_twos" = true)
    (k62 : PySem.W.keepIn K (.ref f62) = true)
    (a63 : PySem.W.nsIn K mainGlobals "law" = some (some (.ref f63)))
    (i63 : PySem.W.isFn K (.ref f63) = true)
    (l63 : K.lookup f63 = some ⟨oc63, od63, .func (PySem.W.fnOf "law" "law" (defArgs s63) (defBody s63) (defScope s63) .none kV63 dc63 pm63 an63 cd63 ct63), sl63⟩)
    (c63 : PySem.W.codeIn K cd63 "law" = true)
    (k63 : PySem.W.keepIn K (.ref f63) = true)
    (z0 : PySem.W.nsIn K mainGlobals "all" = some none)
    (z1 : PySem.W.nsIn K mainGlobals "enumerate" = some none)
    (z2 : PySem.W.nsIn K mainGlobals "int" = some none)
    (z3 : PySem.W.nsIn K mainGlobals "len" = some none)
    (z4 : PySem.W.nsIn K mainGlobals "list" = some none)
    (z5 : PySem.W.nsIn K mainGlobals "max" = some none)
    (z6 : PySem.W.nsIn K mainGlobals "range" = some none)
    (z7 : PySem.W.nsIn K mainGlobals "set" = some none)
    (z8 : PySem.W.nsIn K mainGlobals "sorted" = some none)
    (z9 : PySem.W.nsIn K mainGlobals "tuple" = some none)
    (tk0_0 : K.lookup tA0_0 = some ⟨.type "tuple", none, .seq [.int 2 tT0_0_0, .int 1 tT0_0_1, .int 1 tT0_0_2, .int 1 tT0_0_3].toArray tN0_0, #[]⟩)
    (th0_0 : tH0_0 = hashT [2, 1, 1, 1])
    (tk0_1 : K.lookup tA0_1 = some ⟨.type "tuple", none, .seq [.int 2 tT0_1_0, .int 2 tT0_1_1, .int 1 tT0_1_2].toArray tN0_1, #[]⟩)
    (th0_1 : tH0_1 = hashT [2, 2, 1])
    (tk0_2 : K.lookup tA0_2 = some ⟨.type "tuple", none, .seq [.int 3 tT0_2_0, .int 1 tT0_2_1, .int 1 tT0_2_2].toArray tN0_2, #[]⟩)
    (th0_2 : tH0_2 = hashT [3, 1, 1])
    (tk0_3 : K.lookup tA0_3 = some ⟨.type "tuple", none, .seq [.int 3 tT0_3_0, .int 2 tT0_3_1].toArray tN0_3, #[]⟩)
    (th0_3 : tH0_3 = hashT [3, 2])
    (tk0_4 : K.lookup tA0_4 = some ⟨.type "tuple", none, .seq [.int 4 tT0_4_0, .int 1 tT0_4_1].toArray tN0_4, #[]⟩)
    (th0_4 : tH0_4 = hashT [4, 1])
    (cn0 : PySem.W.nsIn K mainGlobals "LOW_ROW" = some (some (.ref cA0)))
    (ct0 : K.lookup cA0 = some ⟨.type "tuple", none, .seq [.int 14 cT0_0, .int 5 cT0_1, .int 4 cT0_2, .int 3 cT0_3, .int 2 cT0_4].toArray cN0, #[]⟩)
    : ∃ (I : Inf) (fd : FuncData), (∀ (s : Shared) (u : Value), BindsTo s fd ⟨[u], []⟩ [(("_law_script" : Str), u)]) ∧ GS K mg I Γ0 ∧ ∃ (x qual : Str) (st : Stmt) (N : List Str) (dd : FnD), Fun K x qual st fa fd ∧ FnScope N [("_law_script" : Str)] (defScope st) ∧ Γ0.fns 63 = some dd ∧ dd.np = 1 ∧ N.length = dd.ns ∧ DSs Γ0 N (fnSco st) (defBody st) dd.body := by
  have e := hfa.symm.trans (PySem.W.mg_of X G a63)
  cases e
  have F55 := fun_mk (st := s55) l55 c55 k55
  have B55 := F55.binds (ps := [("cards" : Str), ("many" : Str)]) fun _ _ _ _ _ _ us hl => match us, hl with | [_, _], _ => rfl
  have S55 : FnScope N55 [("cards" : Str), ("many" : Str)] (defScope s55) := fs (by decide +kernel)
  have g55 : FnSt Γ0 K 55 _ := ⟨k55, i55, _, _, s55, _, N55, _, _, F55, S55, B55, rfl, rfl, rfl, ds55⟩
  have F48 := fun_mk (st := s48) l48 c48 k48
  have B48 := F48.binds (ps := [("ranks" : Str)]) fun _ _ _ _ _ _ us hl => match us, hl with | [_], _ => rfl
  have S48 : FnScope N48 [("ranks" : Str)] (defScope s48) := fs (by decide +kernel)
  have g48 : FnSt Γ0 K 48 _ := ⟨k48, i48, _, _, s48, _, N48, _, _, F48, S48, B48, rfl, rfl, rfl, ds48⟩
  have F49 := fun_mk (st := s49) l49 c49 k49
  have B49 := F49.binds (ps := [("five" : Str)]) fun _ _ _ _ _ _ us hl => match us, hl with | [_], _ => rfl
  have S49 : FnScope N49 [("five" : Str)] (defScope s49) := fs (by decide +kernel)
  have g49 : FnSt Γ0 K 49 _ := ⟨k49, i49, _, _, s49, _, N49, _, _, F49, S49, B49, rfl, rfl, rfl, ds49⟩
  have F50 := fun_mk (st := s50) l50 c50 k50
  have B50 := F50.binds (ps := [("five" : Str)]) fun _ _ _ _ _ _ us hl => match us, hl with | [_], _ => rfl
  have S50 : FnScope N50 [("five" : Str)] (defScope s50) := fs (by decide +kernel)
  have g50 : FnSt Γ0 K 50 _ := ⟨k50, i50, _, _, s50, _, N50, _, _, F50, S50, B50, rfl, rfl, rfl, ds50⟩
  have F56 := fun_mk (st := s56) l56 c56 k56
  have B56 := F56.binds (ps := [("cards" : Str)]) fun _ _ _ _ _ _ us hl => match us, hl with | [_], _ => rfl
  have S56 : FnScope N56 [("cards" : Str)] (defScope s56) := fs (by decide +kernel)
  have g56 : FnSt Γ0 K 56 _ := ⟨k56, i56, _, _, s56, _, N56, _, _, F56, S56, B56, rfl, rfl, rfl, ds56⟩
  have F57 := fun_mk (st := s57) l57 c57 k57
  have B57 := F57.binds (ps := [("holes" : Str), ("board" : Str)]) fun _ _ _ _ _ _ us hl => match us, hl with | [_, _], _ => rfl
  have S57 : FnScope N57 [("holes" : Str), ("board" : Str)] (defScope s57) := fs (by decide +kernel)
  have g57 : FnSt Γ0 K 57 _ := ⟨k57, i57, _, _, s57, _, N57, _, _, F57, S57, B57, rfl, rfl, rfl, ds57⟩
  have F58 := fun_mk (st := s58) l58 c58 k58
  have B58 := F58.binds (ps := [("hole" : Str), ("board" : Str), ("stub" : Str)]) fun _ _ _ _ _ _ us hl => match us, hl with | [_, _, _], _ => rfl
  have S58 : FnScope N58 [("hole" : Str), ("board" : Str), ("stub" : Str)] (defScope s58) := fs (by decide +kernel)
  have g58 : FnSt Γ0 K 58 _ := ⟨k58, i58, _, _, s58, _, N58, _, _, F58, S58, B58, rfl, rfl, rfl, ds58⟩
  have F13 := fun_mk (st := s13) l13 c13 k13
  have B13 := F13.binds (ps := [("_law_script" : Str), ("_law_town" : Str), ("_law_many" : Str)]) fun _ _ _ _ _ _ us hl => match us, hl with | [_, _, _], _ => rfl
  have S13 : FnScope N13 [("_law_script" : Str), ("_law_town" : Str), ("_law_many" : Str)] (defScope s13) := fs (by decide +kernel)
  have g13 : FnSt Γ0 K 13 _ := ⟨k13, i13, _, _, s13, _, N13, _, _, F13, S13, B13, rfl, rfl, rfl, ds13⟩
  have F14 := fun_mk (st := s14) l14 c14 k14
  have B14 := F14.binds (ps := [("_law_script" : Str), ("_law_town" : Str), ("_law_some" : Str)]) fun _ _ _ _ _ _ us hl => match us, hl with | [_, _, _], _ => rfl
  have S14 : FnScope N14 [("_law_script" : Str), ("_law_town" : Str), ("_law_some" : Str)] (defScope s14) := fs (by decide +kernel)
  have g14 : FnSt Γ0 K 14 _ := ⟨k14, i14, _, _, s14, _, N14, _, _, F14, S14, B14, rfl, rfl, rfl, ds14⟩
  have F59 := fun_mk (st := s59) l59 c59 k59
  have B59 := F59.binds (ps := [("_law_script" : Str), ("_law_town" : Str), ("_law_many" : Str)]) fun _ _ _ _ _ _ us hl => match us, hl with | [_, _, _], _ => rfl
  have S59 : FnScope N59 [("_law_script" : Str), ("_law_town" : Str), ("_law_many" : Str)] (defScope s59) := fs (by decide +kernel)
  have g59 : FnSt Γ0 K 59 _ := ⟨k59, i59, _, _, s59, _, N59, _, _, F59, S59, B59, rfl, rfl, rfl, ds59⟩
  have F41 := fun_mk (st := s41) l41 c41 k41
  have B41 := F41.binds (ps := [("_law_script" : Str), ("_law_town" : Str), ("_law_row" : Str)]) fun _ _ _ _ _ _ us hl => match us, hl with | [_, _, _], _ => rfl
  have S41 : FnScope N41 [("_law_script" : Str), ("_law_town" : Str), ("_law_row" : Str)] (defScope s41) := fs (by decide +kernel)
  have g41 : FnSt Γ0 K 41 _ := ⟨k41, i41, _, _, s41, _, N41, _, _, F41, S41, B41, rfl, rfl, rfl, ds41⟩
  have F61 := fun_mk (st := s61) l61 c61 k61
  have B61 := F61.binds (ps := [("_law_holes" : Str), ("_law_board" : Str), ("_law_seat" : Str)]) fun _ _ _ _ _ _ us hl => match us, hl with | [_, _, _], _ => rfl
  have S61 : FnScope N61 [("_law_holes" : Str), ("_law_board" : Str), ("_law_seat" : Str)] (defScope s61) := fs (by decide +kernel)
  have g61 : FnSt Γ0 K 61 _ := ⟨k61, i61, _, _, s61, _, N61, _, _, F61, S61, B61, rfl, rfl, rfl, ds61⟩
  have F62 := fun_mk (st := s62) l62 c62 k62
  have B62 := F62.binds (ps := [("_law_cards_here" : Str)]) fun _ _ _ _ _ _ us hl => match us, hl with | [_], _ => rfl
  have S62 : FnScope N62 [("_law_cards_here" : Str)] (defScope s62) := fs (by decide +kernel)
  have g62 : FnSt Γ0 K 62 _ := ⟨k62, i62, _, _, s62, _, N62, _, _, F62, S62, B62, rfl, rfl, rfl, ds62⟩
  have F63 := fun_mk (st := s63) l63 c63 k63
  have B63 := F63.binds (ps := [("_law_script" : Str)]) fun _ _ _ _ _ _ us hl => match us, hl with | [_], _ => rfl
  have S63 : FnScope N63 [("_law_script" : Str)] (defScope s63) := fs (by decide +kernel)
  have g63 : FnSt Γ0 K 63 _ := ⟨k63, i63, _, _, s63, _, N63, _, _, F63, S63, B63, rfl, rfl, rfl, ds63⟩
  refine ⟨⟨fun c => none, fun c => none⟩, _, fun s v => .of_eq rfl, ⟨(List.forall_mem_cons.mpr ⟨⟨_, PySem.W.mg_of X G a55, g55⟩, (List.forall_mem_cons.mpr ⟨⟨_, PySem.W.mg_of X G a48, g48⟩, (List.forall_mem_cons.mpr ⟨⟨_, PySem.W.mg_of X G a49, g49⟩, (List.forall_mem_cons.mpr ⟨⟨_, PySem.W.mg_of X G a50, g50⟩, (List.forall_mem_cons.mpr ⟨⟨_, PySem.W.mg_of X G a56, g56⟩, (List.forall_mem_cons.mpr ⟨⟨_, PySem.W.mg_of X G a57, g57⟩, (List.forall_mem_cons.mpr ⟨⟨_, PySem.W.mg_of X G a58, g58⟩, (List.forall_mem_cons.mpr ⟨⟨_, PySem.W.mg_of X G a13, g13⟩, (List.forall_mem_cons.mpr ⟨⟨_, PySem.W.mg_of X G a14, g14⟩, (List.forall_mem_cons.mpr ⟨⟨_, PySem.W.mg_of X G a59, g59⟩, (List.forall_mem_cons.mpr ⟨⟨_, PySem.W.mg_of X G a41, g41⟩, (List.forall_mem_cons.mpr ⟨⟨_, PySem.W.mg_of X G a61, g61⟩, (List.forall_mem_cons.mpr ⟨⟨_, PySem.W.mg_of X G a62, g62⟩, (List.forall_mem_cons.mpr ⟨⟨_, PySem.W.mg_of X G a63, g63⟩, (List.forall_mem_nil _)⟩)⟩)⟩)⟩)⟩)⟩)⟩)⟩)⟩)⟩)⟩)⟩)⟩)⟩), (List.forall_mem_cons.mpr ⟨(PySem.W.mg_none_of X G z0), (List.forall_mem_cons.mpr ⟨(PySem.W.mg_none_of X G z1), (List.forall_mem_cons.mpr ⟨(PySem.W.mg_none_of X G z2), (List.forall_mem_cons.mpr ⟨(PySem.W.mg_none_of X G z3), (List.forall_mem_cons.mpr ⟨(PySem.W.mg_none_of X G z4), (List.forall_mem_cons.mpr ⟨(PySem.W.mg_none_of X G z5), (List.forall_mem_cons.mpr ⟨(PySem.W.mg_none_of X G z6), (List.forall_mem_cons.mpr ⟨(PySem.W.mg_none_of X G z7), (List.forall_mem_cons.mpr ⟨(PySem.W.mg_none_of X G z8), (List.forall_mem_cons.mpr ⟨(PySem.W.mg_none_of X G z9), (List.forall_mem_nil _)⟩)⟩)⟩)⟩)⟩)⟩)⟩)⟩)⟩)⟩), ?con, ?cl, ?mt, ?fl, ?ci, ?xc, ?xm, ?tb⟩, _, _, s63, N63, _, F63, S63, rfl, rfl, rfl, ds63⟩
  case con => exact (List.forall_mem_cons.mpr ⟨⟨_, .ref cA0, PySem.W.mg_of X G cn0, rfl, (con_tup ct0 (by show 5 ≤ 1000; decide) (.cons (show RelV (.int 14) _ from ⟨_, rfl⟩) (.cons (show RelV (.int 5) _ from ⟨_, rfl⟩) (.cons (show RelV (.int 4) _ from ⟨_, rfl⟩) (.cons (show RelV (.int 3) _ from ⟨_, rfl⟩) (.cons (show RelV (.int 2) _ from ⟨_, rfl⟩) .nil))))) fun F H => (.cons (.int _) (.cons (.int _) (.cons (.int _) (.cons (.int _) (.cons (.int _) .nil))))))⟩, (List.forall_mem_nil _)⟩)
  case tb => exact (List.forall_mem_cons.mpr ⟨⟨tB0, PySem.W.mg_of X G tn0, _, _, tb0, ⟨tab_ent th0_0 tk0_0 (.cons _ _ (.cons _ _ (.cons _ _ (.cons _ _ .nil)))), ⟨tab_ent th0_1 tk0_1 (.cons _ _ (.cons _ _ (.cons _ _ .nil))), ⟨tab_ent th0_2 tk0_2 (.cons _ _ (.cons _ _ (.cons _ _ .nil))), ⟨tab_ent th0_3 tk0_3 (.cons _ _ (.cons _ _ .nil)), ⟨tab_ent th0_4 tk0_4 (.cons _ _ (.cons _ _ .nil)), trivial⟩⟩⟩⟩⟩, by decide⟩, (List.forall_mem_nil _)⟩)
  case cl => exact List.forall_mem_nil _
  case mt => exact List.forall_mem_nil _
  case fl => exact List.forall_mem_nil _
  case ci => exact fun c D nm h => by cases h
  case xc => exact (List.forall_mem_nil _)
  case xm => exact fun c D c2 D2 h1 _ => by cases h1
end Cd
set_option Elab.async false
set_option linter.all false
set_option maxRecDepth 100000
set_option maxHeartbeats 4000000
/-! The interpreter, step by step (no rule is a rfl-rule for simp: the kernel must not run the interpreter). -/
namespace Cd
open PySem L2
theorem call_eq {fns : Nat → Option FnD} {n f : Nat} {args : List Val} {h : Hi} {d : FnD} (e : fns f = some d) (hl : args.length = d.np) : callF fns (n + 1) f args h = finF h.length (evalSs (callF fns n) d.body (startE d args) h) := by
  show (match fns f with
    | none => R.stuck
    | some d => if args.length = d.np then finF h.length (evalSs (callF fns n) d.body (startE d args) h) else .stuck) = _
  rw [e]
  exact if_pos hl
section
variable {cf : Calls} {env : Ev} {h : Hi} {a b c e : E} {i j : Nat} {d : PyData}
@[simp] theorem ev_var : evalE cf env (.var i) h = ofO (slot env i) h := id rfl
@[simp] theorem ev_lit : evalE cf env (.lit d) h = .ok (.p d) h := id rfl
@[simp] theorem ev_fld : evalE cf env (.fld i j) h = ofO ((insOf env h i).bind fun p => fldK p.2.2[j]?) h := id rfl
@[simp] theorem ev_op1 {o : O1} : evalE cf env (.op1 o a) h = (bor env h a (evalE cf env a h)).bind fun x h1 => ofO ((opf1 o x).map .p) h1 := id rfl
@[simp] theorem ev_op2 {o : O2} : evalE cf env (.op2 o a b) h = ((evalE cf env a h).bind unP).bind fun x h1 => (bor env h1 b (evalE cf env b h1)).bind fun y h2 => ofO ((opf2 o x y).map .p) h2 := id rfl
@[simp] theorem ev_op2b {o : O2} : evalE cf env (.op2b o a b) h = (bor env h a (evalE cf env a h)).bind fun x h1 => ((evalE cf env b h1).bind unP).bind fun y h2 => ofO ((opf2 o x y).map .p) h2 := id rfl
@[simp] theorem ev_op2d {o : O2} : evalE cf env (.op2d o a b) h = ((evalE cf env a h).bind unP).bind fun x h1 => ((evalE cf env b h1).bind unP).bind fun y h2 => ofO ((opf2 o x y).map .p) h2 := id rfl
@[simp] theorem ev_op3b {o : O3} : evalE cf env (.op3b o a b c) h = (bor env h a (evalE cf env a h)).bind fun x h1 => ((evalE cf env b h1).bind unP).bind fun y h2 => ((evalE cf env c h2).bind unP).bind fun z h3 => ofO ((opf3 o x y z).map .p) h3 := id rfl
@[simp] theorem ev_and : evalE cf env (.and_ a b) h = (evalE cf env a h).bind fun v h1 => andK (fun h2 => evalE cf env b h2) v h1 := id rfl
@[simp] theorem ev_or : evalE cf env (.or_ a b) h = (evalE cf env a h).bind fun v h1 => orK (fun h2 => evalE cf env b h2) v h1 := id rfl
@[simp] theorem ev_not : evalE cf env (.not_ a) h = (evalE cf env a h).bind notK := id rfl
@[simp] theorem ev_ite {t : Te} : evalE cf env (.ite t a b) h = (evalT cf env t h).bind fun k h1 => ifK (fun h2 => evalE cf env a h2) (fun h2 => evalE cf env b h2) k h1 := id rfl
@[simp] theorem ev_tup {es : List E} : evalE cf env (.tup es) h = (evalPs cf env es h).bind fun ds h1 => .ok (.p (.tuple ds)) h1 := id rfl
@[simp] theorem ev_lst {es : List E} : evalE cf env (.lst es) h = (evalPs cf env es h).bind fun ds h1 => .ok (.p (.list ds)) h1 := id rfl
@[simp] theorem ev_call {f : Nat} {es : List E} : evalE cf env (.call f es) h = (evalEs cf env es h).bind fun vs h1 => cf f vs h1 := id rfl
@[simp] theorem ev_meth {k f : Nat} {es : List E} : evalE cf env (.meth k f i es) h = match methOk env h k i with
    | none => .stuck
    | some n => (evalEs cf env es h).bind fun vs h1 => cf f (.ref n :: vs) h1 := id rfl
@[simp] theorem ev_new {k f : Nat} {es : List E} : evalE cf env (.new k f es) h = (evalEs cf env es h).bind fun vs h1 => (noX (cf f (.ref h1.length :: vs) (h1 ++ [.ins k []]))).bind fun v h2 => newK h1.length v h2 := id rfl
theorem ev_comp {own : List Nat} {t : Tg} {src : Src} {cond : List Te} {elt : E} : evalE cf env (.comp own t src cond elt) h = (evalSrc cf env src h).bind fun items h1 =>
    compK2 (compL (fun e h => (evalE cf e elt h).bind unP) (fun e h => evalTs cf e cond h) (fun x e => bindT t x e) (wipeE env own)) items h1 := id rfl
theorem ev_compB {own : List Nat} {t : Tg} {cond : List Te} {elt : E} : evalE cf env (.compB i own t cond elt) h = match lstOf env h i with
    | none => .stuck
    | some p => compK2 (compLB (fun h => stillL h p.1 p.2) (fun e h => (evalE cf e elt h).bind unP) (fun e h => evalTs cf e cond h) (fun x e => bindT t x e) (wipeE env own)) p.2 h := id rfl
@[simp] theorem ev_isi {t : Ty} : evalE cf env (.isi a t) h = ((evalE cf env a h).bind unP).bind fun d h1 => .ok (.p (.bool (isTy t d))) h1 := id rfl
@[simp] theorem ev_pop : evalE cf env (.pop i a) h = match lstOf env h i with
    | none => .stuck
    | some _ => ((evalE cf env a h).bind unP).bind fun d h1 => popK env i d h1 := id rfl
@[simp] theorem ev_mk : evalE cf env (.mk a) h = ((evalE cf env a h).bind unP).bind mkK := id rfl
@[simp] theorem et_and {s t : Te} : evalT cf env (.and_ s t) h = (evalT cf env s h).bind fun k h1 => ifK (fun h2 => evalT cf env t h2) (fun h2 => .ok false h2) k h1 := id rfl
@[simp] theorem et_or {s t : Te} : evalT cf env (.or_ s t) h = (evalT cf env s h).bind fun k h1 => ifK (fun h2 => .ok true h2) (fun h2 => evalT cf env t h2) k h1 := id rfl
@[simp] theorem et_not {s : Te} : evalT cf env (.not_ s) h = (evalT cf env s h).bind fun k h1 => .ok (!k) h1 := id rfl
@[simp] theorem et_val : evalT cf env (.val e) h = (bor env h e (evalE cf env e h)).bind fun d h1 => ofO (truthD d) h1 := id rfl
@[simp] theorem ets_nil : evalTs cf env [] h = .ok true h := id rfl
@[simp] theorem ets_cons {t : Te} {ts : List Te} : evalTs cf env (t :: ts) h = (evalT cf env t h).bind fun k h1 => ifK (fun h2 => evalTs cf env ts h2) (fun h2 => .ok false h2) k h1 := id rfl
@[simp high] theorem ets_one {t : Te} : evalTs cf env [t] h = evalT cf env t h := by
  show ((evalT cf env t h).bind fun k h1 => ifK (fun h2 => R.ok true h2) (fun h2 => .ok false h2) k h1) = _
  cases evalT cf env t h with
  | ok k h1 => cases k <;> rfl
  | exc e h1 => rfl
  | stuck => rfl
@[simp] theorem ees_nil : evalEs cf env [] h = .ok [] h := id rfl
@[simp] theorem ees_cons {es : List E} : evalEs cf env (e :: es) h = (evalE cf env e h).bind fun v h1 => (evalEs cf env es h1).bind fun vs h2 => .ok (v :: vs) h2 := id rfl
@[simp] theorem eps_nil : evalPs cf env [] h = .ok [] h := id rfl
@[simp] theorem eps_cons {es : List E} : evalPs cf env (e :: es) h = ((evalE cf env e h).bind unP).bind fun v h1 => (evalPs cf env es h1).bind fun vs h2 => .ok (v :: vs) h2 := id rfl
@[simp] theorem es_e : evalSrc cf env (.e a) h = ((evalE cf env a h).bind unP).bind fun d h1 => ofO (itemsOf d) h1 := id rfl
@[simp] theorem es_rng1 : evalSrc cf env (.rng1 a) h = ((evalE cf env a h).bind unP).bind rng1K := id rfl
@[simp] theorem es_rng2 : evalSrc cf env (.rng2 a b) h = ((evalE cf env a h).bind unP).bind fun d h1 => ((evalE cf env b h1).bind unP).bind fun e h2 => rng2K d e h2 := id rfl
@[simp] theorem es_enum : evalSrc cf env (.enum a) h = ((evalE cf env a h).bind unP).bind fun d h1 => ofO ((itemsOf d).map (enumFrom 0)) h1 := id rfl
@[simp] theorem es_zip : evalSrc cf env (.zip a b) h = ((evalE cf env a h).bind unP).bind fun d h1 => ((evalE cf env b h1).bind unP).bind fun e h2 => ofO ((itemsOf d).bind fun xs => (itemsOf e).map fun ys => zipD xs ys) h2 := id rfl
@[simp] theorem ss_nil : evalSs cf [] env h = .ok .nx env h := id rfl
@[simp] theorem ss_cons {s : S} {r : List S} : evalSs cf (s :: r) env h = (evalS cf s env h).bind (evalSs cf r) := id rfl
@[simp] theorem st_set : evalS cf (.set i e) env h = (evalE cf env e h).toS env fun v h1 => .ok .nx (setSlot env i (some v)) h1 := id rfl
@[simp] theorem st_set2 : evalS cf (.set2 i j a b) env h = (evalE cf env a h).toS env fun v h1 => (evalE cf env b h1).toS env fun w h2 => .ok .nx (setSlot (setSlot env i (some v)) j (some w)) h2 := id rfl
@[simp] theorem st_unpack {t : Tg} : evalS cf (.unpack t e) env h = ((evalE cf env e h).bind unP).toS env fun d h1 => match bindT t d env with
    | some env1 => .ok .nx env1 h1
    | none => .stuck := id rfl
@[simp] theorem st_setFld : evalS cf (.setFld i j e) env h = ((evalE cf env e h).bind unP).toS env fun d h1 => ofH env (setFldH env i j (.p d) h1) := id rfl
@[simp] theorem st_newFld : evalS cf (.newFld i j e) env h = ((evalE cf env e h).bind unP).toS env fun d h1 => ofH env ((listD d).bind fun ts => setFldH env i j (.l ts) h1) := id rfl
@[simp] theorem st_setIx {p q : E} : evalS cf (.setIx p q e) env h = ((evalE cf env e h).bind unP).toS env fun d h1 => match getL env h1 p with
    | none => .stuck
    | some _ => ((evalE cf env q h1).bind unP).toS env fun k h2 => ofH env (setIxH env p k d h2) := id rfl
@[simp] theorem st_app {p : E} : evalS cf (.app p e) env h = match getL env h p with
    | none => .stuck
    | some _ => ((evalE cf env e h).bind unP).toS env fun d h1 => ofH env (appH env p d h1) := id rfl
@[simp] theorem st_ext {p : E} : evalS cf (.ext p e) env h = match getL env h p with
    | none => .stuck
    | some _ => ((evalE cf env e h).bind unP).toS env fun d h1 => ofH env (extH env p d h1) := id rfl
@[simp] theorem st_expr : evalS cf (.expr e) env h = (evalE cf env e h).toS env fun _ h1 => .ok .nx env h1 := id rfl
@[simp] theorem st_if {t : Te} {x y : List S} : evalS cf (.if_ t x y) env h = (evalT cf env t h).toS env fun k h1 => if k then evalSs cf x env h1 else evalSs cf y env h1 := id rfl
@[simp] theorem st_for {t : Tg} {src : Src} {body : List S} : evalS cf (.for_ t src body) env h = (evalSrc cf env src h).toS env fun items h1 => forL (evalSs cf body) (bindT t) items env h1 := id rfl
@[simp] theorem st_ret : evalS cf (.ret e) env h = (evalE cf env e h).toS env fun v h1 => .ok (.rt v) env h1 := id rfl
@[simp] theorem st_raise {k : Nat} {es : List E} : evalS cf (.raise_ k es) env h = (evalPs cf env es h).toS env fun ds h1 => .exc ⟨k, ds⟩ env h1 := id rfl
@[simp] theorem st_pass : evalS cf .pass env h = .ok .nx env h := id rfl
@[simp] theorem st_brk : evalS cf .brk env h = .ok .bk env h := id rfl
@[simp] theorem st_cont : evalS cf .cont env h = .ok .ct env h := id rfl
end
@[simp] theorem unP_p {d : PyData} {h : Hi} : unP (.p d) h = .ok d h := id rfl
@[simp] theorem slot_0 {v : Option Val} {r : Ev} : slot (v :: r) 0 = v := id rfl
@[simp] theorem slot_s {v : Option Val} {r : Ev} {i : Nat} : slot (v :: r) (i + 1) = slot r i := id rfl
@[simp] theorem setSlot_0 {v w : Option Val} {r : Ev} : setSlot (v :: r) 0 w = w :: r := id rfl
@[simp] theorem setSlot_s {v w : Option Val} {r : Ev} {i : Nat} : setSlot (v :: r) (i + 1) w = v :: setSlot r i w := id rfl
@[simp] theorem startE_eq {np ns : Nat} {b : List S} {args : List Val} : startE ⟨np, ns, b⟩ args = args.map some ++ List.replicate (ns - args.length) none := id rfl
@[simp] theorem fin_rp {n : Nat} {d : PyData} {env : Ev} {h : Hi} : finF n (.ok (.rt (.p d)) env h) = .ok (.p d) (h.take n) := id rfl
@[simp] theorem fin_rr {n m : Nat} {env : Ev} {h : Hi} : finF n (.ok (.rt (.ref m)) env h) = .ok (.ref m) h := id rfl
@[simp] theorem fin_nx {n : Nat} {env : Ev} {h : Hi} : finF n (.ok .nx env h) = .ok (.p .none) (h.take n) := id rfl
@[simp] theorem fin_exc {n : Nat} {e : Ex} {env : Ev} {h : Hi} : finF n (.exc e env h) = .exc e (h.take n) := id rfl
@[simp] theorem ifK_eq {α : Type} {a b : Hi → R α} {k : Bool} {h : Hi} : ifK a b k h = if k = true then a h else b h := id rfl
@[simp] theorem andK_t {f : Hi → R Val} {h : Hi} {b : Bool} : andK f (.p (.bool b)) h = if b = true then f h else .ok (.p (.bool false)) h := by cases b <;> rfl
@[simp] theorem orK_t {f : Hi → R Val} {h : Hi} {b : Bool} : orK f (.p (.bool b)) h = if b = true then .ok (.p (.bool true)) h else f h := by cases b <;> rfl
@[simp] theorem notK_t {h : Hi} {b : Bool} : notK (.p (.bool b)) h = .ok (.p (.bool !b)) h := id rfl
@[simp] theorem truth_b {b : Bool} : truthD (.bool b) = some b := id rfl
@[simp] theorem truth_i {i : Int} : truthD (.int i) = some (i != 0) := id rfl
@[simp] theorem truth_l {ts : List PyData} : truthD (.list ts) = some (!ts.isEmpty) := id rfl
@[simp] theorem truth_t {ts : List PyData} : truthD (.tuple ts) = some (!ts.isEmpty) := id rfl
@[simp] theorem o_add {i j : Int} : opf2 .add (.int i) (.int j) = some (.int (i + j)) := id rfl
@[simp] theorem o_addI {i j : Int} : opf2 .addI (.int i) (.int j) = some (.int (i + j)) := id rfl
@[simp] theorem o_addT {xs ys : List PyData} : opf2 .add (.tuple xs) (.tuple ys) = if xs.length + ys.length ≤ sizeLine then some (.tuple (xs ++ ys)) else none := id rfl
@[simp] theorem o_sub {i j : Int} : opf2 .sub (.int i) (.int j) = some (.int (i - j)) := id rfl
theorem o_mul {i j : Int} (h : small64 i = true ∨ small64 j = true) : opf2 .mul (.int i) (.int j) = some (.int (i * j)) := by
  show (if small64 i || small64 j then some (PyData.int (i * j)) else none) = _
  rw [if_pos (by simpa using h)]
theorem o_mod {i j : Int} (h : j ≠ 0) : opf2 .mod (.int i) (.int j) = some (.int (i.fmod j)) := if_neg h
theorem o_div {i j : Int} (h : j ≠ 0) (h2 : j.natAbs < 1073741824) : opf2 .fdiv (.int i) (.int j) = some (.int (i.fdiv j)) := if_pos (by simp [h, h2])
@[simp] theorem o_lt {i j : Int} : opf2 .lt (.int i) (.int j) = some (.bool (decide (i < j))) := id rfl
@[simp] theorem o_le {i j : Int} : opf2 .le (.int i) (.int j) = some (.bool (decide (i ≤ j))) := id rfl
@[simp] theorem o_gt {i j : Int} : opf2 .gt (.int i) (.int j) = some (.bool (decide (j < i))) := id rfl
@[simp] theorem o_ge {i j : Int} : opf2 .ge (.int i) (.int j) = some (.bool (decide (j ≤ i))) := id rfl
@[simp] theorem o_max2 {i j : Int} : opf2 .max2 (.int i) (.int j) = some (.int (if j > i then j else i)) := id rfl
@[simp] theorem o_min2 {i j : Int} : opf2 .min2 (.int i) (.int j) = some (.int (if j < i then j else i)) := id rfl
@[simp] theorem o_ixL {xs : List PyData} {i : Int} : opf2 .ix (.list xs) (.int i) = atI xs i := id rfl
@[simp] theorem o_ixT {xs : List PyData} {i : Int} : opf2 .ix (.tuple xs) (.int i) = atI xs i := id rfl
@[simp] theorem o_neg {i : Int} : opf1 .neg (.int i) = some (.int (-i)) := id rfl
@[simp] theorem o_lenL {xs : List PyData} : opf1 .len (.list xs) = some (.int xs.length) := id rfl
@[simp] theorem o_lenT {xs : List PyData} : opf1 .len (.tuple xs) = some (.int xs.length) := id rfl
@[simp] theorem o_tupL {xs : List PyData} : opf1 .tuple (.list xs) = some (.tuple xs) := id rfl
@[simp] theorem o_tupT {xs : List PyData} : opf1 .tuple (.tuple xs) = some (.tuple xs) := id rfl
@[simp] theorem o_lstL {xs : List PyData} : opf1 .list (.list xs) = some (.list xs) := id rfl
@[simp] theorem o_lstT {xs : List PyData} : opf1 .list (.tuple xs) = some (.list xs) := id rfl
@[simp] theorem o_isNone {d : PyData} : opf1 .isNone d = some (.bool (isNoneD d)) := id rfl
@[simp] theorem o_notNone {d : PyData} : opf1 .notNone d = some (.bool (!isNoneD d)) := id rfl
@[simp] theorem intsD_map (ns : List Int) : intsD (ns.map .int) = some ns := by
  induction ns with
  | nil => rfl
  | cons n r ih => simp only [List.map_cons, intsD, ih, Option.map_some]
@[simp] theorem boolsD_map (ns : List Bool) : boolsD (ns.map .bool) = some ns := by
  induction ns with
  | nil => rfl
  | cons n r ih => simp only [List.map_cons, boolsD, ih, Option.map_some]
@[simp] theorem o_sumL {ns : List Int} : opf1 .sum (.list (ns.map .int)) = some (.int ns.sum) := by show (intsD _).map _ = _; rw [intsD_map]; rfl
@[simp] theorem o_sumT {ns : List Int} : opf1 .sum (.tuple (ns.map .int)) = some (.int ns.sum) := by show (intsD _).map _ = _; rw [intsD_map]; rfl
@[simp] theorem o_allL {ns : List Bool} : opf1 .all (.list (ns.map .bool)) = some (.bool (ns.all id)) := by show (boolsD _).map _ = _; rw [boolsD_map]; rfl
@[simp] theorem o_anyL {ns : List Bool} : opf1 .any (.list (ns.map .bool)) = some (.bool (ns.any id)) := by show (boolsD _).map _ = _; rw [boolsD_map]; rfl
@[simp] theorem items_L {xs : List PyData} : itemsOf (.list xs) = some xs := id rfl
@[simp] theorem items_T {xs : List PyData} : itemsOf (.tuple xs) = some xs := id rfl
@[simp] theorem bt_name {i : Nat} {d : PyData} {env : Ev} : bindT (.name i) d env = some (setSlot env i (some (.p d))) := id rfl
@[simp] theorem bt_tup {ts : List Tg} {ds : List PyData} {env : Ev} : bindT (.tup ts) (.tuple ds) env = bindTs ts ds env := id rfl
@[simp] theorem bts_nil {env : Ev} : bindTs [] [] env = some env := id rfl
@[simp] theorem bts_cons {t : Tg} {ts : List Tg} {d : PyData} {ds : List PyData} {env : Ev} : bindTs (t :: ts) (d :: ds) env = (bindT t d env).bind (bindTs ts ds) := id rfl
@[simp] theorem wipe_nil {env : Ev} : wipeE env [] = env := id rfl
@[simp] theorem wipe_cons {env : Ev} {v : Nat} {vs : List Nat} : wipeE env (v :: vs) = setSlot (wipeE env vs) v none := id rfl
/-! borrowing -/
section
variable {env : Ev} {h : Hi} {i : Nat} {r : R Val}
theorem bor_no {a : E} (e : peek env h a = none) : bor env h a r = r.bind unP := by unfold bor; rw [e]
@[simp] theorem bor_op1 {o : O1} {a : E} : bor env h (.op1 o a) r = r.bind unP := id rfl
@[simp] theorem bor_op2 {o : O2} {a b : E} : bor env h (.op2 o a b) r = r.bind unP := id rfl
@[simp] theorem bor_op2b {o : O2} {a b : E} : bor env h (.op2b o a b) r = r.bind unP := id rfl
@[simp] theorem bor_op2d {o : O2} {a b : E} : bor env h (.op2d o a b) r = r.bind unP := id rfl
@[simp] theorem bor_op3b {o : O3} {a b c : E} : bor env h (.op3b o a b c) r = r.bind unP := id rfl
@[simp] theorem bor_lit {d : PyData} : bor env h (.lit d) r = r.bind unP := id rfl
@[simp] theorem bor_and {a b : E} : bor env h (.and_ a b) r = r.bind unP := id rfl
@[simp] theorem bor_or {a b : E} : bor env h (.or_ a b) r = r.bind unP := id rfl
@[simp] theorem bor_not {a : E} : bor env h (.not_ a) r = r.bind unP := id rfl
@[simp] theorem bor_ite {t : Te} {a b : E} : bor env h (.ite t a b) r = r.bind unP := id rfl
@[simp] theorem bor_tup {es : List E} : bor env h (.tup es) r = r.bind unP := id rfl
@[simp] theorem bor_lst {es : List E} : bor env h (.lst es) r = r.bind unP := id rfl
@[simp] theorem bor_call {f : Nat} {es : List E} : bor env h (.call f es) r = r.bind unP := id rfl
@[simp] theorem bor_meth {c f i : Nat} {es : List E} : bor env h (.meth c f i es) r = r.bind unP := id rfl
@[simp] theorem bor_comp {own : List Nat} {t : Tg} {src : Src} {cond : List Te} {elt : E} : bor env h (.comp own t src cond elt) r = r.bind unP := id rfl
@[simp] theorem bor_compB {j : Nat} {own : List Nat} {t : Tg} {cond : List Te} {elt : E} : bor env h (.compB j own t cond elt) r = r.bind unP := id rfl
@[simp] theorem bor_isi {a : E} {t : Ty} : bor env h (.isi a t) r = r.bind unP := id rfl
@[simp] theorem bor_pop {a : E} : bor env h (.pop i a) r = r.bind unP := id rfl
/-- a name: its slot first -/
def borV (o : Option Val) (h : Hi) (r : R Val) : R PyData := match o with
  | some (.ref n) => match listAt h n with
    | some ts => .ok (.list ts) h
    | none => r.bind unP
  | _ => r.bind unP
@[simp] theorem bor_var : bor env h (.var i) r = borV (slot env i) h r := by
  cases e : slot env i with
  | none =>
    simp only [bor, peek, lstOf, slotRef, borV, e, Option.bind_none, Option.map_none]
  | some v =>
    cases v with
    | p d => simp only [bor, peek, lstOf, slotRef, borV, e, Option.bind_none, Option.map_none]
    | ref n =>
      cases e2 : listAt h n with
      | none => simp only [bor, peek, lstOf, slotRef, borV, e, e2, Option.bind_some, Option.map_none]
      | some ts => simp only [bor, peek, lstOf, slotRef, borV, e, e2, Option.bind_some, Option.map_some]
@[simp] theorem borV_p {d : PyData} : borV (some (.p d)) h r = r.bind unP := id rfl
@[simp] theorem borV_r {n : Nat} : borV (some (.ref n)) h r = match listAt h n with
    | some ts => .ok (.list ts) h
    | none => r.bind unP := id rfl
end
def refOf : Option Val → Option Nat
  | some (.ref n) => some n
  | _ => none
@[simp] theorem refOf_r {n : Nat} : refOf (some (.ref n)) = some n := id rfl
@[simp] theorem refOf_p {d : PyData} : refOf (some (.p d)) = none := id rfl
@[simp] theorem slotRef_eq {env : Ev} {i : Nat} : slotRef env i = refOf (slot env i) := by
  unfold slotRef refOf
  cases slot env i with
  | none => rfl
  | some v => cases v <;> rfl
@[simp] theorem getL_var {env : Ev} {h : Hi} {i : Nat} : getL env h (.var i) = (refOf (slot env i)).bind (listAt h) := by
  simp only [getL, peek, lstOf, slotRef_eq]
  cases refOf (slot env i) with
  | none => rfl
  | some n =>
    simp only [Option.bind_some]
    cases listAt h n <;> rfl
@[simp] theorem lstOf_eq {env : Ev} {h : Hi} {i : Nat} : lstOf env h i = (refOf (slot env i)).bind fun n => (listAt h n).map fun ts => (n, ts) := by
  simp only [lstOf, slotRef_eq]
@[simp] theorem appH_var {env : Ev} {h : Hi} {i : Nat} {d : PyData} : appH env (.var i) d h = (getL env h (.var i)).bind fun ts => if ts.length < sizeLine then (refOf (slot env i)).map fun n => h.set n (.lst (ts ++ [d])) else none := by
  simp only [appH, storeL, slotRef_eq]
@[simp] theorem setIxH_var {env : Ev} {h : Hi} {i : Nat} {k : Int} {d : PyData} : setIxH env (.var i) (.int k) d h = (getL env h (.var i)).bind fun ts => (ixN ts.length k).bind fun j => (refOf (slot env i)).map fun n => h.set n (.lst (ts.set j d)) := by
  simp only [setIxH, storeL, slotRef_eq]
@[simp] theorem ixN_last {n : Nat} : ixN (n + 1) (-1) = some n := by
  unfold ixN
  rw [if_neg (by decide), if_pos (by omega)]
  congr 1
  omega
@[simp] theorem ofH_some {env : Ev} {h : Hi} : ofH env (some h) = .ok .nx env h := id rfl
@[simp] theorem ofH_none {env : Ev} : ofH env none = .stuck := id rfl
/-- a comprehension whose parts read only -/
theorem comp_pure {elt : Ev → Hi → R PyData} {cond : Ev → Hi → R Bool} {bt : PyData → Ev → Option Ev} {env : Ev} {h : Hi} {α : Type} (g : α → PyData) (f : α → PyData) (c : α → Bool) : ∀ {xs : List α}, (∀ x ∈ xs, ∃ env1, bt (g x) env = some env1 ∧ cond env1 h = .ok (c x) h ∧ (c x = true → elt env1 h = .ok (f x) h)) →
    compL elt cond bt env (xs.map g) h = .ok ((xs.filter c).map f) h
  | [], _ => rfl
  | x :: r, hx => by
    obtain ⟨env1, e1, e2, e3⟩ := hx x List.mem_cons_self
    have ih := comp_pure g f c (xs := r) fun y hy => hx y (List.mem_cons_of_mem _ hy)
    rw [List.map_cons]
    unfold compL
    rw [e1]
    simp only [e2, R.bind_ok]
    cases hc : c x with
    | false => simp only [Bool.false_eq_true, if_false, ih, List.filter_cons, hc]
    | true => simp only [if_true, e3 hc, R.bind_ok, ih, List.filter_cons, hc, List.map_cons]
theorem s64_fmod {a m : Int} (h0 : 0 < m) (h1 : m < 2 ^ 64) : small64 (a.fmod m) = true := by
  have := Int.fmod_nonneg_of_pos a h0
  have := Int.fmod_lt_of_pos a h0
  unfold small64
  rw [decide_eq_true_eq]
  omega
@[simp] theorem o_eqI {i j : Int} : opf2 .eq (.int i) (.int j) = some (.bool (decide (i = j))) := by
  show (some (PyData.eqv (.int i) (.int j))).map PyData.bool = _
  have : PyData.eqv (.int i) (.int j) = decide (i = j) := by
    by_cases h : i = j
    · subst h; simp [PyData.eqv]
    · simp [PyData.eqv, h]
  rw [this]; rfl
@[simp] theorem o_neI {i j : Int} : opf2 .ne (.int i) (.int j) = some (.bool !decide (i = j)) := by
  have := o_eqI (i := i) (j := j)
  have e : (eqD (.int i) (.int j)).map PyData.bool = some (.bool (decide (i = j))) := this
  cases h : eqD (.int i) (.int j) with
  | none => rw [h] at e; cases e
  | some b =>
    rw [h] at e
    have e2 : b = decide (i = j) := by simpa using e
    show (eqD (.int i) (.int j)).map (fun b => PyData.bool !b) = _
    rw [h, e2]; rfl
@[simp] theorem listAt_app {h : Hi} {ts : List PyData} : listAt (h ++ [.lst ts]) h.length = some ts := by
  unfold listAt
  rw [List.getElem?_append_right (Nat.le_refl _)]
  simp
@[simp] theorem set_app {h : Hi} {o o' : Ob} : (h ++ [o]).set h.length o' = h ++ [o'] := by
  rw [List.set_append_right _ _ (Nat.le_refl _)]
  simp
@[simp] theorem take_app {h : Hi} {o : Ob} : (h ++ [o]).take h.length = h := by simp
theorem enumFrom_eq : ∀ (ds : List PyData) (k : Nat), enumFrom k ds = (List.range ds.length).map fun i => .tuple [.int ((k + i : Nat) : Int), ds.getD i .none]
  | [], _ => rfl
  | d :: ds, k => by
    rw [List.length_cons, List.range_succ_eq_map, List.map_cons, List.map_map]
    show .tuple [.int k, d] :: enumFrom (k + 1) ds = _
    rw [enumFrom_eq ds (k + 1)]
    congr 1
    apply List.map_congr_left
    intro i _
    simp only [Function.comp_apply, Nat.succ_eq_add_one, List.getD_cons_succ]
    rw [show k + 1 + i = k + (i + 1) by omega]
theorem size1000 : (1000 : Nat) < sizeLine := by decide
@[simp] theorem compK2_ok {run : List PyData → Hi → R (List PyData)} {items ys : List PyData} {h h' : Hi} (hz : items.length < sizeLine) (e : run items h = .ok ys h') : compK2 run items h = .ok (.p (.list ys)) h' := by
  unfold compK2
  rw [if_pos hz, e]
  rfl
theorem atI_last {xs : List PyData} {d : PyData} (h : xs.getLast? = some d) : atI xs (-1) = some d := by
  have hne : xs ≠ [] := by rintro rfl; cases h
  have hl : 0 < xs.length := List.length_pos_iff.mpr hne
  unfold atI ixN
  rw [if_neg (by decide), if_pos (by omega)]
  rw [List.getLast?_eq_getElem?] at h
  have e : (-1 + (xs.length : Int)).toNat = xs.length - 1 := by omega
  simp only [Option.bind_some, e]
  exact h
section
variable {cf : Calls} {h : Hi}
theorem comp_ok {env : Ev} {own : List Nat} {t : Tg} {src : Src} {cond : List Te} {elt : E} {α : Type} (g f : α → PyData) (c : α → Bool) {xs : List α} (es : evalSrc cf env src h = .ok (xs.map g) h) (hz : xs.length < 1000)
    (hx : ∀ x ∈ xs, ∃ env1, bindT t (g x) (wipeE env own) = some env1 ∧ evalTs cf env1 cond h = .ok (c x) h ∧ (c x = true → (evalE cf env1 elt h).bind unP = .ok (f x) h)) :
    evalE cf env (.comp own t src cond elt) h = .ok (.p (.list ((xs.filter c).map f))) h := by
  rw [ev_comp, es]
  exact compK2_ok (by rw [List.length_map]; exact Nat.lt_trans hz size1000) (comp_pure g f c hx)
theorem comp_all {env : Ev} {own : List Nat} {t : Tg} {src : Src} {elt : E} {α : Type} (g f : α → PyData) {xs : List α} (es : evalSrc cf env src h = .ok (xs.map g) h) (hz : xs.length < 1000)
    (hx : ∀ x ∈ xs, ∃ env1, bindT t (g x) (wipeE env own) = some env1 ∧ (evalE cf env1 elt h).bind unP = .ok (f x) h) :
    evalE cf env (.comp own t src [] elt) h = .ok (.p (.list (xs.map f))) h := by
  have := comp_ok (cond := []) g f (fun _ => true) es hz fun x hm => by
    obtain ⟨env1, e1, e2⟩ := hx x hm
    exact ⟨env1, e1, rfl, fun _ => e2⟩
  rw [this, List.filter_eq_self.mpr fun _ _ => rfl]
theorem src_e {env : Ev} {i : Nat} {ds : List PyData} (e : slot env i = some (.p (.list ds))) : evalSrc cf env (.e (.var i)) h = .ok ds h := by
  simp only [es_e, ev_var, e, ofO_some, R.bind_ok, unP_p, items_L]
theorem rngOk_small {i : Int} (h0 : 0 ≤ i) (h1 : i < 1000000) : rngOk i = true := by
  unfold rngOk
  exact decide_eq_true (by omega)
theorem src_rng1 {env : Ev} {a : E} {j : Int} (e : (evalE cf env a h).bind unP = .ok (.int j) h) (hj : rngOk j = true) : evalSrc cf env (.rng1 a) h = .ok (rangeD 0 j.toNat 1) h := by
  rw [es_rng1, e]
  exact if_pos hj
theorem src_rng2 {env : Ev} {a b : E} {i j : Int} (e : (evalE cf env a h).bind unP = .ok (.int i) h) (e2 : (evalE cf env b h).bind unP = .ok (.int j) h) (hi : rngOk i = true) (hj : rngOk j = true) : evalSrc cf env (.rng2 a b) h = .ok (rangeD i (j - i).toNat 1) h := by
  rw [es_rng2, e]
  show R.bind ((evalE cf env b h).bind unP) (fun e h2 => rng2K (.int i) e h2) = _
  rw [e2]
  exact if_pos ⟨hi, hj⟩
end
abbrev natD (i : Nat) : PyData := .int i
theorem depth_ints : ∀ ns : List Int, PyData.depthAll (ns.map .int) = 0
  | [] => rfl
  | n :: r => by
    rw [List.map_cons]
    show max (PyData.depth (.int n)) (PyData.depthAll (r.map .int)) = 0
    rw [depth_ints r]; rfl
theorem maxOk_ints (ns : List Int) : maxOk (ns.map .int) = true := by
  unfold maxOk
  rw [depth_ints]
  simp only [Bool.and_eq_true, List.all_eq_true, decide_eq_true_eq]
  refine ⟨⟨fun a ha b hb => ?_, fun a ha => ?_⟩, by omega⟩
  · obtain ⟨i, _, rfl⟩ := List.mem_map.mp ha
    obtain ⟨j, _, rfl⟩ := List.mem_map.mp hb
    rfl
  · obtain ⟨i, _, rfl⟩ := List.mem_map.mp ha
    rfl
def maxI : List Int → Int
  | [] => 0
  | n :: r => r.foldl max n
theorem maxS_ints {ns : List Int} (h : ns ≠ []) : maxS (ns.map .int) = some (.int (maxI ns)) := by
  cases ns with
  | nil => exact absurd rfl h
  | cons n r =>
    have := maxOk_ints (n :: r)
    rw [List.map_cons] at this ⊢
    show (if maxOk (.int n :: r.map .int) then some (PySem.W.maxD (.int n) (r.map .int)) else none) = _
    rw [if_pos this, PySem.W.maxD_ints]
    rfl
theorem o_maxL {ns : List Int} (h : ns ≠ []) : opf1 .max (.list (ns.map .int)) = some (.int (maxI ns)) := maxS_ints h
theorem o_maxT {ns : List Int} (h : ns ≠ []) : opf1 .max (.tuple (ns.map .int)) = some (.int (maxI ns)) := maxS_ints h
theorem foldl_max_ge : ∀ (r : List Int) (n : Int), n ≤ r.foldl max n ∧ ∀ x ∈ r, x ≤ r.foldl max n
  | [], n => ⟨Int.le_refl _, fun _ h => nomatch h⟩
  | y :: r, n => by
    obtain ⟨h1, h2⟩ := foldl_max_ge r (max n y)
    rw [List.foldl_cons]
    refine ⟨by omega, fun x hx => ?_⟩
    rcases List.mem_cons.mp hx with rfl | hx
    · omega
    · exact h2 x hx
theorem foldl_max_mem : ∀ (r : List Int) (n : Int), r.foldl max n = n ∨ r.foldl max n ∈ r
  | [], n => .inl rfl
  | y :: r, n => by
    rw [List.foldl_cons]
    rcases foldl_max_mem r (max n y) with h | h
    · rw [h]
      by_cases e : n ≤ y
      · right; rw [Int.max_eq_right e]; exact List.mem_cons_self
      · left; exact Int.max_eq_left (by omega)
    · exact .inr (List.mem_cons_of_mem _ h)
theorem maxI_ge {ns : List Int} {x : Int} (h : x ∈ ns) : x ≤ maxI ns := by
  cases ns with
  | nil => cases h
  | cons n r =>
    rcases List.mem_cons.mp h with rfl | h
    · exact (foldl_max_ge r x).1
    · exact (foldl_max_ge r n).2 x h
theorem maxI_mem {ns : List Int} (h : ns ≠ []) : maxI ns ∈ ns := by
  cases ns with
  | nil => exact absurd rfl h
  | cons n r =>
    rcases foldl_max_mem r n with e | e
    · show r.foldl max n ∈ _
      rw [e]; exact List.mem_cons_self
    · exact List.mem_cons_of_mem _ e
theorem eqv_int {i j : Int} : PyData.eqv (.int i) (.int j) = decide (i = j) := by
  by_cases h : i = j
  · subst h; simp [PyData.eqv]
  · simp [PyData.eqv, h]
theorem rangeD_nat (n : Nat) : rangeD 0 n 1 = (List.range n).map natD := by
  unfold rangeD
  apply List.map_congr_left
  intro i _
  simp
end Cd
set_option Elab.async false
set_option linter.all false
set_option maxRecDepth 100000
set_option maxHeartbeats 4000000
namespace Cd
open PySem L2
/-! ### rounds: the data -/
structure RD where
  left : List Int
  laid : List Int
  gone : List Bool
  done : List Bool
  high : Int
  least : Int
  nxt : Option Nat
def nxD : Option Nat → PyData
  | none => .none
  | some k => .int k
def RD.fs (r : RD) : List Fld := [.l (r.left.map .int), .l (r.laid.map .int), .l (r.gone.map .bool), .l (r.done.map .bool), .p (.int r.high), .p (.int r.least), .p (nxD r.nxt)]
/-- the lists are alike long -/
structure RD.Wf (r : RD) : Prop where
  l1 : r.left.length = r.laid.length
  l2 : r.gone.length = r.laid.length
  l3 : r.done.length = r.laid.length
  few : r.laid.length < 1000
  nx : ∀ k, r.nxt = some k → k < r.laid.length
/-- an item (0, False beyond the end) -/
def gi (xs : List Int) (i : Nat) : Int := xs.getD i 0
def gb (xs : List Bool) (i : Nat) : Bool := xs.getD i false
def RD.must (r : RD) (s : Nat) : Bool := if gb r.gone s || decide (gi r.left s = 0) then false else (!gb r.done s) || decide (gi r.laid s < r.high)
def orderN (m here : Nat) : List Nat := (List.range (m - here)).map (here + ·) ++ List.range here
def RD.find (r : RD) (here : Nat) : RD := { r with nxt := if 1 < r.gone.count false then ((orderN r.laid.length here).filter r.must).head? else none }
structure HasR (fns : Nat → Option FnD) : Prop where
  f0 : fns 0 = some d0
  f1 : fns 1 = some d1
  f2 : fns 2 = some d2
  f3 : fns 3 = some d3
  f4 : fns 4 = some d4
  f5 : fns 5 = some d5
  f6 : fns 6 = some d6
  f7 : fns 7 = some d7
  f8 : fns 8 = some d8
  f9 : fns 9 = some d9
  f10 : fns 10 = some d10
  f11 : fns 11 = some d11
  f12 : fns 12 = some d12
section
variable {fns : Nat → Option FnD} {h : Hi} {n k : Nat} {r : RD} {s : Nat}
@[simp] theorem insOf_eq {env : Ev} {i : Nat} : insOf env h i = (refOf (slot env i)).bind fun n => (insAt h n).map fun p => (n, p) := by
  unfold insOf; rw [slotRef_eq]
@[simp] theorem methOk_eq {env : Ev} {c i : Nat} : methOk env h c i = match insOf env h i with
    | some p => if p.2.1 = c then some p.1 else none
    | none => none := id rfl
theorem insAt_lt {p : Nat × List Fld} (e : insAt h n = some p) : n < h.length := by
  unfold insAt at e
  cases e2 : h[n]? with
  | none => rw [e2] at e; cases e
  | some o => exact (List.getElem?_eq_some_iff.mp e2).1
theorem insAt_set {c : Nat} {fs : List Fld} (hn : n < h.length) : insAt (h.set n (.ins c fs)) n = some (c, fs) := by
  unfold insAt
  rw [List.getElem?_set_self hn]
theorem set_same {c : Nat} {fs : List Fld} (e : insAt h n = some (c, fs)) : h.set n (.ins c fs) = h := by
  unfold insAt at e
  apply List.ext_getElem?
  intro m
  by_cases hm : m = n
  · subst hm
    cases e2 : h[m]? with
    | none => rw [e2] at e; cases e
    | some o =>
      rw [List.getElem?_set_self (List.getElem?_eq_some_iff.mp e2).1]
      rw [e2] at e
      cases o <;> simp_all
  · rw [List.getElem?_set_ne (Ne.symm hm)]
theorem gI {xs : List Int} {i : Nat} (h : i < xs.length) : atI (xs.map PyData.int) (i : Int) = some (.int (gi xs i)) := by
  unfold gi; rw [atI_nat]; simp [h]
theorem gB {xs : List Bool} {i : Nat} (h : i < xs.length) : atI (xs.map PyData.bool) (i : Int) = some (.bool (gb xs i)) := by
  unfold gb; rw [atI_nat]; simp [h]
@[simp] theorem bor_fld {env : Ev} {i j : Nat} {rr : R Val} : bor env h (.fld i j) rr = match insOf env h i with
    | some p => (match p.2.2[j]? with
      | some (.l ts) => .ok (.list ts) h
      | _ => rr.bind unP)
    | none => rr.bind unP := by
  simp only [bor, peek]
  cases e : insOf env h i with
  | none => simp only [Option.bind_none]
  | some p =>
    simp only [Option.bind_some]
    cases e2 : p.2.2[j]? with
    | none => simp only
    | some u => cases u <;> simp only
@[simp] theorem fldK_p {d : PyData} : fldK (some (.p d)) = some (.p d) := id rfl
theorem ma_eval (F : HasR fns) (w : r.Wf) (hI : insAt h n = some (0, r.fs)) (hs : s < r.laid.length) : callF fns (k + 1) 1 [.ref n, .p (.int s)] h = .ok (.p (.bool (r.must s))) h := by
  rw [call_eq F.f1 rfl]
  have e1 := gB (xs := r.gone) (i := s) (by rw [w.l2]; exact hs)
  have e2 := gI (xs := r.left) (i := s) (by rw [w.l1]; exact hs)
  have e3 := gB (xs := r.done) (i := s) (by rw [w.l3]; exact hs)
  have e4 := gI (xs := r.laid) (i := s) hs
  unfold RD.must
  cases h1 : gb r.gone s with
  | true => simp [d1, b1, hI, RD.fs, e1, h1]
  | false =>
    by_cases h2 : gi r.left s = 0
    · simp [d1, b1, hI, RD.fs, e1, e2, h1, h2]
    · cases h3 : gb r.done s with
      | true => simp [d1, b1, hI, RD.fs, e1, e2, e3, e4, h1, h2, h3]
      | false => simp [d1, b1, hI, RD.fs, e1, e2, e3, e4, h1, h2, h3]
@[simp] theorem setFldH_eq {env : Ev} {i j : Nat} {f : Fld} : setFldH env i j f h = (insOf env h i).bind fun p => (putFl p.2.2 j f).map fun fs => h.set p.1 (.ins p.2.1 fs) := id rfl
theorem countP_bool (bs : List Bool) (b : Bool) : (bs.map PyData.bool).countP (fun x => PyData.eqv x (.bool b)) = bs.count b := by
  induction bs with
  | nil => rfl
  | cons c r ih =>
    rw [List.map_cons, List.countP_cons, List.count_cons, ih]
    cases b <;> cases c <;> rfl
@[simp] theorem o_countB {bs : List Bool} {b : Bool} : opf2 .count (.list (bs.map .bool)) (.bool b) = some (.int (bs.count b : Nat)) := by
  show (if scalD (.bool b) && (bs.map PyData.bool).all scalD then some (PyData.int ((bs.map PyData.bool).countP fun x => PyData.eqv x (.bool b))) else none) = _
  rw [countP_bool, if_pos]
  simp only [scalD, Bool.true_and, List.all_map]
  exact List.all_eq_true.mpr fun x _ => rfl
theorem o_range1 {j : Nat} (hj : j < 1000000) : opf1 .range (.int (j : Int)) = some (.list ((List.range j).map natD)) := by
  show (if rngOk (j : Int) && decide ((j : Int).toNat ≤ 16777216) then some (PyData.list (rangeD 0 (j : Int).toNat 1)) else none) = _
  have e := rngOk_small (i := (j : Int)) (by omega) (by omega)
  rw [e, Int.toNat_natCast]
  rw [if_pos (by simp; omega), rangeD_nat]
theorem o_range2 {i j : Nat} (hi : i < 1000000) (hj : j < 1000000) : opf2 .from_ (.int (i : Int)) (.int (j : Int)) = some (.list (((List.range (j - i)).map (i + ·)).map natD)) := by
  show (if rngOk (i : Int) && rngOk (j : Int) && decide (((j : Int) - (i : Int)).toNat ≤ 16777216) then some (PyData.list (rangeD (i : Int) ((j : Int) - (i : Int)).toNat 1)) else none) = _
  rw [rngOk_small (i := (i : Int)) (by omega) (by omega), rngOk_small (i := (j : Int)) (by omega) (by omega)]
  have e : ((j : Int) - (i : Int)).toNat = j - i := by omega
  rw [e, if_pos (by simp; omega)]
  unfold rangeD
  rw [List.map_map]
  congr 2
  apply List.map_congr_left
  intro x _
  simp
@[simp] theorem o_addL {xs ys : List PyData} : opf2 .add (.list xs) (.list ys) = if xs.length + ys.length ≤ sizeLine then some (.list (xs ++ ys)) else none := id rfl
theorem order_lt {m here s : Nat} (hh : here < m) (h : s ∈ orderN m here) : s < m := by
  unfold orderN at h
  simp only [List.mem_append, List.mem_map, List.mem_range] at h
  omega
theorem order_len {m here : Nat} (hh : here < m) : (orderN m here).length = m := by
  unfold orderN
  simp; omega
theorem find_wf (w : r.Wf) {here : Nat} (hh : here < r.laid.length) : (r.find here).Wf := by
  refine ⟨w.l1, w.l2, w.l3, w.few, fun k hk => ?_⟩
  unfold RD.find at hk
  simp only at hk
  split at hk
  · have := List.mem_of_head? hk
    exact order_lt hh (List.mem_filter.mp this).1
  · cases hk
theorem ft_eval (F : HasR fns) (w : r.Wf) (hI : insAt h n = some (0, r.fs)) {here : Nat} (hx : r.nxt = some here) : callF fns (k + 2) 2 [.ref n] h = .ok (.p .none) (h.set n (.ins 0 (r.find here).fs)) := by
  rw [call_eq F.f2 rfl]
  have hn := insAt_lt hI
  have hh := w.nx here hx
  have few := w.few
  let r1 : RD := { r with nxt := none }
  have w1 : r1.Wf := ⟨w.l1, w.l2, w.l3, w.few, fun k hk => by cases hk⟩
  have hI1 : insAt (h.set n (.ins 0 r1.fs)) n = some (0, r1.fs) := insAt_set hn
  have hm : ∀ s, s < r.laid.length → callF fns (k + 1) 1 [.ref n, .p (.int s)] (h.set n (.ins 0 r1.fs)) = .ok (.p (.bool (r.must s))) (h.set n (.ins 0 r1.fs)) := fun s hs => ma_eval (r := r1) F w1 hI1 hs
  generalize callF fns (k + 1) = cf at hm
  have e0 : r.fs[6]? = some (.p (.int here)) := by simp [RD.fs, hx, nxD]
  have ep : putFl r.fs 6 (.p .none) = some r1.fs := by simp [putFl, RD.fs, r1, nxD]
  have el : r.laid.length + 0 < 1000000 := by omega
  have hz : r.laid.length ≤ sizeLine := Nat.le_of_lt (Nat.lt_trans few size1000)
  have c1 : ∀ (a1 a2 a4 : Option Val), evalE cf [some (.ref n), a1, a2, some (.p (.list ((orderN r.laid.length here).map natD))), a4, none] (.comp [5] (.name 5) (.e (.var 3)) [(.val (.meth 0 1 0 [(.var 5)]))] (.var 5)) (h.set n (.ins 0 r1.fs)) = .ok (.p (.list (((orderN r.laid.length here).filter r.must).map natD))) (h.set n (.ins 0 r1.fs)) := fun a1 a2 a4 => by
    refine comp_ok natD natD r.must (src_e rfl) (by rw [order_len hh]; exact few) fun s hs => ⟨[some (.ref n), a1, a2, some (.p (.list ((orderN r.laid.length here).map natD))), a4, some (.p (.int s))], by simp, ?_, fun _ => by simp⟩
    simp [hI1, hm s (order_lt hh hs)]
  have t1 : ∀ env, evalS cf (.set 1 (.op1 .len (.fld 0 1))) (some (.ref n) :: env) h = .ok .nx (setSlot (some (.ref n) :: env) 1 (some (.p (.int (r.laid.length : Nat))))) h := fun env => by
    simp [hI, RD.fs]
  have ec : opf2 .gt (.int (r.gone.count false : Nat)) (.int 1) = some (.bool (decide (1 < r.gone.count false))) := by simp; omega
  have ea : opf2 .add (.list (((List.range (r.laid.length - here)).map (here + ·)).map natD)) (.list ((List.range here).map natD)) = some (.list ((orderN r.laid.length here).map natD)) := by
    rw [o_addL, if_pos (by simp; omega)]; unfold orderN; rw [List.map_append]
  have t2 : ∀ a1 a3 a4 a5, evalS cf (.set 2 (.fld 0 6)) [some (.ref n), a1, none, a3, a4, a5] h = .ok .nx [some (.ref n), a1, some (.p (.int here)), a3, a4, a5] h := fun a1 a3 a4 a5 => by
    simp [hI, e0]
  have t3 : ∀ env, evalS cf (.setFld 0 6 (.lit .none)) (some (.ref n) :: env) h = .ok .nx (some (.ref n) :: env) (h.set n (.ins 0 r1.fs)) := fun env => by
    simp [hI, ep]
  have ct : ∀ env, evalT cf (some (.ref n) :: env) (.val (.op2 .gt (.op2b .count (.fld 0 2) (.lit (.bool false))) (.lit (.int 1)))) (h.set n (.ins 0 r1.fs)) = .ok (decide (1 < r.gone.count false)) (h.set n (.ins 0 r1.fs)) := fun env => by
    simp [hI1]
    simp [r1, RD.fs]
    omega
  have t4 : ∀ a3 a4 a5, evalS cf (.set 3 (.op2d .add (.op2d .from_ (.var 2) (.var 1)) (.op1 .range (.var 2)))) [some (.ref n), some (.p (.int (r.laid.length : Nat))), some (.p (.int here)), a3, a4, a5] (h.set n (.ins 0 r1.fs)) = .ok .nx [some (.ref n), some (.p (.int (r.laid.length : Nat))), some (.p (.int here)), some (.p (.list ((orderN r.laid.length here).map natD))), a4, a5] (h.set n (.ins 0 r1.fs)) := fun a3 a4 a5 => by
    simp only [st_set, ev_op2d, ev_op1, ev_var, slot_s, slot_0, ofO_some, R.bind_ok, unP_p, bor_var, borV_p, o_range2 (show here < 1000000 by omega) (show r.laid.length < 1000000 by omega), o_range1 (show here < 1000000 by omega), Option.map_some, ea, R.toS_ok, setSlot_s, setSlot_0]
  have t5 : ∀ a4, evalS cf (.set 4 (.comp [5] (.name 5) (.e (.var 3)) [(.val (.meth 0 1 0 [(.var 5)]))] (.var 5))) [some (.ref n), some (.p (.int (r.laid.length : Nat))), some (.p (.int here)), some (.p (.list ((orderN r.laid.length here).map natD))), a4, none] (h.set n (.ins 0 r1.fs)) = .ok .nx [some (.ref n), some (.p (.int (r.laid.length : Nat))), some (.p (.int here)), some (.p (.list ((orderN r.laid.length here).map natD))), some (.p (.list (((orderN r.laid.length here).filter r.must).map natD))), none] (h.set n (.ins 0 r1.fs)) := fun a4 => by
    rw [st_set, c1, R.toS_ok]; simp
  have fin : ∀ (x : Option Nat), (r.find here).nxt = x → h.set n (.ins 0 (r.find here).fs) = h.set n (.ins 0 ({ r with nxt := x } : RD).fs) := fun x e => by subst e; rfl
  have t6 : ∀ a1 a2 a3, ∃ env', evalS cf (.if_ (.val (.var 4)) [.setFld 0 6 (.op2b .ix (.var 4) (.lit (.int 0)))] []) [some (.ref n), a1, a2, a3, some (.p (.list (((orderN r.laid.length here).filter r.must).map natD))), none] (h.set n (.ins 0 r1.fs)) = .ok .nx env' (h.set n (.ins 0 ({ r with nxt := ((orderN r.laid.length here).filter r.must).head? } : RD).fs)) := fun a1 a2 a3 => by
    cases hf : (orderN r.laid.length here).filter r.must with
    | nil =>
      refine ⟨[some (.ref n), a1, a2, a3, some (.p (.list [])), none], ?_⟩
      simp
      rfl
    | cons a l =>
      refine ⟨[some (.ref n), a1, a2, a3, some (.p (.list ((a :: l).map natD))), none], ?_⟩
      have e1 : atI (.int a :: l.map natD) 0 = some (.int a) := by
        unfold atI ixN
        rw [if_pos (by decide), if_pos (by simp)]
        rfl
      have ep7 : putFl r1.fs 6 (.p (.int a)) = some ({ r with nxt := some a } : RD).fs := by simp [putFl, RD.fs, r1, nxD]
      simp [hI1, e1, ep7]
  have z : ∃ env', evalSs cf b2 [some (.ref n), none, none, none, none, none] h = .ok .nx env' (h.set n (.ins 0 (r.find here).fs)) := by
    unfold b2
    rw [ss_cons, t1, RS.bind_nx, ss_cons]
    show ∃ env', ((evalS cf (.set 2 (.fld 0 6)) [some (.ref n), some (.p (.int (r.laid.length : Nat))), none, none, none, none] h).bind _) = _
    rw [t2, RS.bind_nx, ss_cons, t3, RS.bind_nx, ss_cons, st_if, ct, R.toS_ok]
    by_cases hc : 1 < r.gone.count false
    · obtain ⟨env', e6⟩ := t6 (some (.p (.int (r.laid.length : Nat)))) (some (.p (.int here))) (some (.p (.list ((orderN r.laid.length here).map natD))))
      refine ⟨env', ?_⟩
      rw [decide_eq_true hc, if_pos rfl, ss_cons, t4, RS.bind_nx, ss_cons, t5, RS.bind_nx, ss_cons, e6, RS.bind_nx, ss_nil, RS.bind_nx, ss_nil]
      rw [fin ((orderN r.laid.length here).filter r.must).head? (by unfold RD.find; simp only [if_pos hc])]
    · refine ⟨[some (.ref n), some (.p (.int (r.laid.length : Nat))), some (.p (.int here)), none, none, none], ?_⟩
      rw [decide_eq_false hc, if_neg (by decide), ss_nil, RS.bind_nx, ss_nil]
      rw [fin none (by unfold RD.find; simp only [if_neg hc])]
  obtain ⟨env', z⟩ := z
  show finF h.length (evalSs cf b2 [some (.ref n), none, none, none, none, none] h) = _
  rw [z, fin_nx, List.take_of_length_le (by simp)]
end
end Cd
set_option Elab.async false
set_option linter.all false
set_option maxRecDepth 100000
set_option maxHeartbeats 4000000
namespace Cd
open PySem L2
section
variable {fns : Nat → Option FnD} {h : Hi} {n k : Nat} {r : RD} {s : Nat}
@[simp] theorem fs_0 : r.fs[0]? = some (.l (r.left.map .int)) := id rfl
@[simp] theorem fs_1 : r.fs[1]? = some (.l (r.laid.map .int)) := id rfl
@[simp] theorem fs_2 : r.fs[2]? = some (.l (r.gone.map .bool)) := id rfl
@[simp] theorem fs_3 : r.fs[3]? = some (.l (r.done.map .bool)) := id rfl
@[simp] theorem fs_4 : r.fs[4]? = some (.p (.int r.high)) := id rfl
@[simp] theorem fs_5 : r.fs[5]? = some (.p (.int r.least)) := id rfl
@[simp] theorem fs_6 : r.fs[6]? = some (.p (nxD r.nxt)) := id rfl
@[simp] theorem fs_s0 {xs : List Int} : r.fs.set 0 (.l (xs.map .int)) = ({ r with left := xs } : RD).fs := id rfl
@[simp] theorem fs_s1 {xs : List Int} : r.fs.set 1 (.l (xs.map .int)) = ({ r with laid := xs } : RD).fs := id rfl
@[simp] theorem fs_s2 {xs : List Bool} : r.fs.set 2 (.l (xs.map .bool)) = ({ r with gone := xs } : RD).fs := id rfl
@[simp] theorem fs_s3 {xs : List Bool} : r.fs.set 3 (.l (xs.map .bool)) = ({ r with done := xs } : RD).fs := id rfl
@[simp] theorem fs_p3 {xs : List Bool} : putFl r.fs 3 (.l (xs.map .bool)) = some ({ r with done := xs } : RD).fs := id rfl
@[simp] theorem fs_p4 {v : Int} : putFl r.fs 4 (.p (.int v)) = some ({ r with high := v } : RD).fs := id rfl
@[simp] theorem fs_p5 {v : Int} : putFl r.fs 5 (.p (.int v)) = some ({ r with least := v } : RD).fs := id rfl
@[simp] theorem fs_p60 : putFl r.fs 6 (.p .none) = some ({ r with nxt := none } : RD).fs := id rfl
theorem fs_p6 {v : Nat} : putFl r.fs 6 (.p (.int (v : Int))) = some ({ r with nxt := some v } : RD).fs := id rfl
theorem fs_p6s {v : Nat} : putFl r.fs 6 (.p (.int ((v : Int) + 1))) = some ({ r with nxt := some (v + 1) } : RD).fs := id rfl
@[simp] theorem nxD_none : nxD none = .none := id rfl
@[simp] theorem nxD_some {v : Nat} : nxD (some v) = .int (v : Int) := id rfl
@[simp] theorem isNone_none : isNoneD .none = true := id rfl
@[simp] theorem isNone_int {v : Int} : isNoneD (.int v) = false := id rfl
@[simp] theorem getL_fld {env : Ev} {i j : Nat} : getL env h (.fld i j) = (insOf env h i).bind fun p => match p.2.2[j]? with
    | some (.l ts) => some ts
    | _ => none := by
  simp only [getL, peek]
  cases insOf env h i with
  | none => simp only [Option.bind_none]
  | some p =>
    simp only [Option.bind_some]
    cases p.2.2[j]? with
    | none => simp only
    | some u => cases u <;> simp only
@[simp] theorem setIxH_fld {env : Ev} {i j : Nat} {q : Int} {d : PyData} : setIxH env (.fld i j) (.int q) d h = (getL env h (.fld i j)).bind fun ts => (ixN ts.length q).bind fun x => (refOf (slot env i)).bind fun n => (insAt h n).map fun p => h.set n (.ins p.1 (p.2.set j (.l (ts.set x d)))) := by
  simp only [setIxH, storeL, slotRef_eq]
theorem ixN_nat {m s : Nat} (hs : s < m) : ixN m (s : Int) = some s := by
  unfold ixN
  rw [if_pos (by omega), if_pos (by omega)]
  simp
@[simp] theorem set_mapI {xs : List Int} {i : Nat} {v : Int} : (xs.map PyData.int).set i (.int v) = (xs.set i v).map .int := by rw [List.map_set]
@[simp] theorem set_mapB {xs : List Bool} {i : Nat} {v : Bool} : (xs.map PyData.bool).set i (.bool v) = (xs.set i v).map .bool := by rw [List.map_set]
@[simp] theorem take_set {o : Ob} : (h.set n o).take h.length = h.set n o := List.take_of_length_le (by simp)
/-! what the deeds do -/
def RD.endR (r : RD) (s : Nat) : RD := ({ r with done := r.done.set s true } : RD).find (if s + 1 = r.laid.length then 0 else s + 1)
def RD.layR (r : RD) (s : Nat) (v : Int) : RD := { r with left := r.left.set s (gi r.left s - v), laid := r.laid.set s (gi r.laid s + v) }
def RD.foldR (r : RD) (s : Nat) : RD := ({ r with gone := r.gone.set s true } : RD).endR s
def minV (x y : Int) : Int := if y < x then y else x
def maxV (x y : Int) : Int := if y > x then y else x
def RD.callR (r : RD) (s : Nat) : RD := (r.layR s (minV (r.high - gi r.laid s) (gi r.left s))).endR s
def RD.raiseOk (r : RD) (s : Nat) (bet : Int) : Bool := !(decide (bet ≤ r.high) || decide (gi r.left s < bet - gi r.laid s)) && !(decide (bet < r.high + r.least) && decide (bet - gi r.laid s < gi r.left s))
def RD.raiseR (r : RD) (s : Nat) (bet : Int) : RD := ({ (({ r with least := maxV r.least (bet - r.high), high := bet } : RD).layR s (bet - gi r.laid s)) with done := List.replicate r.laid.length false } : RD).endR s
theorem tn_eval (F : HasR fns) (hI : insAt h n = some (0, r.fs)) : callF fns (k + 1) 3 [.ref n] h = .ok (.p (nxD r.nxt)) h := by
  rw [call_eq F.f3 rfl]
  simp [-List.map_set, d3, b3, hI]
theorem bets_eval (F : HasR fns) (hI : insAt h n = some (0, r.fs)) : callF fns (k + 1) 10 [.ref n] h = .ok (.p (.tuple (r.laid.map .int))) h := by
  rw [call_eq F.f10 rfl]
  simp [-List.map_set, d10, b10, hI]
theorem chips_eval (F : HasR fns) (hI : insAt h n = some (0, r.fs)) : callF fns (k + 1) 11 [.ref n] h = .ok (.p (.tuple (r.left.map .int))) h := by
  rw [call_eq F.f11 rfl]
  simp [-List.map_set, d11, b11, hI]
theorem folded_eval (F : HasR fns) (hI : insAt h n = some (0, r.fs)) : callF fns (k + 1) 12 [.ref n] h = .ok (.p (.tuple (r.gone.map .bool))) h := by
  rw [call_eq F.f12 rfl]
  simp [-List.map_set, d12, b12, hI]
theorem sn_some (F : HasR fns) (hI : insAt h n = some (0, r.fs)) (hx : r.nxt = some s) : callF fns (k + 1) 4 [.ref n] h = .ok (.p (.int s)) h := by
  rw [call_eq F.f4 rfl]
  simp [-List.map_set, d4, b4, hI, hx]
theorem sn_none (F : HasR fns) (hI : insAt h n = some (0, r.fs)) (hx : r.nxt = none) : callF fns (k + 1) 4 [.ref n] h = .exc ⟨4, []⟩ h := by
  rw [call_eq F.f4 rfl]
  simp [-List.map_set, d4, b4, hI, hx]
theorem ly_eval (F : HasR fns) (w : r.Wf) (hI : insAt h n = some (0, r.fs)) (hs : s < r.laid.length) {v : Int} : callF fns (k + 1) 6 [.ref n, .p (.int s), .p (.int v)] h = .ok (.p .none) (h.set n (.ins 0 (r.layR s v).fs)) := by
  rw [call_eq F.f6 rfl]
  have hn := insAt_lt hI
  have e1 := gI (xs := r.left) (i := s) (by rw [w.l1]; exact hs)
  have e2 := gI (xs := r.laid) (i := s) hs
  have e3 : ixN r.left.length (s : Int) = some s := ixN_nat (by rw [w.l1]; exact hs)
  have e4 : ixN r.laid.length (s : Int) = some s := ixN_nat hs
  have hI1 : ∀ (r1 : RD), insAt (h.set n (.ins 0 r1.fs)) n = some (0, r1.fs) := fun r1 => insAt_set hn
  simp [-List.map_set, d6, b6, hI, hI1, e1, e2, e3, e4, RD.layR]
theorem en_eval (F : HasR fns) (w : r.Wf) (hI : insAt h n = some (0, r.fs)) (hs : s < r.laid.length) : callF fns (k + 3) 5 [.ref n, .p (.int s)] h = .ok (.p .none) (h.set n (.ins 0 (r.endR s).fs)) := by
  rw [call_eq F.f5 rfl]
  have hn := insAt_lt hI
  have e3 : ixN r.done.length (s : Int) = some s := ixN_nat (by rw [w.l3]; exact hs)
  have hI1 : ∀ (r1 : RD), insAt (h.set n (.ins 0 r1.fs)) n = some (0, r1.fs) := fun r1 => insAt_set hn
  have ft : ∀ (r1 : RD), r1.Wf → ∀ a, r1.nxt = some a → callF fns (k + 2) 2 [.ref n] (h.set n (.ins 0 r1.fs)) = .ok (.p .none) (h.set n (.ins 0 (r1.find a).fs)) := fun r1 w1 a ha => by
    rw [ft_eval F w1 (hI1 r1) ha, List.set_set]
  generalize callF fns (k + 2) = cf at ft
  have ee : ((s : Int) + 1 = (r.laid.length : Int)) ↔ s + 1 = r.laid.length := by omega
  have w1 : ∀ a, a < r.laid.length → ({ r with done := r.done.set s true, nxt := some a } : RD).Wf := fun a ha => ⟨w.l1, w.l2, by simp [w.l3], w.few, fun q hq => by cases hq; exact ha⟩
  unfold RD.endR
  by_cases hc : s + 1 = r.laid.length
  · have f0 := ft _ (w1 0 (by omega)) 0 rfl
    have p0 := fun {r : RD} => fs_p6 (r := r) (v := 0)
    simp only [Int.natCast_zero, Int.ofNat_zero] at p0
    simp [-List.map_set, d5, b5, hI, hI1, e3, fs_p6s, ee, hc, p0, f0]
    rfl
  · have f0 := ft _ (w1 (s + 1) (by omega)) (s + 1) rfl
    simp [-List.map_set, d5, b5, hI, hI1, e3, fs_p6s, ee, hc, f0]
    rfl
theorem endR_wf (w : r.Wf) (hs : s < r.laid.length) : (r.endR s).Wf := by
  unfold RD.endR
  refine find_wf (r := { r with done := r.done.set s true }) ⟨w.l1, w.l2, by simp [w.l3], w.few, w.nx⟩ ?_
  show (if s + 1 = r.laid.length then 0 else s + 1) < r.laid.length
  split <;> omega
theorem fold_some (F : HasR fns) (w : r.Wf) (hI : insAt h n = some (0, r.fs)) (hx : r.nxt = some s) : callF fns (k + 4) 7 [.ref n] h = .ok (.p .none) (h.set n (.ins 0 (r.foldR s).fs)) := by
  rw [call_eq F.f7 rfl]
  have hn := insAt_lt hI
  have hs := w.nx s hx
  have e3 : ixN r.gone.length (s : Int) = some s := ixN_nat (by rw [w.l2]; exact hs)
  have hI1 : ∀ (r1 : RD), insAt (h.set n (.ins 0 r1.fs)) n = some (0, r1.fs) := fun r1 => insAt_set hn
  have f1 : callF fns (k + 3) 4 [.ref n] h = .ok (.p (.int s)) h := sn_some F hI hx
  have f2 : callF fns (k + 3) 5 [.ref n, .p (.int s)] (h.set n (.ins 0 ({ r with gone := r.gone.set s true } : RD).fs)) = .ok (.p .none) (h.set n (.ins 0 (r.foldR s).fs)) := by
    rw [en_eval (r := { r with gone := r.gone.set s true }) F ⟨w.l1, by simp [w.l2], w.l3, w.few, w.nx⟩ (hI1 _) hs, List.set_set]; rfl
  generalize callF fns (k + 3) = cf at f1 f2
  simp [-List.map_set, d7, b7, hI, hI1, e3, f1, f2]
theorem call_some (F : HasR fns) (w : r.Wf) (hI : insAt h n = some (0, r.fs)) (hx : r.nxt = some s) : callF fns (k + 4) 8 [.ref n] h = .ok (.p .none) (h.set n (.ins 0 (r.callR s).fs)) := by
  rw [call_eq F.f8 rfl]
  have hn := insAt_lt hI
  have hs := w.nx s hx
  have e1 := gI (xs := r.left) (i := s) (by rw [w.l1]; exact hs)
  have e2 := gI (xs := r.laid) (i := s) hs
  have hI1 : ∀ (r1 : RD), insAt (h.set n (.ins 0 r1.fs)) n = some (0, r1.fs) := fun r1 => insAt_set hn
  have f1 : callF fns (k + 3) 4 [.ref n] h = .ok (.p (.int s)) h := sn_some F hI hx
  have f2 : callF fns (k + 3) 6 [.ref n, .p (.int s), .p (.int (minV (r.high - gi r.laid s) (gi r.left s)))] h = .ok (.p .none) (h.set n (.ins 0 (r.layR s (minV (r.high - gi r.laid s) (gi r.left s))).fs)) := ly_eval F w hI hs
  have wl : (r.layR s (minV (r.high - gi r.laid s) (gi r.left s))).Wf := ⟨by simp [RD.layR, w.l1], by simp [RD.layR, w.l2], by simp [RD.layR, w.l3], by simp [RD.layR, w.few], fun q hq => by simp only [RD.layR, List.length_set]; exact w.nx q hq⟩
  have f3 : callF fns (k + 3) 5 [.ref n, .p (.int s)] (h.set n (.ins 0 (r.layR s (minV (r.high - gi r.laid s) (gi r.left s))).fs)) = .ok (.p .none) (h.set n (.ins 0 (r.callR s).fs)) := by
    rw [en_eval F wl (hI1 _) (by simp only [RD.layR, List.length_set]; exact hs), List.set_set]; rfl
  generalize callF fns (k + 3) = cf at f1 f2 f3
  unfold minV at f2 f3
  simp [-List.map_set, d8, b8, hI, hI1, e1, e2, f1, f2, f3]
theorem fold_none (F : HasR fns) (hI : insAt h n = some (0, r.fs)) (hx : r.nxt = none) : callF fns (k + 2) 7 [.ref n] h = .exc ⟨4, []⟩ h := by
  rw [call_eq F.f7 rfl]
  have f1 : callF fns (k + 1) 4 [.ref n] h = .exc ⟨4, []⟩ h := sn_none F hI hx
  generalize callF fns (k + 1) = cf at f1
  simp [-List.map_set, d7, b7, hI, f1]
theorem call_none (F : HasR fns) (hI : insAt h n = some (0, r.fs)) (hx : r.nxt = none) : callF fns (k + 2) 8 [.ref n] h = .exc ⟨4, []⟩ h := by
  rw [call_eq F.f8 rfl]
  have f1 : callF fns (k + 1) 4 [.ref n] h = .exc ⟨4, []⟩ h := sn_none F hI hx
  generalize callF fns (k + 1) = cf at f1
  simp [-List.map_set, d8, b8, hI, f1]
theorem raise_none (F : HasR fns) (hI : insAt h n = some (0, r.fs)) (hx : r.nxt = none) {bet : Int} : callF fns (k + 2) 9 [.ref n, .p (.int bet)] h = .exc ⟨4, []⟩ h := by
  rw [call_eq F.f9 rfl]
  have f1 : callF fns (k + 1) 4 [.ref n] h = .exc ⟨4, []⟩ h := sn_none F hI hx
  generalize callF fns (k + 1) = cf at f1
  simp [-List.map_set, d9, b9, hI, f1]
theorem raise_bad (F : HasR fns) (w : r.Wf) (hI : insAt h n = some (0, r.fs)) (hx : r.nxt = some s) {bet : Int} (hb : r.raiseOk s bet = false) : callF fns (k + 2) 9 [.ref n, .p (.int bet)] h = .exc ⟨3, []⟩ h := by
  rw [call_eq F.f9 rfl]
  have hs := w.nx s hx
  have e1 := gI (xs := r.left) (i := s) (by rw [w.l1]; exact hs)
  have e2 := gI (xs := r.laid) (i := s) hs
  have f1 : callF fns (k + 1) 4 [.ref n] h = .ok (.p (.int s)) h := sn_some F hI hx
  generalize callF fns (k + 1) = cf at f1
  unfold RD.raiseOk at hb
  by_cases h1 : bet ≤ r.high
  · simp [-List.map_set, d9, b9, hI, f1, e1, e2, h1]
  · by_cases h2 : gi r.left s < bet - gi r.laid s
    · simp [-List.map_set, d9, b9, hI, f1, e1, e2, h1, h2]
    · by_cases h3 : bet < r.high + r.least
      · by_cases h4 : bet - gi r.laid s < gi r.left s
        · simp [-List.map_set, d9, b9, hI, f1, e1, e2, h1, h2, h3, h4]
        · simp [h1, h2, h3, h4] at hb
      · simp [h1, h2, h3] at hb
theorem rep_false (m : Nat) : (List.replicate m [PyData.bool false]).flatten = (List.replicate m false).map PyData.bool := by
  induction m with
  | zero => rfl
  | succ m ih => rw [List.replicate_succ, List.flatten_cons, ih, List.replicate_succ, List.map_cons]; rfl
theorem o_repF {m : Nat} (hm : m < 1000) : opf2 .rep (.list [.bool false]) (.int (m : Int)) = some (.list ((List.replicate m false).map .bool)) := by
  show (if decide ((m : Int).natAbs < 9223372036854775808) && decide ([PyData.bool false].length * (m : Int).toNat ≤ sizeLine) then some (PyData.list (List.replicate (m : Int).toNat [PyData.bool false]).flatten) else none) = _
  rw [Int.natAbs_natCast, Int.toNat_natCast, rep_false, if_pos]
  have := size1000
  simp only [Bool.and_eq_true, decide_eq_true_eq, List.length_singleton]
  omega
theorem raise_some (F : HasR fns) (w : r.Wf) (hI : insAt h n = some (0, r.fs)) (hx : r.nxt = some s) {bet : Int} (hb : r.raiseOk s bet = true) : callF fns (k + 4) 9 [.ref n, .p (.int bet)] h = .ok (.p .none) (h.set n (.ins 0 (r.raiseR s bet).fs)) := by
  rw [call_eq F.f9 rfl]
  have hn := insAt_lt hI
  have hs := w.nx s hx
  have e1 := gI (xs := r.left) (i := s) (by rw [w.l1]; exact hs)
  have e2 := gI (xs := r.laid) (i := s) hs
  have hI1 : ∀ (r1 : RD), insAt (h.set n (.ins 0 r1.fs)) n = some (0, r1.fs) := fun r1 => insAt_set hn
  have f1 : callF fns (k + 3) 4 [.ref n] h = .ok (.p (.int s)) h := sn_some F hI hx
  let r1 : RD := { r with least := maxV r.least (bet - r.high), high := bet }
  have w1 : r1.Wf := ⟨w.l1, w.l2, w.l3, w.few, w.nx⟩
  have f2 : callF fns (k + 3) 6 [.ref n, .p (.int s), .p (.int (bet - gi r.laid s))] (h.set n (.ins 0 r1.fs)) = .ok (.p .none) (h.set n (.ins 0 (r1.layR s (bet - gi r.laid s)).fs)) := by
    rw [ly_eval F w1 (hI1 _) hs, List.set_set]
  let r2 : RD := { r1.layR s (bet - gi r.laid s) with done := List.replicate r.laid.length false }
  have w2 : r2.Wf := ⟨by simp [r2, RD.layR, r1, w.l1], by simp [r2, RD.layR, r1, w.l2], by simp [r2, RD.layR, r1], by simp [r2, RD.layR, r1, w.few], fun q hq => by simp only [r2, RD.layR, r1, List.length_set]; exact w.nx q hq⟩
  have f3 : callF fns (k + 3) 5 [.ref n, .p (.int s)] (h.set n (.ins 0 r2.fs)) = .ok (.p .none) (h.set n (.ins 0 (r.raiseR s bet).fs)) := by
    rw [en_eval F w2 (hI1 _) (by simp only [r2, RD.layR, r1, List.length_set]; exact hs), List.set_set]; rfl
  have er := o_repF (m := r.laid.length) w.few
  have el : (r1.layR s (bet - gi r.laid s)).laid.length = r.laid.length := by simp [RD.layR, r1]
  generalize callF fns (k + 3) = cf at f1 f2 f3
  have t1 : ∀ a3, evalS cf (.set 2 (.meth 0 4 0 [])) [some (.ref n), some (.p (.int bet)), none, a3] h = .ok .nx [some (.ref n), some (.p (.int bet)), some (.p (.int s)), a3] h := fun a3 => by simp [hI, f1]
  have t2 : evalS cf (.set 3 (.op2d .sub (.var 1) (.op2b .ix (.fld 0 1) (.var 2)))) [some (.ref n), some (.p (.int bet)), some (.p (.int s)), none] h = .ok .nx [some (.ref n), some (.p (.int bet)), some (.p (.int s)), some (.p (.int (bet - gi r.laid s)))] h := by simp [hI, e2]
  unfold RD.raiseOk at hb
  simp only [Bool.and_eq_true, Bool.not_eq_true', Bool.or_eq_false_iff, decide_eq_false_iff_not, Bool.and_eq_false_iff] at hb
  obtain ⟨⟨h1, h2⟩, h3⟩ := hb
  have t3 : evalS cf (.if_ (.or_ (.val (.op2 .le (.var 1) (.fld 0 4))) (.val (.op2 .gt (.var 3) (.op2b .ix (.fld 0 0) (.var 2))))) [.raise_ 3 []] []) [some (.ref n), some (.p (.int bet)), some (.p (.int s)), some (.p (.int (bet - gi r.laid s)))] h = .ok .nx [some (.ref n), some (.p (.int bet)), some (.p (.int s)), some (.p (.int (bet - gi r.laid s)))] h := by
    simp [hI, e1, h1, h2]
  have t4 : evalS cf (.if_ (.and_ (.val (.op2 .lt (.var 1) (.op2d .add (.fld 0 4) (.fld 0 5)))) (.val (.op2 .lt (.var 3) (.op2b .ix (.fld 0 0) (.var 2))))) [.raise_ 3 []] []) [some (.ref n), some (.p (.int bet)), some (.p (.int s)), some (.p (.int (bet - gi r.laid s)))] h = .ok .nx [some (.ref n), some (.p (.int bet)), some (.p (.int s)), some (.p (.int (bet - gi r.laid s)))] h := by
    rcases h3 with h3 | h3
    · simp [hI, e1, h3]
    · by_cases h4 : bet < r.high + r.least
      · simp [hI, e1, h3, h4]
      · simp [hI, e1, h3, h4]
  have t5 : ∀ env, evalS cf (.setFld 0 5 (.op2 .max2 (.fld 0 5) (.op2d .sub (.var 1) (.fld 0 4)))) (some (.ref n) :: some (.p (.int bet)) :: env) h = .ok .nx (some (.ref n) :: some (.p (.int bet)) :: env) (h.set n (.ins 0 ({ r with least := maxV r.least (bet - r.high) } : RD).fs)) := fun env => by
    simp [hI, maxV]
  have t6 : ∀ env, evalS cf (.setFld 0 4 (.var 1)) (some (.ref n) :: some (.p (.int bet)) :: env) (h.set n (.ins 0 ({ r with least := maxV r.least (bet - r.high) } : RD).fs)) = .ok .nx (some (.ref n) :: some (.p (.int bet)) :: env) (h.set n (.ins 0 r1.fs)) := fun env => by
    simp [hI1]; rfl
  have t7 : evalS cf (.expr (.meth 0 6 0 [(.var 2), (.var 3)])) [some (.ref n), some (.p (.int bet)), some (.p (.int s)), some (.p (.int (bet - gi r.laid s)))] (h.set n (.ins 0 r1.fs)) = .ok .nx [some (.ref n), some (.p (.int bet)), some (.p (.int s)), some (.p (.int (bet - gi r.laid s)))] (h.set n (.ins 0 (r1.layR s (bet - gi r.laid s)).fs)) := by
    simp [hI1, f2]
  have t8 : ∀ env, evalS cf (.newFld 0 3 (.op2b .rep (.lst [(.lit (.bool false))]) (.op1 .len (.fld 0 1)))) (some (.ref n) :: env) (h.set n (.ins 0 (r1.layR s (bet - gi r.laid s)).fs)) = .ok .nx (some (.ref n) :: env) (h.set n (.ins 0 r2.fs)) := fun env => by
    simp only [st_newFld, ev_op2b, bor_lst, ev_lst, eps_cons, eps_nil, ev_lit, R.bind_ok, unP_p, ev_op1, bor_fld, insOf_eq, slot_0, refOf_r, Option.bind_some, hI1, Option.map_some, fs_1, o_lenL, List.length_map, el, ofO_some, er, R.toS_ok]
    simp [-List.map_set, -List.map_replicate, listD, hI1]
    rfl
  have t9 : evalS cf (.expr (.meth 0 5 0 [(.var 2)])) [some (.ref n), some (.p (.int bet)), some (.p (.int s)), some (.p (.int (bet - gi r.laid s)))] (h.set n (.ins 0 r2.fs)) = .ok .nx [some (.ref n), some (.p (.int bet)), some (.p (.int s)), some (.p (.int (bet - gi r.laid s)))] (h.set n (.ins 0 (r.raiseR s bet).fs)) := by
    simp [hI1, f3]
  show finF h.length (evalSs cf b9 [some (.ref n), some (.p (.int bet)), none, none] h) = _
  unfold b9
  rw [ss_cons, t1, RS.bind_nx, ss_cons, t2, RS.bind_nx, ss_cons, t3, RS.bind_nx, ss_cons, t4, RS.bind_nx, ss_cons, t5, RS.bind_nx, ss_cons, t6, RS.bind_nx, ss_cons, t7, RS.bind_nx, ss_cons, t8, RS.bind_nx, ss_cons, t9, RS.bind_nx, ss_nil, fin_nx, take_set]
end
end Cd
set_option Elab.async false
set_option linter.all false
set_option maxRecDepth 100000
set_option maxHeartbeats 4000000
namespace Cd
open PySem L2
/-! ### a round begins -/
def startR (chips forced : List Int) (first : Nat) : RD := ⟨List.zipWith (· - ·) chips forced, forced, List.replicate forced.length false, List.replicate forced.length false, maxI forced, maxV (maxI forced) 1, some first⟩
def initR (chips forced : List Int) (first : Nat) : RD := (startR chips forced first).find first
section
variable {fns : Nat → Option FnD} {h : Hi} {n k t : Nat} {r : RD} {s : Nat} {cf : Calls}
theorem zipD_ints : ∀ (xs ys : List Int), zipD (xs.map .int) (ys.map .int) = (xs.zip ys).map fun p => .tuple [.int p.1, .int p.2]
  | [], ys => by simp [zipD]
  | _ :: _, [] => by simp [zipD]
  | x :: xs, y :: ys => by
    simp only [List.map_cons, zipD, List.zip_cons_cons, zipD_ints xs ys]
theorem zipW_map : ∀ (xs ys : List Int), (List.zipWith (· - ·) xs ys).map PyData.int = (xs.zip ys).map fun p => PyData.int (p.1 - p.2)
  | [], ys => by simp
  | _ :: _, [] => by simp
  | x :: xs, y :: ys => by simp only [List.zipWith_cons_cons, List.map_cons, List.zip_cons_cons, zipW_map xs ys]
theorem start_wf {chips forced : List Int} {first : Nat} (hl : chips.length = forced.length) (few : forced.length < 1000) (hf : first < forced.length) : (startR chips forced first).Wf :=
  ⟨by simp [startR, hl], by simp [startR], by simp [startR], few, fun q hq => by cases hq; exact hf⟩
theorem init_eval (F : HasR fns) {chips forced : List Int} {first : Nat} (hI : insAt h n = some (0, [])) (hl : chips.length = forced.length) (few : forced.length < 1000) (hf : first < forced.length) :
    callF fns (k + 3) 0 [.ref n, .p (.tuple (chips.map .int)), .p (.tuple (forced.map .int)), .p (.int first)] h = .ok (.p .none) (h.set n (.ins 0 (initR chips forced first).fs)) := by
  rw [call_eq F.f0 rfl]
  have hn := insAt_lt hI
  have hI1 : ∀ (fs : List Fld), insAt (h.set n (.ins 0 fs)) n = some (0, fs) := fun fs => insAt_set hn
  have hne : forced ≠ [] := by rintro rfl; simp at hf
  have ft : callF fns (k + 2) 2 [.ref n] (h.set n (.ins 0 (startR chips forced first).fs)) = .ok (.p .none) (h.set n (.ins 0 (initR chips forced first).fs)) := by
    rw [ft_eval F (start_wf hl few hf) (hI1 _) rfl, List.set_set]; rfl
  generalize callF fns (k + 2) = cf at ft
  have er := o_repF (m := forced.length) few
  have em := o_maxT hne
  have c1 : ∀ a5, evalE cf [some (.ref n), some (.p (.tuple (chips.map .int))), some (.p (.tuple (forced.map .int))), some (.p (.int first)), none, a5] (.comp [4, 5] (.tup [(.name 4), (.name 5)]) (.zip (.var 1) (.var 2)) [] (.op2d .sub (.var 4) (.var 5))) h = .ok (.p (.list ((List.zipWith (· - ·) chips forced).map .int))) h := fun a5 => by
    rw [zipW_map]
    refine comp_all (fun p : Int × Int => .tuple [.int p.1, .int p.2]) (fun p => .int (p.1 - p.2)) ?_ (by simp; omega) fun p hp => ⟨[some (.ref n), some (.p (.tuple (chips.map .int))), some (.p (.tuple (forced.map .int))), some (.p (.int first)), some (.p (.int p.1)), some (.p (.int p.2))], by simp, by simp⟩
    simp [zipD_ints]
  have hz : (List.zipWith (· - ·) chips forced).map PyData.int = (List.zipWith (· - ·) chips forced).map PyData.int := rfl
  let E : Ev := [some (.ref n), some (.p (.tuple (chips.map .int))), some (.p (.tuple (forced.map .int))), some (.p (.int first)), none, none]
  have t1 : evalS cf (.newFld 0 0 (.comp [4, 5] (.tup [(.name 4), (.name 5)]) (.zip (.var 1) (.var 2)) [] (.op2d .sub (.var 4) (.var 5)))) E h = .ok .nx E (h.set n (.ins 0 [.l ((List.zipWith (· - ·) chips forced).map .int)])) := by
    rw [st_newFld, c1]
    simp [E, listD, hI, putFl]
  have t2 : evalS cf (.newFld 0 1 (.op1 .list (.var 2))) E (h.set n (.ins 0 [.l ((List.zipWith (· - ·) chips forced).map .int)])) = .ok .nx E (h.set n (.ins 0 [.l ((List.zipWith (· - ·) chips forced).map .int), .l (forced.map .int)])) := by
    simp [E, listD, hI1, putFl]
  have rep : ∀ (j : Nat) (fs : List Fld), j = fs.length → evalS cf (.newFld 0 j (.op2b .rep (.lst [(.lit (.bool false))]) (.op1 .len (.var 1)))) E (h.set n (.ins 0 fs)) = .ok .nx E (h.set n (.ins 0 (fs ++ [.l ((List.replicate forced.length false).map .bool)]))) := fun j fs ej => by
    simp only [st_newFld, ev_op2b, bor_lst, ev_lst, eps_cons, eps_nil, ev_lit, R.bind_ok, unP_p, ev_op1, bor_var, borV_p, E, slot_s, slot_0, ev_var, ofO_some, o_lenT, List.length_map, Option.map_some, hl, er, R.toS_ok]
    simp [-List.map_replicate, listD, hI1, putFl, ej]
  have t3 := rep 2 [.l ((List.zipWith (· - ·) chips forced).map .int), .l (forced.map .int)] rfl
  have t4 := rep 3 [.l ((List.zipWith (· - ·) chips forced).map .int), .l (forced.map .int), .l ((List.replicate forced.length false).map .bool)] rfl
  simp only [List.cons_append, List.nil_append] at t3 t4
  have t5 : ∀ fs : List Fld, fs.length = 4 → evalS cf (.setFld 0 4 (.op1 .max (.var 2))) E (h.set n (.ins 0 fs)) = .ok .nx E (h.set n (.ins 0 (fs ++ [.p (.int (maxI forced))]))) := fun fs e => by
    simp [E, hI1, putFl, e, em]
  have t6 : ∀ fs : List Fld, fs.length = 5 → evalS cf (.setFld 0 5 (.op2 .max2 (.op1 .max (.var 2)) (.lit (.int 1)))) E (h.set n (.ins 0 fs)) = .ok .nx E (h.set n (.ins 0 (fs ++ [.p (.int (maxV (maxI forced) 1))]))) := fun fs e => by
    simp [E, hI1, putFl, e, em, maxV]
  have t7 : ∀ fs : List Fld, fs.length = 6 → evalS cf (.setFld 0 6 (.var 3)) E (h.set n (.ins 0 fs)) = .ok .nx E (h.set n (.ins 0 (fs ++ [.p (.int first)]))) := fun fs e => by
    simp [E, hI1, putFl, e]
  have t5' := t5 [.l ((List.zipWith (· - ·) chips forced).map .int), .l (forced.map .int), .l ((List.replicate forced.length false).map .bool), .l ((List.replicate forced.length false).map .bool)] rfl
  have t6' := t6 [.l ((List.zipWith (· - ·) chips forced).map .int), .l (forced.map .int), .l ((List.replicate forced.length false).map .bool), .l ((List.replicate forced.length false).map .bool), .p (.int (maxI forced))] rfl
  have t7' := t7 [.l ((List.zipWith (· - ·) chips forced).map .int), .l (forced.map .int), .l ((List.replicate forced.length false).map .bool), .l ((List.replicate forced.length false).map .bool), .p (.int (maxI forced)), .p (.int (maxV (maxI forced) 1))] rfl
  simp only [List.cons_append, List.nil_append] at t5' t6' t7'
  have t8 : evalS cf (.expr (.meth 0 2 0 [])) E (h.set n (.ins 0 (startR chips forced first).fs)) = .ok .nx E (h.set n (.ins 0 (initR chips forced first).fs)) := by
    simp [E, hI1, ft]
  show finF h.length (evalSs cf b0 E h) = _
  unfold b0
  rw [ss_cons, t1, RS.bind_nx, ss_cons, t2, RS.bind_nx, ss_cons, t3, RS.bind_nx, ss_cons, t4, RS.bind_nx, ss_cons, t5', RS.bind_nx, ss_cons, t6', RS.bind_nx, ss_cons, t7', RS.bind_nx, ss_cons]
  show finF h.length ((evalS cf (.expr (.meth 0 2 0 [])) E (h.set n (.ins 0 (startR chips forced first).fs))).bind _) = _
  rw [t8, RS.bind_nx, ss_nil, fin_nx, take_set]
/-- C(..) -/
theorem new_eval (F : HasR fns) {env : Ev} {a b c : E} {chips forced : List Int} {first : Nat} (ha : evalE (callF fns (k + 3)) env a h = .ok (.p (.tuple (chips.map .int))) h) (hb : evalE (callF fns (k + 3)) env b h = .ok (.p (.tuple (forced.map .int))) h) (hc : evalE (callF fns (k + 3)) env c h = .ok (.p (.int first)) h)
    (hl : chips.length = forced.length) (few : forced.length < 1000) (hf : first < forced.length) : evalE (callF fns (k + 3)) env (.new 0 0 [a, b, c]) h = .ok (.ref h.length) (h ++ [.ins 0 (initR chips forced first).fs]) := by
  have hI : insAt (h ++ [.ins 0 []]) h.length = some (0, []) := by
    unfold insAt
    rw [List.getElem?_append_right (Nat.le_refl _)]
    simp
  have e := init_eval (k := k) F hI hl few hf
  rw [set_app] at e
  simp only [ev_new, ees_cons, ees_nil, ha, hb, hc, R.bind_ok, e, noX, newK]
end
end Cd
set_option Elab.async false
set_option linter.all false
set_option maxRecDepth 100000
set_option maxHeartbeats 4000000
namespace Cd
open PySem L2
/-! ### drawing -/
def hT (h : Hi) (t k : Nat) : Hi := h.set t (.lst (List.replicate k (.int 0)))
structure HasD (fns : Nat → Option FnD) : Prop where
  f13 : fns 13 = some d13
  f14 : fns 14 = some d14
section
variable {fns : Nat → Option FnD} {h : Hi} {n k t q : Nat} {r : RD} {s : Nat} {cf : Calls}
@[simp] theorem hT_len : (hT h t k).length = h.length := by unfold hT; rw [List.length_set]
@[simp] theorem hT_take {o : Nat} : (hT h t o).take h.length = hT h t o := List.take_of_length_le (by simp)
theorem hT_at (ht : t < h.length) : listAt (hT h t k) t = some (List.replicate k (.int 0)) := by
  unfold listAt hT
  rw [List.getElem?_set_self ht]
theorem hT_set : (hT h t k).set t (.lst (List.replicate q (.int 0))) = hT h t q := by unfold hT; rw [List.set_set]
theorem hT_ins (hn : n ≠ t) : insAt (hT h t k) n = insAt h n := by
  unfold insAt hT
  rw [List.getElem?_set_ne (Ne.symm hn)]
theorem hT_comm {o : Ob} (hn : n ≠ t) : (hT h t k).set n o = hT (h.set n o) t k := by
  unfold hT
  rw [List.set_comm _ _ hn.symm]
theorem rep_add {α : Type} (k : Nat) (a : α) : List.replicate k a ++ [a] = List.replicate (k + 1) a := by rw [List.replicate_succ']
theorem fmod_ix {j m : Int} (hm : 0 < m) : 0 ≤ j.fmod m ∧ j.fmod m < m := ⟨Int.fmod_nonneg_of_pos j hm, Int.fmod_lt_of_pos j hm⟩
theorem atI_ok {xs : List PyData} {i : Int} (h0 : 0 ≤ i) (h1 : i < xs.length) : ∃ x ∈ xs, atI xs i = some x := by
  obtain ⟨j, rfl⟩ := Int.eq_ofNat_of_zero_le h0
  have hj : j < xs.length := by omega
  refine ⟨xs[j], List.getElem_mem hj, ?_⟩
  show atI xs (j : Int) = _
  simp [atI_nat, hj]
theorem s64_c {i : Int} (h : i.natAbs < 18446744073709551616) : small64 i = true := decide_eq_true h
/-- the number drawn -/
def drawV (c : Int) (k : Nat) (m : Int) : Int :=
  let n1 := (c + 104729 * (k : Int)).fmod 4294967291
  let n2 := ((n1 * n1).fmod 4294967279 * 48271).fmod 4294967291
  let n3 := ((n2 * n2).fmod 4294967279 * 69621).fmod 4294967291
  (n2.fdiv 64 * 67108864 + n3.fdiv 64).fmod m
theorem draw_eval (F : fns 13 = some d13) (ns : List Int) {m : Int} (ht : t < h.length) (hk : k < 1000000) (hm : 0 < m) :
    ∃ v, 0 ≤ v ∧ v < m ∧ callF fns (q + 1) 13 [.p (.list (ns.map .int)), .ref t, .p (.int m)] (hT h t k) = .ok (.p (.int v)) (hT h t (k + 1)) := by
  rw [call_eq F rfl]
  generalize callF fns q = cf
  have hz : k < sizeLine := Nat.lt_trans hk (by decide)
  have e1 := hT_at (k := k) ht
  have e2 := hT_at (k := k + 1) ht
  let A := PyData.list (ns.map PyData.int)
  have t1 : ∀ env, evalS cf (.app (.var 1) (.lit (.int 0))) (some (.p A) :: some (.ref t) :: env) (hT h t k) = .ok .nx (some (.p A) :: some (.ref t) :: env) (hT h t (k + 1)) := fun env => by
    simp [e1, hz]
    rw [rep_add, hT_set]
  have t2 : ∀ a2 env, evalS cf (.set 3 (.op1 .len (.var 1))) (some (.p A) :: some (.ref t) :: a2 :: none :: env) (hT h t (k + 1)) = .ok .nx (some (.p A) :: some (.ref t) :: a2 :: some (.p (.int ((k + 1 : Nat) : Int))) :: env) (hT h t (k + 1)) := fun a2 env => by
    simp [e2]
  have t3 : ∃ c, ∀ a2 env, evalS cf (.if_ (.val (.var 0)) [.set 4 (.op2b .ix (.var 0) (.op2d .mod (.var 3) (.op1 .len (.var 0))))] []) (some (.p A) :: some (.ref t) :: a2 :: some (.p (.int ((k + 1 : Nat) : Int))) :: some (.p (.int 0)) :: env) (hT h t (k + 1)) = .ok .nx (some (.p A) :: some (.ref t) :: a2 :: some (.p (.int ((k + 1 : Nat) : Int))) :: some (.p (.int c)) :: env) (hT h t (k + 1)) := by
    cases ns with
    | nil => exact ⟨0, fun a2 env => by simp [A]⟩
    | cons a l =>
      have hp : (0 : Int) < ((a :: l).length : Int) := by rw [List.length_cons]; omega
      obtain ⟨h0, h1⟩ := fmod_ix (j := ((k + 1 : Nat) : Int)) hp
      obtain ⟨x, hx, e⟩ := atI_ok (xs := (a :: l).map PyData.int) h0 (by simpa using h1)
      obtain ⟨c, _, rfl⟩ := List.mem_map.mp hx
      refine ⟨c, fun a2 env => ?_⟩
      have e3 : opf2 .mod (.int ((k + 1 : Nat) : Int)) (.int ((a :: l).length : Int)) = some (.int (((k + 1 : Nat) : Int).fmod ((a :: l).length : Int))) := o_mod (by omega)
      simp only [st_if, et_val, bor_var, slot_0, slot_s, A, borV_p, ev_var, ofO_some, R.bind_ok, unP_p, truth_l, List.map_cons, List.isEmpty_cons, Bool.not_false, R.toS_ok, if_true, ss_cons, st_set, ev_op2b, ev_op2d, ev_op1, o_lenL, List.length_cons, List.length_map, Option.map_some] at e e3 ⊢
      rw [e3]
      simp only [Option.map_some, ofO_some, R.bind_ok, unP_p, o_ixL, e, R.toS_ok, setSlot_0, setSlot_s, RS.bind_nx, ss_nil]
  obtain ⟨c, t3⟩ := t3
  refine ⟨drawV c (k + 1) m, (fmod_ix hm).1, (fmod_ix hm).2, ?_⟩
  have m1 : ∀ x, opf2 .mul (.int 104729) (.int x) = some (.int (104729 * x)) := fun x => o_mul (.inl (s64_c (by decide)))
  have m2 : ∀ x : Int, opf2 .mul (.int (x.fmod 4294967291)) (.int (x.fmod 4294967291)) = some (.int (x.fmod 4294967291 * x.fmod 4294967291)) := fun x => o_mul (.inl (s64_fmod (by decide) (by decide)))
  have m3 : ∀ (x c : Int), c.natAbs < 18446744073709551616 → opf2 .mul (.int x) (.int c) = some (.int (x * c)) := fun x c hc => o_mul (.inr (s64_c hc))
  have m4 : ∀ x : Int, opf2 .mod (.int x) (.int 4294967291) = some (.int (x.fmod 4294967291)) := fun x => o_mod (by decide)
  have m5 : ∀ x : Int, opf2 .mod (.int x) (.int 4294967279) = some (.int (x.fmod 4294967279)) := fun x => o_mod (by decide)
  have m6 : ∀ x : Int, opf2 .fdiv (.int x) (.int 64) = some (.int (x.fdiv 64)) := fun x => o_div (by decide) (by decide)
  have m7 : ∀ x : Int, opf2 .mod (.int x) (.int m) = some (.int (x.fmod m)) := fun x => o_mod (by omega)
  have m8 := fun x => m3 x 48271 (by decide)
  have m9 := fun x => m3 x 69621 (by decide)
  have m10 := fun x => m3 x 67108864 (by decide)
  generalize hn1 : (c + 104729 * ((k + 1 : Nat) : Int)).fmod 4294967291 = n1
  generalize hn2 : ((n1 * n1).fmod 4294967279 * 48271).fmod 4294967291 = n2
  generalize hn3 : ((n2 * n2).fmod 4294967279 * 69621).fmod 4294967291 = n3
  have ev : drawV c (k + 1) m = (n2.fdiv 64 * 67108864 + n3.fdiv 64).fmod m := by
    unfold drawV
    simp only [hn1, hn2, hn3]
  have q1 : opf2 .mul (.int n1) (.int n1) = some (.int (n1 * n1)) := by rw [← hn1]; exact m2 _
  have q2 : opf2 .mul (.int n2) (.int n2) = some (.int (n2 * n2)) := by rw [← hn2]; exact m2 _
  have t4 : ∀ a2 a6, evalS cf (.set 5 (.op2d .mod (.op2d .add (.var 4) (.op2d .mul (.lit (.int 104729)) (.var 3))) (.lit (.int 4294967291)))) [some (.p A), some (.ref t), a2, some (.p (.int ((k + 1 : Nat) : Int))), some (.p (.int c)), none, a6] (hT h t (k + 1)) = .ok .nx [some (.p A), some (.ref t), a2, some (.p (.int ((k + 1 : Nat) : Int))), some (.p (.int c)), some (.p (.int n1)), a6] (hT h t (k + 1)) := fun a2 a6 => by
    simp only [st_set, ev_op2d, ev_var, ev_lit, slot_0, slot_s, ofO_some, R.bind_ok, unP_p, m1, Option.map_some, o_add, m4, hn1, R.toS_ok, setSlot_0, setSlot_s]
  have t5 : ∀ a2 a3 a6, evalS cf (.set 5 (.op2d .mod (.op2d .mul (.op2d .mod (.op2d .mul (.var 5) (.var 5)) (.lit (.int 4294967279))) (.lit (.int 48271))) (.lit (.int 4294967291)))) [some (.p A), some (.ref t), a2, a3, some (.p (.int c)), some (.p (.int n1)), a6] (hT h t (k + 1)) = .ok .nx [some (.p A), some (.ref t), a2, a3, some (.p (.int c)), some (.p (.int n2)), a6] (hT h t (k + 1)) := fun a2 a3 a6 => by
    simp only [st_set, ev_op2d, ev_var, ev_lit, slot_0, slot_s, ofO_some, R.bind_ok, unP_p, q1, m5, m8, Option.map_some, m4, hn2, R.toS_ok, setSlot_0, setSlot_s]
  have t6 : ∀ a2 a3, evalS cf (.set 6 (.op2d .mod (.op2d .mul (.op2d .mod (.op2d .mul (.var 5) (.var 5)) (.lit (.int 4294967279))) (.lit (.int 69621))) (.lit (.int 4294967291)))) [some (.p A), some (.ref t), a2, a3, some (.p (.int c)), some (.p (.int n2)), none] (hT h t (k + 1)) = .ok .nx [some (.p A), some (.ref t), a2, a3, some (.p (.int c)), some (.p (.int n2)), some (.p (.int n3))] (hT h t (k + 1)) := fun a2 a3 => by
    simp only [st_set, ev_op2d, ev_var, ev_lit, slot_0, slot_s, ofO_some, R.bind_ok, unP_p, q2, m5, m9, Option.map_some, m4, hn3, R.toS_ok, setSlot_0, setSlot_s]
  have t7 : ∀ a3, evalS cf (.ret (.op2d .mod (.op2d .add (.op2d .mul (.op2d .fdiv (.var 5) (.lit (.int 64))) (.lit (.int 67108864))) (.op2d .fdiv (.var 6) (.lit (.int 64)))) (.var 2))) [some (.p A), some (.ref t), some (.p (.int m)), a3, some (.p (.int c)), some (.p (.int n2)), some (.p (.int n3))] (hT h t (k + 1)) = .ok (.rt (.p (.int (drawV c (k + 1) m)))) [some (.p A), some (.ref t), some (.p (.int m)), a3, some (.p (.int c)), some (.p (.int n2)), some (.p (.int n3))] (hT h t (k + 1)) := fun a3 => by
    simp only [st_ret, ev_op2d, ev_var, ev_lit, slot_0, slot_s, ofO_some, R.bind_ok, unP_p, m6, m10, Option.map_some, o_add, m7, ← ev, R.toS_ok]
  have t0 : ∀ a2 a3 a5 a6, evalS cf (.set 4 (.lit (.int 0))) [some (.p A), some (.ref t), a2, a3, none, a5, a6] (hT h t (k + 1)) = .ok .nx [some (.p A), some (.ref t), a2, a3, some (.p (.int 0)), a5, a6] (hT h t (k + 1)) := fun a2 a3 a5 a6 => by simp
  show finF (hT h t k).length (evalSs cf b13 [some (.p A), some (.ref t), some (.p (.int m)), none, none, none, none] (hT h t k)) = _
  unfold b13
  rw [ss_cons, t1, RS.bind_nx, ss_cons, t2, RS.bind_nx, ss_cons, t0, RS.bind_nx, ss_cons, t3, RS.bind_nx, ss_cons, t4, RS.bind_nx, ss_cons, t5, RS.bind_nx, ss_cons, t6, RS.bind_nx, ss_cons, t7, RS.bind_rt, fin_rp, hT_len, hT_take]
theorem pick_eval (F : HasD fns) (ns : List Int) {xs : List PyData} (ht : t < h.length) (hk : k < 1000000) (hx : xs ≠ []) :
    ∃ x ∈ xs, callF fns (q + 2) 14 [.p (.list (ns.map .int)), .ref t, .p (.list xs)] (hT h t k) = .ok (.p x) (hT h t (k + 1)) := by
  rw [call_eq F.f14 rfl]
  have hp : (0 : Int) < (xs.length : Int) := by have := List.length_pos_iff.mpr hx; omega
  obtain ⟨v, h0, h1, e⟩ := draw_eval (q := q) (k := k) F.f13 ns ht hk hp
  generalize callF fns (q + 1) = cf at e
  obtain ⟨x, hm, e2⟩ := atI_ok h0 h1
  refine ⟨x, hm, ?_⟩
  simp [d14, b14, e, e2]
end
end Cd
set_option Elab.async false
set_option linter.all false
set_option maxRecDepth 100000
set_option maxHeartbeats 4000000
namespace Cd
open PySem L2
structure HasL (fns : Nat → Option FnD) : Prop extends HasR fns, HasD fns where
  f15 : fns 15 = some d15
  f17 : fns 17 = some d17
section
variable {fns : Nat → Option FnD} {h : Hi} {n k t q : Nat} {r : RD} {s : Nat} {cf : Calls}
/-- a comprehension whose parts draw c numbers each -/
theorem compL_town {elt : Ev → Hi → R PyData} {bt : PyData → Ev → Option Ev} {env : Ev} {α β : Type} (g : α → PyData) (f : β → PyData) (c B : Nat) (P : α → β → Prop) :
    ∀ (xs : List α) (k : Nat), (∀ x ∈ xs, ∀ j, j < B → ∃ y, P x y ∧ ∃ env1, bt (g x) env = some env1 ∧ elt env1 (hT h t j) = .ok (f y) (hT h t (j + c))) → k + c * xs.length ≤ B → (xs ≠ [] → 0 < c) →
    ∃ ys : List β, ys.length = xs.length ∧ (∀ i (hi : i < xs.length) (hj : i < ys.length), P xs[i] ys[i]) ∧ compL elt (fun _ h => .ok true h) bt env (xs.map g) (hT h t k) = .ok (ys.map f) (hT h t (k + c * xs.length))
  | [], k, _, _, _ => ⟨[], rfl, fun i hi => absurd hi (by simp), by simp [compL]⟩
  | x :: xs, k, hx, hB, hc => by
    have c0 := hc (by simp)
    rw [List.length_cons, Nat.mul_succ] at hB
    obtain ⟨y, py, env1, e1, e2⟩ := hx x List.mem_cons_self k (by omega)
    obtain ⟨ys, l1, l2, l3⟩ := compL_town (elt := elt) (bt := bt) (env := env) g f c B P xs (k + c) (fun z hz => hx z (List.mem_cons_of_mem _ hz)) (by omega) (fun _ => c0)
    refine ⟨y :: ys, by simp [l1], fun i hi hj => ?_, ?_⟩
    · cases i with
      | zero => exact py
      | succ i => exact l2 i (by simpa using hi) (by simpa using hj)
    · rw [List.map_cons]
      unfold compL
      rw [e1]
      simp only [R.bind_ok, if_true, e2, l3, List.map_cons]
      congr 2
      rw [List.length_cons, Nat.mul_succ]; omega
theorem comp_town {env : Ev} {own : List Nat} {tg : Tg} {src : Src} {elt : E} {α β : Type} (g : α → PyData) (f : β → PyData) (c B : Nat) (P : α → β → Prop) {xs : List α} (es : evalSrc cf env src (hT h t k) = .ok (xs.map g) (hT h t k)) (hz : xs.length < 1000)
    (hx : ∀ x ∈ xs, ∀ j, j < B → ∃ y, P x y ∧ ∃ env1, bindT tg (g x) (wipeE env own) = some env1 ∧ evalE cf env1 elt (hT h t j) = .ok (.p (f y)) (hT h t (j + c))) (hB : k + c * xs.length ≤ B) (hc : 0 < c) :
    ∃ ys : List β, ys.length = xs.length ∧ (∀ i (hi : i < xs.length) (hj : i < ys.length), P xs[i] ys[i]) ∧ evalE cf env (.comp own tg src [] elt) (hT h t k) = .ok (.p (.list (ys.map f))) (hT h t (k + c * xs.length)) := by
  obtain ⟨ys, l1, l2, l3⟩ := compL_town (h := h) (t := t) (elt := fun e h => (evalE cf e elt h).bind unP) (bt := fun x e => bindT tg x e) (env := wipeE env own) g f c B P xs k (fun x hm j hj => by
    obtain ⟨y, py, env1, e1, e2⟩ := hx x hm j hj
    exact ⟨y, py, env1, e1, by rw [e2]; rfl⟩) hB (fun _ => hc)
  refine ⟨ys, l1, l2, ?_⟩
  rw [ev_comp, es]
  exact compK2_ok (by rw [List.length_map]; exact Nat.lt_trans hz size1000) l3
theorem gi_get {xs : List Int} {i : Nat} (hi : i < xs.length) : gi xs i = xs[i] := by unfold gi; simp [hi]
/-- what a round is begun with -/
structure Setup (chips forced : List Int) (first : Nat) : Prop where
  len : chips.length = forced.length
  two : 2 ≤ forced.length
  six : forced.length ≤ 6
  fi : first < forced.length
  nn : ∀ c ∈ chips, 0 ≤ c
  fo : ∀ i, i < forced.length → 0 ≤ gi forced i ∧ gi forced i ≤ gi chips i
theorem setup_eval (F : HasL fns) (ns : List Int) (ht : t < h.length) (hk : k + 100 < 1000000) :
    ∃ chips forced first k', Setup chips forced first ∧ k ≤ k' ∧ k' ≤ k + 20 ∧ callF fns (q + 3) 15 [.p (.list (ns.map .int)), .ref t] (hT h t k) = .ok (.p (.tuple [.tuple (chips.map .int), .tuple (forced.map .int), .int (first : Nat)])) (hT h t k') := by
  rw [call_eq F.f15 rfl]
  have dr : ∀ (j : Nat) (m : Int), j < 1000000 → 0 < m → ∃ v, 0 ≤ v ∧ v < m ∧ callF fns (q + 2) 13 [.p (.list (ns.map .int)), .ref t, .p (.int m)] (hT h t j) = .ok (.p (.int v)) (hT h t (j + 1)) := fun j m hj hm => draw_eval F.f13 ns ht hj hm
  have pk : ∀ (j : Nat) (xs : List PyData), j < 1000000 → xs ≠ [] → ∃ x ∈ xs, callF fns (q + 2) 14 [.p (.list (ns.map .int)), .ref t, .p (.list xs)] (hT h t j) = .ok (.p x) (hT h t (j + 1)) := fun j xs hj hx => pick_eval F.toHasD ns ht hj hx
  generalize callF fns (q + 2) = cf at dr pk
  let A := PyData.list (ns.map PyData.int)
  obtain ⟨v, v0, v5, e1⟩ := dr k 5 (by omega) (by decide)
  obtain ⟨m, rfl⟩ := Int.eq_ofNat_of_zero_le v0
  have hm5 : m < 5 := by omega
  have t1 : ∀ env, evalS cf (.set 2 (.op2d .add (.lit (.int 2)) (.call 13 [(.var 0), (.var 1), (.lit (.int 5))]))) (some (.p A) :: some (.ref t) :: none :: env) (hT h t k) = .ok .nx (some (.p A) :: some (.ref t) :: some (.p (.int ((2 + m : Nat) : Int))) :: env) (hT h t (k + 1)) := fun env => by
    simp [A, e1]
  -- chips
  have c1 := comp_town (cf := cf) (h := h) (t := t) (k := k + 1) (env := [some (.p A), some (.ref t), some (.p (.int ((2 + m : Nat) : Int))), none, none, none, none]) (own := [5]) (tg := .name 5) (src := .rng1 (.var 2)) (elt := .op2d .add (.call 14 [(.var 0), (.var 1), (.lst [(.lit (.int 0)), (.lit (.int 5)), (.lit (.int 20)), (.lit (.int 40)), (.lit (.int 100))])]) (.call 13 [(.var 0), (.var 1), (.lit (.int 9))])) natD PyData.int 2 (k + 50) (fun _ y => 0 ≤ y) (xs := List.range (2 + m))
    (by
      have z := src_rng1 (cf := cf) (h := hT h t (k + 1)) (env := [some (.p A), some (.ref t), some (.p (.int ((2 + m : Nat) : Int))), none, none, none, none]) (a := .var 2) (j := ((2 + m : Nat) : Int)) (by simp) (rngOk_small (by omega) (by omega))
      rw [Int.toNat_natCast, rangeD_nat] at z
      exact z) (by simp; omega)
    (fun x hx j hj => by
      obtain ⟨y, hy, ey⟩ := pk j [.int 0, .int 5, .int 20, .int 40, .int 100] (by omega) (by simp)
      obtain ⟨z, z0, z9, ez⟩ := dr (j + 1) 9 (by omega) (by decide)
      obtain ⟨y', rfl, hy'⟩ : ∃ y', y = .int y' ∧ 0 ≤ y' := by
        simp only [List.mem_cons, List.not_mem_nil, or_false] at hy
        rcases hy with rfl | rfl | rfl | rfl | rfl <;> exact ⟨_, rfl, by decide⟩
      refine ⟨y' + z, by omega, [some (.p A), some (.ref t), some (.p (.int ((2 + m : Nat) : Int))), none, none, some (.p (.int x)), none], by simp, ?_⟩
      simp [A, ey, ez]) (by simp; omega) (by decide)
  obtain ⟨chips, l1, p1, e2⟩ := c1
  rw [List.length_range] at l1 e2
  have t2 : evalS cf (.set 3 (.op1 .tuple (.comp [5] (.name 5) (.rng1 (.var 2)) [] (.op2d .add (.call 14 [(.var 0), (.var 1), (.lst [(.lit (.int 0)), (.lit (.int 5)), (.lit (.int 20)), (.lit (.int 40)), (.lit (.int 100))])]) (.call 13 [(.var 0), (.var 1), (.lit (.int 9))]))))) [some (.p A), some (.ref t), some (.p (.int ((2 + m : Nat) : Int))), none, none, none, none] (hT h t (k + 1)) = .ok .nx [some (.p A), some (.ref t), some (.p (.int ((2 + m : Nat) : Int))), some (.p (.tuple (chips.map .int))), none, none, none] (hT h t (k + 1 + 2 * (2 + m))) := by
    rw [st_set, ev_op1, bor_comp, e2]
    simp
  have hch : ∀ c ∈ chips, 0 ≤ c := fun c hc => by
    obtain ⟨i, hi, rfl⟩ := List.getElem_of_mem hc
    exact p1 i (by rw [List.length_range]; omega) hi
  -- forced
  have c2 := comp_town (cf := cf) (h := h) (t := t) (k := k + 1 + 2 * (2 + m)) (env := [some (.p A), some (.ref t), some (.p (.int ((2 + m : Nat) : Int))), some (.p (.tuple (chips.map .int))), none, none, none]) (own := [6]) (tg := .name 6) (src := .e (.var 3)) (elt := .op2 .min2 (.var 6) (.call 14 [(.var 0), (.var 1), (.lst [(.lit (.int 0)), (.lit (.int 0)), (.lit (.int 1)), (.lit (.int 2)), (.lit (.int 5))])])) PyData.int PyData.int 1 (k + 50) (fun x y => 0 ≤ y ∧ y ≤ x) (xs := chips)
    (by simp) (by omega)
    (fun x hx j hj => by
      obtain ⟨y, hy, ey⟩ := pk j [.int 0, .int 0, .int 1, .int 2, .int 5] (by omega) (by simp)
      obtain ⟨y', rfl, hy'⟩ : ∃ y', y = .int y' ∧ 0 ≤ y' := by
        simp only [List.mem_cons, List.not_mem_nil, or_false] at hy
        rcases hy with rfl | rfl | rfl | rfl | rfl <;> exact ⟨_, rfl, by decide⟩
      have hx0 := hch x hx
      refine ⟨if y' < x then y' else x, by split <;> omega, [some (.p A), some (.ref t), some (.p (.int ((2 + m : Nat) : Int))), some (.p (.tuple (chips.map .int))), none, none, some (.p (.int x))], by simp, ?_⟩
      simp [A, ey]) (by omega) (by decide)
  obtain ⟨forced, l2, p2, e3⟩ := c2
  have t3 : evalS cf (.set 4 (.op1 .tuple (.comp [6] (.name 6) (.e (.var 3)) [] (.op2 .min2 (.var 6) (.call 14 [(.var 0), (.var 1), (.lst [(.lit (.int 0)), (.lit (.int 0)), (.lit (.int 1)), (.lit (.int 2)), (.lit (.int 5))])]))))) [some (.p A), some (.ref t), some (.p (.int ((2 + m : Nat) : Int))), some (.p (.tuple (chips.map .int))), none, none, none] (hT h t (k + 1 + 2 * (2 + m))) = .ok .nx [some (.p A), some (.ref t), some (.p (.int ((2 + m : Nat) : Int))), some (.p (.tuple (chips.map .int))), some (.p (.tuple (forced.map .int))), none, none] (hT h t (k + 1 + 2 * (2 + m) + 1 * chips.length)) := by
    rw [st_set, ev_op1, bor_comp, e3]
    simp
  obtain ⟨f, f0, f1, e4⟩ := dr (k + 1 + 2 * (2 + m) + 1 * chips.length) ((2 + m : Nat) : Int) (by omega) (by omega)
  obtain ⟨first, rfl⟩ := Int.eq_ofNat_of_zero_le f0
  have t4 : evalS cf (.ret (.tup [(.var 3), (.var 4), (.call 13 [(.var 0), (.var 1), (.var 2)])])) [some (.p A), some (.ref t), some (.p (.int ((2 + m : Nat) : Int))), some (.p (.tuple (chips.map .int))), some (.p (.tuple (forced.map .int))), none, none] (hT h t (k + 1 + 2 * (2 + m) + 1 * chips.length)) = .ok (.rt (.p (.tuple [.tuple (chips.map .int), .tuple (forced.map .int), .int (first : Nat)]))) [some (.p A), some (.ref t), some (.p (.int ((2 + m : Nat) : Int))), some (.p (.tuple (chips.map .int))), some (.p (.tuple (forced.map .int))), none, none] (hT h t (k + 1 + 2 * (2 + m) + 1 * chips.length + 1)) := by
    simp only [st_ret, ev_tup, eps_cons, eps_nil, ev_var, slot_0, slot_s, ofO_some, R.bind_ok, unP_p, ev_call, ees_cons, ees_nil, A, e4, R.toS_ok]
  refine ⟨chips, forced, first, k + 1 + 2 * (2 + m) + 1 * chips.length + 1, ⟨by omega, by omega, by omega, by omega, hch, fun i hi => ?_⟩, by omega, by omega, ?_⟩
  · have := p2 i (by omega) hi
    rw [gi_get hi, gi_get (by omega)]
    exact this
  · show finF (hT h t k).length (evalSs cf b15 [some (.p A), some (.ref t), none, none, none, none, none] (hT h t k)) = _
    unfold b15
    rw [ss_cons, t1, RS.bind_nx, ss_cons, t2, RS.bind_nx, ss_cons, t3, RS.bind_nx, ss_cons, t4, RS.bind_rt, fin_rp, hT_len, hT_take]
end
end Cd
set_option Elab.async false
set_option linter.all false
set_option maxRecDepth 100000
set_option maxHeartbeats 4000000
namespace Cd
open PySem L2
section
variable {fns : Nat → Option FnD} {h : Hi} {n k t q : Nat} {r : RD} {s : Nat} {cf : Calls}
theorem eqv_str {x y : Str} : PyData.eqv (.str x) (.str y) = decide (x = y) := by
  by_cases h : x = y
  · subst h; simp [PyData.eqv]
  · simp [PyData.eqv, h]
@[simp] theorem o_eqS {x y : Str} : opf2 .eq (.str x) (.str y) = some (.bool (decide (x = y))) := by
  show (some (PyData.eqv (.str x) (.str y))).map PyData.bool = _
  rw [eqv_str]; rfl
@[simp] theorem o_neS {x y : Str} : opf2 .ne (.str x) (.str y) = some (.bool !decide (x = y)) := by
  show (some (PyData.eqv (.str x) (.str y))).map (fun b => PyData.bool !b) = _
  rw [eqv_str]; rfl
theorem eqD_refl {d : PyData} (h : SeqAt.shaped d = true) : eqD d d = some true := by
  have e := PySem.SeqAt.eqv_refl d (SeqAt.canLay_of_shaped h)
  unfold eqD
  rw [e, h]
  cases scalD d <;> rfl
theorem o_eqR {d : PyData} (h : SeqAt.shaped d = true) : opf2 .eq d d = some (.bool true) := by
  show (eqD d d).map PyData.bool = _
  rw [eqD_refl h]; rfl
theorem o_neR {d : PyData} (h : SeqAt.shaped d = true) : opf2 .ne d d = some (.bool false) := by
  show (eqD d d).map (fun b => PyData.bool !b) = _
  rw [eqD_refl h]; rfl
theorem lay_mapI : ∀ xs : List Int, PyData.canLayAll0 (xs.map .int) = true
  | [] => by simp [PyData.canLayAll0]
  | x :: xs => by simp [PyData.canLayAll0, PyData.canLay0, lay_mapI xs]
theorem lay_mapB : ∀ xs : List Bool, PyData.canLayAll0 (xs.map .bool) = true
  | [] => by simp [PyData.canLayAll0]
  | x :: xs => by simp [PyData.canLayAll0, PyData.canLay0, lay_mapB xs]
theorem depth_mapB : ∀ xs : List Bool, PyData.depthAll (xs.map .bool) = 0
  | [] => rfl
  | x :: xs => by
    show max (PyData.depth (.bool x)) (PyData.depthAll (xs.map .bool)) = 0
    rw [depth_mapB xs]; rfl
def stD (r : RD) : PyData := .tuple [nxD r.nxt, .tuple (r.laid.map .int), .tuple (r.left.map .int), .tuple (r.gone.map .bool)]
theorem st_shaped (w : r.Wf) : SeqAt.shaped (stD r) = true := by
  have few := w.few
  have l1 := w.l1
  have l2 := w.l2
  have z := size1000
  have d0 : PyData.depth (nxD r.nxt) = 0 := by cases r.nxt <;> rfl
  have c0 : PyData.canLay0 (nxD r.nxt) = true := by cases r.nxt <;> rfl
  have d : PyData.depth (stD r) ≤ 64 := by
    show max (PyData.depth (nxD r.nxt)) (max (PyData.depthAll (r.laid.map .int) + 1) (max (PyData.depthAll (r.left.map .int) + 1) (max (PyData.depthAll (r.gone.map .bool) + 1) 0))) + 1 ≤ 64
    rw [depth_ints, depth_ints, depth_mapB, d0]
    decide
  unfold SeqAt.shaped
  rw [decide_eq_true d, Bool.and_true]
  simp only [stD, PyData.canLay0, PyData.canLayAll0, c0, lay_mapI, lay_mapB, List.length_map, List.length_cons, List.length_nil, Bool.and_true, Bool.true_and, Bool.and_eq_true, decide_eq_true_eq]
  first | omega | skip
theorem state_eval (F : HasL fns) (hI : insAt h n = some (0, r.fs)) (F18 : fns 18 = some d18 := by rfl) : callF fns (q + 2) 18 [.ref n] h = .ok (.p (stD r)) h := by
  rw [call_eq F18 rfl]
  have e1 : callF fns (q + 1) 3 [.ref n] h = _ := tn_eval F.toHasR hI
  have e2 : callF fns (q + 1) 10 [.ref n] h = _ := bets_eval F.toHasR hI
  have e3 : callF fns (q + 1) 11 [.ref n] h = _ := chips_eval F.toHasR hI
  have e4 : callF fns (q + 1) 12 [.ref n] h = _ := folded_eval F.toHasR hI
  generalize callF fns (q + 1) = cf at e1 e2 e3 e4
  simp [d18, b18, hI, e1, e2, e3, e4, stD]
/-- a deed -/
def RD.deed (r : RD) (w : Str) (bet : Int) : RD × Str := match r.nxt with
  | none => (r, "Over")
  | some s => if w = "fold" then (r.foldR s, "") else if w = "call" then (r.callR s, "") else if r.raiseOk s bet then (r.raiseR s bet, "") else (r, "BadDeed")
theorem ss_try_ok {body : List S} {hs : List (Nat × List S)} {env env1 : Ev} {h h1 : Hi} {fl : Fl} (e : evalSs cf body env h = .ok fl env1 h1) : evalS cf (.try_ body hs) env h = .ok fl env1 h1 := by
  show (match evalSs cf body env h with
    | .exc e env1 h1 => evalHs cf hs e env1 h1
    | r => r) = _
  rw [e]
theorem ss_try_exc {body : List S} {hs : List (Nat × List S)} {env env1 : Ev} {h h1 : Hi} {x : Ex} (e : evalSs cf body env h = .exc x env1 h1) : evalS cf (.try_ body hs) env h = evalHs cf hs x env1 h1 := by
  show (match evalSs cf body env h with
    | .exc e env1 h1 => evalHs cf hs e env1 h1
    | r => r) = _
  rw [e]
theorem hs_cons {c : Nat} {b : List S} {hs : List (Nat × List S)} {x : Ex} {env : Ev} : evalHs cf ((c, b) :: hs) x env h = if subC x.c c = true then evalSs cf b env h else evalHs cf hs x env h := id rfl
/-- the word's own step of a deed -/
theorem do_body {w : Str} {bet : Int} (hI : insAt h n = some (0, r.fs)) (hw : w = "fold" ∨ w = "call" ∨ w = "raise") {res : R Val}
    (hf : w = "fold" → cf 7 [.ref n] h = res) (hc : w = "call" → cf 8 [.ref n] h = res) (hr : w = "raise" → cf 9 [.ref n, .p (.int bet)] h = res) :
    evalSs cf [.if_ (.val (.op2 .eq (.var 1) (.lit (.str ("fold" : Str))))) [.expr (.meth 0 7 0 [])] [.if_ (.val (.op2 .eq (.var 1) (.lit (.str ("call" : Str))))) [.expr (.meth 0 8 0 [])] [.expr (.meth 0 9 0 [(.var 2)])]]] [some (.ref n), some (.p (.str w)), some (.p (.int bet))] h =
      res.toS [some (.ref n), some (.p (.str w)), some (.p (.int bet))] fun _ h1 => .ok .nx [some (.ref n), some (.p (.str w)), some (.p (.int bet))] h1 := by
  have e1 : ("call" : Str) ≠ "fold" := by decide
  have e2 : ("raise" : Str) ≠ "fold" := by decide
  have e3 : ("raise" : Str) ≠ "call" := by decide
  rcases hw with rfl | rfl | rfl
  · rw [← hf rfl]
    simp [hI]
    generalize cf 7 [.ref n] h = x
    cases x <;> rfl
  · rw [← hc rfl]
    simp [hI, e1]
    generalize cf 8 [.ref n] h = x
    cases x <;> rfl
  · rw [← hr rfl]
    simp [hI, e2, e3]
    generalize cf 9 [.ref n, .p (.int bet)] h = x
    cases x <;> rfl
theorem do_eval (F : HasL fns) (wf : r.Wf) {w : Str} {bet : Int} (hI : insAt h n = some (0, r.fs)) (hw : w = "fold" ∨ w = "call" ∨ w = "raise") :
    callF fns (q + 5) 17 [.ref n, .p (.str w), .p (.int bet)] h = .ok (.p (.str (r.deed w bet).2)) (h.set n (.ins 0 (r.deed w bet).1.fs)) := by
  rw [call_eq F.f17 rfl]
  have hn := insAt_lt hI
  have ne1 : ("call" : Str) ≠ "fold" := by decide
  have ne2 : ("raise" : Str) ≠ "fold" := by decide
  have ne3 : ("raise" : Str) ≠ "call" := by decide
  have key : (∃ v, (w = "fold" → callF fns (q + 4) 7 [.ref n] h = .ok v (h.set n (.ins 0 (r.deed w bet).1.fs))) ∧ (w = "call" → callF fns (q + 4) 8 [.ref n] h = .ok v (h.set n (.ins 0 (r.deed w bet).1.fs))) ∧ (w = "raise" → callF fns (q + 4) 9 [.ref n, .p (.int bet)] h = .ok v (h.set n (.ins 0 (r.deed w bet).1.fs))) ∧ (r.deed w bet).2 = "") ∨
      (r.deed w bet).1 = r ∧ ∃ c, (w = "fold" → callF fns (q + 4) 7 [.ref n] h = .exc ⟨c, []⟩ h) ∧ (w = "call" → callF fns (q + 4) 8 [.ref n] h = .exc ⟨c, []⟩ h) ∧ (w = "raise" → callF fns (q + 4) 9 [.ref n, .p (.int bet)] h = .exc ⟨c, []⟩ h) ∧ ((c = 3 ∧ (r.deed w bet).2 = "BadDeed") ∨ (c = 4 ∧ (r.deed w bet).2 = "Over")) := by
    cases hx : r.nxt with
    | none =>
      have e : r.deed w bet = (r, ("Over" : Str)) := by unfold RD.deed; rw [hx]
      rw [e]
      exact .inr ⟨rfl, 4, fun _ => fold_none F.toHasR hI hx, fun _ => call_none F.toHasR hI hx, fun _ => raise_none F.toHasR hI hx, .inr ⟨rfl, rfl⟩⟩
    | some s =>
      rcases hw with rfl | rfl | rfl
      · have e : r.deed "fold" bet = (r.foldR s, ("" : Str)) := by unfold RD.deed; rw [hx]; simp only [if_pos]
        rw [e]
        exact .inl ⟨.p .none, fun _ => fold_some F.toHasR wf hI hx, fun z => absurd z.symm ne1, fun z => absurd z.symm ne2, rfl⟩
      · have e : r.deed "call" bet = (r.callR s, ("" : Str)) := by unfold RD.deed; rw [hx]; simp only [if_neg ne1, if_pos]
        rw [e]
        exact .inl ⟨.p .none, fun z => absurd z ne1, fun _ => call_some F.toHasR wf hI hx, fun z => absurd z.symm ne3, rfl⟩
      · cases hb : r.raiseOk s bet with
        | true =>
          have e : r.deed "raise" bet = (r.raiseR s bet, ("" : Str)) := by unfold RD.deed; rw [hx]; simp only [if_neg ne2, if_neg ne3, hb, if_pos]
          rw [e]
          exact .inl ⟨.p .none, fun z => absurd z ne2, fun z => absurd z ne3, fun _ => raise_some F.toHasR wf hI hx hb, rfl⟩
        | false =>
          have e : r.deed "raise" bet = (r, ("BadDeed" : Str)) := by unfold RD.deed; rw [hx]; simp only [if_neg ne2, if_neg ne3, hb]; rfl
          rw [e]
          exact .inr ⟨rfl, 3, fun z => absurd z ne2, fun z => absurd z ne3, fun _ => raise_bad F.toHasR wf hI hx hb, .inl ⟨rfl, rfl⟩⟩
  generalize callF fns (q + 4) = cf at key
  show finF h.length (evalSs cf b17 [some (.ref n), some (.p (.str w)), some (.p (.int bet))] h) = _
  unfold b17
  rcases key with ⟨v, k1, k2, k3, k4⟩ | ⟨k0, c, k1, k2, k3, k4⟩
  · have e := do_body (cf := cf) hI hw k1 k2 k3
    rw [R.toS_ok] at e
    rw [ss_cons, ss_try_ok e, RS.bind_nx, k4]
    simp
  · have e := do_body (cf := cf) hI hw k1 k2 k3
    rw [R.toS_exc] at e
    have hs : h.set n (.ins 0 (r.deed w bet).1.fs) = h := by rw [k0]; exact set_same hI
    rw [hs, ss_cons, ss_try_exc e, hs_cons]
    rcases k4 with ⟨rfl, k4⟩ | ⟨rfl, k4⟩
    · rw [if_pos (by rfl), k4]
      simp
    · rw [if_neg (by decide), hs_cons, if_pos (by rfl), k4]
      simp
/-- what is done next -/
theorem word_eval (F : HasL fns) (ns : List Int) (ht : t < h.length) (hk : k + 100 < 1000000) (hnt : n ≠ t) (hI : insAt h n = some (0, r.fs)) (wf : r.Wf) (hm : 0 < r.laid.length) (F16 : fns 16 = some d16 := by rfl) :
    ∃ (w : Str) (bet : Int) (k' : Nat), (w = "fold" ∨ w = "call" ∨ w = "raise") ∧ k ≤ k' ∧ k' ≤ k + 4 ∧ callF fns (q + 3) 16 [.p (.list (ns.map .int)), .ref t, .ref n] (hT h t k) = .ok (.p (.tuple [.str w, .int bet])) (hT h t k') := by
  rw [call_eq F16 rfl]
  have dr : ∀ (j : Nat) (m : Int), j < 1000000 → 0 < m → ∃ v, 0 ≤ v ∧ v < m ∧ callF fns (q + 2) 13 [.p (.list (ns.map .int)), .ref t, .p (.int m)] (hT h t j) = .ok (.p (.int v)) (hT h t (j + 1)) := fun j m hj hm => draw_eval F.f13 ns ht hj hm
  have pk : ∀ (j : Nat) (xs : List PyData), j < 1000000 → xs ≠ [] → ∃ x ∈ xs, callF fns (q + 2) 14 [.p (.list (ns.map .int)), .ref t, .p (.list xs)] (hT h t j) = .ok (.p x) (hT h t (j + 1)) := fun j xs hj hx => pick_eval F.toHasD ns ht hj hx
  have hIj : ∀ j, insAt (hT h t j) n = some (0, r.fs) := fun j => by rw [hT_ins hnt]; exact hI
  have e1 : ∀ j, callF fns (q + 2) 3 [.ref n] (hT h t j) = .ok (.p (nxD r.nxt)) (hT h t j) := fun j => tn_eval F.toHasR (hIj j)
  have e2 : ∀ j, callF fns (q + 2) 10 [.ref n] (hT h t j) = .ok (.p (.tuple (r.laid.map .int))) (hT h t j) := fun j => bets_eval F.toHasR (hIj j)
  have e3 : ∀ j, callF fns (q + 2) 11 [.ref n] (hT h t j) = .ok (.p (.tuple (r.left.map .int))) (hT h t j) := fun j => chips_eval F.toHasR (hIj j)
  generalize callF fns (q + 2) = cf at dr pk e1 e2 e3
  let A := PyData.list (ns.map PyData.int)
  have hne : r.laid ≠ [] := by rintro z; rw [z] at hm; simp at hm
  have em := o_maxT hne
  have t1 : ∀ env, evalS cf (.set2 3 4 (.meth 0 3 2 []) (.op1 .max (.meth 0 10 2 []))) (some (.p A) :: some (.ref t) :: some (.ref n) :: none :: none :: env) (hT h t k) = .ok .nx (some (.p A) :: some (.ref t) :: some (.ref n) :: some (.p (nxD r.nxt)) :: some (.p (.int (maxI r.laid))) :: env) (hT h t k) := fun env => by
    simp [hIj, e1, e2, em]
  obtain ⟨x, hx, ex⟩ := pk k [.str "call", .str "call", .str "raise", .str "raise", .str "fold"] (by omega) (by simp)
  obtain ⟨w, rfl, hw⟩ : ∃ w, x = .str w ∧ (w = "fold" ∨ w = "call" ∨ w = "raise") := by
    simp only [List.mem_cons, List.not_mem_nil, or_false] at hx
    rcases hx with rfl | rfl | rfl | rfl | rfl
    · exact ⟨_, rfl, .inr (.inl rfl)⟩
    · exact ⟨_, rfl, .inr (.inl rfl)⟩
    · exact ⟨_, rfl, .inr (.inr rfl)⟩
    · exact ⟨_, rfl, .inr (.inr rfl)⟩
    · exact ⟨_, rfl, .inl rfl⟩
  have t2 : ∀ a3 a4 a6, evalS cf (.set 5 (.call 14 [(.var 0), (.var 1), (.lst [(.lit (.str ("call" : Str))), (.lit (.str ("call" : Str))), (.lit (.str ("raise" : Str))), (.lit (.str ("raise" : Str))), (.lit (.str ("fold" : Str)))])])) [some (.p A), some (.ref t), some (.ref n), a3, a4, none, a6] (hT h t k) = .ok .nx [some (.p A), some (.ref t), some (.ref n), a3, a4, some (.p (.str w)), a6] (hT h t (k + 1)) := fun a3 a4 a6 => by
    simp [A, ex]
  obtain ⟨y, hy, ey⟩ := pk (k + 1) [.int 0, .int 1, .int 2, .int 5, .int 10, .int 30] (by omega) (by simp)
  obtain ⟨b, rfl⟩ : ∃ b, y = .int b := by
    simp only [List.mem_cons, List.not_mem_nil, or_false] at hy
    rcases hy with rfl | rfl | rfl | rfl | rfl | rfl <;> exact ⟨_, rfl⟩
  have t3 : ∀ a3, evalS cf (.set 6 (.op2d .add (.var 4) (.call 14 [(.var 0), (.var 1), (.lst [(.lit (.int 0)), (.lit (.int 1)), (.lit (.int 2)), (.lit (.int 5)), (.lit (.int 10)), (.lit (.int 30))])]))) [some (.p A), some (.ref t), some (.ref n), a3, some (.p (.int (maxI r.laid))), some (.p (.str w)), none] (hT h t (k + 1)) = .ok .nx [some (.p A), some (.ref t), some (.ref n), a3, some (.p (.int (maxI r.laid))), some (.p (.str w)), some (.p (.int (maxI r.laid + b)))] (hT h t (k + 2)) := fun a3 => by
    simp [A, ey]
  have t4 : ∃ bet k', k + 2 ≤ k' ∧ k' ≤ k + 4 ∧ evalS cf (.if_ (.and_ (.val (.op1 .notNone (.var 3))) (.val (.op2 .eq (.call 13 [(.var 0), (.var 1), (.lit (.int 4))]) (.lit (.int 0))))) [.set 6 (.op2d .add (.op2d .add (.op2b .ix (.meth 0 10 2 []) (.var 3)) (.op2b .ix (.meth 0 11 2 []) (.var 3))) (.call 14 [(.var 0), (.var 1), (.lst [(.lit (.int 0)), (.lit (.int 0)), (.lit (.int 1)), (.op1 .neg (.lit (.int 1)))])]))] []) [some (.p A), some (.ref t), some (.ref n), some (.p (nxD r.nxt)), some (.p (.int (maxI r.laid))), some (.p (.str w)), some (.p (.int (maxI r.laid + b)))] (hT h t (k + 2)) =
      .ok .nx [some (.p A), some (.ref t), some (.ref n), some (.p (nxD r.nxt)), some (.p (.int (maxI r.laid))), some (.p (.str w)), some (.p (.int bet))] (hT h t k') := by
    cases hx : r.nxt with
    | none => exact ⟨maxI r.laid + b, k + 2, by omega, by omega, by simp⟩
    | some s =>
      have hs := wf.nx s hx
      have g1 := gI (xs := r.laid) (i := s) hs
      have g2 := gI (xs := r.left) (i := s) (by rw [wf.l1]; exact hs)
      obtain ⟨v, _, _, ev⟩ := dr (k + 2) 4 (by omega) (by decide)
      by_cases hv : v = 0
      · subst hv
        obtain ⟨z, hz, ez⟩ := pk (k + 3) [.int 0, .int 0, .int 1, .int (-1)] (by omega) (by simp)
        obtain ⟨c, rfl⟩ : ∃ c, z = .int c := by
          simp only [List.mem_cons, List.not_mem_nil, or_false] at hz
          rcases hz with rfl | rfl | rfl | rfl <;> exact ⟨_, rfl⟩
        refine ⟨gi r.laid s + gi r.left s + c, k + 4, by omega, by omega, ?_⟩
        simp [A, ev, hIj, e2, e3, g1, g2, ez]
      · exact ⟨maxI r.laid + b, k + 3, by omega, by omega, by simp [A, ev, hv]⟩
  obtain ⟨bet, k', h1, h2, t4⟩ := t4
  refine ⟨w, bet, k', hw, by omega, h2, ?_⟩
  have t5 : ∀ a3 a4, evalS cf (.ret (.tup [(.var 5), (.var 6)])) [some (.p A), some (.ref t), some (.ref n), a3, a4, some (.p (.str w)), some (.p (.int bet))] (hT h t k') = .ok (.rt (.p (.tuple [.str w, .int bet]))) [some (.p A), some (.ref t), some (.ref n), a3, a4, some (.p (.str w)), some (.p (.int bet))] (hT h t k') := fun a3 a4 => by simp
  show finF (hT h t k).length (evalSs cf b16 [some (.p A), some (.ref t), some (.ref n), none, none, none, none] (hT h t k)) = _
  unfold b16
  rw [ss_cons, t1, RS.bind_nx, ss_cons, t2, RS.bind_nx, ss_cons, t3, RS.bind_nx, ss_cons, t4, RS.bind_nx, ss_cons, t5, RS.bind_rt, fin_rp, hT_len, hT_take]
end
end Cd
set_option Elab.async false
set_option linter.all false
set_option maxRecDepth 100000
set_option maxHeartbeats 4000000
namespace Cd
open PySem L2
/-! ### loops by an invariant -/
theorem forL_inv {body : Ev → Hi → RS} {bt : PyData → Ev → Option Ev} (I : Nat → Ev → Hi → Prop) : ∀ (items : List PyData) (i : Nat) (env : Ev) (h : Hi), I i env h →
    (∀ j env h, i ≤ j → j < i + items.length → ∀ x, items[j - i]? = some x → I j env h → ∃ env1, bt x env = some env1 ∧ ∃ fl env' h', body env1 h = .ok fl env' h' ∧ (fl = .nx ∨ fl = .ct) ∧ I (j + 1) env' h') →
    ∃ env' h', forL body bt items env h = .ok .nx env' h' ∧ I (i + items.length) env' h'
  | [], i, env, h, h0, _ => ⟨env, h, rfl, h0⟩
  | x :: r, i, env, h, h0, st => by
    obtain ⟨env1, e1, fl, env2, h2, e2, hf, h3⟩ := st i env h (Nat.le_refl _) (by simp) x (by simp) h0
    obtain ⟨env', h', e3, h4⟩ := forL_inv I r (i + 1) env2 h2 h3 fun j env h a b y hy hI => st j env h (by omega) (by rw [List.length_cons]; omega) y (by
      rw [show j - i = (j - (i + 1)) + 1 by omega, List.getElem?_cons_succ]; exact hy) hI
    refine ⟨env', h', ?_, by rw [List.length_cons, show i + (r.length + 1) = i + 1 + r.length by omega]; exact h4⟩
    unfold forL
    rw [e1]
    rcases hf with rfl | rfl
    · simp only [e2]; exact e3
    · simp only [e2]; exact e3
/-- a while whose measure falls -/
theorem whileL_inv {c : Ev → Hi → R Bool} {body : Ev → Hi → RS} (I : Nat → Ev → Hi → Prop) : ∀ (N m : Nat) (env : Ev) (h : Hi), m < N → I m env h →
    (∀ m env h, I m env h → (∃ h1, c env h = .ok false h1 ∧ I m env h1) ∨ (∃ h1 fl env' h' m', c env h = .ok true h1 ∧ body env h1 = .ok fl env' h' ∧ (fl = .nx ∨ fl = .ct) ∧ m' < m ∧ I m' env' h')) →
    ∃ env' h' env0 h0 m', whileL c body N env h = .ok .nx env' h' ∧ I m' env' h' ∧ c env0 h0 = .ok false h' ∧ env0 = env' ∧ I m' env0 h0
  | 0, m, env, h, hm, _, _ => absurd hm (Nat.not_lt_zero _)
  | N + 1, m, env, h, hm, h0, st => by
    unfold whileL
    rcases st m env h h0 with ⟨h1, e, hI⟩ | ⟨h1, fl, env', h', m', e, e2, hf, hlt, hI⟩
    · refine ⟨env, h1, env, h, m, ?_, hI, e, rfl, h0⟩
      rw [e]; rfl
    · obtain ⟨a, b, c0, d0, m2, r1, r2⟩ := whileL_inv I N m' env' h' (by omega) hI st
      refine ⟨a, b, c0, d0, m2, ?_, r2⟩
      rw [e]
      simp only [R.toS_ok, if_true]
      rcases hf with rfl | rfl
      · simp only [e2]; exact r1
      · simp only [e2]; exact r1
theorem countP_lt {α : Type} {p q : α → Bool} {s : α} : ∀ {l : List α}, (∀ x ∈ l, p x = true → q x = true) → s ∈ l → q s = true → p s = false → l.countP p < l.countP q
  | [], _, h, _, _ => nomatch h
  | x :: r, hpq, hs, hq, hp => by
    have le : r.countP p ≤ r.countP q := List.countP_mono_left fun y hy => hpq y (List.mem_cons_of_mem _ hy)
    rw [List.countP_cons, List.countP_cons]
    rcases List.mem_cons.mp hs with rfl | hs
    · rw [hq, hp]; simp; omega
    · have lt := countP_lt (fun y hy => hpq y (List.mem_cons_of_mem _ hy)) hs hq hp
      cases hpx : p x with
      | false => simp; split <;> omega
      | true => rw [hpq x List.mem_cons_self hpx]; simp; omega
/-! ### one and two rounds beside the drawn numbers -/
def G1 (H : Hi) (r : RD) (k : Nat) : Hi := hT (H ++ [.ins 0 r.fs]) 0 k
def G2 (H : Hi) (r1 r2 : RD) (k : Nat) : Hi := hT (H ++ [.ins 0 r1.fs, .ins 0 r2.fs]) 0 k
section
variable {fns : Nat → Option FnD} {H h : Hi} {n k t q : Nat} {r r1 r2 : RD} {s : Nat} {cf : Calls}
theorem hT_app {o : Ob} (h0 : t < h.length) : hT h t k ++ [o] = hT (h ++ [o]) t k := by
  unfold hT
  rw [List.set_append_left _ _ h0]
theorem G1_at (h0 : 0 < H.length) : insAt (G1 H r k) H.length = some (0, r.fs) := by
  unfold G1
  rw [hT_ins (by omega)]
  unfold insAt
  rw [List.getElem?_append_right (Nat.le_refl _)]
  simp
theorem G1_set (h0 : 0 < H.length) : (G1 H r k).set H.length (.ins 0 r1.fs) = G1 H r1 k := by
  unfold G1
  rw [hT_comm (by omega), set_app]
theorem G2_at1 (h0 : 0 < H.length) : insAt (G2 H r1 r2 k) H.length = some (0, r1.fs) := by
  unfold G2
  rw [hT_ins (by omega)]
  unfold insAt
  rw [List.getElem?_append_right (Nat.le_refl _)]
  simp
theorem G2_at2 (h0 : 0 < H.length) : insAt (G2 H r1 r2 k) (H.length + 1) = some (0, r2.fs) := by
  unfold G2
  rw [hT_ins (by omega)]
  unfold insAt
  rw [List.getElem?_append_right (by omega)]
  simp
theorem G2_set1 (h0 : 0 < H.length) : (G2 H r1 r2 k).set H.length (.ins 0 r.fs) = G2 H r r2 k := by
  unfold G2
  rw [hT_comm (by omega), List.set_append_right _ _ (Nat.le_refl _)]
  simp
theorem G2_set2 (h0 : 0 < H.length) : (G2 H r1 r2 k).set (H.length + 1) (.ins 0 r.fs) = G2 H r1 r k := by
  unfold G2
  rw [hT_comm (by omega), List.set_append_right _ _ (by omega)]
  simp
@[simp] theorem G1_len : (G1 H r k).length = H.length + 1 := by simp [G1]
@[simp] theorem G2_len : (G2 H r1 r2 k).length = H.length + 2 := by simp [G2]
theorem G1_new (h0 : 0 < H.length) : hT H 0 k ++ [.ins 0 r.fs] = G1 H r k := hT_app h0
theorem G2_new (h0 : 0 < H.length) : G1 H r1 k ++ [.ins 0 r2.fs] = G2 H r1 r2 k := by
  unfold G1 G2
  rw [hT_app (by simp), List.append_assoc]; rfl
/-! ### invariants of rounds -/
structure RD.Ok (r : RD) : Prop where
  wf : r.Wf
  pos : 0 < r.laid.length
  h0 : 0 ≤ r.high
  hi : ∀ x ∈ r.laid, x ≤ r.high
  mu : ∀ s, r.nxt = some s → r.must s = true
theorem find_must {here s : Nat} (h : (r.find here).nxt = some s) : (r.find here).must s = true := by
  unfold RD.find at h
  simp only at h
  split at h
  · have := (List.mem_filter.mp (List.mem_of_head? h)).2
    exact this
  · cases h
theorem mem_set_le {xs : List Int} {i : Nat} {v b : Int} (h : ∀ x ∈ xs, x ≤ b) (hv : v ≤ b) : ∀ x ∈ xs.set i v, x ≤ b := fun x hx => by
  rcases List.mem_or_eq_of_mem_set hx with hx | rfl
  · exact h x hx
  · exact hv
theorem endR_ok (w : r.Wf) (hs : s < r.laid.length) (h0 : 0 ≤ r.high) (hi : ∀ x ∈ r.laid, x ≤ r.high) : (r.endR s).Ok :=
  ⟨endR_wf w hs, by show 0 < r.laid.length; omega, h0, hi, fun q hq => by
    unfold RD.endR at hq ⊢
    exact find_must hq⟩
theorem gi_mem {xs : List Int} {i : Nat} (h : i < xs.length) : gi xs i ∈ xs := by rw [gi_get h]; exact List.getElem_mem h
theorem fold_ok (o : r.Ok) (hx : r.nxt = some s) : (r.foldR s).Ok :=
  endR_ok (r := { r with gone := r.gone.set s true }) ⟨o.wf.l1, by simp [o.wf.l2], o.wf.l3, o.wf.few, o.wf.nx⟩ (o.wf.nx s hx) o.h0 o.hi
theorem lay_wf (w : r.Wf) {v : Int} : (r.layR s v).Wf := ⟨by simp [RD.layR, w.l1], by simp [RD.layR, w.l2], by simp [RD.layR, w.l3], by simp [RD.layR, w.few], fun q hq => by simp only [RD.layR, List.length_set]; exact w.nx q hq⟩
theorem minV_le {x y : Int} : minV x y ≤ x := by unfold minV; split <;> omega
theorem minV_le2 {x y : Int} : minV x y ≤ y := by unfold minV; split <;> omega
theorem call_ok (o : r.Ok) (hx : r.nxt = some s) : (r.callR s).Ok := by
  have hs := o.wf.nx s hx
  refine endR_ok (lay_wf o.wf) (by simp only [RD.layR, List.length_set]; exact hs) o.h0 (mem_set_le o.hi ?_)
  have : minV (r.high - gi r.laid s) (gi r.left s) ≤ r.high - gi r.laid s := minV_le
  show gi r.laid s + minV (r.high - gi r.laid s) (gi r.left s) ≤ r.high
  omega
theorem raise_ok (o : r.Ok) (hx : r.nxt = some s) {bet : Int} (hb : r.raiseOk s bet = true) : (r.raiseR s bet).Ok := by
  have hs := o.wf.nx s hx
  have hb' : r.high < bet := by
    unfold RD.raiseOk at hb
    simp only [Bool.and_eq_true, Bool.not_eq_true', Bool.or_eq_false_iff, decide_eq_false_iff_not] at hb
    have := hb.1.1
    omega
  have h0 := o.h0
  refine endR_ok (r := { (({ r with least := maxV r.least (bet - r.high), high := bet } : RD).layR s (bet - gi r.laid s)) with done := List.replicate r.laid.length false })
    ⟨by simp [RD.layR, o.wf.l1], by simp [RD.layR, o.wf.l2], by simp [RD.layR], by simp [RD.layR, o.wf.few], fun q hq => by simp only [RD.layR, List.length_set]; exact o.wf.nx q hq⟩ (by simp only [RD.layR, List.length_set]; exact hs) (by show 0 ≤ bet; omega) (mem_set_le (fun x hx => ?_) ?_)
  · have := o.hi x hx
    show x ≤ bet
    omega
  · show gi r.laid s + (bet - gi r.laid s) ≤ bet
    omega
theorem deed_ok (o : r.Ok) {w : Str} {bet : Int} : (r.deed w bet).1.Ok := by
  unfold RD.deed
  cases hx : r.nxt with
  | none => exact o
  | some s =>
    simp only
    split
    · exact fold_ok o hx
    · split
      · exact call_ok o hx
      · split
        · rename_i hb
          exact raise_ok o hx hb
        · exact o
theorem init_ok {chips forced : List Int} {first : Nat} (S : Setup chips forced first) : (initR chips forced first).Ok := by
  have six := S.six
  have two := S.two
  have w := start_wf S.len (by omega) S.fi
  have hne : forced ≠ [] := by rintro rfl; simp at two
  have hmem := maxI_mem hne
  obtain ⟨i, hi, e⟩ := List.getElem_of_mem hmem
  have := (S.fo i hi).1
  rw [gi_get hi, e] at this
  exact ⟨find_wf w S.fi, by show 0 < forced.length; omega, this, fun x hx => maxI_ge hx, fun q hq => find_must hq⟩
/-- how many are still asked -/
def RD.mu (r : RD) : Nat := (List.range r.laid.length).countP r.must
theorem mu_le : r.mu ≤ r.laid.length := by
  unfold RD.mu
  have := List.countP_le_length (p := r.must) (l := List.range r.laid.length)
  rwa [List.length_range] at this
theorem gi_set {xs : List Int} {i j : Nat} {v : Int} : gi (xs.set i v) j = if i = j ∧ j < xs.length then v else gi xs j := by
  unfold gi
  rw [List.getD_eq_getElem?_getD, List.getD_eq_getElem?_getD, List.getElem?_set]
  by_cases h : i = j
  · subst h
    by_cases h2 : i < xs.length
    · simp [h2]
    · simp [h2]
  · simp [h]
theorem gb_set {xs : List Bool} {i j : Nat} {v : Bool} : gb (xs.set i v) j = if i = j ∧ j < xs.length then v else gb xs j := by
  unfold gb
  rw [List.getD_eq_getElem?_getD, List.getD_eq_getElem?_getD, List.getElem?_set]
  by_cases h : i = j
  · subst h
    by_cases h2 : i < xs.length
    · simp [h2]
    · simp [h2]
  · simp [h]
theorem call_len : (r.callR s).laid.length = r.laid.length := by
  show (r.laid.set _ _).length = _
  rw [List.length_set]
theorem call_mu (o : r.Ok) (hx : r.nxt = some s) : (r.callR s).mu < r.mu := by
  have hs := o.wf.nx s hx
  have l1 := o.wf.l1
  have l3 := o.wf.l3
  have e : ∀ x, (r.callR s).must x = if gb r.gone x || decide (gi (r.left.set s (gi r.left s - minV (r.high - gi r.laid s) (gi r.left s))) x = 0) then false else (!gb (r.done.set s true) x) || decide (gi (r.laid.set s (gi r.laid s + minV (r.high - gi r.laid s) (gi r.left s))) x < r.high) := fun x => rfl
  unfold RD.mu
  rw [call_len]
  refine countP_lt (s := s) (fun x hx' hp => ?_) (List.mem_range.mpr hs) (o.mu s hx) ?_
  · rw [e] at hp
    by_cases hxs : s = x
    · subst hxs; exact o.mu s hx
    · simp only [gi_set, gb_set, hxs, false_and, if_false] at hp
      exact hp
  · have a1 : s < r.left.length := by omega
    have a3 : s < r.done.length := by omega
    have hm := o.mu s hx
    have hl : gi r.laid s ≤ r.high := o.hi _ (gi_mem hs)
    rw [e]
    simp only [gi_set, gb_set, true_and, a1, a3, hs, if_true]
    unfold minV
    by_cases c : gi r.left s < r.high - gi r.laid s
    · simp [c]
    · simp only [c, if_false]
      split
      · rfl
      · simp; omega
theorem call_over (hx : r.nxt = none) {w : Str} {bet : Int} : r.deed w bet = (r, ("Over" : Str)) := by unfold RD.deed; rw [hx]
end
end Cd
set_option Elab.async false
set_option linter.all false
set_option maxRecDepth 100000
set_option maxHeartbeats 4000000
namespace Cd
open PySem L2
/-! ### more about data -/
theorem cutD_map {α : Type} (f : α → PyData) (xs : List α) (lo hi : Option Int) : cutD (xs.map f) lo hi = ((xs.drop (HT.sIx xs.length 0 lo)).take (HT.sIx xs.length xs.length hi - HT.sIx xs.length 0 lo)).map f := by
  unfold cutD
  rw [List.length_map, ← List.map_drop, ← List.map_take]
def cutM {α : Type} (xs : List α) (lo hi : Option Int) : List α := (xs.drop (HT.sIx xs.length 0 lo)).take (HT.sIx xs.length xs.length hi - HT.sIx xs.length 0 lo)
theorem slice_T {α : Type} {f : α → PyData} {xs : List α} {l u : Bool} {a b : PyData} {lo hi : Option Int} (e1 : partD l a = some lo) (e2 : partD u b = some hi) : opf3 (.slice l u) (.tuple (xs.map f)) a b = some (.tuple ((cutM xs lo hi).map f)) := by
  show ((partD l a).bind fun lo => (partD u b).map fun hi => PyData.tuple (cutD (xs.map f) lo hi)) = _
  rw [e1, e2, Option.bind_some, Option.map_some, cutD_map]
  rfl
theorem slice_L {α : Type} {f : α → PyData} {xs : List α} {l u : Bool} {a b : PyData} {lo hi : Option Int} (e1 : partD l a = some lo) (e2 : partD u b = some hi) : opf3 (.slice l u) (.list (xs.map f)) a b = some (.list ((cutM xs lo hi).map f)) := by
  show ((partD l a).bind fun lo => (partD u b).map fun hi => PyData.list (cutD (xs.map f) lo hi)) = _
  rw [e1, e2, Option.bind_some, Option.map_some, cutD_map]
  rfl
theorem cut_lo {α : Type} (xs : List α) (j : Nat) : cutM xs none (some (j : Int)) = xs.take j := by
  unfold cutM
  rw [HT.sIx_none, HT.sIx_nat, List.drop_zero, Nat.sub_zero]
  by_cases h : j ≤ xs.length
  · rw [Nat.min_eq_left h]
  · rw [Nat.min_eq_right (by omega), List.take_of_length_le (Nat.le_refl _), List.take_of_length_le (by omega)]
theorem cut_hi {α : Type} (xs : List α) (j : Nat) (h : j ≤ xs.length) : cutM xs (some (j : Int)) none = xs.drop j := by
  unfold cutM
  rw [HT.sIx_none, HT.sIx_nat, Nat.min_eq_left h]
  exact List.take_of_length_le (by simp)
theorem sA {F : List Bool} {j : Nat} : opf3 (.slice false true) (.tuple (F.map PyData.bool)) .none (.int (j : Int)) = some (.tuple ((F.take j).map PyData.bool)) := by
  have := slice_T (f := PyData.bool) (xs := F) (l := false) (u := true) (a := .none) (b := .int (j : Int)) (lo := none) (hi := some (j : Int)) rfl rfl
  rw [this, cut_lo]
theorem sB {F : List Bool} {j : Nat} (h : j + 1 ≤ F.length) : opf3 (.slice true false) (.tuple (F.map PyData.bool)) (.int ((j : Int) + 1)) .none = some (.tuple ((F.drop (j + 1)).map PyData.bool)) := by
  have := slice_T (f := PyData.bool) (xs := F) (l := true) (u := false) (a := .int ((j : Int) + 1)) (b := .none) (lo := some ((j : Int) + 1)) (hi := none) rfl rfl
  rw [this, show ((j : Int) + 1) = ((j + 1 : Nat) : Int) from rfl, cut_hi _ _ h]
theorem sz_ok {n : Nat} (h : n ≤ 1000) : n ≤ sizeLine := Nat.le_trans h (Nat.le_of_lt size1000)
theorem addT_ok {xs ys : List PyData} (h : xs.length + ys.length ≤ 1000) : opf2 .add (.tuple xs) (.tuple ys) = some (.tuple (xs ++ ys)) := o_addT.trans (if_pos (sz_ok h))
theorem shaped_seq {ds : List PyData} (hz : ds.length < 1000) (hl : PyData.canLayAll0 ds = true) (hd : PyData.depthAll ds ≤ 60) : SeqAt.shaped (.tuple ds) = true ∧ SeqAt.shaped (.list ds) = true := by
  have z := Nat.le_of_lt (Nat.lt_trans hz size1000)
  have d1 : PyData.depth (.tuple ds) ≤ 64 := by show PyData.depthAll ds + 1 ≤ 64; omega
  have d2 : PyData.depth (.list ds) ≤ 64 := by show PyData.depthAll ds + 1 ≤ 64; omega
  unfold SeqAt.shaped
  rw [decide_eq_true d1, decide_eq_true d2]
  simp [PyData.canLay0, hl, z]
theorem shapedI {xs : List Int} (hz : xs.length < 1000) : SeqAt.shaped (.tuple (xs.map .int)) = true ∧ SeqAt.shaped (.list (xs.map .int)) = true := shaped_seq (by simpa using hz) (lay_mapI xs) (by rw [depth_ints]; omega)
theorem shapedB {xs : List Bool} (hz : xs.length < 1000) : SeqAt.shaped (.tuple (xs.map .bool)) = true ∧ SeqAt.shaped (.list (xs.map .bool)) = true := shaped_seq (by simpa using hz) (lay_mapB xs) (by rw [depth_mapB]; omega)
def minI : List Int → Int
  | [] => 0
  | n :: r => r.foldl min n
theorem foldl_min_mem : ∀ (r : List Int) (n : Int), r.foldl min n = n ∨ r.foldl min n ∈ r
  | [], n => .inl rfl
  | y :: r, n => by
    rw [List.foldl_cons]
    rcases foldl_min_mem r (min n y) with h | h
    · rw [h]
      by_cases e : n ≤ y
      · left; exact Int.min_eq_left e
      · right; rw [Int.min_eq_right (by omega)]; exact List.mem_cons_self
    · exact .inr (List.mem_cons_of_mem _ h)
theorem minI_mem {ns : List Int} (h : ns ≠ []) : minI ns ∈ ns := by
  cases ns with
  | nil => exact absurd rfl h
  | cons n r =>
    rcases foldl_min_mem r n with e | e
    · show r.foldl min n ∈ _
      rw [e]; exact List.mem_cons_self
    · exact List.mem_cons_of_mem _ e
theorem foldl_min_le : ∀ (r : List Int) (n : Int), r.foldl min n ≤ n ∧ ∀ x ∈ r, r.foldl min n ≤ x
  | [], n => ⟨Int.le_refl _, fun _ h => nomatch h⟩
  | y :: r, n => by
    obtain ⟨h1, h2⟩ := foldl_min_le r (min n y)
    rw [List.foldl_cons]
    refine ⟨by omega, fun x hx => ?_⟩
    rcases List.mem_cons.mp hx with rfl | hx
    · omega
    · exact h2 x hx
theorem minI_le {ns : List Int} {x : Int} (h : x ∈ ns) : minI ns ≤ x := by
  cases ns with
  | nil => cases h
  | cons n r =>
    rcases List.mem_cons.mp h with rfl | h
    · exact (foldl_min_le r x).1
    · exact (foldl_min_le r n).2 x h
theorem o_minT {ns : List Int} (h : ns ≠ []) : opf1 .min (.tuple (ns.map .int)) = some (.int (minI ns)) := by
  cases ns with
  | nil => exact absurd rfl h
  | cons n r =>
    have := maxOk_ints (n :: r)
    rw [List.map_cons] at this ⊢
    show (if maxOk (.int n :: r.map .int) then some (PySem.W.minD (.int n) (r.map .int)) else none) = _
    rw [if_pos this, PySem.W.minD_ints]
    rfl
theorem repT_B {b : Bool} {m : Nat} (h1 : 2 ≤ m) (h2 : m ≤ 1000) : opf2 .repT (.tuple [.bool b]) (.int (m : Int)) = some (.tuple ((List.replicate m b).map .bool)) := by
  show (if ![PyData.bool b].isEmpty && decide (2 ≤ (m : Int)) && decide ((m : Int) ≤ 1000) && decide ([PyData.bool b].length ≤ 1000) then some (PyData.tuple (List.replicate (m : Int).toNat [PyData.bool b]).flatten) else none) = _
  rw [if_pos (by simp; omega), Int.toNat_natCast]
  congr 2
  induction m with
  | zero => rfl
  | succ m ih =>
    clear h1 h2
    have : ∀ k : Nat, (List.replicate k [PyData.bool b]).flatten = (List.replicate k b).map PyData.bool := fun k => by
      induction k with
      | zero => rfl
      | succ k ih => rw [List.replicate_succ, List.flatten_cons, ih, List.replicate_succ, List.map_cons]; rfl
    exact this _
@[simp] theorem o_eqB {x y : Bool} : opf2 .eq (.bool x) (.bool y) = some (.bool (x == y)) := by cases x <;> cases y <;> rfl
@[simp] theorem o_neB {x y : Bool} : opf2 .ne (.bool x) (.bool y) = some (.bool (x != y)) := by cases x <;> cases y <;> rfl
/-! ### what a deed does -/
structure Eff (r r' : RD) (s : Nat) (v : Int) : Prop where
  laid : r'.laid = r.laid.set s (gi r.laid s + v)
  left : r'.left = r.left.set s (gi r.left s - v)
  v0 : 0 ≤ v
  v1 : v ≤ gi r.left s
/-- more of a round: what all had, what is left; the high bet stands -/
structure RD.Ok2 (r : RD) (chips : List Int) : Prop extends r.Ok where
  cl : chips.length = r.laid.length
  lf : ∀ i, i < r.laid.length → 0 ≤ gi r.left i
  ch : ∀ i, i < r.laid.length → gi r.laid i + gi r.left i = gi chips i
  hm : r.high ∈ r.laid
section
variable {r r1 r2 : RD} {s : Nat} {chips : List Int}
theorem set_gi {xs : List Int} {i : Nat} : xs.set i (gi xs i) = xs := by
  by_cases h : i < xs.length
  · rw [gi_get h]; simp
  · exact List.set_eq_of_length_le (by omega)
theorem maxI_high (o : r.Ok) (hm : r.high ∈ r.laid) : maxI r.laid = r.high := by
  have h1 := maxI_ge hm
  have h2 := o.hi _ (maxI_mem (List.ne_nil_of_mem hm))
  omega
/-- the three deeds that go -/
inductive Went (r r' : RD) (s : Nat) (v : Int) (w : Str) (bet : Int) : Prop
  | fold (hw : w = "fold") (e : Eff r r' s v) (hv : v = 0) (g : r'.gone = r.gone.set s true) (hi : r'.high = r.high) (ls : r'.least = r.least)
  | call (hw : w = "call") (e : Eff r r' s v) (hv : v = minV (r.high - gi r.laid s) (gi r.left s)) (g : r'.gone = r.gone) (hi : r'.high = r.high) (ls : r'.least = r.least)
  | raise (hw : w = "raise") (e : Eff r r' s v) (hv : gi r.laid s + v = bet) (hb : r.high < bet) (g : r'.gone = r.gone) (hi : r'.high = bet) (ok : r.raiseOk s bet = true) (ls : r'.least = maxV r.least (bet - r.high))
theorem Went.eff {r r' : RD} {s : Nat} {v : Int} {w : Str} {bet : Int} (h : Went r r' s v w bet) : Eff r r' s v := by cases h <;> assumption
theorem minV_nn {x y : Int} (h1 : 0 ≤ x) (h2 : 0 ≤ y) : 0 ≤ minV x y := by unfold minV; split <;> omega
theorem deed_went (o : r.Ok2 chips) {w : Str} {bet : Int} (hw : w = "fold" ∨ w = "call" ∨ w = "raise") :
    ((r.deed w bet).2 = "" ∧ ∃ s v, r.nxt = some s ∧ Went r (r.deed w bet).1 s v w bet) ∨ ((r.deed w bet).2 ≠ "" ∧ (r.deed w bet).1 = r ∧ ((r.deed w bet).2 = "Over" ↔ r.nxt = none)) := by
  have ne1 : ("call" : Str) ≠ "fold" := by decide
  have ne2 : ("raise" : Str) ≠ "fold" := by decide
  have ne3 : ("raise" : Str) ≠ "call" := by decide
  cases hx : r.nxt with
  | none =>
    right
    rw [call_over hx]
    exact ⟨by show ("Over" : Str) ≠ ""; decide, rfl, fun _ => rfl, fun _ => rfl⟩
  | some s =>
    have hs := o.wf.nx s hx
    have hl := o.lf s hs
    have hh := o.hi _ (gi_mem hs)
    rcases hw with rfl | rfl | rfl
    · have e : r.deed "fold" bet = (r.foldR s, ("" : Str)) := by unfold RD.deed; rw [hx]; simp only [if_pos]
      rw [e]
      exact .inl ⟨rfl, s, 0, rfl, .fold rfl ⟨by rw [Int.add_zero, set_gi]; rfl, by rw [Int.sub_zero, set_gi]; rfl, by omega, hl⟩ rfl rfl rfl rfl⟩
    · have e : r.deed "call" bet = (r.callR s, ("" : Str)) := by unfold RD.deed; rw [hx]; simp only [if_neg ne1, if_pos]
      rw [e]
      exact .inl ⟨rfl, s, _, rfl, .call rfl ⟨rfl, rfl, minV_nn (by omega) hl, minV_le2⟩ rfl rfl rfl rfl⟩
    · cases hb : r.raiseOk s bet with
      | true =>
        have e : r.deed "raise" bet = (r.raiseR s bet, ("" : Str)) := by unfold RD.deed; rw [hx]; simp only [if_neg ne2, if_neg ne3, hb, if_pos]
        rw [e]
        have hb' := hb
        unfold RD.raiseOk at hb'
        simp only [Bool.and_eq_true, Bool.not_eq_true', Bool.or_eq_false_iff, decide_eq_false_iff_not] at hb'
        have h1 := hb'.1.1
        have h2 := hb'.1.2
        exact .inl ⟨rfl, s, bet - gi r.laid s, rfl, .raise rfl ⟨rfl, rfl, by omega, by omega⟩ (by omega) (by omega) rfl rfl hb rfl⟩
      | false =>
        have e : r.deed "raise" bet = (r, ("BadDeed" : Str)) := by unfold RD.deed; rw [hx]; simp only [if_neg ne2, if_neg ne3, hb]; rfl
        rw [e]
        exact .inr ⟨by show ("BadDeed" : Str) ≠ ""; decide, rfl, fun z => absurd (show ("BadDeed" : Str) = "Over" from z) (by decide), fun z => by cases z⟩
theorem went_ok2 (o : r.Ok2 chips) {r' : RD} (o' : r'.Ok) {v : Int} {w : Str} {bet : Int} (hx : r.nxt = some s) (h : Went r r' s v w bet) : r'.Ok2 chips := by
  have hs := o.wf.nx s hx
  have e := h.eff
  have ll : r'.laid.length = r.laid.length := by rw [e.laid, List.length_set]
  have l1 := o.wf.l1
  refine ⟨o', by rw [ll]; exact o.cl, fun i hi => ?_, fun i hi => ?_, ?_⟩
  · rw [ll] at hi
    rw [e.left, gi_set]
    split
    · have := e.v1; omega
    · exact o.lf i hi
  · rw [ll] at hi
    rw [e.left, e.laid, gi_set, gi_set]
    have := o.ch i hi
    by_cases c : s = i
    · subst c
      rw [if_pos ⟨rfl, hs⟩, if_pos ⟨rfl, by omega⟩]; omega
    · rw [if_neg (fun z => c z.1), if_neg (fun z => c z.1)]; exact this
  · rw [e.laid]
    have stay : v = 0 ∨ gi r.laid s + v ≤ r.high → gi r.laid s < r.high ∨ v = 0 → r.high ∈ r.laid.set s (gi r.laid s + v) := fun h1 h2 => by
      rcases h2 with h2 | h2
      · obtain ⟨i, hi, e⟩ := List.getElem_of_mem o.hm
        have hne : s ≠ i := by
          rintro rfl
          rw [gi_get hi, e] at h2
          omega
        rw [← e]
        have : (r.laid.set s (gi r.laid s + v))[i]'(by rw [List.length_set]; exact hi) = r.laid[i] := List.getElem_set_ne hne _
        rw [← this]
        exact List.getElem_mem _
      · rw [h2, Int.add_zero, set_gi]; exact o.hm
    cases h with
    | fold hw e hv g hi => rw [hi]; exact stay (.inl hv) (.inr hv)
    | call hw e hv g hi =>
      rw [hi]
      have h1 : v ≤ r.high - gi r.laid s := by rw [hv]; exact minV_le
      have hh := o.hi _ (gi_mem hs)
      have v0 := e.v0
      refine stay (.inr (by omega)) ?_
      by_cases c : gi r.laid s < r.high
      · exact .inl c
      · right; omega
    | raise hw e hv hb g hi => rw [hi, hv]; exact List.mem_set hs _
theorem deed_ok2 (o : r.Ok2 chips) {w : Str} {bet : Int} (hw : w = "fold" ∨ w = "call" ∨ w = "raise") : (r.deed w bet).1.Ok2 chips := by
  rcases deed_went o (bet := bet) hw with ⟨_, s, v, hx, h⟩ | ⟨_, e, _⟩
  · exact went_ok2 o (deed_ok o.toOk) hx h
  · rw [e]; exact o
theorem init_ok2 {forced : List Int} {first : Nat} (S : Setup chips forced first) : (initR chips forced first).Ok2 chips := by
  have hne : forced ≠ [] := by rintro rfl; have := S.two; simp at this
  have hz : ∀ i, i < forced.length → gi (List.zipWith (· - ·) chips forced) i = gi chips i - gi forced i := fun i hi => by
    have h1 : i < chips.length := by rw [S.len]; exact hi
    rw [gi_get (by simp; omega), gi_get hi, gi_get h1]
    simp
  refine ⟨init_ok S, S.len, fun i hi => ?_, fun i hi => ?_, maxI_mem hne⟩
  · show 0 ≤ gi (List.zipWith (· - ·) chips forced) i
    rw [hz i hi]
    have := (S.fo i hi).2
    omega
  · show gi forced i + gi (List.zipWith (· - ·) chips forced) i = gi chips i
    rw [hz i hi]; omega
end
end Cd
set_option Elab.async false
set_option linter.all false
set_option maxRecDepth 100000
set_option maxHeartbeats 4000000
namespace Cd
open PySem L2
def seatsM (gs : List Bool) : List Nat := (List.range gs.length).filter fun i => !gs.getD i false
def ge (bs : List Int) (l : Int) (i : Nat) : Bool := decide (l ≤ bs.getD i 0)
def dL (bs : List Int) (before l : Int) : List Int := bs.map fun b => (if l < b then l else b) - (if before < b then before else b)
def dR (bs : List Int) (before : Int) : List Int := bs.map fun b => b - (if before < b then before else b)
def lvM (bs : List Int) (seats : List Nat) : List Int := seats.map fun i => bs.getD i 0
abbrev manyM (bs : List Int) (before l : Int) : Int := (dL bs before l).sum
abbrev restM (bs : List Int) (before : Int) : Int := (dR bs before).sum
def rowD (r : Int × List Nat) : PyData := .tuple [.int r.1, .tuple (r.2.map natD)]
def potsL (last : Int) (bs : List Int) (seats : List Nat) : Int → List Int → List (Int × List Nat)
  | _, [] => []
  | before, l :: ls =>
    let many := if l = last then restM bs before else manyM bs before l
    (if 0 < many then [(many, seats.filter (ge bs l))] else []) ++ potsL last bs seats l ls
def levelsM (bs : List Int) (gs : List Bool) : List Int := sortI (dedup (lvM bs (seatsM gs)))
def potsM (bs : List Int) (gs : List Bool) : List (Int × List Nat) := potsL ((levelsM bs gs).getLast?.getD 0) bs (seatsM gs) 0 (levelsM bs gs)
theorem seats_lt {gs : List Bool} {i : Nat} (h : i ∈ seatsM gs) : i < gs.length := by
  have := List.mem_filter.mp h
  simpa using this.1
theorem getD_bool (gs : List Bool) (i : Nat) (h : i < gs.length) : (gs.map PyData.bool).getD i .none = .bool (gs.getD i false) := by
  simp [h]
section
variable {cf : Calls} {h : Hi} {fns : Nat → Option FnD}
abbrev intsT (bs : List Int) : PyData := .tuple (bs.map .int)
abbrev boolsT (bs : List Bool) : PyData := .tuple (bs.map .bool)
theorem src_enum {env : Ev} {i : Nat} {gs : List Bool} (e : slot env i = some (.p (boolsT gs))) : evalSrc cf env (.enum (.var i)) h = .ok ((List.range gs.length).map fun i => .tuple [.int ((0 + i : Nat) : Int), (gs.map PyData.bool).getD i .none]) h := by
  simp only [es_enum, ev_var, e, ofO_some, R.bind_ok, unP_p, items_T, Option.map_some]
  rw [enumFrom_eq, List.length_map]
theorem pots_comp1 {bs : List Int} {gs : List Bool} {a0 a2 a3 a4 a5 a6 a7 a8 a9 a10 : Option Val} (hz : gs.length < 1000) :
    evalE cf [a0, some (.p (boolsT gs)), a2, a3, a4, a5, a6, a7, a8, a9, a10] (.comp [8, 9] (.tup [(.name 8), (.name 9)]) (.enum (.var 1)) [(.not_ (.val (.var 9)))] (.var 8)) h = .ok (.p (.list ((seatsM gs).map natD))) h := by
  refine comp_ok _ natD (fun i => !gs.getD i false) (src_enum rfl) (by simpa using hz) fun i hi => ?_
  have hi' : i < gs.length := by simpa using hi
  rw [getD_bool gs i hi']
  refine ⟨[a0, some (.p (boolsT gs)), a2, a3, a4, a5, a6, a7, some (.p (.int i)), some (.p (.bool (gs.getD i false))), a10], by simp, by simp, fun _ => by simp⟩
theorem getD_int (bs : List Int) {i : Nat} (h : i < bs.length) : (bs.map PyData.int)[i]? = some (.int (bs.getD i 0)) := by
  simp [h]
theorem pots_comp2 {bs : List Int} {seats : List Nat} {a1 a3 a4 a5 a6 a7 a8 a9 a10 : Option Val} (hz : seats.length < 1000) (hs : ∀ i ∈ seats, i < bs.length) :
    evalE cf [some (.p (intsT bs)), a1, some (.p (.list (seats.map natD))), a3, a4, a5, a6, a7, a8, a9, a10] (.comp [8] (.name 8) (.e (.var 2)) [] (.op2b .ix (.var 0) (.var 8))) h = .ok (.p (.list ((lvM bs seats).map .int))) h := by
  unfold lvM
  rw [List.map_map]
  refine comp_all natD _ rfl hz fun i hi => ⟨[some (.p (intsT bs)), a1, some (.p (.list (seats.map natD))), a3, a4, a5, a6, a7, some (.p (.int i)), a9, a10], by simp, ?_⟩
  have := getD_int bs (hs i hi)
  simp [atI_nat, this]
theorem pots_comp3 {bs : List Int} {seats : List Nat} {l : Int} {a1 a3 a4 a5 a7 a8 a9 a10 : Option Val} (hz : seats.length < 1000) (hs : ∀ i ∈ seats, i < bs.length) :
    evalE cf [some (.p (intsT bs)), a1, some (.p (.list (seats.map natD))), a3, a4, a5, some (.p (.int l)), a7, a8, a9, a10] (.comp [8] (.name 8) (.e (.var 2)) [(.val (.op2 .ge (.op2b .ix (.var 0) (.var 8)) (.var 6)))] (.var 8)) h = .ok (.p (.list ((seats.filter (ge bs l)).map natD))) h := by
  refine comp_ok natD natD (ge bs l) rfl hz fun i hi => ⟨[some (.p (intsT bs)), a1, some (.p (.list (seats.map natD))), a3, a4, a5, some (.p (.int l)), a7, some (.p (.int i)), a9, a10], by simp, ?_, fun _ => by simp⟩
  have := getD_int bs (hs i hi)
  simp [atI_nat, this, ge]
theorem pots_comp4 {bs : List Int} {l b : Int} {a1 a2 a3 a4 a7 a8 a9 a10 : Option Val} (hz : bs.length < 1000) :
    evalE cf [some (.p (intsT bs)), a1, a2, a3, a4, some (.p (.int b)), some (.p (.int l)), a7, a8, a9, a10] (.comp [10] (.name 10) (.e (.var 0)) [] (.op2d .sub (.op2 .min2 (.var 10) (.var 6)) (.op2 .min2 (.var 10) (.var 5)))) h = .ok (.p (.list ((dL bs b l).map .int))) h := by
  unfold dL
  rw [List.map_map]
  exact comp_all .int _ rfl hz fun x hx => ⟨[some (.p (intsT bs)), a1, a2, a3, a4, some (.p (.int b)), some (.p (.int l)), a7, a8, a9, some (.p (.int x))], by simp, by simp⟩
theorem pots_comp5 {bs : List Int} {b : Int} {a1 a2 a3 a4 a6 a7 a8 a9 a10 : Option Val} (hz : bs.length < 1000) :
    evalE cf [some (.p (intsT bs)), a1, a2, a3, a4, some (.p (.int b)), a6, a7, a8, a9, a10] (.comp [10] (.name 10) (.e (.var 0)) [] (.op2d .sub (.var 10) (.op2 .min2 (.var 10) (.var 5)))) h = .ok (.p (.list ((dR bs b).map .int))) h := by
  unfold dR
  rw [List.map_map]
  exact comp_all .int _ rfl hz fun x hx => ⟨[some (.p (intsT bs)), a1, a2, a3, a4, some (.p (.int b)), a6, a7, a8, a9, some (.p (.int x))], by simp, by simp⟩
def body0 : List S := [.set 7 (.op1 .sum (.comp [10] (.name 10) (.e (.var 0)) [] (.op2d .sub (.op2 .min2 (.var 10) (.var 6)) (.op2 .min2 (.var 10) (.var 5))))), .if_ (.val (.op2 .eq (.var 6) (.op2b .ix (.var 3) (.op1 .neg (.lit (.int 1)))))) [.set 7 (.op1 .sum (.comp [10] (.name 10) (.e (.var 0)) [] (.op2d .sub (.var 10) (.op2 .min2 (.var 10) (.var 5)))))] [], .if_ (.val (.op2 .gt (.var 7) (.lit (.int 0)))) [.app (.var 4) (.tup [(.var 7), (.op1 .tuple (.comp [8] (.name 8) (.e (.var 2)) [(.val (.op2 .ge (.op2b .ix (.var 0) (.var 8)) (.var 6)))] (.var 8)))])] [], .set 5 (.var 6)]
abbrev envP (bs : List Int) (gs : List Bool) (seats : List Nat) (levels : List Int) (m : Nat) (before : Int) (v6 v7 : Option Val) : Ev := [some (.p (intsT bs)), some (.p (boolsT gs)), some (.p (.list (seats.map natD))), some (.p (.list (levels.map .int))), some (.ref m), some (.p (.int before)), v6, v7, none, none, none]
theorem turn0 {bs : List Int} {gs : List Bool} {seats : List Nat} {levels : List Int} {last before l : Int} {v7 : Option Val} {rows : List (Int × List Nat)} (hb : bs.length < 1000) (hs : seats.length < 1000) (hi : ∀ i ∈ seats, i < bs.length) (hl : levels.getLast? = some last) (hr : rows.length < 1000) :
    ∃ v7', evalSs cf body0 (envP bs gs seats levels h.length before (some (.p (.int l))) v7) (h ++ [.lst (rows.map rowD)]) =
      .ok .nx (envP bs gs seats levels h.length l (some (.p (.int l))) v7') (h ++ [.lst ((rows ++ (let many := if l = last then restM bs before else manyM bs before l
        if 0 < many then [(many, seats.filter (ge bs l))] else [])).map rowD)]) := by
  have hlast : atI (levels.map PyData.int) (-1) = some (.int last) := atI_last (by rw [List.getLast?_map, hl]; rfl)
  have hr' : rows.length < sizeLine := Nat.lt_trans hr size1000
  by_cases e : l = last
  · subst e
    refine ⟨some (.p (.int (restM bs before))), ?_⟩
    by_cases hp : 0 < restM bs before
    · simp [body0, pots_comp4 hb, pots_comp5 hb, pots_comp3 hs hi, hlast, hp, hr', rowD]
    · simp [body0, pots_comp4 hb, pots_comp5 hb, pots_comp3 hs hi, hlast, hp, hr', rowD]
  · refine ⟨some (.p (.int (manyM bs before l))), ?_⟩
    by_cases hp : 0 < manyM bs before l
    · simp [body0, pots_comp4 hb, pots_comp5 hb, pots_comp3 hs hi, hlast, e, hp, hr', rowD]
    · simp [body0, pots_comp4 hb, pots_comp5 hb, pots_comp3 hs hi, hlast, e, hp, hr', rowD]
theorem loop0 {bs : List Int} {gs : List Bool} {seats : List Nat} {levels : List Int} {last : Int} (hb : bs.length < 1000) (hs : seats.length < 1000) (hi : ∀ i ∈ seats, i < bs.length) (hl : levels.getLast? = some last) :
    ∀ (ls : List Int) (before : Int) (v6 v7 : Option Val) (rows : List (Int × List Nat)), rows.length + ls.length < 1000 → ∃ before' v6' v7', forL (evalSs cf body0) (bindT (.name 6)) (ls.map .int) (envP bs gs seats levels h.length before v6 v7) (h ++ [.lst (rows.map rowD)]) =
      .ok .nx (envP bs gs seats levels h.length before' v6' v7') (h ++ [.lst ((rows ++ potsL last bs seats before ls).map rowD)])
  | [], before, v6, v7, rows, _ => ⟨before, v6, v7, by simp [forL, potsL]⟩
  | l :: ls, before, v6, v7, rows, hr => by
    have hr0 : rows.length + (ls.length + 1) < 1000 := hr
    obtain ⟨w7, e1⟩ := turn0 (cf := cf) (h := h) (gs := gs) (before := before) (l := l) (v7 := v7) (rows := rows) hb hs hi hl (by omega)
    obtain ⟨b', w6, w7', e2⟩ := loop0 hb hs hi hl ls l (some (.p (.int l))) w7 (rows ++ (let many := if l = last then restM bs before else manyM bs before l
        if 0 < many then [(many, seats.filter (ge bs l))] else [])) (by
          have : (let many := if l = last then restM bs before else manyM bs before l
            if 0 < many then [(many, seats.filter (ge bs l))] else []).length ≤ 1 := by
            by_cases e : l = last
            · by_cases hp : 0 < restM bs before <;> simp [e, hp]
            · by_cases hp : 0 < manyM bs before l <;> simp [e, hp]
          rw [List.length_append]; omega)
    refine ⟨b', w6, w7', ?_⟩
    rw [List.map_cons]
    unfold forL
    have e3 : bindT (.name 6) (.int l) (envP bs gs seats levels h.length before v6 v7) = some (envP bs gs seats levels h.length before (some (.p (.int l))) v7) := by simp
    rw [e3]
    simp only [e1]
    rw [e2, List.append_assoc]
    rfl
theorem mem_insI {x y : Int} : ∀ {l : List Int}, y ∈ insI x l ↔ y = x ∨ y ∈ l
  | [] => by simp [insI]
  | z :: r => by
    unfold insI
    split
    · simp
    · simp only [List.mem_cons, mem_insI (l := r)]
      constructor
      · rintro (h | h | h)
        · exact .inr (.inl h)
        · exact .inl h
        · exact .inr (.inr h)
      · rintro (h | h | h)
        · exact .inr (.inl h)
        · exact .inl h
        · exact .inr (.inr h)
theorem len_insI {x : Int} : ∀ {l : List Int}, (insI x l).length = l.length + 1
  | [] => rfl
  | z :: r => by
    unfold insI
    split
    · rfl
    · simp [len_insI (l := r)]
theorem len_sortI : ∀ {l : List Int}, (sortI l).length = l.length
  | [] => rfl
  | z :: r => by
    show (insI z (sortI r)).length = _
    rw [len_insI, len_sortI]
    rfl
theorem len_dedup : ∀ {l : List Int}, (dedup l).length ≤ l.length
  | [] => Nat.le_refl _
  | z :: r => by
    unfold dedup
    have := len_dedup (l := r)
    split
    · simp; omega
    · simp; omega
theorem pots_eval (F : fns 27 = some d27) {bs : List Int} {gs : List Bool} {n : Nat} (hl : bs.length = gs.length) (hz : gs.length < 64) (hne : seatsM gs ≠ []) : callF fns (n + 1) 27 [.p (intsT bs), .p (boolsT gs)] h = .ok (.p (.tuple ((potsM bs gs).map rowD))) h := by
  rw [call_eq F rfl]
  have hs : (seatsM gs).length ≤ gs.length := by
    have := List.length_filter_le (fun i => !gs.getD i false) (List.range gs.length)
    simpa [seatsM] using this
  have hi : ∀ i ∈ seatsM gs, i < bs.length := fun i hm => by rw [hl]; exact seats_lt hm
  have hL : (lvM bs (seatsM gs)).length < 64 := by unfold lvM; rw [List.length_map]; omega
  have hss : opf1 .sortedSet (.list ((lvM bs (seatsM gs)).map .int)) = some (.list ((levelsM bs gs).map .int)) := by
    show (intsD _).bind _ = _
    rw [intsD_map, Option.bind_some, if_pos hL]
    rfl
  have hll : (levelsM bs gs).length ≤ gs.length := by
    unfold levelsM
    rw [len_sortI]
    have := len_dedup (l := lvM bs (seatsM gs))
    unfold lvM at this
    rw [List.length_map] at this
    unfold lvM
    omega
  have hlne : levelsM bs gs ≠ [] := by
    intro e
    have : (levelsM bs gs).length = 0 := by rw [e]; rfl
    unfold levelsM at this
    rw [len_sortI] at this
    cases hs2 : seatsM gs with
    | nil => exact hne hs2
    | cons a r =>
      rw [hs2] at this
      have h0 : dedup (lvM bs (a :: r)) = [] := List.length_eq_zero_iff.mp this
      have : ∀ l : List Int, dedup l = [] → l = [] := by
        intro l
        induction l with
        | nil => intro _; rfl
        | cons x r ih =>
          intro e
          unfold dedup at e
          split at e
          · rename_i hx
            rw [ih e] at hx
            cases hx
          · cases e
      cases this _ h0
  obtain ⟨last, hlast⟩ : ∃ last, (levelsM bs gs).getLast? = some last := ⟨_, List.getLast?_eq_some_getLast hlne⟩
  obtain ⟨b', w6, w7, e⟩ := loop0 (cf := callF fns n) (h := h) (gs := gs) (levels := levelsM bs gs) (last := last) (by omega : bs.length < 1000) (by omega) hi hlast (levelsM bs gs) 0 none none [] (by simp; omega)
  have eP : potsM bs gs = potsL last bs (seatsM gs) 0 (levelsM bs gs) := by unfold potsM; rw [hlast]; rfl
  rw [← eP] at e
  simp only [List.nil_append, List.map_nil] at e
  simp only [d27, b27, startE_eq, List.map_cons, List.map_nil, List.length_cons, List.length_nil, List.cons_append, List.nil_append, List.replicate]
  simp [pots_comp1 (bs := bs) (by omega : gs.length < 1000), pots_comp2 (by omega : (seatsM gs).length < 1000) hi, hss]
  show finF _ ((forL (evalSs (callF fns n) body0) (bindT (.name 6)) ((levelsM bs gs).map .int) (envP bs gs (seatsM gs) (levelsM bs gs) h.length 0 none none) (h ++ [.lst []])).bind _) = _
  rw [e]
  simp
end
theorem mem_sortI {y : Int} : ∀ {l : List Int}, y ∈ sortI l ↔ y ∈ l
  | [] => Iff.rfl
  | x :: r => by
    show y ∈ insI x (sortI r) ↔ _
    rw [mem_insI, mem_sortI, List.mem_cons]
theorem mem_dedup {y : Int} : ∀ {l : List Int}, y ∈ dedup l ↔ y ∈ l
  | [] => Iff.rfl
  | x :: r => by
    unfold dedup
    split
    · rename_i hx
      rw [mem_dedup, List.mem_cons]
      constructor
      · exact .inr
      · rintro (rfl | h)
        · exact hx
        · exact h
    · rw [List.mem_cons, List.mem_cons, mem_dedup]
theorem insI_lt {x : Int} : ∀ {l : List Int}, l.Pairwise (· < ·) → x ∉ l → (insI x l).Pairwise (· < ·)
  | [], _, _ => by simp [insI]
  | y :: r, h, hx => by
    obtain ⟨h1, h2⟩ := List.pairwise_cons.mp h
    have hy : x ≠ y := fun e => hx (by rw [e]; exact List.mem_cons_self)
    have hr : x ∉ r := fun e => hx (List.mem_cons_of_mem _ e)
    unfold insI
    split
    · rename_i hxy
      refine List.pairwise_cons.mpr ⟨fun z hz => ?_, h⟩
      rcases List.mem_cons.mp hz with rfl | hz
      · omega
      · have := h1 z hz; omega
    · rename_i hxy
      refine List.pairwise_cons.mpr ⟨fun z hz => ?_, insI_lt h2 hr⟩
      rcases mem_insI.mp hz with rfl | hz
      · omega
      · exact h1 z hz
theorem sortI_lt : ∀ {l : List Int}, (sortI (dedup l)).Pairwise (· < ·)
  | [] => List.Pairwise.nil
  | x :: r => by
    unfold dedup
    split
    · exact sortI_lt
    · rename_i hx
      show (insI x (sortI (dedup r))).Pairwise _
      exact insI_lt sortI_lt fun h => hx (mem_dedup.mp (mem_sortI.mp h))
section
variable {bs : List Int} {seats : List Nat} {top M : Int}
theorem dL_nonneg {a l : Int} (h : a ≤ l) : 0 ≤ (dL bs a l).sum := by
  unfold dL
  induction bs with
  | nil => simp
  | cons x r ih =>
    simp only [List.map_cons, List.sum_cons]
    omega
theorem dR_split {a l : Int} (h : a ≤ l) : (dR bs a).sum = (dL bs a l).sum + (dR bs l).sum := by
  unfold dL dR
  induction bs with
  | nil => simp
  | cons x r ih =>
    simp only [List.map_cons, List.sum_cons]
    rw [ih]
    omega
theorem dR_nonneg {a : Int} : 0 ≤ (dR bs a).sum := by
  unfold dR
  induction bs with
  | nil => simp
  | cons x r ih =>
    simp only [List.map_cons, List.sum_cons]
    omega
theorem potsL_sum : ∀ (ls : List Int) (a : Int), (∀ x ∈ ls, a ≤ x) → ls.Pairwise (· < ·) → ls.getLast? = some top → ((potsL top bs seats a ls).map (·.1)).sum = (dR bs a).sum
  | [], _, _, _, h => nomatch h
  | l :: ls, a, ha, hp, hl => by
    obtain ⟨hp1, hp2⟩ := List.pairwise_cons.mp hp
    have hal := ha l (by simp)
    rw [potsL.eq_2]
    rw [List.map_append, List.sum_append]
    cases ls with
    | nil =>
      have e : l = top := by simpa using hl
      subst e
      have z := dR_nonneg (bs := bs) (a := a)
      simp only [if_pos, potsL, List.map_nil, List.sum_nil, Int.add_zero]
      split
      · simp [restM]
      · simp only [restM] at *; simp; omega
    | cons l2 ls =>
      have hne : l ≠ top := by
        intro e
        have : (l2 :: ls).getLast? = some top := by simpa using hl
        have := hp1 top (List.mem_of_getLast? this)
        omega
      rw [potsL_sum (l2 :: ls) l (fun x hx => Int.le_of_lt (hp1 x hx)) hp2 (by simpa using hl), dR_split (bs := bs) hal]
      simp only [if_neg hne]
      have z := dL_nonneg (bs := bs) hal
      split
      · simp
      · simp only [manyM] at *; simp; omega
theorem potsL_len : ∀ (ls : List Int) (a : Int), (potsL top bs seats a ls).length ≤ ls.length
  | [], _ => Nat.le_refl _
  | l :: ls, a => by
    rw [potsL.eq_2, List.length_append]
    have := potsL_len ls l
    have : (let many := if l = top then restM bs a else manyM bs a l
      if 0 < many then [(many, seats.filter (ge bs l))] else []).length ≤ 1 := by
      simp only
      generalize (if l = top then restM bs a else manyM bs a l) = m
      split <;> simp
    simp only [List.length_cons] at *
    omega
theorem potsL_T : ∀ (ls : List Int) (a : Int), ∀ r ∈ potsL top bs seats a ls, r.2.length ≤ seats.length
  | [], _, r, h => nomatch h
  | l :: ls, a, r, h => by
    rw [potsL.eq_2] at h
    rcases List.mem_append.mp h with h | h
    · skip
      revert h
      generalize (if l = top then restM bs a else manyM bs a l) = m
      intro h
      split at h
      · have : r = (m, seats.filter (ge bs l)) := by simpa using h
        rw [this]
        exact List.length_filter_le _ _
      · cases h
    · exact potsL_T ls l r h
end
end Cd
set_option Elab.async false
set_option linter.all false
set_option maxRecDepth 100000
set_option maxHeartbeats 4000000
namespace Cd
open PySem L2
/-! ### so many times as great: the pots -/
section
variable {t : Int}
theorem insI_sc (ht : 0 < t) {x : Int} : ∀ {l : List Int}, insI (t * x) (l.map (t * ·)) = (insI x l).map (t * ·)
  | [] => rfl
  | y :: r => by
    have e : t * x ≤ t * y ↔ x ≤ y := Int.mul_le_mul_left ht
    rw [List.map_cons]
    unfold insI
    by_cases c : x ≤ y
    · rw [if_pos c, if_pos (e.mpr c)]; rfl
    · rw [if_neg c, if_neg (fun z => c (e.mp z)), insI_sc ht]; rfl
theorem sortI_sc (ht : 0 < t) : ∀ {l : List Int}, sortI (l.map (t * ·)) = (sortI l).map (t * ·)
  | [] => rfl
  | x :: r => by
    show insI (t * x) (sortI (r.map (t * ·))) = (insI x (sortI r)).map (t * ·)
    rw [sortI_sc ht, insI_sc ht]
theorem mem_sc (ht : 0 < t) {x : Int} {l : List Int} : t * x ∈ l.map (t * ·) ↔ x ∈ l := by
  rw [List.mem_map]
  constructor
  · rintro ⟨y, hy, e⟩
    have : y = x := Int.eq_of_mul_eq_mul_left (by omega) e
    rw [← this]; exact hy
  · exact fun h => ⟨x, h, rfl⟩
theorem dedup_sc (ht : 0 < t) : ∀ {l : List Int}, dedup (l.map (t * ·)) = (dedup l).map (t * ·)
  | [] => rfl
  | x :: r => by
    rw [List.map_cons]
    unfold dedup
    by_cases c : x ∈ r
    · rw [if_pos c, if_pos ((mem_sc ht).mpr c), dedup_sc ht]
    · rw [if_neg c, if_neg (fun z => c ((mem_sc ht).mp z)), dedup_sc ht]; rfl
theorem gi_sc {xs : List Int} {i : Nat} : gi (xs.map (t * ·)) i = t * gi xs i := by
  unfold gi
  by_cases h : i < xs.length
  · simp [h]
  · simp [h]
theorem lvM_sc {bs : List Int} {seats : List Nat} : lvM (bs.map (t * ·)) seats = (lvM bs seats).map (t * ·) := by
  unfold lvM
  rw [List.map_map]
  exact List.map_congr_left fun i _ => gi_sc
theorem sum_sc : ∀ {l : List Int}, (l.map (t * ·)).sum = t * l.sum
  | [] => by simp
  | x :: r => by rw [List.map_cons, List.sum_cons, List.sum_cons, sum_sc, Int.mul_add]
theorem ite_sc (ht : 0 < t) {a b : Int} : (if t * a < t * b then t * a else t * b) = t * (if a < b then a else b) := by
  have e : t * a < t * b ↔ a < b := Int.mul_lt_mul_left ht
  by_cases c : a < b
  · rw [if_pos c, if_pos (e.mpr c)]
  · rw [if_neg c, if_neg (fun z => c (e.mp z))]
theorem dL_sc (ht : 0 < t) {bs : List Int} {a l : Int} : (dL (bs.map (t * ·)) (t * a) (t * l)).sum = t * (dL bs a l).sum := by
  rw [← sum_sc]
  unfold dL
  rw [List.map_map, List.map_map]
  congr 1
  apply List.map_congr_left
  intro b _
  simp only [Function.comp_apply]
  rw [ite_sc ht, ite_sc ht, Int.mul_sub]
theorem dR_sc (ht : 0 < t) {bs : List Int} {a : Int} : (dR (bs.map (t * ·)) (t * a)).sum = t * (dR bs a).sum := by
  rw [← sum_sc]
  unfold dR
  rw [List.map_map, List.map_map]
  congr 1
  apply List.map_congr_left
  intro b _
  simp only [Function.comp_apply]
  rw [ite_sc ht, Int.mul_sub]
theorem ge_sc (ht : 0 < t) {bs : List Int} {l : Int} : ge (bs.map (t * ·)) (t * l) = ge bs l := by
  funext i
  unfold ge
  have e : (bs.map (t * ·)).getD i 0 = t * bs.getD i 0 := gi_sc
  rw [e]
  exact decide_eq_decide.mpr (Int.mul_le_mul_left ht)
def scR (t : Int) (r : Int × List Nat) : Int × List Nat := (t * r.1, r.2)
theorem pos_sc (ht : 0 < t) {x : Int} : 0 < t * x ↔ 0 < x := by
  have : t * 0 < t * x ↔ 0 < x := Int.mul_lt_mul_left ht
  rw [Int.mul_zero] at this
  exact this
theorem potsL_sc (ht : 0 < t) {last : Int} {bs : List Int} {seats : List Nat} : ∀ (ls : List Int) (a : Int), potsL (t * last) (bs.map (t * ·)) seats (t * a) (ls.map (t * ·)) = (potsL last bs seats a ls).map (scR t)
  | [], _ => rfl
  | l :: ls, a => by
    rw [List.map_cons, potsL.eq_2, potsL.eq_2, List.map_append, potsL_sc ht ls l, ge_sc ht]
    congr 1
    have e : t * l = t * last ↔ l = last := ⟨fun z => Int.eq_of_mul_eq_mul_left (by omega) z, fun z => by rw [z]⟩
    have m : (if t * l = t * last then restM (bs.map (t * ·)) (t * a) else manyM (bs.map (t * ·)) (t * a) (t * l)) = t * (if l = last then restM bs a else manyM bs a l) := by
      by_cases c : l = last
      · rw [if_pos c, if_pos (e.mpr c)]; exact dR_sc ht
      · rw [if_neg c, if_neg (fun z => c (e.mp z))]; exact dL_sc ht
    simp only [m]
    generalize (if l = last then restM bs a else manyM bs a l) = x
    by_cases c : 0 < x
    · rw [if_pos c, if_pos ((pos_sc ht).mpr c)]; rfl
    · rw [if_neg c, if_neg (fun z => c ((pos_sc ht).mp z))]; rfl
theorem potsM_sc (ht : 0 < t) {bs : List Int} {gs : List Bool} : potsM (bs.map (t * ·)) gs = (potsM bs gs).map (scR t) := by
  have e : levelsM (bs.map (t * ·)) gs = (levelsM bs gs).map (t * ·) := by
    unfold levelsM
    rw [lvM_sc, dedup_sc ht, sortI_sc ht]
  unfold potsM
  rw [e, List.getLast?_map]
  have : ((levelsM bs gs).getLast?.map (t * ·)).getD 0 = t * (levelsM bs gs).getLast?.getD 0 := by
    cases (levelsM bs gs).getLast? with
    | none => simp
    | some x => rfl
  rw [this]
  have := potsL_sc ht (last := (levelsM bs gs).getLast?.getD 0) (bs := bs) (seats := seatsM gs) (levelsM bs gs) 0
  rw [Int.mul_zero] at this
  exact this
theorem pots_sum {bs : List Int} {gs : List Bool} (h0 : ∀ b ∈ bs, 0 ≤ b) (hi : ∀ i ∈ seatsM gs, i < bs.length) (hne : seatsM gs ≠ []) : ((potsM bs gs).map (·.1)).sum = bs.sum := by
  have hl : levelsM bs gs ≠ [] := by
    obtain ⟨i, hi'⟩ := List.exists_mem_of_ne_nil _ hne
    have : bs.getD i 0 ∈ levelsM bs gs := mem_sortI.mpr (mem_dedup.mpr (List.mem_map.mpr ⟨i, hi', rfl⟩))
    exact List.ne_nil_of_mem this
  obtain ⟨last, hlast⟩ : ∃ last, (levelsM bs gs).getLast? = some last := ⟨_, List.getLast?_eq_some_getLast hl⟩
  unfold potsM
  rw [hlast]
  have := potsL_sum (bs := bs) (seats := seatsM gs) (top := last) (levelsM bs gs) 0 (fun x hx => by
    obtain ⟨i, hm, e⟩ := List.mem_map.mp (mem_dedup.mp (mem_sortI.mp hx))
    have h1 := hi i hm
    rw [← e]
    exact h0 _ (by simp [h1])) sortI_lt hlast
  rw [Option.getD_some, this]
  unfold dR
  congr 1
  have : ∀ b ∈ bs, b - (if 0 < b then 0 else b) = b := fun b hb => by
    have := h0 b hb
    split <;> omega
  rw [List.map_congr_left this, List.map_id']
/-! ### the rounds -/
structure Sc (t : Int) (r r2 : RD) : Prop where
  left : r2.left = r.left.map (t * ·)
  laid : r2.laid = r.laid.map (t * ·)
  gone : r2.gone = r.gone
  done : r2.done = r.done
  high : r2.high = t * r.high
  least : r2.least = t * r.least ∨ (r.least = 1 ∧ r2.least = 1)
  nxt : r2.nxt = r.nxt
variable {r r2 : RD} {s : Nat}
theorem must_sc (ht : 0 < t) (c : Sc t r r2) : r2.must = r.must := by
  funext i
  unfold RD.must
  rw [c.gone, c.left, c.done, c.laid, c.high, gi_sc, gi_sc]
  have e1 : t * gi r.left i = 0 ↔ gi r.left i = 0 := ⟨fun z => by
    rcases Int.mul_eq_zero.mp z with z | z
    · omega
    · exact z, fun z => by rw [z, Int.mul_zero]⟩
  have e2 : t * gi r.laid i < t * r.high ↔ gi r.laid i < r.high := Int.mul_lt_mul_left ht
  rw [decide_eq_decide.mpr e1, decide_eq_decide.mpr e2]
theorem find_sc (ht : 0 < t) (c : Sc t r r2) {k : Nat} : Sc t (r.find k) (r2.find k) :=
  ⟨c.left, c.laid, c.gone, c.done, c.high, c.least, by
    unfold RD.find
    rw [must_sc ht c, c.gone, c.laid, List.length_map]⟩
theorem end_sc (ht : 0 < t) (c : Sc t r r2) : Sc t (r.endR s) (r2.endR s) := by
  unfold RD.endR
  rw [show r2.laid.length = r.laid.length by rw [c.laid, List.length_map]]
  have c0 : Sc t ({ r with done := r.done.set s true } : RD) ({ r2 with done := r2.done.set s true } : RD) := ⟨c.left, c.laid, c.gone, by show r2.done.set s true = r.done.set s true; rw [c.done], c.high, c.least, c.nxt⟩
  exact find_sc ht c0
theorem lay_sc (c : Sc t r r2) {v : Int} : Sc t (r.layR s v) (r2.layR s (t * v)) :=
  ⟨by show r2.left.set s (gi r2.left s - t * v) = (r.left.set s (gi r.left s - v)).map (t * ·)
      rw [c.left, gi_sc, List.map_set, Int.mul_sub],
   by show r2.laid.set s (gi r2.laid s + t * v) = (r.laid.set s (gi r.laid s + v)).map (t * ·)
      rw [c.laid, gi_sc, List.map_set, Int.mul_add],
   c.gone, c.done, c.high, c.least, c.nxt⟩
theorem fold_sc (ht : 0 < t) (c : Sc t r r2) : Sc t (r.foldR s) (r2.foldR s) := by
  have c0 : Sc t ({ r with gone := r.gone.set s true } : RD) ({ r2 with gone := r2.gone.set s true } : RD) := ⟨c.left, c.laid, by show r2.gone.set s true = r.gone.set s true; rw [c.gone], c.done, c.high, c.least, c.nxt⟩
  exact end_sc ht c0
theorem minV_sc (ht : 0 < t) {a b : Int} : minV (t * a) (t * b) = t * minV a b := ite_sc ht
theorem maxV_sc (ht : 0 < t) {a b : Int} : maxV (t * a) (t * b) = t * maxV a b := by
  unfold maxV
  have e : t * b > t * a ↔ b > a := Int.mul_lt_mul_left ht
  by_cases c : b > a
  · rw [if_pos c, if_pos (e.mpr c)]
  · rw [if_neg c, if_neg (fun z => c (e.mp z))]
theorem call_sc (ht : 0 < t) (c : Sc t r r2) : Sc t (r.callR s) (r2.callR s) := by
  unfold RD.callR
  rw [c.high, show gi r2.laid s = t * gi r.laid s by rw [c.laid, gi_sc], show gi r2.left s = t * gi r.left s by rw [c.left, gi_sc], ← Int.mul_sub, minV_sc ht]
  exact end_sc ht (lay_sc c)
theorem ok_sc (ht : 0 < t) (c : Sc t r r2) {b : Int} : r2.raiseOk s (t * b) = r.raiseOk s b := by
  unfold RD.raiseOk
  rw [c.high, show gi r2.laid s = t * gi r.laid s by rw [c.laid, gi_sc], show gi r2.left s = t * gi r.left s by rw [c.left, gi_sc], ← Int.mul_sub]
  have e1 : t * b ≤ t * r.high ↔ b ≤ r.high := Int.mul_le_mul_left ht
  have e2 : t * gi r.left s < t * (b - gi r.laid s) ↔ gi r.left s < b - gi r.laid s := Int.mul_lt_mul_left ht
  have e3 : t * (b - gi r.laid s) < t * gi r.left s ↔ b - gi r.laid s < gi r.left s := Int.mul_lt_mul_left ht
  rw [decide_eq_decide.mpr e1, decide_eq_decide.mpr e2, decide_eq_decide.mpr e3]
  rcases c.least with h | ⟨h1, h2⟩
  · rw [h, ← Int.mul_add]
    have e4 : t * b < t * (r.high + r.least) ↔ b < r.high + r.least := Int.mul_lt_mul_left ht
    rw [decide_eq_decide.mpr e4]
  · rw [h1, h2]
    by_cases c1 : b ≤ r.high
    · simp [c1]
    · have c2 : r.high < b := by omega
      have c3 : t * r.high < t * b := (Int.mul_lt_mul_left ht).mpr c2
      rw [decide_eq_false (show ¬ t * b < t * r.high + 1 by omega), decide_eq_false (show ¬ b < r.high + 1 by omega)]
theorem raise_sc (ht : 0 < t) (c : Sc t r r2) {b : Int} (hb : r.high < b) : Sc t (r.raiseR s b) (r2.raiseR s (t * b)) := by
  have e1 : t * b - gi r2.laid s = t * (b - gi r.laid s) := by rw [c.laid, gi_sc, Int.mul_sub]
  have e2 : t * b - r2.high = t * (b - r.high) := by rw [c.high, Int.mul_sub]
  have c0 : Sc t ({ r with least := maxV r.least (b - r.high), high := b } : RD) ({ r2 with least := maxV r2.least (t * b - r2.high), high := t * b } : RD) :=
    ⟨c.left, c.laid, c.gone, c.done, rfl, by
      left
      show maxV r2.least (t * b - r2.high) = t * maxV r.least (b - r.high)
      rw [e2]
      rcases c.least with h | ⟨h1, h2⟩
      · rw [h, maxV_sc ht]
      · rw [h1, h2]
        have p : 0 < t * (b - r.high) := (pos_sc ht).mpr (by omega)
        have q1 : maxV 1 (b - r.high) = b - r.high := by unfold maxV; split <;> omega
        have q2 : maxV 1 (t * (b - r.high)) = t * (b - r.high) := by unfold maxV; split <;> omega
        rw [q1, q2], c.nxt⟩
  have c1 := lay_sc (s := s) (v := b - gi r.laid s) c0
  unfold RD.raiseR
  rw [e1, show r2.laid.length = r.laid.length by rw [c.laid, List.length_map]]
  have c2 : Sc t ({ (({ r with least := maxV r.least (b - r.high), high := b } : RD).layR s (b - gi r.laid s)) with done := List.replicate r.laid.length false } : RD) ({ (({ r2 with least := maxV r2.least (t * b - r2.high), high := t * b } : RD).layR s (t * (b - gi r.laid s))) with done := List.replicate r.laid.length false } : RD) := ⟨c1.left, c1.laid, c1.gone, rfl, c1.high, c1.least, c1.nxt⟩
  exact end_sc ht c2
theorem deed_sc (ht : 0 < t) (c : Sc t r r2) {w : Str} {b : Int} : Sc t (r.deed w b).1 (r2.deed w (t * b)).1 ∧ (r2.deed w (t * b)).2 = (r.deed w b).2 := by
  unfold RD.deed
  rw [c.nxt]
  cases hx : r.nxt with
  | none => exact ⟨c, rfl⟩
  | some s =>
    simp only
    by_cases w1 : w = "fold"
    · rw [if_pos w1, if_pos w1]; exact ⟨fold_sc ht c, rfl⟩
    · rw [if_neg w1, if_neg w1]
      by_cases w2 : w = "call"
      · rw [if_pos w2, if_pos w2]; exact ⟨call_sc ht c, rfl⟩
      · rw [if_neg w2, if_neg w2, ok_sc ht c]
        cases hb : r.raiseOk s b with
        | true =>
          have hb' : r.high < b := by
            unfold RD.raiseOk at hb
            simp only [Bool.and_eq_true, Bool.not_eq_true', Bool.or_eq_false_iff, decide_eq_false_iff_not] at hb
            have := hb.1.1
            omega
          exact ⟨raise_sc ht c hb', rfl⟩
        | false => exact ⟨c, rfl⟩
theorem maxI_sc (ht : 0 < t) {xs : List Int} (h : xs ≠ []) : maxI (xs.map (t * ·)) = t * maxI xs := by
  have h2 : xs.map (t * ·) ≠ [] := by simpa using h
  obtain ⟨x, hx, e⟩ := List.mem_map.mp (maxI_mem h2)
  have a1 : x ≤ maxI xs := maxI_ge hx
  have a2 : t * maxI xs ≤ maxI (xs.map (t * ·)) := maxI_ge (List.mem_map.mpr ⟨_, maxI_mem h, rfl⟩)
  have a3 : t * x ≤ t * maxI xs := (Int.mul_le_mul_left ht).mpr a1
  omega
theorem init_sc (ht : 0 < t) {chips forced : List Int} {first : Nat} (h : forced ≠ []) (h0 : 0 ≤ maxI forced) : Sc t (initR chips forced first) (initR (chips.map (t * ·)) (forced.map (t * ·)) first) := by
  have c0 : Sc t (startR chips forced first) (startR (chips.map (t * ·)) (forced.map (t * ·)) first) := ?_
  · exact find_sc ht c0
  refine ⟨?_, rfl, ?_, ?_, maxI_sc ht h, ?_, rfl⟩
  · show List.zipWith (· - ·) (chips.map (t * ·)) (forced.map (t * ·)) = (List.zipWith (· - ·) chips forced).map (t * ·)
    rw [List.zipWith_map, List.map_zipWith]
    congr 1
    funext a b
    rw [Int.mul_sub]
  · show List.replicate _ false = List.replicate _ false
    rw [List.length_map]
  · show List.replicate _ false = List.replicate _ false
    rw [List.length_map]
  · show maxV (maxI (forced.map (t * ·))) 1 = t * maxV (maxI forced) 1 ∨ (maxV (maxI forced) 1 = 1 ∧ maxV (maxI (forced.map (t * ·))) 1 = 1)
    rw [maxI_sc ht h]
    by_cases c : maxI forced = 0
    · right
      rw [c, Int.mul_zero]
      exact ⟨rfl, rfl⟩
    · left
      have p : 0 < t * maxI forced := (pos_sc ht).mpr (by omega)
      have q1 : maxV (maxI forced) 1 = maxI forced := by unfold maxV; split <;> omega
      have q2 : maxV (t * maxI forced) 1 = t * maxI forced := by unfold maxV; split <;> omega
      rw [q1, q2]
theorem setup_sc (ht : 0 < t) {chips forced : List Int} {first : Nat} (S : Setup chips forced first) : Setup (chips.map (t * ·)) (forced.map (t * ·)) first :=
  ⟨by simp [S.len], by simpa using S.two, by simpa using S.six, by simpa using S.fi, fun c hc => by
    obtain ⟨x, hx, rfl⟩ := List.mem_map.mp hc
    exact Int.mul_nonneg (by omega) (S.nn x hx), fun i hi => by
    rw [gi_sc, gi_sc]
    have := S.fo i (by simpa using hi)
    exact ⟨Int.mul_nonneg (by omega) this.1, (Int.mul_le_mul_left ht).mpr this.2⟩⟩
/-! ### somebody has not folded -/
def Alive (r : RD) : Prop := 1 ≤ r.gone.count false ∧ ∀ s, r.nxt = some s → 1 < r.gone.count false
theorem count_set_le : ∀ (l : List Bool) (i : Nat), l.count false ≤ (l.set i true).count false + 1
  | [], _ => by simp
  | b :: l, 0 => by
    rw [List.set_cons_zero]
    cases b <;> simp
  | b :: l, i + 1 => by
    rw [List.set_cons_succ]
    have := count_set_le l i
    cases b
    · simp; omega
    · simp; omega
theorem find_alive {k : Nat} (h : 1 ≤ r.gone.count false) : Alive (r.find k) := ⟨h, fun s hs => by
  by_cases c : 1 < r.gone.count false
  · exact c
  · have : (r.find k).nxt = none := by unfold RD.find; simp only; rw [if_neg c]
    rw [this] at hs; cases hs⟩
theorem deed_alive (a : Alive r) {w : Str} {b : Int} : Alive (r.deed w b).1 := by
  unfold RD.deed
  cases hx : r.nxt with
  | none => exact a
  | some s =>
    simp only
    by_cases w1 : w = "fold"
    · rw [if_pos w1]
      refine find_alive ?_
      show 1 ≤ (r.gone.set s true).count false
      have := count_set_le r.gone s
      have := a.2 s hx
      omega
    · rw [if_neg w1]
      by_cases w2 : w = "call"
      · rw [if_pos w2]; exact find_alive a.1
      · rw [if_neg w2]
        cases hb : r.raiseOk s b with
        | true => exact find_alive a.1
        | false => exact a
theorem alive_seats (a : 1 ≤ r.gone.count false) : seatsM r.gone ≠ [] := by
  have : false ∈ r.gone := List.count_pos_iff.mp (by omega)
  obtain ⟨i, hi, e⟩ := List.getElem_of_mem this
  refine List.ne_nil_of_mem (a := i) (List.mem_filter.mpr ⟨List.mem_range.mpr hi, ?_⟩)
  simp [hi, e]
theorem deed_nn {chips : List Int} (o : r.Ok2 chips) (h : ∀ x ∈ r.laid, 0 ≤ x) {w : Str} {b : Int} (hw : w = "fold" ∨ w = "call" ∨ w = "raise") : ∀ x ∈ (r.deed w b).1.laid, 0 ≤ x := by
  rcases deed_went o (bet := b) hw with ⟨_, s, v, hx, W⟩ | ⟨_, e, _⟩
  · rw [W.eff.laid]
    intro x hx'
    rcases List.mem_or_eq_of_mem_set hx' with q | q
    · exact h x q
    · rw [q]
      have := h _ (gi_mem (o.wf.nx s hx))
      have := W.eff.v0
      omega
  · rw [e]; exact h
end
end Cd
set_option Elab.async false
set_option linter.all false
set_option maxRecDepth 100000
set_option maxHeartbeats 4000000
namespace Cd
open PySem L2
/-! ### pots: all positive levels give a pot -/
theorem sum_nonneg : ∀ {l : List Int}, (∀ x ∈ l, 0 ≤ x) → 0 ≤ l.sum
  | [], _ => by simp
  | x :: r, h => by
    rw [List.sum_cons]
    have := h x List.mem_cons_self
    have := sum_nonneg fun y hy => h y (List.mem_cons_of_mem _ hy)
    omega
theorem sum_ge : ∀ {l : List Int} {y : Int}, (∀ x ∈ l, 0 ≤ x) → y ∈ l → y ≤ l.sum
  | x :: r, y, h, hy => by
    rw [List.sum_cons]
    have h1 := h x List.mem_cons_self
    have h2 : ∀ z ∈ r, 0 ≤ z := fun z hz => h z (List.mem_cons_of_mem _ hz)
    rcases List.mem_cons.mp hy with rfl | hy
    · have := sum_nonneg h2; omega
    · have := sum_ge h2 hy; omega
def potsP (last : Int) (bs : List Int) (seats : List Nat) : Int → List Int → List (Int × List Nat)
  | _, [] => []
  | a, l :: ls => (if l = last then restM bs a else manyM bs a l, seats.filter (ge bs l)) :: potsP last bs seats l ls
def posL (ls : List Int) : List Int := ls.filter fun l => decide (0 < l)
section
variable {bs : List Int} {gs : List Bool} {seats : List Nat} {last : Int}
theorem many_pos {a l : Int} (h : a < l) (hl : l ∈ bs) : 0 < manyM bs a l := by
  have z : ∀ x ∈ dL bs a l, 0 ≤ x := fun x hx => by
    obtain ⟨b, _, rfl⟩ := List.mem_map.mp hx
    split <;> split <;> omega
  have m : l - a ∈ dL bs a l := List.mem_map.mpr ⟨l, hl, by rw [if_neg (by omega), if_pos h]⟩
  have := sum_ge z m
  unfold manyM
  omega
theorem rest_pos {a l : Int} (h : a < l) (hl : l ∈ bs) : 0 < restM bs a := by
  have z : ∀ x ∈ dR bs a, 0 ≤ x := fun x hx => by
    obtain ⟨b, _, rfl⟩ := List.mem_map.mp hx
    split <;> omega
  have m : l - a ∈ dR bs a := List.mem_map.mpr ⟨l, hl, by rw [if_pos h]⟩
  have := sum_ge z m
  unfold restM
  omega
theorem potsL_P : ∀ (ls : List Int) (a : Int), (∀ l ∈ ls, a < l) → ls.Pairwise (· < ·) → (∀ l ∈ ls, l ∈ bs) → potsL last bs seats a ls = potsP last bs seats a ls
  | [], _, _, _, _ => rfl
  | l :: ls, a, h1, h2, h3 => by
    obtain ⟨h4, h5⟩ := List.pairwise_cons.mp h2
    rw [potsL.eq_2, potsP.eq_2, potsL_P ls l h4 h5 fun x hx => h3 x (List.mem_cons_of_mem _ hx)]
    have p : 0 < (if l = last then restM bs a else manyM bs a l) := by
      have h6 := h1 l List.mem_cons_self
      have h7 := h3 l List.mem_cons_self
      split
      · exact rest_pos h6 h7
      · exact many_pos h6 h7
    rw [if_pos p]
    rfl
theorem lev_mem {l : Int} : l ∈ levelsM bs gs ↔ ∃ i ∈ seatsM gs, bs.getD i 0 = l := by
  unfold levelsM
  rw [mem_sortI, mem_dedup]
  exact List.mem_map
theorem lev_lt : (levelsM bs gs).Pairwise (· < ·) := sortI_lt
theorem lev_in (hi : ∀ i ∈ seatsM gs, i < bs.length) {l : Int} (h : l ∈ levelsM bs gs) : l ∈ bs := by
  obtain ⟨i, h1, h2⟩ := lev_mem.mp h
  have h3 := hi i h1
  rw [← h2]
  simp [h3]
theorem getD_mem {i : Nat} (h : i < bs.length) : bs.getD i 0 ∈ bs := by simp [h]
theorem potsM_P (h0 : ∀ b ∈ bs, 0 ≤ b) (hi : ∀ i ∈ seatsM gs, i < bs.length) (hp : posL (levelsM bs gs) ≠ []) :
    potsM bs gs = potsP ((posL (levelsM bs gs)).getLast?.getD 0) bs (seatsM gs) 0 (posL (levelsM bs gs)) := by
  have h1 := lev_lt (bs := bs) (gs := gs)
  have h2 : ∀ l ∈ levelsM bs gs, l ∈ bs := fun l hl => lev_in hi hl
  unfold potsM
  generalize levelsM bs gs = ls at hp h1 h2 ⊢
  cases ls with
  | nil => exact absurd rfl hp
  | cons l r =>
    obtain ⟨h4, h5⟩ := List.pairwise_cons.mp h1
    have hl := h0 l (h2 l List.mem_cons_self)
    by_cases c : 0 < l
    · have e : posL (l :: r) = l :: r := List.filter_eq_self.mpr fun x hx => by
        rcases List.mem_cons.mp hx with rfl | hx
        · exact decide_eq_true c
        · have := h4 x hx; exact decide_eq_true (by omega)
      rw [e]
      exact potsL_P _ _ (fun x hx => by
        rcases List.mem_cons.mp hx with rfl | hx
        · exact c
        · have := h4 x hx; omega) h1 h2
    · have z : l = 0 := by omega
      subst z
      have e : posL ((0 : Int) :: r) = r := by
        unfold posL
        rw [List.filter_cons_of_neg (by simp)]
        exact List.filter_eq_self.mpr fun x hx => by
          have := h4 x hx; exact decide_eq_true (by omega)
      rw [e] at hp ⊢
      have e2 : ((0 : Int) :: r).getLast? = r.getLast? := by
        cases r with
        | nil => exact absurd rfl hp
        | cons y r => simp [List.getLast?_cons_cons]
      have hl2 : ∃ y, r.getLast? = some y := ⟨_, List.getLast?_eq_some_getLast hp⟩
      obtain ⟨y, hy⟩ := hl2
      have hy2 : 0 < y := h4 y (List.mem_of_getLast? hy)
      rw [e2, hy, Option.getD_some, potsL.eq_2]
      rw [if_neg (show ¬ (0 : Int) = y by omega)]
      have m0 : ¬ 0 < manyM bs 0 0 := by
        have : dL bs 0 0 = bs.map fun _ => 0 := List.map_congr_left fun b _ => by omega
        show ¬ 0 < (dL bs 0 0).sum
        rw [this]
        have : ∀ l : List Int, (l.map fun _ => (0 : Int)).sum = 0 := fun l => by
          induction l with
          | nil => rfl
          | cons x r ih => rw [List.map_cons, List.sum_cons, ih]; rfl
        rw [this]; omega
      rw [if_neg m0, List.nil_append]
      exact potsL_P _ _ h4 h5 fun x hx => h2 x (List.mem_cons_of_mem _ hx)
theorem potsP_snd : ∀ (ls : List Int) (a : Int), (potsP last bs seats a ls).map (·.2) = ls.map fun l => seats.filter (ge bs l)
  | [], _ => rfl
  | l :: ls, a => by
    rw [potsP.eq_2, List.map_cons, List.map_cons, potsP_snd ls l]
theorem potsP_len : ∀ (ls : List Int) (a : Int), (potsP last bs seats a ls).length = ls.length := fun ls a => by
  have := congrArg List.length (potsP_snd (last := last) (bs := bs) (seats := seats) ls a)
  simpa using this
theorem posL_mem {ls : List Int} {l : Int} : l ∈ posL ls ↔ l ∈ ls ∧ 0 < l := by
  unfold posL
  rw [List.mem_filter, decide_eq_true_eq]
theorem posL_lt {ls : List Int} (h : ls.Pairwise (· < ·)) : (posL ls).Pairwise (· < ·) := h.filter _
theorem lt_uniq {xs ys : List Int} (h1 : xs.Pairwise (· < ·)) (h2 : ys.Pairwise (· < ·)) (h : ∀ z, z ∈ xs ↔ z ∈ ys) : xs = ys := by
  have p : xs.Perm ys := (List.perm_ext_iff_of_nodup (h1.imp fun h => Int.ne_of_lt h) (h2.imp fun h => Int.ne_of_lt h)).mpr h
  refine p.eq_of_pairwise (fun a b _ _ h3 h4 => ?_) h1 h2
  omega
theorem posL_last {ls : List Int} (h : ls.Pairwise (· < ·)) (hp : posL ls ≠ []) : ls.getLast? = (posL ls).getLast? := by
  induction ls with
  | nil => exact absurd rfl hp
  | cons l r ih =>
    obtain ⟨h4, h5⟩ := List.pairwise_cons.mp h
    by_cases c : 0 < l
    · have e : posL (l :: r) = l :: r := List.filter_eq_self.mpr fun x hx => by
        rcases List.mem_cons.mp hx with rfl | hx
        · exact decide_eq_true c
        · have := h4 x hx; exact decide_eq_true (by omega)
      rw [e]
    · have e : posL (l :: r) = posL r := List.filter_cons_of_neg (by simpa using c)
      rw [e] at hp ⊢
      rw [← ih h5 hp]
      cases r with
      | nil => exact absurd rfl hp
      | cons y r => rw [List.getLast?_cons_cons]
/-! ### rows of pots as data -/
theorem lay_natD : ∀ xs : List Nat, PyData.canLayAll0 (xs.map natD) = true
  | [] => by simp [PyData.canLayAll0]
  | x :: xs => by simp [PyData.canLayAll0, PyData.canLay0, lay_natD xs]
theorem depth_natD : ∀ xs : List Nat, PyData.depthAll (xs.map natD) = 0
  | [] => rfl
  | x :: xs => by
    show max (PyData.depth (.int x)) (PyData.depthAll (xs.map natD)) = 0
    rw [depth_natD xs]; rfl
theorem depth_row : ∀ rows : List (Int × List Nat), PyData.depthAll (rows.map rowD) ≤ 2
  | [] => by show 0 ≤ 2; omega
  | x :: xs => by
    show max (max 0 (max (PyData.depthAll (x.2.map natD) + 1) 0) + 1) (PyData.depthAll (xs.map rowD)) ≤ 2
    rw [depth_natD]
    have := depth_row xs
    omega
theorem lay_row : ∀ rows : List (Int × List Nat), (∀ r ∈ rows, r.2.length < 1000) → PyData.canLayAll0 (rows.map rowD) = true
  | [], _ => by simp [PyData.canLayAll0]
  | x :: xs, h => by
    have z := size1000
    have h1 := h x List.mem_cons_self
    have h2 := lay_row xs fun r hr => h r (List.mem_cons_of_mem _ hr)
    rw [List.map_cons]
    simp only [rowD, PyData.canLay0, PyData.canLayAll0, h2, lay_natD, List.length_map, List.length_cons, List.length_nil, Bool.and_true, Bool.true_and, Bool.and_eq_true, decide_eq_true_eq]
    first | omega | skip
theorem rows_shaped {rows : List (Int × List Nat)} (hz : rows.length < 1000) (hT : ∀ r ∈ rows, r.2.length < 1000) : SeqAt.shaped (.tuple (rows.map rowD)) = true :=
  (shaped_seq (by simpa using hz) (lay_row rows hT) (by have := depth_row rows; omega)).1
theorem nats_shaped {xs : List Nat} (hz : xs.length < 1000) : SeqAt.shaped (.tuple (xs.map natD)) = true ∧ SeqAt.shaped (.list (xs.map natD)) = true :=
  shaped_seq (by simpa using hz) (lay_natD xs) (by rw [depth_natD]; omega)
theorem seats_len : (seatsM gs).length ≤ gs.length := by
  have := List.length_filter_le (fun i => !gs.getD i false) (List.range gs.length)
  simpa [seatsM] using this
theorem levels_len : (levelsM bs gs).length ≤ gs.length := by
  unfold levelsM
  rw [len_sortI]
  have h1 := len_dedup (l := lvM bs (seatsM gs))
  have h2 := seats_len (gs := gs)
  unfold lvM at h1
  rw [List.length_map] at h1
  unfold lvM
  omega
theorem pots_len : (potsM bs gs).length ≤ gs.length := Nat.le_trans (potsL_len _ _) levels_len
theorem pots_rows {r : Int × List Nat} (h : r ∈ potsM bs gs) : r.2.length ≤ gs.length := Nat.le_trans (potsL_T _ _ _ h) seats_len
end
end Cd
set_option Elab.async false
set_option linter.all false
set_option maxRecDepth 100000
set_option maxHeartbeats 4000000
namespace Cd
open PySem L2
/-! ### more evaluation rules, for the laws after the seventh claim -/
section
variable {cf : Calls} {env : Ev} {h H : Hi} {n m k t q i j : Nat}
@[simp] theorem st_setIx2 {a b c d : E} : evalS cf (.setIx2 i j c d a b) env h = ((evalE cf env a h).bind unP).toS env fun d1 h1 => ((evalE cf env b h1).bind unP).toS env fun d2 h2 =>
    (stIx (fun env h => evalE cf env c h) (.var i) d1 env h2).bind fun env2 h3 => stIx (fun env h => evalE cf env d h) (.var j) d2 env2 h3 := id rfl
@[simp] theorem stIx_eq {ek : Ev → Hi → R Val} {p : E} {d : PyData} : stIx ek p d env h = match getL env h p with
  | none => .stuck
  | some _ => ((ek env h).bind unP).toS env fun k h2 => ofH env (setIxH env p k d h2) := id rfl
theorem st_while {c : Te} {b : List S} : evalS cf (.while_ c b) env h = whileL (fun e h => evalT cf e c h) (evalSs cf b) wFuel env h := id rfl
theorem hT_lst {x : Nat} (hn : x ≠ t) : listAt (hT H t k) x = listAt H x := by
  unfold listAt hT
  rw [List.getElem?_set_ne (Ne.symm hn)]
theorem hT_cut {l : Hi} (ht : t < h.length) : (hT (h ++ l) t k).take h.length = hT h t k := by
  unfold hT
  rw [List.set_append_left _ _ ht]
  simp
theorem zipD_bi : ∀ (gs : List Bool) (xs : List Int), zipD (gs.map .bool) (xs.map .int) = (gs.zip xs).map fun p => .tuple [.bool p.1, .int p.2]
  | [], ys => by simp [zipD]
  | _ :: _, [] => by simp [zipD]
  | x :: xs, y :: ys => by
    simp only [List.map_cons, zipD, List.zip_cons_cons, zipD_bi xs ys]
theorem o_minL {ns : List Int} (h : ns ≠ []) : opf1 .min (.list (ns.map .int)) = some (.int (minI ns)) := o_minT h
theorem atI_c0 {x : PyData} {xs : List PyData} : atI (x :: xs) 0 = some x := by
  have : atI (x :: xs) ((0 : Nat) : Int) = some x := by rw [atI_nat]; rfl
  exact this
theorem atI_c1 {x y : PyData} {xs : List PyData} : atI (x :: y :: xs) 1 = some y := by
  have : atI (x :: y :: xs) ((1 : Nat) : Int) = some y := by rw [atI_nat]; rfl
  exact this
theorem rngLit {env : Ev} {j : Int} (hj : rngOk j = true) : evalSrc cf env (.rng1 (.lit (.int j))) h = .ok (rangeD 0 j.toNat 1) h := src_rng1 (by simp) hj
/-- range(n) where n is had -/
theorem src_nat {env : Ev} {a : E} {j : Nat} (e : (evalE cf env a h).bind unP = .ok (.int (j : Int)) h) (hj : j < 1000000) : evalSrc cf env (.rng1 a) h = .ok ((List.range j).map natD) h := by
  have z := src_rng1 e (rngOk_small (by omega) (by omega))
  rw [Int.toNat_natCast, rangeD_nat] at z
  exact z
theorem repT_1 {x : PyData} {m : Nat} (h1 : 2 ≤ m) (h2 : m ≤ 1000) : opf2 .repT (.tuple [x]) (.int (m : Int)) = some (.tuple (List.replicate m x)) := by
  show (if ![x].isEmpty && decide (2 ≤ (m : Int)) && decide ((m : Int) ≤ 1000) && decide ([x].length ≤ 1000) then some (PyData.tuple (List.replicate (m : Int).toNat [x]).flatten) else none) = _
  rw [if_pos (by simp; omega), Int.toNat_natCast]
  simp
theorem o_rangeT {j : Nat} (hj : j < 1000000) : opf1 .rangeT (.int (j : Int)) = some (.tuple ((List.range j).map natD)) := by
  have := o_range1 hj
  show (rangeS _).bind tupleS = _
  rw [show rangeS (.int (j : Int)) = _ from this]
  rfl
theorem eq_nil {x : PyData} {xs : List PyData} (h : SeqAt.shaped (.tuple (x :: xs)) = true) : opf2 .eq (.tuple (x :: xs)) (.tuple []) = some (.bool false) := by
  show (eqD _ _).map PyData.bool = _
  unfold eqD
  rw [if_neg (by simp [scalD]), if_pos (by rw [h]; rfl)]
  rfl
theorem eq_nils : opf2 .eq (.tuple []) (.tuple []) = some (.bool true) := o_eqR (shapedI (xs := []) (by simp)).1
theorem ne_nils : opf2 .ne (.tuple []) (.tuple []) = some (.bool false) := o_neR (shapedI (xs := []) (by simp)).1
theorem o_sortL {xs : List Int} : opf1 .sorted (.list (xs.map .int)) = some (.list ((sortI xs).map .int)) := by
  show (match intsD (xs.map PyData.int) with
    | some ns => some (PyData.list ((sortI ns).map .int))
    | none => (pairsD (xs.map PyData.int)).map fun ps => PyData.list ((sortP ps).map pairD)) = _
  rw [intsD_map]
theorem o_sortT {xs : List Int} : opf1 .sorted (.tuple (xs.map .int)) = some (.list ((sortI xs).map .int)) := by
  show (intsD _).map _ = _
  rw [intsD_map]; rfl
theorem natD_int {xs : List Nat} : xs.map natD = (xs.map fun i : Nat => (i : Int)).map .int := by rw [List.map_map]; rfl
theorem dedup_map {α β : Type} [DecidableEq α] [DecidableEq β] {f : α → β} (hf : ∀ a b, f a = f b → a = b) : ∀ xs : List α, dedup (xs.map f) = (dedup xs).map f
  | [] => rfl
  | x :: xs => by
    rw [List.map_cons]
    unfold dedup
    have e : f x ∈ xs.map f ↔ x ∈ xs := ⟨fun h => by obtain ⟨y, hy, e⟩ := List.mem_map.mp h; rw [← hf _ _ e]; exact hy, fun h => List.mem_map.mpr ⟨x, h, rfl⟩⟩
    by_cases c : x ∈ xs
    · rw [if_pos c, if_pos (e.mpr c), dedup_map hf]
    · rw [if_neg c, if_neg (fun z => c (e.mp z)), dedup_map hf]; rfl
theorem keys_ints : ∀ xs : List Int, pairKeys (xs.map fun x => PyData.tuple [.int x, .int 0]) = some (xs.map Sum.inl)
  | [] => rfl
  | x :: xs => by
    rw [List.map_cons]
    show (some (Sum.inl x : Key)).bind _ = _
    rw [Option.bind_some, keys_ints xs]
    rfl
theorem len_dictI (xs : List Int) : opf1 .lenDict (.list (xs.map fun x => PyData.tuple [.int x, .int 0])) = some (.int (dedup xs).length) := by
  show (pairKeys _).map _ = _
  rw [keys_ints, Option.map_some, dedup_map (fun a b h => by cases h; rfl), List.length_map]
/-- a while: its end -/
theorem whileL_end {c : Ev → Hi → R Bool} {body : Ev → Hi → RS} (I : Nat → Ev → Hi → Prop) (Q : Ev → Hi → Prop) : ∀ (N m : Nat) (env : Ev) (h : Hi), m < N → I m env h →
    (∀ m env h, I m env h → (c env h = .ok false h ∧ Q env h) ∨ (∃ env' h' m', c env h = .ok true h ∧ body env h = .ok .nx env' h' ∧ m' < m ∧ I m' env' h')) →
    ∃ env' h', whileL c body N env h = .ok .nx env' h' ∧ Q env' h'
  | 0, m, env, h, hm, _, _ => absurd hm (Nat.not_lt_zero _)
  | N + 1, m, env, h, hm, h0, st => by
    unfold whileL
    rcases st m env h h0 with ⟨e, hQ⟩ | ⟨env', h', m', e, e2, hlt, hI⟩
    · refine ⟨env, h, ?_, hQ⟩
      rw [e]; rfl
    · obtain ⟨a, b, r1, r2⟩ := whileL_end I Q N m' env' h' (by omega) hI st
      refine ⟨a, b, ?_, r2⟩
      rw [e]
      simp only [R.toS_ok, if_true]
      simp only [e2]
      exact r1
/-! ### two lists of the heap behind the town -/
theorem two_a {x y : List PyData} (ht : t < h.length) : listAt (hT (h ++ [.lst x] ++ [.lst y]) t k) h.length = some x := by
  rw [hT_lst (by omega)]; unfold listAt; simp
theorem two_b {x y : List PyData} (ht : t < h.length) : listAt (hT (h ++ [.lst x] ++ [.lst y]) t k) (h.length + 1) = some y := by
  rw [hT_lst (by omega)]; unfold listAt; simp
theorem two_sa {x y z : List PyData} (ht : t < h.length) : (hT (h ++ [.lst x] ++ [.lst y]) t k).set h.length (.lst z) = hT (h ++ [.lst z] ++ [.lst y]) t k := by
  rw [hT_comm (by omega)]; congr 1; simp
theorem two_sb {x y z : List PyData} (ht : t < h.length) : (hT (h ++ [.lst x] ++ [.lst y]) t k).set (h.length + 1) (.lst z) = hT (h ++ [.lst x] ++ [.lst z]) t k := by
  rw [hT_comm (by omega)]; congr 1; simp
theorem one_a {x : List PyData} (ht : t < h.length) : listAt (hT (h ++ [.lst x]) t k) h.length = some x := by
  rw [hT_lst (by omega)]; unfold listAt; simp
theorem one_sa {x z : List PyData} (ht : t < h.length) : (hT (h ++ [.lst x]) t k).set h.length (.lst z) = hT (h ++ [.lst z]) t k := by
  rw [hT_comm (by omega)]; congr 1; simp
end
end Cd
set_option Elab.async false
set_option linter.all false
set_option maxRecDepth 100000
set_option maxHeartbeats 4000000
namespace Cd
open PySem L2
def s48_0 : S := .if_ (.val (.op2 .eq (.var 0) (.lit (.tuple [(.int 14), (.int 5), (.int 4), (.int 3), (.int 2)])))) [.ret (.lit (.int 5))] []
def s48_1 : S := .if_ (.val (.op2 .eq (.var 0) (.op1 .tuple (.comp [1] (.name 1) (.rng1 (.lit (.int 5))) [] (.op2d .sub (.op2b .ix (.var 0) (.lit (.int 0))) (.var 1)))))) [.ret (.op2b .ix (.var 0) (.lit (.int 0)))] []
def s48_2 : S := .ret (.lit (.int 0))
def ls48 : List S := [s48_0, s48_1, s48_2]
theorem b48_eq : b48 = ls48 := rfl
def s49_0 : S := .newD 1 []
def s49_1_0 : S := .setKeyD 1 (.var 2) (.op2d .add (.dgetD 1 (.var 2) (.lit (.int 0))) (.lit (.int 1)))
def ls49_1 : List S := [s49_1_0]
def s49_1 : S := .for_ (.tup [(.name 2), (.name 3)]) (.e (.var 0)) ls49_1
def s49_2 : S := .set 4 (.op1 .rev (.op1 .sorted (.compI 1 [2, 5] (.tup [(.name 2), (.name 5)]) [] (.tup [(.var 5), (.var 2)]))))
def s49_3 : S := .ret (.tup [(.op1 .tuple (.comp [5, 2] (.tup [(.name 5), (.name 2)]) (.e (.var 4)) [] (.var 2))), (.op1 .tuple (.comp [5, 2] (.tup [(.name 5), (.name 2)]) (.e (.var 4)) [] (.var 5)))])
def ls49 : List S := [s49_0, s49_1, s49_2, s49_3]
theorem b49_eq : b49 = ls49 := rfl
def s50_0 : S := .unpack (.tup [(.name 1), (.name 2)]) (.call 49 [(.var 0)])
def s50_1 : S := .if_ (.val (.op2 .lt (.op1 .len (.var 1)) (.lit (.int 5)))) [.ret (.tup [(.op1 (.look [([2, 1, 1, 1], 1), ([2, 2, 1], 2), ([3, 1, 1], 3), ([3, 2], 6), ([4, 1], 7)]) (.var 2)), (.var 1)])] []
def s50_2 : S := .set 3 (.call 48 [(.var 1)])
def s50_3 : S := .set 4 (.op2 .eq (.op1 .lenSet (.comp [5, 6] (.tup [(.name 5), (.name 6)]) (.e (.var 0)) [] (.var 6))) (.lit (.int 1)))
def s50_4 : S := .if_ (.and_ (.val (.op2 .gt (.var 3) (.lit (.int 0)))) (.val (.var 4))) [.ret (.tup [(.lit (.int 8)), (.tup [(.var 3)])])] []
def s50_5 : S := .if_ (.val (.var 4)) [.ret (.tup [(.lit (.int 5)), (.var 1)])] []
def s50_6 : S := .if_ (.val (.op2 .gt (.var 3) (.lit (.int 0)))) [.ret (.tup [(.lit (.int 4)), (.tup [(.var 3)])])] []
def s50_7 : S := .ret (.tup [(.lit (.int 0)), (.var 1)])
def ls50 : List S := [s50_0, s50_1, s50_2, s50_3, s50_4, s50_5, s50_6, s50_7]
theorem b50_eq : b50 = ls50 := rfl
end Cd
set_option Elab.async false
set_option linter.all false
set_option maxRecDepth 100000
set_option maxHeartbeats 4000000
namespace Cd
open PySem L2
/-! ### ranks of fives -/
abbrev Card := Int × Str
def cardD (c : Card) : PyData := .tuple [.int c.1, .str c.2]
/-- one more of the rank r -/
def bump (r : Int) : List (Int × Int) → List (Int × Int)
  | [] => [(r, 1)]
  | (q, c) :: t => if q = r then (q, c + 1) :: t else (q, c) :: bump r t
def oftenM (rs : List Int) : List (Int × Int) := rs.foldl (fun l r => bump r l) []
def rowsM (five : List Card) : List (Int × Int) := (sortP ((oftenM (five.map (·.1))).map fun p => (p.2, p.1))).reverse
def ranksM (five : List Card) : List Int := (rowsM five).map (·.2)
def shapeM (five : List Card) : List Int := (rowsM five).map (·.1)
def shapes : List (List Int × Int) := [([2, 1, 1, 1], 1), ([2, 2, 1], 2), ([3, 1, 1], 3), ([3, 2], 6), ([4, 1], 7)]
def topM (rs : List Int) : Int := if rs = [14, 5, 4, 3, 2] then 5 else if rs = (List.range 5).map (fun k : Nat => rs.headD 0 - k) then rs.headD 0 else 0
def alikeM (five : List Card) : Bool := decide (((dedup (five.map (·.2)).reverse).length : Int) = 1)
def rankM (five : List Card) : Int × List Int :=
  if (ranksM five).length < 5 then ((shapes.lookup (shapeM five)).getD 0, ranksM five)
  else if (decide (0 < topM (ranksM five)) && alikeM five) = true then (8, [topM (ranksM five)])
  else if alikeM five = true then (5, ranksM five)
  else if 0 < topM (ranksM five) then (4, [topM (ranksM five)])
  else (0, ranksM five)
def rankD (r : Int × List Int) : PyData := .tuple [.int r.1, .tuple (r.2.map .int)]
def toKV (l : List (Int × Int)) : List (Key × Fld) := l.map fun p => (.inl p.1, .p (.int p.2))
theorem toKV_look (r : Int) : ∀ l : List (Int × Int), (toKV l).lookup (.inl r) = (l.lookup r).map fun c => .p (.int c)
  | [] => rfl
  | (q, c) :: t => by
    show List.lookup (Sum.inl r) ((Sum.inl q, _) :: toKV t) = _
    rw [List.lookup_cons, List.lookup_cons]
    by_cases e : r = q
    · subst e
      rw [key_beq, decide_eq_true (show (Sum.inl r : Key) = Sum.inl r from rfl)]
      simp
    · have e1 : ((Sum.inl r : Key) == Sum.inl q) = false := by rw [key_beq]; exact decide_eq_false (fun z => e (Sum.inl.inj z))
      have e2 : (r == q) = false := by simpa using e
      rw [e1, e2, toKV_look r t]
theorem toKV_bump (r : Int) : ∀ l : List (Int × Int), setKV (toKV l) (.inl r) (.p (.int ((l.lookup r).getD 0 + 1))) = toKV (bump r l)
  | [] => rfl
  | (q, c) :: t => by
    show setKV ((Sum.inl q, Fld.p (.int c)) :: toKV t) _ _ = _
    unfold setKV bump
    rw [List.lookup_cons]
    by_cases e : q = r
    · subst e
      simp [toKV]
    · have e1 : ¬ (Sum.inl q : Key) = Sum.inl r := fun z => e (Sum.inl.inj z)
      have e2 : (r == q) = false := by simpa using fun z => e z.symm
      rw [if_neg e1, if_neg e, e2, toKV_bump r t]
      rfl
theorem toKV_items : ∀ l : List (Int × Int), itemsD (toKV l) = some (l.map fun p => .tuple [.int p.1, .int p.2])
  | [] => rfl
  | (q, c) :: t => by
    show (if scalD (.int c) then (itemsD (toKV t)).map _ else none) = _
    rw [if_pos (show scalD (.int c) = true from rfl), toKV_items t]
    rfl
theorem bump_len (r : Int) : ∀ l : List (Int × Int), (bump r l).length ≤ l.length + 1
  | [] => by simp [bump]
  | (q, c) :: t => by
    unfold bump
    split
    · simp
    · have := bump_len r t
      simp; omega
theorem eqv_ints : ∀ xs ys : List Int, PyData.eqvAll (xs.map .int) (ys.map .int) = decide (xs = ys)
  | [], [] => by simp [PyData.eqvAll]
  | [], _ :: _ => by simp [PyData.eqvAll]
  | _ :: _, [] => by simp [PyData.eqvAll]
  | x :: xs, y :: ys => by
    simp only [List.map_cons, PyData.eqvAll, eqv_int, eqv_ints xs ys, List.cons.injEq, Bool.decide_and]
theorem o_eqT {xs ys : List Int} (h1 : xs.length < 1000) (h2 : ys.length < 1000) : opf2 .eq (.tuple (xs.map .int)) (.tuple (ys.map .int)) = some (.bool (decide (xs = ys))) := by
  show (eqD _ _).map PyData.bool = _
  unfold eqD
  rw [if_neg (by simp [scalD]), if_pos (by rw [(shapedI h1).1, (shapedI h2).1]; rfl), Option.map_some]
  simp only [PyData.eqv, eqv_ints]
theorem pairsD_map : ∀ ps : List (Int × Int), pairsD (ps.map pairD) = some ps
  | [] => rfl
  | p :: ps => by
    show (pairsD (ps.map pairD)).map _ = _
    rw [pairsD_map ps]; rfl
theorem o_sortP (ps : List (Int × Int)) : opf1 .sorted (.list (ps.map pairD)) = some (.list ((sortP ps).map pairD)) := by
  cases ps with
  | nil => rfl
  | cons p ps =>
    show (match intsD (pairD p :: ps.map pairD) with
      | some ns => some (PyData.list ((sortI ns).map .int))
      | none => (pairsD ((p :: ps).map pairD)).map fun ps => PyData.list ((sortP ps).map pairD)) = _
    have : intsD (pairD p :: ps.map pairD) = none := rfl
    rw [this, pairsD_map]; rfl
theorem o_rev (xs : List PyData) : opf1 .rev (.list xs) = some (.list xs.reverse) := id rfl
theorem strsD_map : ∀ xs : List Str, strsD (xs.map .str) = some xs
  | [] => rfl
  | x :: xs => by
    show (strsD (xs.map .str)).map _ = _
    rw [strsD_map xs]; rfl
theorem o_lenSet {xs : List Str} (h : xs.length < 1000) : opf1 .lenSet (.list (xs.map .str)) = some (.int (dedup xs.reverse).length) := by
  show (strsD _).bind _ = _
  rw [strsD_map, Option.bind_some, if_pos h]
section
variable {fns : Nat → Option FnD} {h : Hi} {n m k t q i : Nat} {cf : Calls}
theorem o_look {kvs : List (List Int × Int)} {ks : List Int} : opf1 (.look kvs) (.tuple (ks.map .int)) = (kvs.lookup ks).map .int := by
  show (intsD _).bind _ = _
  rw [intsD_map]; rfl
theorem top_eval (F : fns 48 = some d48) {rs : List Int} (hl : rs.length = 5) : callF fns (q + 1) 48 [.p (intsT rs)] h = .ok (.p (.int (topM rs))) h := by
  rw [call_eq F rfl]
  generalize callF fns q = cf
  show finF h.length (evalSs cf b48 [some (.p (intsT rs)), none] h) = _
  rw [b48_eq]
  unfold ls48
  have e1 := o_eqT (xs := rs) (ys := [14, 5, 4, 3, 2]) (by omega) (by decide)
  obtain ⟨a, r, rfl⟩ : ∃ a r, rs = a :: r := by
    cases rs with
    | nil => simp at hl
    | cons a r => exact ⟨a, r, rfl⟩
  have a0 : atI ((a :: r).map PyData.int) 0 = some (.int a) := atI_c0
  have c1 : evalE cf [some (.p (intsT (a :: r))), none] (.comp [1] (.name 1) (.rng1 (.lit (.int 5))) [] (.op2d .sub (.op2b .ix (.var 0) (.lit (.int 0))) (.var 1))) h = .ok (.p (.list (((List.range 5).map fun k : Nat => a - k).map .int))) h := by
    rw [List.map_map]
    refine comp_all natD _ (src_nat (j := 5) (by simp) (by omega)) (by simp) fun j hj => ⟨[some (.p (intsT (a :: r))), some (.p (.int j))], by simp, ?_⟩
    simp only [ev_op2d, ev_op2b, bor_var, slot_0, slot_s, borV_p, ev_var, ofO_some, R.bind_ok, unP_p, ev_lit, o_ixT, intsT, a0, Option.map_some, o_sub]
    rfl
  have e2 := o_eqT (xs := a :: r) (ys := (List.range 5).map fun k : Nat => a - k) (by omega) (by simp)
  unfold topM
  rw [ss_cons]
  have t0 : evalS cf s48_0 [some (.p (intsT (a :: r))), none] h = if a :: r = [14, 5, 4, 3, 2] then .ok (.rt (.p (.int 5))) [some (.p (intsT (a :: r))), none] h else .ok .nx [some (.p (intsT (a :: r))), none] h := by
    unfold s48_0
    have e1' : opf2 .eq (.tuple ((a :: r).map PyData.int)) (.tuple [.int 14, .int 5, .int 4, .int 3, .int 2]) = some (.bool (decide (a :: r = [14, 5, 4, 3, 2]))) := e1
    by_cases c : a :: r = [14, 5, 4, 3, 2]
    · rw [if_pos c]
      rw [decide_eq_true c] at e1'
      simp only [st_if, et_val, bor_op2, ev_op2, ev_var, slot_0, ofO_some, R.bind_ok, unP_p, bor_lit, ev_lit, intsT, e1', Option.map_some, truth_b, R.toS_ok, if_true, ss_cons, st_ret, RS.bind_rt]
    · rw [if_neg c]
      rw [decide_eq_false c] at e1'
      simp only [st_if, et_val, bor_op2, ev_op2, ev_var, slot_0, ofO_some, R.bind_ok, unP_p, bor_lit, ev_lit, intsT, e1', Option.map_some, truth_b, R.toS_ok, Bool.false_eq_true, if_false, ss_nil]
  rw [t0]
  by_cases c : a :: r = [14, 5, 4, 3, 2]
  · rw [if_pos c, if_pos c, RS.bind_rt, fin_rp, List.take_length]
  · rw [if_neg c, if_neg c, RS.bind_nx, ss_cons]
    show finF _ _ = R.ok (.p (.int (if a :: r = (List.range 5).map (fun k : Nat => a - k) then a else 0))) h
    simp only [intsT] at c1
    by_cases c2 : a :: r = (List.range 5).map fun k : Nat => a - k
    · rw [if_pos c2]
      rw [decide_eq_true c2] at e2
      simp only [s48_1, st_if, et_val, bor_op2, ev_op2, ev_var, slot_0, ofO_some, R.bind_ok, unP_p, bor_op1, ev_op1, bor_comp, intsT, c1, o_tupL, Option.map_some, e2, truth_b, R.toS_ok, if_true, ss_cons, st_ret, ev_op2b, bor_var, borV_p, ev_lit, o_ixT, a0, RS.bind_rt, fin_rp, List.take_length]
    · rw [if_neg c2]
      rw [decide_eq_false c2] at e2
      simp only [s48_1, st_if, et_val, bor_op2, ev_op2, ev_var, slot_0, ofO_some, R.bind_ok, unP_p, bor_op1, ev_op1, bor_comp, intsT, c1, o_tupL, Option.map_some, e2, truth_b, R.toS_ok, Bool.false_eq_true, if_false, ss_nil, RS.bind_nx, ss_cons, s48_2, st_ret, ev_lit, RS.bind_rt, fin_rp, List.take_length]
/-! ### grouped -/
@[simp] theorem st_newD0 {env : Ev} : evalS cf (.newD i []) env h = .ok .nx (setSlot env i (some (.ref h.length))) (h ++ [.dct []]) := id rfl
@[simp] theorem st_setKeyD {env : Ev} {b e : E} : evalS cf (.setKeyD i b e) env h = ((evalE cf env e h).bind unP).toS env fun d h1 => ((evalE cf env b h1).bind unP).toS env fun kd h2 => ofH env ((keyOf kd).bind fun q => setKeyH env i q (.p d) h2) := id rfl
@[simp] theorem ev_dgetD {env : Ev} {b e : E} : evalE cf env (.dgetD i b e) h = ((evalE cf env b h).bind unP).bind fun kd h1 => ((evalE cf env e h1).bind unP).bind fun dd h2 => dgetDK env i kd dd h2 := id rfl
theorem ev_compI {env : Ev} {own : List Nat} {t : Tg} {cond : List Te} {elt : E} : evalE cf env (.compI i own t cond elt) h = match dctOf env h i with
    | none => .stuck
    | some p => match itemsD p.2 with
      | none => .stuck
      | some items => (compK2 (compL (fun e h => (evalE cf e elt h).bind unP) (fun e h => evalTs cf e cond h) (fun x e => bindT t x e) (wipeE env own)) items (h.set p.1 .dead)).bind fun v h2 => .ok v (h2.set p.1 (.dct p.2)) := id rfl
theorem dctAt_app {kvs : List (Key × Fld)} : dctAt (h ++ [.dct kvs]) h.length = some kvs := by unfold dctAt; simp
abbrev envG (five : List Card) (m : Nat) (v2 v3 v4 v5 : Option Val) : Ev := [some (.p (.tuple (five.map cardD))), some (.ref m), v2, v3, v4, v5]
theorem dctOf_G {five : List Card} {v2 v3 v4 v5 : Option Val} {kvs : List (Key × Fld)} : dctOf (envG five h.length v2 v3 v4 v5) (h ++ [.dct kvs]) 1 = some (h.length, kvs) := by
  show (some h.length).bind _ = _
  rw [Option.bind_some, dctAt_app]; rfl
theorem loop49 {five : List Card} : ∀ (cs : List Card) (l : List (Int × Int)) (v2 v3 : Option Val), l.length + cs.length < 1000 →
    ∃ w2 w3, forL (evalSs cf ls49_1) (bindT (.tup [(.name 2), (.name 3)])) (cs.map cardD) (envG five h.length v2 v3 none none) (h ++ [.dct (toKV l)]) = .ok .nx (envG five h.length w2 w3 none none) (h ++ [.dct (toKV ((cs.map (·.1)).foldl (fun l r => bump r l) l))])
  | [], l, v2, v3, _ => ⟨v2, v3, rfl⟩
  | c :: cs, l, v2, v3, hl => by
    rw [List.length_cons] at hl
    have bl := bump_len c.1 l
    obtain ⟨w2, w3, e⟩ := loop49 cs (bump c.1 l) (some (.p (.int c.1))) (some (.p (.str c.2))) (by omega)
    refine ⟨w2, w3, ?_⟩
    rw [List.map_cons, List.map_cons, List.foldl_cons]
    unfold forL
    have eb : bindT (.tup [(.name 2), (.name 3)]) (cardD c) (envG five h.length v2 v3 none none) = some (envG five h.length (some (.p (.int c.1))) (some (.p (.str c.2))) none none) := by
      simp only [cardD, bt_tup, bts_cons, bts_nil, bt_name, Option.bind_some, setSlot_0, setSlot_s]
    rw [eb]
    have st : evalSs cf ls49_1 (envG five h.length (some (.p (.int c.1))) (some (.p (.str c.2))) none none) (h ++ [.dct (toKV l)]) = .ok .nx (envG five h.length (some (.p (.int c.1))) (some (.p (.str c.2))) none none) (h ++ [.dct (toKV (bump c.1 l))]) := by
      have dg : dgetDK (envG five h.length (some (.p (.int c.1))) (some (.p (.str c.2))) none none) 1 (.int c.1) (.int 0) (h ++ [.dct (toKV l)]) = .ok (.p (.int ((l.lookup c.1).getD 0))) (h ++ [.dct (toKV l)]) := by
        unfold dgetDK
        rw [dctOf_G]
        simp only [keyOf, toKV_look]
        cases l.lookup c.1 with
        | none => rfl
        | some x => rfl
      have sk : setKeyH (envG five h.length (some (.p (.int c.1))) (some (.p (.str c.2))) none none) 1 (.inl c.1) (.p (.int ((l.lookup c.1).getD 0 + 1))) (h ++ [.dct (toKV l)]) = some (h ++ [.dct (toKV (bump c.1 l))]) := by
        unfold setKeyH
        rw [dctOf_G, Option.bind_some]
        have : (toKV l).length < 1000 := by unfold toKV; rw [List.length_map]; omega
        simp only
        rw [if_pos this, toKV_bump, set_app]
      unfold ls49_1 s49_1_0
      simp only [ss_cons, ss_nil, st_setKeyD, ev_op2d, ev_dgetD, ev_var, slot_0, slot_s, ofO_some, R.bind_ok, unP_p, ev_lit, dg, o_add, Option.map_some, R.toS_ok, keyOf, Option.bind_some, sk, ofH_some, RS.bind_nx]
    simp only [st]
    exact e
theorem often_len (rs : List Int) : (oftenM rs).length ≤ rs.length := by
  have : ∀ (rs : List Int) (l : List (Int × Int)), (rs.foldl (fun l r => bump r l) l).length ≤ l.length + rs.length := fun rs => by
    induction rs with
    | nil => intro l; exact Nat.le_refl _
    | cons r rs ih =>
      intro l
      rw [List.foldl_cons, List.length_cons]
      have := ih (bump r l)
      have := bump_len r l
      omega
  have z := this rs []
  rw [List.length_nil, Nat.zero_add] at z
  exact z
theorem sortP_len (l : List (Int × Int)) : (sortP l).length = l.length := by
  have hi : ∀ (x : Int × Int) (l : List (Int × Int)), (insP x l).length = l.length + 1 := fun x l => by
    induction l with
    | nil => rfl
    | cons y r ih => unfold insP; split <;> simp [ih]
  induction l with
  | nil => rfl
  | cons x r ih =>
    show (insP x (sortP r)).length = _
    rw [hi, ih]; rfl
theorem rows_len (five : List Card) : (rowsM five).length ≤ five.length := by
  unfold rowsM
  rw [List.length_reverse, sortP_len, List.length_map]
  have := often_len (five.map (·.1))
  rw [List.length_map] at this
  exact this
theorem grouped_eval (F : fns 49 = some d49) {five : List Card} (hz : five.length < 500) : callF fns (q + 1) 49 [.p (.tuple (five.map cardD))] h = .ok (.p (.tuple [intsT (ranksM five), intsT (shapeM five)])) h := by
  rw [call_eq F rfl]
  generalize callF fns q = cf
  have rl := rows_len five
  obtain ⟨w2, w3, e1⟩ := loop49 (cf := cf) (h := h) (five := five) five [] none none (by simp; omega)
  change forL _ _ _ _ _ = .ok .nx _ (h ++ [.dct (toKV (oftenM (five.map (·.1))))]) at e1
  generalize ho : oftenM (five.map (·.1)) = l at e1
  have ll : l.length < 500 := by
    rw [← ho]
    have := often_len (five.map (·.1))
    rw [List.length_map] at this
    omega
  have t0 : evalS cf s49_0 [some (.p (.tuple (five.map cardD))), none, none, none, none, none] h = .ok .nx (envG five h.length none none none none) (h ++ [.dct (toKV [])]) := by
    unfold s49_0
    simp only [st_newD0, setSlot_0, setSlot_s]
    rfl
  have t1 : evalS cf s49_1 (envG five h.length none none none none) (h ++ [.dct (toKV [])]) = .ok .nx (envG five h.length w2 w3 none none) (h ++ [.dct (toKV l)]) := by
    unfold s49_1
    simp only [st_for, es_e, ev_var, slot_0, ofO_some, R.bind_ok, unP_p, items_T, R.toS_ok]
    exact e1
  have cI : evalE cf (envG five h.length w2 w3 none none) (.compI 1 [2, 5] (.tup [(.name 2), (.name 5)]) [] (.tup [(.var 5), (.var 2)])) (h ++ [.dct (toKV l)]) = .ok (.p (.list ((l.map fun p => (p.2, p.1)).map pairD))) (h ++ [.dct (toKV l)]) := by
    rw [ev_compI, dctOf_G]
    simp only [toKV_items, set_app]
    have := comp_pure (elt := fun e h => (evalE cf e (.tup [(.var 5), (.var 2)]) h).bind unP) (cond := fun e h => evalTs cf e [] h) (bt := fun x e => bindT (.tup [(.name 2), (.name 5)]) x e) (env := wipeE (envG five h.length w2 w3 none none) [2, 5]) (h := h ++ [.dead]) (fun p : Int × Int => .tuple [.int p.1, .int p.2]) (fun p => pairD (p.2, p.1)) (fun _ => true) (xs := l) (fun p hp => ⟨envG five h.length (some (.p (.int p.1))) w3 none (some (.p (.int p.2))), by simp, by simp, fun _ => by simp [pairD]⟩)
    rw [compK2_ok (by rw [List.length_map]; exact Nat.lt_trans ll (by decide)) this, R.bind_ok, set_app, List.map_map, List.filter_eq_self.mpr (fun _ _ => rfl)]
    rfl
  have sp := o_sortP (l.map fun p => (p.2, p.1))
  have hr : rowsM five = (sortP (l.map fun p => (p.2, p.1))).reverse := by unfold rowsM; rw [ho]
  have t2 : evalS cf s49_2 (envG five h.length w2 w3 none none) (h ++ [.dct (toKV l)]) = .ok .nx (envG five h.length w2 w3 (some (.p (.list ((rowsM five).map pairD)))) none) (h ++ [.dct (toKV l)]) := by
    unfold s49_2
    have bI : ∀ (env : Ev) (h : Hi) (r : R Val), bor env h (.compI 1 [2, 5] (.tup [(.name 2), (.name 5)]) [] (.tup [(.var 5), (.var 2)])) r = r.bind unP := fun _ _ _ => rfl
    simp only [st_set, ev_op1, bor_op1, bI, cI, R.bind_ok, unP_p, sp, Option.map_some, ofO_some, o_rev, R.toS_ok, setSlot_0, setSlot_s, hr, List.map_reverse]
  have c3 : evalE cf (envG five h.length w2 w3 (some (.p (.list ((rowsM five).map pairD)))) none) (.comp [5, 2] (.tup [(.name 5), (.name 2)]) (.e (.var 4)) [] (.var 2)) (h ++ [.dct (toKV l)]) = .ok (.p (.list ((ranksM five).map .int))) (h ++ [.dct (toKV l)]) := by
    unfold ranksM
    rw [List.map_map]
    exact comp_all pairD _ (by simp) (by omega) fun p hp => ⟨envG five h.length (some (.p (.int p.2))) w3 (some (.p (.list ((rowsM five).map pairD)))) (some (.p (.int p.1))), by simp [pairD], by simp⟩
  have c4 : evalE cf (envG five h.length w2 w3 (some (.p (.list ((rowsM five).map pairD)))) none) (.comp [5, 2] (.tup [(.name 5), (.name 2)]) (.e (.var 4)) [] (.var 5)) (h ++ [.dct (toKV l)]) = .ok (.p (.list ((shapeM five).map .int))) (h ++ [.dct (toKV l)]) := by
    unfold shapeM
    rw [List.map_map]
    exact comp_all pairD _ (by simp) (by omega) fun p hp => ⟨envG five h.length (some (.p (.int p.2))) w3 (some (.p (.list ((rowsM five).map pairD)))) (some (.p (.int p.1))), by simp [pairD], by simp⟩
  show finF h.length (evalSs cf b49 [some (.p (.tuple (five.map cardD))), none, none, none, none, none] h) = _
  rw [b49_eq]
  unfold ls49
  rw [ss_cons, t0, RS.bind_nx, ss_cons, t1, RS.bind_nx, ss_cons, t2, RS.bind_nx, ss_cons]
  simp only [s49_3, st_ret, ev_tup, eps_cons, eps_nil, ev_op1, bor_comp, c3, c4, R.bind_ok, unP_p, o_tupL, Option.map_some, ofO_some, R.toS_ok, RS.bind_rt, fin_rp, take_app, intsT]
/-- the rank -/
theorem rank_eval (F48 : fns 48 = some d48) (F49 : fns 49 = some d49) (F50 : fns 50 = some d50) {five : List Card} (h5 : five.length = 5) (hs : (ranksM five).length < 5 → (shapes.lookup (shapeM five)).isSome) :
    callF fns (q + 2) 50 [.p (.tuple (five.map cardD))] h = .ok (.p (rankD (rankM five))) h := by
  rw [call_eq F50 rfl]
  have ge := grouped_eval (q := q) (h := h) F49 (five := five) (by omega)
  have te : (ranksM five).length = 5 → callF fns (q + 1) 48 [.p (intsT (ranksM five))] h = _ := fun hl => top_eval (q := q) (h := h) F48 hl
  have rl := rows_len five
  have rl2 : (ranksM five).length = (rowsM five).length := List.length_map _
  generalize callF fns (q + 1) = cf at ge te
  let X : Option Val → Option Val → Ev := fun v3 v4 => [some (.p (.tuple (five.map cardD))), some (.p (intsT (ranksM five))), some (.p (intsT (shapeM five))), v3, v4, none, none]
  have t0 : evalS cf s50_0 [some (.p (.tuple (five.map cardD))), none, none, none, none, none, none] h = .ok .nx (X none none) h := by
    unfold s50_0
    simp only [st_unpack, ev_call, ees_cons, ees_nil, ev_var, slot_0, ofO_some, R.bind_ok, ge, unP_p, R.toS_ok, bt_tup, bts_cons, bts_nil, bt_name, Option.bind_some, setSlot_0, setSlot_s, X]
  show finF h.length (evalSs cf b50 [some (.p (.tuple (five.map cardD))), none, none, none, none, none, none] h) = _
  rw [b50_eq]
  unfold ls50 rankM
  rw [ss_cons, t0, RS.bind_nx, ss_cons]
  by_cases c : (ranksM five).length < 5
  · rw [if_pos c]
    obtain ⟨x, hx⟩ := Option.isSome_iff_exists.mp (hs c)
    have ol : opf1 (.look shapes) (.tuple ((shapeM five).map .int)) = some (.int x) := by rw [o_look, hx]; rfl
    have ci : ((ranksM five).length : Int) < 5 := by omega
    have e : evalS cf s50_1 (X none none) h = .ok (.rt (.p (rankD (x, ranksM five)))) (X none none) h := by
      unfold s50_1
      change opf1 (.look [([2, 1, 1, 1], 1), ([2, 2, 1], 2), ([3, 1, 1], 3), ([3, 2], 6), ([4, 1], 7)]) _ = _ at ol
      simp only [st_if, et_val, bor_op2, ev_op2, ev_op1, bor_var, X, slot_0, slot_s, borV_p, ev_var, ofO_some, R.bind_ok, unP_p, intsT, o_lenT, List.length_map, Option.map_some, bor_lit, ev_lit, o_lt, decide_eq_true ci, truth_b, R.toS_ok, if_true, ss_cons, st_ret, ev_tup, eps_cons, eps_nil, ol, RS.bind_rt, rankD]
    rw [e, RS.bind_rt, fin_rp, List.take_length, hx]
    rfl
  · rw [if_neg c]
    have te := te (by omega)
    have ci : ¬ ((ranksM five).length : Int) < 5 := by omega
    have e : evalS cf s50_1 (X none none) h = .ok .nx (X none none) h := by
      unfold s50_1
      simp only [st_if, et_val, bor_op2, ev_op2, ev_op1, bor_var, X, slot_0, slot_s, borV_p, ev_var, ofO_some, R.bind_ok, unP_p, intsT, o_lenT, List.length_map, Option.map_some, bor_lit, ev_lit, o_lt, decide_eq_false ci, truth_b, R.toS_ok, Bool.false_eq_true, if_false, ss_nil]
    generalize hT : topM (ranksM five) = T at te
    have t2 : evalS cf s50_2 (X none none) h = .ok .nx (X (some (.p (.int T))) none) h := by
      unfold s50_2
      simp only [st_set, ev_call, ees_cons, ees_nil, ev_var, X, slot_0, slot_s, ofO_some, R.bind_ok, te, R.toS_ok, setSlot_0, setSlot_s]
    have c3 : evalE cf (X (some (.p (.int T))) none) (.comp [5, 6] (.tup [(.name 5), (.name 6)]) (.e (.var 0)) [] (.var 6)) h = .ok (.p (.list ((five.map (·.2)).map .str))) h := by
      rw [List.map_map]
      exact comp_all cardD _ (by simp [X]) (by omega) fun p hp => ⟨[some (.p (.tuple (five.map cardD))), some (.p (intsT (ranksM five))), some (.p (intsT (shapeM five))), some (.p (.int T)), none, some (.p (.int p.1)), some (.p (.str p.2))], by simp [X, cardD], by simp⟩
    have ls := o_lenSet (xs := five.map (·.2)) (by rw [List.length_map]; omega)
    have t3 : evalS cf s50_3 (X (some (.p (.int T))) none) h = .ok .nx (X (some (.p (.int T))) (some (.p (.bool (alikeM five))))) h := by
      unfold s50_3
      simp only [st_set, ev_op2, ev_op1, bor_comp, c3, R.bind_ok, unP_p, ls, Option.map_some, ofO_some, bor_lit, ev_lit, o_eqI, R.toS_ok, X, setSlot_0, setSlot_s]
      rfl
    rw [e, RS.bind_nx, ss_cons, t2, RS.bind_nx, ss_cons, t3, RS.bind_nx, ss_cons]
    generalize alikeM five = al
    simp only [s50_4, s50_5, s50_6, s50_7]
    by_cases p : 0 < T <;> cases al <;> simp [X, p, rankD, intsT]
end
end Cd
set_option Elab.async false
set_option linter.all false
set_option maxRecDepth 100000
set_option maxHeartbeats 4000000
namespace Cd
open PySem L2
def s41_0 : S := .set2 3 4 (.mk (.op1 .list (.var 2))) (.mk (.lst []))
def s41_1_0 : S := .app (.var 4) (.pop 3 (.call 13 [(.var 0), (.var 1), (.op1 .len (.var 3))]))
def ls41_1 : List S := [s41_1_0]
def s41_1 : S := .while_ (.val (.var 3)) ls41_1
def s41_2 : S := .ret (.op1 .tuple (.var 4))
def ls41 : List S := [s41_0, s41_1, s41_2]
theorem b41_eq : b41 = ls41 := rfl
end Cd
set_option Elab.async false
set_option linter.all false
set_option maxRecDepth 100000
set_option maxHeartbeats 4000000
namespace Cd
open PySem L2
section
variable {fns : Nat → Option FnD} {h : Hi} {k t q : Nat}
theorem er_map {α : Type} (f : α → PyData) : ∀ (l : List α) (j : Nat), (l.map f).eraseIdx j = (l.eraseIdx j).map f
  | [], _ => rfl
  | a :: l, 0 => rfl
  | a :: l, j + 1 => by rw [List.map_cons, List.eraseIdx_cons_succ, List.eraseIdx_cons_succ, List.map_cons, er_map f l j]
theorem er_perm {α : Type} : ∀ (l : List α) (j : Nat) (h : j < l.length), (l[j] :: l.eraseIdx j).Perm l
  | a :: l, 0, _ => List.Perm.refl _
  | a :: l, j + 1, h => by
    have := er_perm l j (by simpa using h)
    rw [List.eraseIdx_cons_succ, List.getElem_cons_succ]
    exact (List.Perm.swap _ _ _).trans (this.cons a)
/-- the row in another order -/
theorem mixed_eval {α : Type} (F13 : fns 13 = some d13) (F41 : fns 41 = some d41) (ns : List Int) (f : α → PyData) (as : List α) (ht : t < h.length) (hk : k + as.length < 1000000) (hz : as.length < 1000) :
    ∃ bs : List α, bs.Perm as ∧ callF fns (q + 2) 41 [.p (.list (ns.map .int)), .ref t, .p (.list (as.map f))] (hT h t k) = .ok (.p (.tuple (bs.map f))) (hT h t (k + as.length)) := by
  rw [call_eq F41 rfl]
  have dr : ∀ (h : Hi) (j : Nat) (m : Int), t < h.length → j < 1000000 → 0 < m → ∃ v, 0 ≤ v ∧ v < m ∧ callF fns (q + 1) 13 [.p (.list (ns.map .int)), .ref t, .p (.int m)] (hT h t j) = .ok (.p (.int v)) (hT h t (j + 1)) := fun h j m ht hj hm => draw_eval F13 ns ht hj hm
  generalize callF fns (q + 1) = cf at dr
  let X : Ev := [some (.p (.list (ns.map .int))), some (.ref t), some (.p (.list (as.map f))), some (.ref h.length), some (.ref (h.length + 1))]
  have t0 : evalS cf s41_0 [some (.p (.list (ns.map .int))), some (.ref t), some (.p (.list (as.map f))), none, none] (hT h t k) = .ok .nx X (hT (h ++ [.lst (as.map f)] ++ [.lst ([].map f)]) t k) := by
    unfold s41_0
    have ht1 : t < (h ++ [Ob.lst (as.map f)]).length := by simp; omega
    simp only [st_set2, ev_mk, ev_op1, bor_var, slot_0, slot_s, borV_p, ev_var, ofO_some, R.bind_ok, unP_p, o_lstL, Option.map_some, mkK, R.toS_ok, hT_len, hT_app ht, ev_lst, eps_nil, setSlot_0, setSlot_s, X, List.map_nil, hT_app ht1, List.length_append, List.length_cons, List.length_nil]
  obtain ⟨env1, h1, e1, rfl, bs, pm, rfl⟩ := whileL_end (c := fun e h => evalT cf e (.val (.var 3)) h) (body := evalSs cf ls41_1)
    (fun m env' h' => env' = X ∧ ∃ left got : List α, (left ++ got).Perm as ∧ m = left.length ∧ h' = hT (h ++ [.lst (left.map f)] ++ [.lst (got.map f)]) t (k + got.length))
    (fun env' h' => env' = X ∧ ∃ bs : List α, bs.Perm as ∧ h' = hT (h ++ [.lst []] ++ [.lst (bs.map f)]) t (k + as.length))
    wFuel as.length X _ (Nat.lt_trans hz (by decide)) ⟨rfl, as, [], by simp, rfl, rfl⟩ (fun m env' h' ⟨e0, left, got, pm, em, eh⟩ => by
      subst e0; subst eh
      have la : ∀ (h : Hi) k (x y : List PyData), t < h.length → listAt (hT (h ++ [.lst x] ++ [.lst y]) t k) h.length = some x := fun h k x y ht => two_a ht
      have lb : ∀ (h : Hi) k (x y : List PyData), t < h.length → listAt (hT (h ++ [.lst x] ++ [.lst y]) t k) (h.length + 1) = some y := fun h k x y ht => two_b ht
      have pl := pm.length_eq
      rw [List.length_append] at pl
      cases left with
      | nil =>
        refine .inl ⟨?_, rfl, got, by simpa using pm, ?_⟩
        · simp only [et_val, bor_var, X, slot_0, slot_s, borV_r, la _ _ _ _ ht, R.bind_ok, truth_l, List.map_nil, List.isEmpty_nil, Bool.not_true, ofO_some]
        · simp at pl
          rw [List.map_nil, ← pl]
      | cons a l =>
        refine .inr ?_
        obtain ⟨v, v0, v1, ev⟩ := dr (h ++ [.lst ((a :: l).map f)] ++ [.lst (got.map f)]) (k + got.length) ((a :: l).length : Int) (by simp <;> omega) (by simp at pl; omega) (by simp <;> omega)
        obtain ⟨j, rfl⟩ := Int.eq_ofNat_of_zero_le v0
        have hj : j < (a :: l).length := by omega
        refine ⟨X, hT (h ++ [.lst (((a :: l).eraseIdx j).map f)] ++ [.lst ((got ++ [(a :: l)[j]]).map f)]) t (k + (got.length + 1)), l.length, ?_, ?_, by rw [em]; simp, rfl, (a :: l).eraseIdx j, got ++ [(a :: l)[j]], ?_, ?_, by simp⟩
        · simp only [et_val, bor_var, X, slot_0, slot_s, borV_r, la _ _ _ _ ht, R.bind_ok, truth_l, List.map_cons, List.isEmpty_cons, Bool.not_false, ofO_some]
        · have ix : ixN ((a :: l).map f).length ((j : Nat) : Int) = some j := ixN_nat (by rw [List.length_map]; exact hj)
          have gx : ((a :: l).map f)[j]? = some (f (a :: l)[j]) := by rw [List.getElem?_map, List.getElem?_eq_getElem hj]; rfl
          have er : ((a :: l).map f).eraseIdx j = ((a :: l).eraseIdx j).map f := er_map f _ _
          have sz : (got.map f).length < sizeLine := by rw [List.length_map]; exact Nat.lt_trans (by simp at pl; omega) size1000
          have sm : ((j : Nat) : Int).natAbs < 9223372036854775808 := by simp at pl hj; omega
          have pp : popK X 3 (.int ((j : Nat) : Int)) (hT (h ++ [.lst ((a :: l).map f)] ++ [.lst (got.map f)]) t (k + got.length + 1)) = .ok (.p (f (a :: l)[j])) (hT (h ++ [.lst (((a :: l).eraseIdx j).map f)] ++ [.lst (got.map f)]) t (k + got.length + 1)) := by
            unfold popK
            simp only [lstOf_eq, X, slot_0, slot_s, refOf_r, Option.bind_some, la _ _ _ _ ht, Option.map_some, ix, gx, if_pos sm, er, two_sa ht]
          have ln : (((a :: l).map f).length : Int) = ((a :: l).length : Int) := by rw [List.length_map]
          show evalSs cf ls41_1 X _ = _
          unfold ls41_1 s41_1_0
          generalize (a :: l)[j] = x at pp gx
          generalize (a :: l).eraseIdx j = l2 at pp er
          generalize a :: l = l1 at *
          simp only [ss_cons, ss_nil, st_app, getL_var, X, slot_0, slot_s, refOf_r, Option.bind_some, lb _ _ _ _ ht, ev_pop, lstOf_eq, la _ _ _ _ ht, Option.map_some, ev_call, ees_cons, ees_nil, ev_var, ofO_some, R.bind_ok, ev_op1, bor_var, borV_r, o_lenL, ln, ev, unP_p]
          simp only [X] at pp
          simp only [pp, R.bind_ok, unP_p, R.toS_ok, appH_var, getL_var, slot_0, slot_s, refOf_r, Option.bind_some, lb _ _ _ _ ht, if_pos sz, Option.map_some, two_sb ht, ofH_some, RS.bind_nx, List.map_append, List.map_cons, List.map_nil]
          rfl
        · refine List.Perm.trans ?_ pm
          have := er_perm (a :: l) j hj
          generalize (a :: l)[j] = x at *
          generalize (a :: l).eraseIdx j = l2 at *
          refine List.Perm.trans ?_ (this.append_right got)
          have : (l2 ++ (got ++ [x])).Perm ([x] ++ (l2 ++ got)) := by
            rw [← List.append_assoc]
            exact List.perm_append_comm
          simpa using this
        · rw [List.length_eraseIdx_of_lt hj]; simp)
  have t1 : evalS cf s41_1 X (hT (h ++ [.lst (as.map f)] ++ [.lst ([].map f)]) t k) = .ok .nx X (hT (h ++ [.lst []] ++ [.lst (bs.map f)]) t (k + as.length)) := by
    unfold s41_1
    rw [st_while]
    exact e1
  have t2 : evalS cf s41_2 X (hT (h ++ [.lst []] ++ [.lst (bs.map f)]) t (k + as.length)) = .ok (.rt (.p (.tuple (bs.map f)))) X (hT (h ++ [.lst []] ++ [.lst (bs.map f)]) t (k + as.length)) := by
    unfold s41_2
    simp only [st_ret, ev_op1, bor_var, X, slot_0, slot_s, borV_r, two_b ht, R.bind_ok, o_tupL, Option.map_some, ofO_some, R.toS_ok]
  refine ⟨bs, pm, ?_⟩
  show finF (hT h t k).length (evalSs cf b41 [some (.p (.list (ns.map .int))), some (.ref t), some (.p (.list (as.map f))), none, none] (hT h t k)) = _
  rw [b41_eq]
  unfold ls41
  rw [ss_cons, t0, RS.bind_nx, ss_cons, t1, RS.bind_nx, ss_cons, t2, RS.bind_rt, fin_rp, hT_len, List.append_assoc, hT_cut ht]
end
end Cd
set_option Elab.async false
set_option linter.all false
set_option maxRecDepth 100000
set_option maxHeartbeats 4000000
namespace Cd
open PySem L2
def s51_0 : S := .set 3 (.tup [(.lit (.int 2)), (.lit (.int 3)), (.lit (.int 4)), (.lit (.int 5)), (.lit (.int 6)), (.lit (.int 7)), (.lit (.int 8)), (.lit (.int 9)), (.lit (.int 10)), (.lit (.int 11)), (.lit (.int 12)), (.lit (.int 13)), (.lit (.int 14))])
def s51_1 : S := .set 4 (.call 14 [(.var 0), (.var 1), (.lst [(.var 3), (.var 3), (.tup [(.lit (.int 2)), (.lit (.int 3)), (.lit (.int 4)), (.lit (.int 5)), (.lit (.int 14))]), (.tup [(.lit (.int 9)), (.lit (.int 10)), (.lit (.int 11)), (.lit (.int 12)), (.lit (.int 13))]), (.tup [(.lit (.int 6)), (.lit (.int 7)), (.lit (.int 8)), (.lit (.int 9))])])])
def s51_2 : S := .set2 5 6 (.mk (.lst [])) (.tup [])
def s51_3_0 : S := .ext (.var 5) (.comp [9] (.name 9) (.e (.lit (.str ("cdhs" : Str)))) [] (.tup [(.var 7), (.var 9)]))
def ls51_3 : List S := [s51_3_0]
def s51_3 : S := .for_ (.name 7) (.e (.var 4)) ls51_3
def s51_4_0 : S := .set 6 (.op2d .add (.var 6) (.tup [(.pop 5 (.call 13 [(.var 0), (.var 1), (.op1 .len (.var 5))]))]))
def ls51_4 : List S := [s51_4_0]
def s51_4 : S := .for_ (.name 8) (.rng1 (.var 2)) ls51_4
def s51_5 : S := .ret (.var 6)
def ls51 : List S := [s51_0, s51_1, s51_2, s51_3, s51_4, s51_5]
theorem b51_eq : b51 = ls51 := rfl
end Cd
set_option Elab.async false
set_option linter.all false
set_option maxRecDepth 100000
set_option maxHeartbeats 4000000
namespace Cd
open PySem L2
/-! ### cards from a deck -/
def suitsL : List Str := [("c" : Str), ("d" : Str), ("h" : Str), ("s" : Str)]
def deckOf (rs : List Int) : List Card := rs.flatMap fun r => suitsL.map fun s => (r, s)
def every : List Int := [2, 3, 4, 5, 6, 7, 8, 9, 10, 11, 12, 13, 14]
def deckRs : List (List Int) := [every, every, [2, 3, 4, 5, 14], [9, 10, 11, 12, 13], [6, 7, 8, 9]]
/-- some cards of one of the decks, drawn without being put back -/
def Deck (cs : List Card) : Prop := ∃ rs ∈ deckRs, ∃ rest, (cs ++ rest).Perm (deckOf rs)
theorem deck_len (rs : List Int) : (deckOf rs).length = 4 * rs.length := by
  unfold deckOf
  induction rs with
  | nil => rfl
  | cons r rs ih => rw [List.flatMap_cons, List.length_append, ih, List.length_map, List.length_cons]; show 4 + _ = _; omega
theorem deck_snoc (rs : List Int) (r : Int) : deckOf (rs ++ [r]) = deckOf rs ++ suitsL.map fun s => (r, s) := by
  unfold deckOf
  rw [List.flatMap_append]; simp
theorem deck_count (r : Int) (rs : List Int) : ((deckOf rs).map (·.1)).count r = 4 * rs.count r := by
  unfold deckOf
  induction rs with
  | nil => rfl
  | cons q rs ih =>
    rw [List.flatMap_cons, List.map_append, List.count_append, ih, List.count_cons]
    have : (suitsL.map fun s => (q, s)).map (·.1) = [q, q, q, q] := rfl
    rw [this]
    by_cases e : q = r
    · subst e; simp; omega
    · have : (q == r) = false := by simpa using e
      simp [List.count_cons, this]
theorem rs_count {rs : List Int} (h : rs ∈ deckRs) (r : Int) : rs.count r ≤ 1 := by
  have nd : rs.Nodup := by
    have : ∀ rs ∈ deckRs, rs.Nodup := by decide
    exact this rs h
  exact List.nodup_iff_count.mp nd r
theorem Deck.count {cs : List Card} (d : Deck cs) (r : Int) : (cs.map (·.1)).count r ≤ 4 := by
  obtain ⟨rs, hrs, rest, p⟩ := d
  have h1 := (p.map (·.1)).count_eq r
  rw [List.map_append, List.count_append, deck_count] at h1
  have := rs_count hrs r
  omega
theorem Deck.range {cs : List Card} (d : Deck cs) : ∀ c ∈ cs, 2 ≤ c.1 ∧ c.1 ≤ 14 ∧ c.2 ∈ suitsL := by
  obtain ⟨rs, hrs, rest, p⟩ := d
  intro c hc
  have hm := p.mem_iff.mp (List.mem_append_left rest hc)
  unfold deckOf at hm
  obtain ⟨r, hr, h2⟩ := List.mem_flatMap.mp hm
  obtain ⟨s, hs, rfl⟩ := List.mem_map.mp h2
  have : ∀ rs ∈ deckRs, ∀ r ∈ rs, 2 ≤ r ∧ r ≤ 14 := by decide
  exact ⟨(this rs hrs r hr).1, (this rs hrs r hr).2, hs⟩
theorem Deck.nodup {cs : List Card} (d : Deck cs) : cs.Nodup := by
  obtain ⟨rs, hrs, rest, p⟩ := d
  have : ∀ rs ∈ deckRs, (deckOf rs).Nodup := by decide
  exact (List.nodup_append.mp (p.nodup_iff.mpr (this rs hrs))).1
section
variable {fns : Nat → Option FnD} {h : Hi} {k t q : Nat} {cf : Calls}
theorem items_suits : itemsOf (.str ("cdhs" : Str)) = some (suitsL.map .str) := by rfl
abbrev envC (ns : List Int) (t : Nat) (m : Int) (v3 v4 v5 v6 v7 v8 : Option Val) : Ev := [some (.p (.list (ns.map .int))), some (.ref t), some (.p (.int m)), v3, v4, v5, v6, v7, v8, none]
theorem loop51a {ns : List Int} {m : Int} {v3 v4 v6 v8 : Option Val} (ht : t < h.length) : ∀ (rs done : List Int) (v7 : Option Val), done.length + rs.length < 100 →
    ∃ w7, forL (evalSs cf ls51_3) (bindT (.name 7)) (rs.map .int) (envC ns t m v3 v4 (some (.ref h.length)) v6 v7 v8) (hT (h ++ [.lst ((deckOf done).map cardD)]) t k) =
      .ok .nx (envC ns t m v3 v4 (some (.ref h.length)) v6 w7 v8) (hT (h ++ [.lst ((deckOf (done ++ rs)).map cardD)]) t k)
  | [], done, v7, _ => ⟨v7, by rw [List.append_nil]; rfl⟩
  | r :: rs, done, v7, hl => by
    rw [List.length_cons] at hl
    obtain ⟨w7, e⟩ := loop51a (ns := ns) (m := m) (v3 := v3) (v4 := v4) (v6 := v6) (v8 := v8) ht rs (done ++ [r]) (some (.p (.int r))) (by simp; omega)
    refine ⟨w7, ?_⟩
    rw [List.append_assoc, List.singleton_append] at e
    rw [List.map_cons]
    unfold forL
    have eb : bindT (.name 7) (.int r) (envC ns t m v3 v4 (some (.ref h.length)) v6 v7 v8) = some (envC ns t m v3 v4 (some (.ref h.length)) v6 (some (.p (.int r))) v8) := by
      simp only [bt_name, setSlot_0, setSlot_s]
    rw [eb]
    have c1 : evalE cf (envC ns t m v3 v4 (some (.ref h.length)) v6 (some (.p (.int r))) v8) (.comp [9] (.name 9) (.e (.lit (.str ("cdhs" : Str)))) [] (.tup [(.var 7), (.var 9)])) (hT (h ++ [.lst ((deckOf done).map cardD)]) t k) = .ok (.p (.list ((suitsL.map fun s => (r, s)).map cardD))) (hT (h ++ [.lst ((deckOf done).map cardD)]) t k) := by
      rw [List.map_map]
      refine comp_all PyData.str _ (by simp only [es_e, ev_lit, R.bind_ok, unP_p, items_suits, ofO_some]) (by decide) fun s hs => ⟨[some (.p (.list (ns.map .int))), some (.ref t), some (.p (.int m)), v3, v4, some (.ref h.length), v6, some (.p (.int r)), v8, some (.p (.str s))], by simp, by simp [cardD]⟩
    have sz : ((deckOf done).map cardD).length + ((suitsL.map fun s => (r, s)).map cardD).length ≤ sizeLine := by
      rw [List.length_map, List.length_map, List.length_map, deck_len]
      exact sz_ok (by show 4 * done.length + 4 ≤ 1000; omega)
    have st : evalSs cf ls51_3 (envC ns t m v3 v4 (some (.ref h.length)) v6 (some (.p (.int r))) v8) (hT (h ++ [.lst ((deckOf done).map cardD)]) t k) = .ok .nx (envC ns t m v3 v4 (some (.ref h.length)) v6 (some (.p (.int r))) v8) (hT (h ++ [.lst ((deckOf (done ++ [r])).map cardD)]) t k) := by
      have ex : extH (envC ns t m v3 v4 (some (.ref h.length)) v6 (some (.p (.int r))) v8) (.var 5) (.list ((suitsL.map fun s => (r, s)).map cardD)) (hT (h ++ [.lst ((deckOf done).map cardD)]) t k) = some (hT (h ++ [.lst ((deckOf (done ++ [r])).map cardD)]) t k) := by
        unfold extH
        simp only [listD, Option.bind_some, getL_var, slot_0, slot_s, refOf_r, one_a ht]
        rw [if_pos sz]
        unfold storeL
        simp only [slotRef_eq, slot_0, slot_s, refOf_r, Option.map_some, one_sa ht, deck_snoc, List.map_append]
      unfold ls51_3 s51_3_0
      simp only [ss_cons, ss_nil, st_ext, getL_var, slot_0, slot_s, refOf_r, Option.bind_some, one_a ht, c1, R.bind_ok, unP_p, R.toS_ok, ex, ofH_some, RS.bind_nx]
    simp only [st]
    exact e
theorem loop51b {ns : List Int} {m : Int} {v3 v4 v7 : Option Val} {deck : List Card} (F13 : fns 13 = some d13) (ht : t < h.length) (hd : deck.length < 1000) : ∀ (items : List PyData) (k : Nat) (left got : List Card) (v8 : Option Val), items.length < left.length → k + items.length < 1000000 → (got ++ left).Perm deck → got.length + items.length < 900 →
    ∃ (left' got' : List Card) (w8 : Option Val), (got' ++ left').Perm deck ∧ got'.length = got.length + items.length ∧ forL (evalSs (callF fns (q + 1)) ls51_4) (bindT (.name 8)) items (envC ns t m v3 v4 (some (.ref h.length)) (some (.p (.tuple (got.map cardD)))) v7 v8) (hT (h ++ [.lst (left.map cardD)]) t k) =
      .ok .nx (envC ns t m v3 v4 (some (.ref h.length)) (some (.p (.tuple (got'.map cardD)))) v7 w8) (hT (h ++ [.lst (left'.map cardD)]) t (k + items.length))
  | [], k, left, got, v8, _, _, p, _ => ⟨left, got, v8, p, rfl, rfl⟩
  | x :: items, k, left, got, v8, hl, hk, p, hg => by
    rw [List.length_cons] at hl hk hg
    have pl := p.length_eq
    rw [List.length_append] at pl
    obtain ⟨v, v0, v1, ev⟩ := draw_eval (q := q) (h := h ++ [.lst (left.map cardD)]) (t := t) (k := k) F13 ns (by simp; omega) (by omega) (m := (left.length : Int)) (by omega)
    obtain ⟨j, rfl⟩ := Int.eq_ofNat_of_zero_le v0
    have hj : j < left.length := by omega
    have ep := er_perm left j hj
    have el : (left.eraseIdx j).length = left.length - 1 := List.length_eraseIdx_of_lt hj
    obtain ⟨left', got', w8, p', l', e⟩ := loop51b (ns := ns) (m := m) (v3 := v3) (v4 := v4) (v7 := v7) F13 ht hd items (k + 1) (left.eraseIdx j) (got ++ [left[j]]) (some (.p x)) (by omega) (by omega) (by
      refine List.Perm.trans ?_ p
      rw [List.append_assoc, List.singleton_append]
      exact ep.append_left got) (by simp; omega)
    refine ⟨left', got', w8, p', by rw [l']; simp; omega, ?_⟩
    unfold forL
    have eb : bindT (.name 8) x (envC ns t m v3 v4 (some (.ref h.length)) (some (.p (.tuple (got.map cardD)))) v7 v8) = some (envC ns t m v3 v4 (some (.ref h.length)) (some (.p (.tuple (got.map cardD)))) v7 (some (.p x))) := by
      simp only [bt_name, setSlot_0, setSlot_s]
    rw [eb]
    have ix : ixN (left.map cardD).length ((j : Nat) : Int) = some j := ixN_nat (by rw [List.length_map]; exact hj)
    have gx : (left.map cardD)[j]? = some (cardD left[j]) := by rw [List.getElem?_map, List.getElem?_eq_getElem hj]; rfl
    have er := er_map cardD left j
    have sm : ((j : Nat) : Int).natAbs < 9223372036854775808 := by omega
    have ln : ((left.map cardD).length : Int) = (left.length : Int) := by rw [List.length_map]
    generalize left[j] = c at *
    generalize left.eraseIdx j = l2 at *
    have pp : popK (envC ns t m v3 v4 (some (.ref h.length)) (some (.p (.tuple (got.map cardD)))) v7 (some (.p x))) 5 (.int ((j : Nat) : Int)) (hT (h ++ [.lst (left.map cardD)]) t (k + 1)) = .ok (.p (cardD c)) (hT (h ++ [.lst (l2.map cardD)]) t (k + 1)) := by
      unfold popK
      simp only [lstOf_eq, slot_0, slot_s, refOf_r, Option.bind_some, one_a ht, Option.map_some, ix, gx, if_pos sm, er, one_sa ht]
    have ad : opf2 .add (.tuple (got.map cardD)) (.tuple [cardD c]) = some (.tuple ((got ++ [c]).map cardD)) := by
      rw [addT_ok (by simp; omega), List.map_append]; rfl
    have st : evalSs (callF fns (q + 1)) ls51_4 (envC ns t m v3 v4 (some (.ref h.length)) (some (.p (.tuple (got.map cardD)))) v7 (some (.p x))) (hT (h ++ [.lst (left.map cardD)]) t k) = .ok .nx (envC ns t m v3 v4 (some (.ref h.length)) (some (.p (.tuple ((got ++ [c]).map cardD)))) v7 (some (.p x))) (hT (h ++ [.lst (l2.map cardD)]) t (k + 1)) := by
      generalize callF fns (q + 1) = cf at ev
      unfold ls51_4 s51_4_0
      simp only [ss_cons, ss_nil, st_set, ev_op2d, ev_var, slot_0, slot_s, ofO_some, R.bind_ok, unP_p, ev_tup, eps_cons, eps_nil, ev_pop, lstOf_eq, refOf_r, Option.bind_some, one_a ht, Option.map_some, ev_call, ees_cons, ees_nil, ev_op1, bor_var, borV_r, o_lenL, ln, ev, pp, ad, R.toS_ok, setSlot_0, setSlot_s, RS.bind_nx]
    simp only [st]
    rw [List.length_cons, show k + (items.length + 1) = k + 1 + items.length by omega]
    exact e
theorem cards_evalG {i : Nat} (F : HasD fns) (F51 : fns i = some d51) (ns : List Int) {m : Nat} (hm : m ≤ 15) (ht : t < h.length) (hk : k + 100 < 1000000) :
    ∃ cs : List Card, cs.length = m ∧ Deck cs ∧ callF fns (q + 3) i [.p (.list (ns.map .int)), .ref t, .p (.int m)] (hT h t k) = .ok (.p (.tuple (cs.map cardD))) (hT h t (k + 1 + m)) := by
  rw [call_eq F51 rfl]
  let rows : List PyData := deckRs.map intsT
  obtain ⟨x, hx, ep⟩ := pick_eval (fns := fns) (q := q) (h := h) (t := t) (k := k) F ns (xs := rows) ht (by omega) (by simp [rows, deckRs])
  obtain ⟨rs, hrs, rfl⟩ := List.mem_map.mp hx
  have rl : 4 ≤ rs.length ∧ rs.length ≤ 13 := by
    have : ∀ rs ∈ deckRs, 4 ≤ rs.length ∧ rs.length ≤ 13 := by decide
    exact this rs hrs
  let X := fun v3 v4 v5 v6 v7 v8 => envC ns t m v3 v4 v5 v6 v7 v8
  obtain ⟨w7, e3⟩ := loop51a (cf := callF fns (q + 2)) (h := h) (k := k + 1) (ns := ns) (m := m) (v3 := some (.p (intsT every))) (v4 := some (.p (intsT rs))) (v6 := some (.p (.tuple []))) (v8 := none) ht rs [] none (by simp; omega)
  rw [List.nil_append] at e3
  obtain ⟨left', got', w8, p', l', e4⟩ := loop51b (fns := fns) (q := q + 1) (h := h) (ns := ns) (m := m) (v3 := some (.p (intsT every))) (v4 := some (.p (intsT rs))) (v7 := w7) (deck := deckOf rs) F.f13 ht (by rw [deck_len]; omega) ((List.range m).map natD) (k + 1) (deckOf rs) [] none (by rw [deck_len]; simp; omega) (by simp; omega) (List.Perm.refl _) (by simp; omega)
  rw [List.length_map, List.length_range] at l' e4
  change forL (evalSs (callF fns (q + 2)) ls51_4) _ _ _ _ = _ at e4
  generalize callF fns (q + 2) = cf at ep e3 e4
  have t0 : evalS cf s51_0 (X none none none none none none) (hT h t k) = .ok .nx (X (some (.p (intsT every))) none none none none none) (hT h t k) := by
    unfold s51_0
    simp only [st_set, ev_tup, eps_cons, eps_nil, ev_lit, R.bind_ok, unP_p, R.toS_ok, X, setSlot_0, setSlot_s]
    rfl
  have t1 : evalS cf s51_1 (X (some (.p (intsT every))) none none none none none) (hT h t k) = .ok .nx (X (some (.p (intsT every))) (some (.p (intsT rs))) none none none none) (hT h t (k + 1)) := by
    unfold s51_1
    simp only [st_set, ev_call, ees_cons, ees_nil, ev_var, X, slot_0, slot_s, ofO_some, R.bind_ok, ev_lst, eps_cons, eps_nil, unP_p, ev_tup, ev_lit]
    have ep' : cf 14 [.p (.list (ns.map .int)), .ref t, .p (.list [intsT every, intsT every, .tuple [.int 2, .int 3, .int 4, .int 5, .int 14], .tuple [.int 9, .int 10, .int 11, .int 12, .int 13], .tuple [.int 6, .int 7, .int 8, .int 9]])] (hT h t k) = .ok (.p (intsT rs)) (hT h t (k + 1)) := ep
    rw [ep', R.toS_ok]
    simp only [setSlot_0, setSlot_s]
  have t2 : evalS cf s51_2 (X (some (.p (intsT every))) (some (.p (intsT rs))) none none none none) (hT h t (k + 1)) = .ok .nx (X (some (.p (intsT every))) (some (.p (intsT rs))) (some (.ref h.length)) (some (.p (.tuple []))) none none) (hT (h ++ [.lst ((deckOf []).map cardD)]) t (k + 1)) := by
    unfold s51_2
    simp only [st_set2, ev_mk, ev_lst, eps_nil, R.bind_ok, unP_p, mkK, R.toS_ok, hT_len, hT_app ht, ev_tup, X, setSlot_0, setSlot_s]
    rfl
  have t3 : evalS cf s51_3 (X (some (.p (intsT every))) (some (.p (intsT rs))) (some (.ref h.length)) (some (.p (.tuple []))) none none) (hT (h ++ [.lst ((deckOf []).map cardD)]) t (k + 1)) = .ok .nx (X (some (.p (intsT every))) (some (.p (intsT rs))) (some (.ref h.length)) (some (.p (.tuple []))) w7 none) (hT (h ++ [.lst ((deckOf rs).map cardD)]) t (k + 1)) := by
    unfold s51_3
    simp only [st_for, es_e, ev_var, X, slot_0, slot_s, ofO_some, R.bind_ok, unP_p, intsT, items_T, R.toS_ok]
    exact e3
  have t4 : evalS cf s51_4 (X (some (.p (intsT every))) (some (.p (intsT rs))) (some (.ref h.length)) (some (.p (.tuple []))) w7 none) (hT (h ++ [.lst ((deckOf rs).map cardD)]) t (k + 1)) = .ok .nx (X (some (.p (intsT every))) (some (.p (intsT rs))) (some (.ref h.length)) (some (.p (.tuple (got'.map cardD)))) w7 w8) (hT (h ++ [.lst (left'.map cardD)]) t (k + 1 + m)) := by
    unfold s51_4
    rw [st_for, src_nat (j := m) (by simp [X]) (by omega), R.toS_ok]
    exact e4
  refine ⟨got', by simpa using l', ⟨rs, hrs, left', p'⟩, ?_⟩
  show finF (hT h t k).length (evalSs cf b51 (X none none none none none none) (hT h t k)) = _
  rw [b51_eq]
  unfold ls51
  rw [ss_cons, t0, RS.bind_nx, ss_cons, t1, RS.bind_nx, ss_cons, t2, RS.bind_nx, ss_cons, t3, RS.bind_nx, ss_cons, t4, RS.bind_nx, ss_cons]
  simp only [s51_5, st_ret, ev_var, X, slot_0, slot_s, ofO_some, R.toS_ok, RS.bind_rt, fin_rp, hT_len, hT_cut ht]
theorem cards_eval (F : HasD fns) (F51 : fns 51 = some d51) (ns : List Int) {m : Nat} (hm : m ≤ 9) (ht : t < h.length) (hk : k + 100 < 1000000) :
    ∃ cs : List Card, cs.length = m ∧ Deck cs ∧ callF fns (q + 3) 51 [.p (.list (ns.map .int)), .ref t, .p (.int m)] (hT h t k) = .ok (.p (.tuple (cs.map cardD))) (hT h t (k + 1 + m)) := cards_evalG F F51 ns (by omega) ht hk
end
end Cd
set_option Elab.async false
set_option linter.all false
set_option maxRecDepth 100000
set_option maxHeartbeats 4000000
namespace Cd
open PySem L2
/-! ### how often each rank is met -/
structure Often (done : List Int) (l : List (Int × Int)) : Prop where
  val : ∀ p ∈ l, p.2 = (done.count p.1 : Int) ∧ 0 < p.2
  sum : (l.map (·.2)).sum = done.length
  keys : ∀ x, x ∈ done ↔ x ∈ l.map (·.1)
  nd : (l.map (·.1)).Nodup
theorem bump_keys (r : Int) : ∀ l : List (Int × Int), (bump r l).map (·.1) = if r ∈ l.map (·.1) then l.map (·.1) else l.map (·.1) ++ [r]
  | [] => rfl
  | (q, c) :: t => by
    unfold bump
    by_cases e : q = r
    · subst e; simp
    · rw [if_neg e, List.map_cons, List.map_cons, bump_keys r t]
      have : r ∈ q :: t.map (·.1) ↔ r ∈ t.map (·.1) := by
        rw [List.mem_cons]
        exact ⟨fun h => h.resolve_left fun z => e z.symm, .inr⟩
      by_cases c : r ∈ t.map (·.1)
      · rw [if_pos c, if_pos (this.mpr c)]
      · rw [if_neg c, if_neg (fun z => c (this.mp z))]; rfl
theorem bump_sum (r : Int) : ∀ l : List (Int × Int), ((bump r l).map (·.2)).sum = (l.map (·.2)).sum + 1
  | [] => rfl
  | (q, c) :: t => by
    unfold bump
    by_cases e : q = r
    · rw [if_pos e, List.map_cons, List.map_cons, List.sum_cons, List.sum_cons]; omega
    · rw [if_neg e, List.map_cons, List.map_cons, List.sum_cons, List.sum_cons, bump_sum r t]; omega
theorem bump_mem (r : Int) : ∀ (l : List (Int × Int)), (l.map (·.1)).Nodup → ∀ p ∈ bump r l, (p ∈ l ∧ p.1 ≠ r) ∨ (p.1 = r ∧ (((r, p.2 - 1) ∈ l) ∨ (r ∉ l.map (·.1) ∧ p.2 = 1)))
  | [], _, p, h => by
    rw [List.mem_singleton.mp h]
    exact .inr ⟨rfl, .inr ⟨by simp, rfl⟩⟩
  | (q, c) :: t, nd, p, h => by
    obtain ⟨n1, n2⟩ := List.nodup_cons.mp nd
    unfold bump at h
    by_cases e : q = r
    · subst e
      rw [if_pos rfl] at h
      rcases List.mem_cons.mp h with rfl | h
      · refine .inr ⟨rfl, .inl ?_⟩
        have : c + 1 - 1 = c := by omega
        rw [this]; exact List.mem_cons_self
      · refine .inl ⟨List.mem_cons_of_mem _ h, fun z => n1 ?_⟩
        rw [← z]; exact List.mem_map.mpr ⟨p, h, rfl⟩
    · rw [if_neg e] at h
      rcases List.mem_cons.mp h with rfl | h
      · exact .inl ⟨List.mem_cons_self, e⟩
      · rcases bump_mem r t n2 p h with ⟨h1, h2⟩ | ⟨h1, h2 | ⟨h2, h3⟩⟩
        · exact .inl ⟨List.mem_cons_of_mem _ h1, h2⟩
        · exact .inr ⟨h1, .inl (List.mem_cons_of_mem _ h2)⟩
        · refine .inr ⟨h1, .inr ⟨?_, h3⟩⟩
          rw [List.map_cons, List.mem_cons]
          rintro (z | z)
          · exact e z.symm
          · exact h2 z
theorem Often.snoc {done : List Int} {l : List (Int × Int)} (o : Often done l) (r : Int) : Often (done ++ [r]) (bump r l) := by
  refine ⟨fun p hp => ?_, by rw [bump_sum, o.sum, List.length_append]; rfl, fun x => ?_, ?_⟩
  · rw [List.count_append]
    rcases bump_mem r l o.nd p hp with ⟨h1, h2⟩ | ⟨h1, h2 | ⟨h2, h3⟩⟩
    · have := o.val p h1
      have z : [r].count p.1 = 0 := List.count_eq_zero.mpr (by simpa using h2)
      rw [z]; exact this
    · have := o.val _ h2
      simp only at this
      rw [h1, List.count_singleton_self]
      constructor <;> omega
    · rw [h1, List.count_singleton_self, h3]
      have : done.count r = 0 := List.count_eq_zero.mpr (fun z => h2 ((o.keys r).mp z))
      rw [this]
      exact ⟨rfl, by decide⟩
  · rw [bump_keys, List.mem_append, List.mem_singleton, o.keys x]
    by_cases c : r ∈ l.map (·.1)
    · rw [if_pos c]
      constructor
      · rintro (h | rfl)
        · exact h
        · exact c
      · exact .inl
    · rw [if_neg c, List.mem_append, List.mem_singleton]
  · rw [bump_keys]
    by_cases c : r ∈ l.map (·.1)
    · rw [if_pos c]; exact o.nd
    · rw [if_neg c]
      exact List.nodup_append.mpr ⟨o.nd, by simp, fun a ha b hb => by rw [List.mem_singleton.mp hb]; rintro rfl; exact c ha⟩
theorem often_ok (rs : List Int) : Often rs (oftenM rs) := by
  have : ∀ (rs done : List Int) (l : List (Int × Int)), Often done l → Often (done ++ rs) (rs.foldl (fun l r => bump r l) l) := fun rs => by
    induction rs with
    | nil => intro done l o; rw [List.append_nil]; exact o
    | cons r rs ih =>
      intro done l o
      have := ih (done ++ [r]) (bump r l) (o.snoc r)
      rw [List.append_assoc, List.singleton_append] at this
      exact this
  have z := this rs [] [] ⟨(fun p hp => by cases hp), rfl, (fun x => by simp), List.Pairwise.nil⟩
  rw [List.nil_append] at z
  exact z
/-! ### the shape -/
theorem sortP_permX (l : List (Int × Int)) : (sortP l).Perm l := by
  have hi : ∀ (x : Int × Int) (l : List (Int × Int)), (insP x l).Perm (x :: l) := fun x l => by
    induction l with
    | nil => exact .refl _
    | cons y r ih =>
      unfold insP
      split
      · exact .refl _
      · exact (ih.cons y).trans (.swap _ _ _)
  induction l with
  | nil => exact .refl _
  | cons x r ih => exact (hi x _).trans (ih.cons x)
theorem rows_perm (five : List Card) : (rowsM five).Perm ((oftenM (five.map (·.1))).map fun p => (p.2, p.1)) := (List.reverse_perm _).trans (sortP_permX _)
theorem leP_fst {p q : Int × Int} (h : leP p q = true) : p.1 ≤ q.1 := by
  unfold leP at h
  simp at h
  omega
theorem sortP_sortedX (l : List (Int × Int)) : (sortP l).Pairwise fun p q => leP p q = true := by
  have hi : ∀ (x : Int × Int) (l : List (Int × Int)), l.Pairwise (fun p q => leP p q = true) → (insP x l).Pairwise fun p q => leP p q = true := fun x l => by
    induction l with
    | nil => intro _; exact List.pairwise_singleton _ _
    | cons y r ih =>
      intro h
      obtain ⟨h1, h2⟩ := List.pairwise_cons.mp h
      have tr : ∀ {a b c : Int × Int}, leP a b = true → leP b c = true → leP a c = true := fun {a b c} x y => by
        unfold leP at *
        simp at *
        omega
      have tot : ∀ {a b : Int × Int}, ¬ leP a b = true → leP b a = true := fun {a b} x => by
        unfold leP at *
        simp at *
        omega
      unfold insP
      split
      · rename_i c
        refine List.pairwise_cons.mpr ⟨fun z hz => ?_, h⟩
        rcases List.mem_cons.mp hz with rfl | hz
        · exact c
        · exact tr c (h1 z hz)
      · rename_i c
        refine List.pairwise_cons.mpr ⟨fun z hz => ?_, ih h2⟩
        have pm : ∀ (x : Int × Int) (l : List (Int × Int)), z ∈ insP x l → z = x ∨ z ∈ l := fun x l => by
          induction l with
          | nil => intro h; exact .inl (List.mem_singleton.mp h)
          | cons y r ih =>
            intro h
            unfold insP at h
            split at h
            · exact List.mem_cons.mp h
            · rcases List.mem_cons.mp h with h | h
              · exact .inr (h ▸ List.mem_cons_self)
              · exact (ih h).imp id (List.mem_cons_of_mem _)
        rcases pm x r hz with rfl | hz
        · exact tot c
        · exact h1 z hz
  induction l with
  | nil => exact .nil
  | cons x r ih => exact hi x _ ih
theorem shape_desc (five : List Card) : (shapeM five).Pairwise (· ≥ ·) := by
  unfold shapeM rowsM
  rw [List.pairwise_map, List.pairwise_reverse]
  exact (sortP_sortedX _).imp fun h => leP_fst h
theorem isum_perm {xs ys : List Int} (h : xs.Perm ys) : xs.sum = ys.sum := by
  induction h with
  | nil => rfl
  | cons x _ ih => rw [List.sum_cons, List.sum_cons, ih]
  | swap x y l => simp only [List.sum_cons]; omega
  | trans _ _ h1 h2 => exact h1.trans h2
theorem shape_sum (five : List Card) : (shapeM five).sum = five.length := by
  have h := isum_perm ((rows_perm five).map (·.1))
  unfold shapeM
  rw [h, List.map_map]
  have := (often_ok (five.map (·.1))).sum
  rw [List.length_map] at this
  exact this
theorem shape_mem {five : List Card} (hc : ∀ r, (five.map (·.1)).count r ≤ 4) : ∀ c ∈ shapeM five, 1 ≤ c ∧ c ≤ 4 := fun c h => by
  obtain ⟨p, hp, rfl⟩ := List.mem_map.mp h
  obtain ⟨q, hq, rfl⟩ := List.mem_map.mp ((rows_perm five).mem_iff.mp hp)
  have := (often_ok (five.map (·.1))).val q hq
  have := hc q.1
  simp only
  omega
theorem shape_ok {five : List Card} (h5 : five.length = 5) (hc : ∀ r, (five.map (·.1)).count r ≤ 4) : (ranksM five).length < 5 → (shapes.lookup (shapeM five)).isSome := by
  intro hl
  have e : (ranksM five).length = (shapeM five).length := by unfold ranksM shapeM; rw [List.length_map, List.length_map]
  rw [e] at hl
  have h1 := shape_desc five
  have h2 := shape_sum five
  have h3 := shape_mem hc
  rw [h5] at h2
  generalize shapeM five = sh at hl h1 h2 h3
  match sh, hl, h1, h2, h3 with
  | [], _, _, h2, _ => simp at h2
  | [a], _, _, h2, h3 =>
    have := h3 a (by simp)
    simp at h2
    omega
  | [a, b], _, h1, h2, h3 =>
    have a1 := h3 a (by simp)
    have b1 := h3 b (by simp)
    simp at h1 h2
    have : (a = 4 ∧ b = 1) ∨ (a = 3 ∧ b = 2) := by omega
    rcases this with ⟨rfl, rfl⟩ | ⟨rfl, rfl⟩ <;> decide
  | [a, b, c], _, h1, h2, h3 =>
    have a1 := h3 a (by simp)
    have b1 := h3 b (by simp)
    have c1 := h3 c (by simp)
    simp at h1 h2
    have : (a = 3 ∧ b = 1 ∧ c = 1) ∨ (a = 2 ∧ b = 2 ∧ c = 1) := by omega
    rcases this with ⟨rfl, rfl, rfl⟩ | ⟨rfl, rfl, rfl⟩ <;> decide
  | [a, b, c, d], _, h1, h2, h3 =>
    have a1 := h3 a (by simp)
    have b1 := h3 b (by simp)
    have c1 := h3 c (by simp)
    have d1 := h3 d (by simp)
    simp at h1 h2
    have : a = 2 ∧ b = 1 ∧ c = 1 ∧ d = 1 := by omega
    obtain ⟨rfl, rfl, rfl, rfl⟩ := this
    decide
  | a :: b :: c :: d :: e :: f, hl, _, _, _ => simp at hl; omega
theorem ranks_mem {five : List Card} {r : Int} (h : r ∈ ranksM five) : r ∈ five.map (·.1) := by
  obtain ⟨p, hp, rfl⟩ := List.mem_map.mp h
  obtain ⟨q, hq, rfl⟩ := List.mem_map.mp ((rows_perm five).mem_iff.mp hp)
  exact ((often_ok _).keys q.1).mpr (List.mem_map.mpr ⟨q, hq, rfl⟩)
/-- a rank as it may be: a kind, and what counts -/
structure RkOk (r : Int × List Int) : Prop where
  lo : 0 ≤ r.1
  hi : r.1 ≤ 8
  few : r.2.length ≤ 5
  rng : ∀ x ∈ r.2, 2 ≤ x ∧ x ≤ 14
  one : r.1 = 8 → ∃ t, r.2 = [t]
theorem top_mem {rs : List Int} (h : 0 < topM rs) : topM rs = 5 ∨ topM rs ∈ rs := by
  unfold topM at h ⊢
  by_cases c : rs = [14, 5, 4, 3, 2]
  · rw [if_pos c]; exact .inl rfl
  · rw [if_neg c] at h ⊢
    by_cases c2 : rs = (List.range 5).map fun k : Nat => rs.headD 0 - k
    · rw [if_pos c2] at h ⊢
      right
      cases rs with
      | nil => simp at h
      | cons a r => exact List.mem_cons_self
    · rw [if_neg c2] at h; omega
/-- cards of which there is one at most, or four of one rank -/
def Fit (cs : List Card) : Prop := (∀ r, (cs.map (·.1)).count r ≤ 4) ∧ ∀ c ∈ cs, 2 ≤ c.1 ∧ c.1 ≤ 14
theorem Deck.fit {cs : List Card} (d : Deck cs) : Fit cs := ⟨d.count, fun c hc => ⟨(d.range c hc).1, (d.range c hc).2.1⟩⟩
theorem rank_okF {five : List Card} (h5 : five.length = 5) (d : Fit five) : RkOk (rankM five) := by
  have rg : ∀ x ∈ ranksM five, 2 ≤ x ∧ x ≤ 14 := fun x hx => by
    obtain ⟨c, hc, rfl⟩ := List.mem_map.mp (ranks_mem hx)
    exact d.2 c hc
  have rl : (ranksM five).length ≤ 5 := by
    have := rows_len five
    unfold ranksM
    rw [List.length_map]; omega
  have tp : 0 < topM (ranksM five) → 2 ≤ topM (ranksM five) ∧ topM (ranksM five) ≤ 14 := fun h => by
    rcases top_mem h with e | e
    · omega
    · exact rg _ e
  unfold rankM
  by_cases c : (ranksM five).length < 5
  · rw [if_pos c]
    obtain ⟨x, hx⟩ := Option.isSome_iff_exists.mp (shape_ok h5 d.1 c)
    have : x ∈ shapes.map (·.2) := by
      have : ∀ (l : List (List Int × Int)) ks i, l.lookup ks = some i → i ∈ l.map (·.2) := fun l => by
        induction l with
        | nil => intro ks i e; cases e
        | cons p l ih =>
          intro ks i e
          rw [List.lookup_cons] at e
          split at e
          · cases e; exact List.mem_cons_self
          · exact List.mem_cons_of_mem _ (ih ks i e)
      exact this _ _ _ hx
    rw [hx, Option.getD_some]
    have hx2 : x = 1 ∨ x = 2 ∨ x = 3 ∨ x = 6 ∨ x = 7 := by simpa [shapes] using this
    exact ⟨by show 0 ≤ x; omega, by show x ≤ 8; omega, rl, rg, fun z => by have : x = 8 := z; omega⟩
  · rw [if_neg c]
    by_cases c1 : (decide (0 < topM (ranksM five)) && alikeM five) = true
    · rw [if_pos c1]
      have t0 : 0 < topM (ranksM five) := of_decide_eq_true (Bool.and_eq_true_iff.mp c1).1
      exact ⟨by show (0 : Int) ≤ 8; decide, by show (8 : Int) ≤ 8; decide, by simp, fun x hx => by rw [List.mem_singleton.mp hx]; exact tp t0, fun _ => ⟨_, rfl⟩⟩
    · rw [if_neg c1]
      by_cases c2 : alikeM five = true
      · rw [if_pos c2]
        exact ⟨by show (0 : Int) ≤ 5; decide, by show (5 : Int) ≤ 8; decide, rl, rg, fun z => absurd (show (5 : Int) = 8 from z) (by decide)⟩
      · rw [if_neg c2]
        by_cases c3 : 0 < topM (ranksM five)
        · rw [if_pos c3]
          exact ⟨by show (0 : Int) ≤ 4; decide, by show (4 : Int) ≤ 8; decide, by simp, fun x hx => by rw [List.mem_singleton.mp hx]; exact tp c3, fun z => absurd (show (4 : Int) = 8 from z) (by decide)⟩
        · rw [if_neg c3]
          exact ⟨by show (0 : Int) ≤ 0; decide, by show (0 : Int) ≤ 8; decide, rl, rg, fun z => absurd (show (0 : Int) = 8 from z) (by decide)⟩
theorem rank_ok {five : List Card} (h5 : five.length = 5) (d : Deck five) : RkOk (rankM five) := rank_okF h5 d.fit
/-! ### ranks in order -/
def ltI : List Int → List Int → Bool
  | [], [] => false
  | [], _ :: _ => true
  | _ :: _, [] => false
  | x :: xs, y :: ys => if x = y then ltI xs ys else decide (x < y)
def ltR (a b : Int × List Int) : Bool := if a.1 = b.1 then ltI a.2 b.2 else decide (a.1 < b.1)
theorem alike_ints : ∀ xs ys : List Int, PySem.W.alikeAll (xs.map .int) (ys.map .int) = true
  | [], _ => by simp [PySem.W.alikeAll]
  | _ :: _, [] => by simp [PySem.W.alikeAll]
  | x :: xs, y :: ys => by
    simp only [List.map_cons, PySem.W.alikeAll, PySem.W.alike, alike_ints xs ys, Bool.and_true]
theorem alike_rank (a b : Int × List Int) : PySem.W.alike (rankD a) (rankD b) = true := by
  simp only [rankD, PySem.W.alike, PySem.W.alikeAll, alike_ints, Bool.and_true]
theorem lt_ints : ∀ xs ys : List Int, PySem.W.dataLt (.tuple (xs.map .int)) (.tuple (ys.map .int)) = ltI xs ys
  | [], [] => by rw [PySem.W.dataLt_tuple]; rfl
  | [], _ :: _ => by rw [PySem.W.dataLt_tuple]; rfl
  | _ :: _, [] => by rw [PySem.W.dataLt_tuple]; rfl
  | x :: xs, y :: ys => by
    rw [PySem.W.dataLt_tuple, List.map_cons, List.map_cons]
    unfold ltI
    by_cases c : x = y
    · rw [if_pos c, PySem.W.dataLt_all_yes (by simp [PySem.W.alike]) (by rw [eqv_int]; exact decide_eq_true c), ← PySem.W.dataLt_tuple, lt_ints xs ys]
    · rw [if_neg c, PySem.W.dataLt_all_no (by simp [PySem.W.alike]) (by rw [eqv_int]; exact decide_eq_false c), PySem.W.dataLt_int]
theorem lt_rank (a b : Int × List Int) : PySem.W.dataLt (rankD a) (rankD b) = ltR a b := by
  unfold rankD ltR
  rw [PySem.W.dataLt_tuple]
  by_cases c : a.1 = b.1
  · rw [if_pos c, PySem.W.dataLt_all_yes (by simp [PySem.W.alike]) (by rw [eqv_int]; exact decide_eq_true c)]
    by_cases c2 : a.2 = b.2
    · rw [PySem.W.dataLt_all_yes (by simp only [PySem.W.alike, alike_ints]) (by simp only [PyData.eqv, eqv_ints]; exact decide_eq_true c2), c2]
      have : ∀ xs : List Int, ltI xs xs = false := fun xs => by
        induction xs with
        | nil => rfl
        | cons x xs ih => unfold ltI; rw [if_pos rfl]; exact ih
      rw [this]; rfl
    · rw [PySem.W.dataLt_all_no (by simp only [PySem.W.alike, alike_ints]) (by simp only [PyData.eqv, eqv_ints]; exact decide_eq_false c2), lt_ints]
  · rw [if_neg c, PySem.W.dataLt_all_no (by simp [PySem.W.alike]) (by rw [eqv_int]; exact decide_eq_false c), PySem.W.dataLt_int]
def maxR : List (Int × List Int) → Int × List Int
  | [] => (0, [])
  | r :: rs => rs.foldl (fun a y => if ltR a y then y else a) r
theorem maxR_mem {rs : List (Int × List Int)} (h : rs ≠ []) : maxR rs ∈ rs := by
  cases rs with
  | nil => exact absurd rfl h
  | cons r rs =>
    have : ∀ (l : List (Int × List Int)) (a : Int × List Int), l.foldl (fun a y => if ltR a y then y else a) a = a ∨ l.foldl (fun a y => if ltR a y then y else a) a ∈ l := fun l => by
      induction l with
      | nil => intro a; exact .inl rfl
      | cons y l ih =>
        intro a
        rw [List.foldl_cons]
        rcases ih (if ltR a y then y else a) with e | e
        · rw [e]
          split
          · exact .inr List.mem_cons_self
          · exact .inl rfl
        · exact .inr (List.mem_cons_of_mem _ e)
    rcases this rs r with e | e
    · show List.foldl _ _ _ ∈ _
      rw [e]; exact List.mem_cons_self
    · exact List.mem_cons_of_mem _ e
/-- the greatest there is -/
def topR : Int × List Int := (8, [14])
theorem topR_ok : RkOk topR := ⟨by decide, by decide, by decide, by decide, fun _ => ⟨14, rfl⟩⟩
theorem top_ge {r : Int × List Int} (h : RkOk r) : ltR topR r = false ∧ (r ≠ topR → ltR r topR = true) := by
  obtain ⟨k, rs⟩ := r
  have hi : k ≤ 8 := h.hi
  by_cases c : k = 8
  · subst c
    obtain ⟨t, e⟩ := h.one rfl
    have e' : rs = [t] := e
    subst e'
    have ht : t ≤ 14 := (h.rng t (by simp)).2
    by_cases c2 : t = 14
    · subst c2
      exact ⟨rfl, fun z => absurd rfl z⟩
    · refine ⟨?_, fun _ => ?_⟩
      · show (if (8 : Int) = 8 then ltI [14] [t] else _) = false
        rw [if_pos rfl]
        show (if (14 : Int) = t then _ else decide ((14 : Int) < t)) = false
        rw [if_neg (fun z => c2 z.symm)]
        exact decide_eq_false (by omega)
      · show (if (8 : Int) = 8 then ltI [t] [14] else _) = true
        rw [if_pos rfl]
        show (if t = 14 then _ else decide (t < 14)) = true
        rw [if_neg c2]
        exact decide_eq_true (by omega)
  · refine ⟨?_, fun _ => ?_⟩
    · show (if (8 : Int) = k then _ else decide ((8 : Int) < k)) = false
      rw [if_neg (fun z => c z.symm)]
      exact decide_eq_false (by omega)
    · show (if k = 8 then _ else decide (k < 8)) = true
      rw [if_neg c]
      exact decide_eq_true (by omega)
theorem maxR_top {rs : List (Int × List Int)} (ok : ∀ r ∈ rs, RkOk r) (h : topR ∈ rs) : maxR rs = topR := by
  have stay : ∀ (l : List (Int × List Int)), (∀ r ∈ l, RkOk r) → l.foldl (fun a y => if ltR a y then y else a) topR = topR := fun l => by
    induction l with
    | nil => intro _; rfl
    | cons y l ih =>
      intro hk
      rw [List.foldl_cons, (top_ge (hk y List.mem_cons_self)).1, if_neg (by decide)]
      exact ih fun r hr => hk r (List.mem_cons_of_mem _ hr)
  have go : ∀ (l : List (Int × List Int)) (a : Int × List Int), RkOk a → (∀ r ∈ l, RkOk r) → topR ∈ l → l.foldl (fun a y => if ltR a y then y else a) a = topR := fun l => by
    induction l with
    | nil => intro a _ _ h; cases h
    | cons y l ih =>
      intro a ha hk ht
      rw [List.foldl_cons]
      have hk' : ∀ r ∈ l, RkOk r := fun r hr => hk r (List.mem_cons_of_mem _ hr)
      by_cases c : y = topR
      · subst c
        by_cases c2 : a = topR
        · subst c2
          rw [(top_ge topR_ok).1, if_neg (by decide)]
          exact stay l hk'
        · rw [(top_ge ha).2 c2, if_pos rfl]
          exact stay l hk'
      · have ht' : topR ∈ l := (List.mem_cons.mp ht).resolve_left (fun z => c z.symm)
        split
        · exact ih y (hk y List.mem_cons_self) hk' ht'
        · exact ih a ha hk' ht'
  cases rs with
  | nil => cases h
  | cons r rs =>
    have hk' : ∀ x ∈ rs, RkOk x := fun x hx => ok x (List.mem_cons_of_mem _ hx)
    show rs.foldl _ r = topR
    by_cases c : r = topR
    · subst c; exact stay rs hk'
    · exact go rs r (ok r List.mem_cons_self) hk' ((List.mem_cons.mp h).resolve_left (fun z => c z.symm))
theorem depth_rank (r : Int × List Int) : PyData.depth (rankD r) = 2 := by
  show max 0 (max (PyData.depthAll (r.2.map .int) + 1) 0) + 1 = 2
  rw [depth_ints]; rfl
theorem depth_ranks : ∀ rs : List (Int × List Int), PyData.depthAll (rs.map rankD) ≤ 2
  | [] => by show 0 ≤ 2; omega
  | r :: rs => by
    show max (PyData.depth (rankD r)) (PyData.depthAll (rs.map rankD)) ≤ 2
    rw [depth_rank]
    have := depth_ranks rs
    omega
theorem maxOk_ranks (rs : List (Int × List Int)) : maxOk (rs.map rankD) = true := by
  unfold maxOk
  have d := depth_ranks rs
  simp only [Bool.and_eq_true, List.all_eq_true, decide_eq_true_eq]
  refine ⟨⟨fun a ha b hb => ?_, fun a ha => ?_⟩, by omega⟩
  · obtain ⟨x, _, rfl⟩ := List.mem_map.mp ha
    obtain ⟨y, _, rfl⟩ := List.mem_map.mp hb
    exact alike_rank x y
  · obtain ⟨x, _, rfl⟩ := List.mem_map.mp ha
    rfl
theorem o_maxR {rs : List (Int × List Int)} (h : rs ≠ []) : opf1 .max (.list (rs.map rankD)) = some (rankD (maxR rs)) := by
  cases rs with
  | nil => exact absurd rfl h
  | cons r rs =>
    have ok := maxOk_ranks (r :: rs)
    rw [List.map_cons] at ok ⊢
    show (if maxOk (rankD r :: rs.map rankD) then some (PySem.W.maxD (rankD r) (rs.map rankD)) else none) = _
    rw [if_pos ok]
    congr 1
    show (rs.map rankD).foldl _ (rankD r) = rankD (rs.foldl _ r)
    have : ∀ (l : List (Int × List Int)) (a : Int × List Int), (l.map rankD).foldl (fun a y => if PySem.W.dataLt a y then y else a) (rankD a) = rankD (l.foldl (fun a y => if ltR a y then y else a) a) := fun l => by
      induction l with
      | nil => intro a; rfl
      | cons y l ih =>
        intro a
        rw [List.map_cons, List.foldl_cons, List.foldl_cons, ← ih, lt_rank]
        by_cases c : ltR a y = true
        · rw [if_pos c, if_pos c]
        · rw [if_neg c, if_neg c]
    exact this rs r
theorem eqv_rank (a b : Int × List Int) : PyData.eqv (rankD a) (rankD b) = decide (a = b) := by
  simp only [rankD, PyData.eqv, PyData.eqvAll, eqv_ints, Bool.and_true]
  have e : (a.1 == b.1) = decide (a.1 = b.1) := by
    by_cases c : a.1 = b.1
    · rw [decide_eq_true c, c]; simp
    · rw [decide_eq_false c]; simpa using c
  rw [e, ← Bool.decide_and]
  exact decide_eq_decide.mpr ⟨fun h => Prod.ext h.1 h.2, fun h => by rw [h]; exact ⟨rfl, rfl⟩⟩
theorem rank_shaped {r : Int × List Int} (h : r.2.length < 1000) : SeqAt.shaped (rankD r) = true := by
  refine (shaped_seq (ds := [.int r.1, .tuple (r.2.map .int)]) (by simp) ?_ ?_).1
  · have z := size1000
    simp only [PyData.canLay0, PyData.canLayAll0, lay_mapI, List.length_map, Bool.and_true, Bool.true_and, decide_eq_true_eq]
    first | omega | skip
  · have := depth_rank r
    show max 0 (max (PyData.depthAll (r.2.map .int) + 1) 0) ≤ 60
    rw [depth_ints]; decide
theorem o_eqRank {a b : Int × List Int} (ha : a.2.length < 1000) (hb : b.2.length < 1000) : opf2 .eq (rankD a) (rankD b) = some (.bool (decide (a = b))) := by
  show (eqD _ _).map PyData.bool = _
  unfold eqD
  rw [if_neg (by simp [scalD, rankD]), if_pos (by rw [rank_shaped ha, rank_shaped hb]; rfl), Option.map_some, eqv_rank]
end Cd
set_option Elab.async false
set_option linter.all false
set_option maxRecDepth 100000
set_option maxHeartbeats 4000000
namespace Cd
open PySem L2
/-- bets of two to six seats, somebody stays -/
structure Bu (bs : List Int) (gs : List Bool) : Prop where
  len : bs.length = gs.length
  two : 2 ≤ gs.length
  six : gs.length ≤ 6
  nn : ∀ b ∈ bs, 0 ≤ b
  ne : seatsM gs ≠ []
section
variable {bs : List Int} {gs : List Bool} {seats : List Nat} {last top : Int}
theorem Bu.hi (B : Bu bs gs) : ∀ i ∈ seatsM gs, i < bs.length := fun i h => by rw [B.len]; exact seats_lt h
theorem Bu.sum (B : Bu bs gs) : ((potsM bs gs).map (·.1)).sum = bs.sum := pots_sum B.nn B.hi B.ne
theorem potsL_pos : ∀ (ls : List Int) (a : Int), ∀ r ∈ potsL top bs seats a ls, 0 < r.1
  | [], _, r, h => by cases h
  | l :: ls, a, r, h => by
    rw [potsL.eq_2] at h
    rcases List.mem_append.mp h with h | h
    · by_cases p : 0 < (if l = top then restM bs a else manyM bs a l)
      · simp only [if_pos p] at h
        rw [List.mem_singleton.mp h]
        exact p
      · simp only [if_neg p] at h
        cases h
    · exact potsL_pos ls l r h
theorem sum_pos_nil {rows : List (Int × List Nat)} (h : ∀ r ∈ rows, 0 < r.1) (z : (rows.map (·.1)).sum = 0) : rows = [] := by
  cases rows with
  | nil => rfl
  | cons r rs =>
    exfalso
    rw [List.map_cons, List.sum_cons] at z
    have h1 := h r List.mem_cons_self
    have : 0 ≤ (rs.map (·.1)).sum := sum_nonneg fun x hx => by
      obtain ⟨y, hy, rfl⟩ := List.mem_map.mp hx
      have := h y (List.mem_cons_of_mem _ hy); omega
    omega
theorem Bu.nil_iff (B : Bu bs gs) : potsM bs gs = [] ↔ bs.sum = 0 := by
  constructor
  · intro z
    rw [← B.sum, z]; rfl
  · intro z
    exact sum_pos_nil (fun r hr => potsL_pos _ _ r hr) (by rw [B.sum]; exact z)
theorem sum_zeros (m : Nat) : (List.replicate m (0 : Int)).sum = 0 := by
  induction m with
  | zero => rfl
  | succ m ih => rw [List.replicate_succ, List.sum_cons, ih]; rfl
theorem Bu.zero (B : Bu bs gs) : potsM (List.replicate gs.length 0) gs = [] := by
  have B' : Bu (List.replicate gs.length 0) gs := ⟨by simp, B.two, B.six, fun b hb => by rw [(List.mem_replicate.mp hb).2]; omega, B.ne⟩
  exact B'.nil_iff.mpr (sum_zeros _)
/-! ### seats in another order -/
theorem perm_sum {xs ys : List Int} (h : xs.Perm ys) : xs.sum = ys.sum := by
  induction h with
  | nil => rfl
  | cons x _ ih => rw [List.sum_cons, List.sum_cons, ih]
  | swap x y l => simp only [List.sum_cons]; omega
  | trans _ _ h1 h2 => exact h1.trans h2
variable {p : List Nat}
def bsP (bs : List Int) (p : List Nat) : List Int := p.map fun i => bs.getD i 0
def gsP (gs : List Bool) (p : List Nat) : List Bool := p.map fun i => gs.getD i false
theorem bs_range : (List.range bs.length).map (fun i => bs.getD i 0) = bs := by
  refine List.ext_getElem (by simp) fun i h1 h2 => ?_
  simp [h2]
theorem bsP_perm (hp : p.Perm (List.range bs.length)) : (bsP bs p).Perm bs := by
  have := hp.map fun i => bs.getD i 0
  rw [bs_range] at this
  exact this
theorem p_range : (List.range p.length).map (fun j => p.getD j 0) = p := by
  refine List.ext_getElem (by simp) fun i h1 h2 => ?_
  simp [h2]
theorem gsP_gd {j : Nat} (h : j < p.length) : (gsP gs p).getD j false = gs.getD (p.getD j 0) false := by
  unfold gsP; simp [h]
theorem bsP_gd {j : Nat} (h : j < p.length) : (bsP bs p).getD j 0 = bs.getD (p.getD j 0) 0 := by
  unfold bsP; simp [h]
theorem seatsP (l : Int) : (((seatsM (gsP gs p)).filter (ge (bsP bs p) l)).map fun j => p.getD j 0) = p.filter fun i => !gs.getD i false && ge bs l i := by
  have e : (seatsM (gsP gs p)).filter (ge (bsP bs p) l) = (List.range p.length).filter ((fun i => !gs.getD i false && ge bs l i) ∘ fun j => p.getD j 0) := by
    unfold seatsM
    rw [List.filter_filter, show (gsP gs p).length = p.length by unfold gsP; rw [List.length_map]]
    refine List.filter_congr fun j hj => ?_
    have hj' := List.mem_range.mp hj
    rw [gsP_gd hj']
    show (ge (bsP bs p) l j && _) = (_ && ge bs l (p.getD j 0))
    unfold ge
    rw [bsP_gd hj', Bool.and_comm]
  rw [e, ← List.filter_map, p_range]
theorem seatsQ (l : Int) : (seatsM gs).filter (ge bs l) = (List.range gs.length).filter fun i => !gs.getD i false && ge bs l i := by
  unfold seatsM
  rw [List.filter_filter]
  exact List.filter_congr fun i _ => Bool.and_comm _ _
theorem seats_sorted (hp : p.Perm (List.range gs.length)) (l : Int) : sortI (((seatsM (gsP gs p)).filter (ge (bsP bs p) l)).map fun j : Nat => ((p.getD j 0 : Nat) : Int)) = ((seatsM gs).filter (ge bs l)).map fun i : Nat => (i : Int) := by
  have e : (((seatsM (gsP gs p)).filter (ge (bsP bs p) l)).map fun j : Nat => ((p.getD j 0 : Nat) : Int)) = (p.filter fun i => !gs.getD i false && ge bs l i).map fun i : Nat => (i : Int) := by
    rw [← seatsP, List.map_map]; rfl
  rw [e, seatsQ]
  refine sorted_uniq ((sortI_perm _).trans ((hp.filter _).map _)) (sortI_sorted _) ?_
  rw [List.pairwise_map]
  refine List.Pairwise.imp ?_ (List.pairwise_lt_range.filter _)
  intro a b h
  omega
theorem lev_perm (hl : bs.length = gs.length) (hp : p.Perm (List.range gs.length)) : levelsM (bsP bs p) (gsP gs p) = levelsM bs gs := by
  refine lt_uniq lev_lt lev_lt fun z => ?_
  rw [lev_mem, lev_mem]
  have lp : p.length = gs.length := by rw [hp.length_eq, List.length_range]
  have lg : (gsP gs p).length = p.length := by unfold gsP; rw [List.length_map]
  constructor
  · rintro ⟨j, hj, e⟩
    obtain ⟨h1, h2⟩ := List.mem_filter.mp hj
    have hj' : j < p.length := by have := List.mem_range.mp h1; omega
    rw [gsP_gd hj'] at h2
    rw [bsP_gd hj'] at e
    have hm : p.getD j 0 ∈ p := by simp [hj']
    exact ⟨p.getD j 0, List.mem_filter.mpr ⟨hp.mem_iff.mp hm, h2⟩, e⟩
  · rintro ⟨i, hi, e⟩
    obtain ⟨h1, h2⟩ := List.mem_filter.mp hi
    obtain ⟨j, hj', e2⟩ := List.getElem_of_mem (hp.mem_iff.mpr h1)
    have e3 : p.getD j 0 = i := by simp [hj', e2]
    refine ⟨j, List.mem_filter.mpr ⟨List.mem_range.mpr (by omega), ?_⟩, ?_⟩
    · rw [gsP_gd hj', e3]; exact h2
    · rw [bsP_gd hj', e3]; exact e
theorem potsL_perm (hl : bs.length = gs.length) (hp : p.Perm (List.range gs.length)) : ∀ (ls : List Int) (a : Int),
    (potsL top (bsP bs p) (seatsM (gsP gs p)) a ls).map (fun r => (r.1, sortI (r.2.map fun j : Nat => ((p.getD j 0 : Nat) : Int)))) = (potsL top bs (seatsM gs) a ls).map fun r => (r.1, r.2.map fun i : Nat => (i : Int))
  | [], _ => rfl
  | l :: ls, a => by
    have bp := bsP_perm (bs := bs) (p := p) (by rw [hl]; exact hp)
    have m : (if l = top then restM (bsP bs p) a else manyM (bsP bs p) a l) = (if l = top then restM bs a else manyM bs a l) := by
      by_cases c : l = top
      · rw [if_pos c, if_pos c]; exact perm_sum (bp.map _)
      · rw [if_neg c, if_neg c]; exact perm_sum (bp.map _)
    rw [potsL.eq_2, potsL.eq_2, List.map_append, List.map_append, potsL_perm hl hp ls l]
    congr 1
    simp only [m]
    by_cases c : 0 < (if l = top then restM bs a else manyM bs a l)
    · rw [if_pos c, if_pos c, List.map_cons, List.map_cons, List.map_nil, List.map_nil, seats_sorted hp]
    · rw [if_neg c, if_neg c]; rfl
theorem pots_perm (B : Bu bs gs) (hp : p.Perm (List.range gs.length)) : (potsM (bsP bs p) (gsP gs p)).map (fun r => (r.1, sortI (r.2.map fun j : Nat => ((p.getD j 0 : Nat) : Int)))) = (potsM bs gs).map fun r => (r.1, r.2.map fun i : Nat => (i : Int)) := by
  unfold potsM
  rw [lev_perm B.len hp]
  exact potsL_perm B.len hp _ _
theorem Bu.perm (B : Bu bs gs) (hp : p.Perm (List.range gs.length)) : Bu (bsP bs p) (gsP gs p) := by
  have lp : p.length = gs.length := by rw [hp.length_eq, List.length_range]
  refine ⟨by unfold bsP gsP; simp, by unfold gsP; rw [List.length_map, lp]; exact B.two, by unfold gsP; rw [List.length_map, lp]; exact B.six, fun b hb => ?_, ?_⟩
  · exact B.nn b ((bsP_perm (by rw [B.len]; exact hp)).mem_iff.mp hb)
  · obtain ⟨i, hi⟩ := List.exists_mem_of_ne_nil _ B.ne
    obtain ⟨h1, h2⟩ := List.mem_filter.mp hi
    obtain ⟨j, hj', e2⟩ := List.getElem_of_mem (hp.mem_iff.mpr h1)
    have e3 : p.getD j 0 = i := by simp [hj', e2]
    exact List.ne_nil_of_mem (a := j) (List.mem_filter.mpr ⟨List.mem_range.mpr (by unfold gsP; rw [List.length_map]; exact hj'), by rw [gsP_gd hj', e3]; exact h2⟩)
/-! ### layers -/
theorem Bu.P (B : Bu bs gs) (hp : posL (levelsM bs gs) ≠ []) : potsM bs gs = potsP ((posL (levelsM bs gs)).getLast?.getD 0) bs (seatsM gs) 0 (posL (levelsM bs gs)) := potsM_P B.nn B.hi hp
/-- the levels beyond a -/
structure Lv (bs : List Int) (seats : List Nat) (top a : Int) (ls : List Int) : Prop where
  lt : ls.Pairwise (· < ·)
  gt : ∀ l ∈ ls, a < l
  all : ∀ i ∈ seats, a < bs.getD i 0 → bs.getD i 0 ∈ ls
  has : ∀ l ∈ ls, ∃ i ∈ seats, bs.getD i 0 = l
  last : ls ≠ [] → ls.getLast? = some top
theorem Lv.tail {a l : Int} {ls : List Int} (L : Lv bs seats top a (l :: ls)) : Lv bs seats top l ls := by
  obtain ⟨h1, h2⟩ := List.pairwise_cons.mp L.lt
  refine ⟨h2, h1, fun i hi hl => ?_, fun x hx => L.has x (List.mem_cons_of_mem _ hx), fun hne => ?_⟩
  · have := L.gt l List.mem_cons_self
    rcases List.mem_cons.mp (L.all i hi (by omega)) with h | h
    · omega
    · exact h
  · have := L.last (by simp)
    cases ls with
    | nil => exact absurd rfl hne
    | cons y r => rw [List.getLast?_cons_cons] at this; exact this
theorem Lv.next {a l : Int} {ls : List Int} (L : Lv bs seats top a (l :: ls)) : (seats.filter fun i => decide (a < bs.getD i 0)) = seats.filter (ge bs l) := by
  obtain ⟨h1, h2⟩ := List.pairwise_cons.mp L.lt
  have h3 := L.gt l List.mem_cons_self
  refine List.filter_congr fun i hi => decide_eq_decide.mpr ⟨fun h => ?_, fun h => by omega⟩
  rcases List.mem_cons.mp (L.all i hi h) with e | e
  · omega
  · have := h1 _ e; omega
theorem Lv.some {a l : Int} {ls : List Int} (L : Lv bs seats top a (l :: ls)) : ∃ i ∈ seats.filter (ge bs l), bs.getD i 0 = l := by
  obtain ⟨i, h1, h2⟩ := L.has l List.mem_cons_self
  exact ⟨i, List.mem_filter.mpr ⟨h1, by unfold ge; rw [h2]; simp⟩, h2⟩
theorem Lv.min {a l : Int} {ls : List Int} (L : Lv bs seats top a (l :: ls)) : (lvM bs (seats.filter (ge bs l))) ≠ [] ∧ minI (lvM bs (seats.filter (ge bs l))) = l := by
  obtain ⟨i, h1, h2⟩ := L.some
  have m : l ∈ lvM bs (seats.filter (ge bs l)) := List.mem_map.mpr ⟨i, h1, h2⟩
  have ne := List.ne_nil_of_mem m
  have m1 := minI_le m
  obtain ⟨j, h3, h4⟩ := List.mem_map.mp (minI_mem ne)
  have h5 : l ≤ bs.getD j 0 := of_decide_eq_true (List.mem_filter.mp h3).2
  have h6 : bs.getD j 0 = minI (lvM bs (seats.filter (ge bs l))) := h4
  exact ⟨ne, by omega⟩
theorem Lv.lastOne {a l : Int} (L : Lv bs seats top a [l]) : l = top ∧ dedup (lvM bs (seats.filter (ge bs l))) = [l] := by
  have h1 := L.last (by simp)
  have e : l = top := by simpa using h1
  refine ⟨e, ?_⟩
  obtain ⟨i, h2, h3⟩ := L.some
  have m : l ∈ lvM bs (seats.filter (ge bs l)) := List.mem_map.mpr ⟨i, h2, h3⟩
  have all : ∀ x ∈ lvM bs (seats.filter (ge bs l)), x = l := fun x hx => by
    obtain ⟨j, h4, rfl⟩ := List.mem_map.mp hx
    obtain ⟨h5, h6⟩ := List.mem_filter.mp h4
    have h7 : l ≤ bs.getD j 0 := by simpa [ge] using h6
    have h8 := L.gt l List.mem_cons_self
    simpa using L.all j h5 (by omega)
  generalize lvM bs (seats.filter (ge bs l)) = xs at m all
  clear h1 h2 h3 i
  induction xs with
  | nil => cases m
  | cons x r ih =>
    have hx := all x List.mem_cons_self
    subst hx
    unfold dedup
    by_cases c : x ∈ r
    · rw [if_pos c]; exact ih c fun y hy => all y (List.mem_cons_of_mem _ hy)
    · rw [if_neg c]
      cases r with
      | nil => rfl
      | cons y r =>
        have := all y (List.mem_cons_of_mem _ List.mem_cons_self)
        exact absurd (by rw [this]; exact List.mem_cons_self) c
theorem Bu.Lv (B : Bu bs gs) (hp : posL (levelsM bs gs) ≠ []) : Lv bs (seatsM gs) ((posL (levelsM bs gs)).getLast?.getD 0) 0 (posL (levelsM bs gs)) := by
  obtain ⟨y, hy⟩ : ∃ y, (posL (levelsM bs gs)).getLast? = some y := ⟨_, List.getLast?_eq_some_getLast hp⟩
  exact ⟨posL_lt lev_lt, fun l hl => (posL_mem.mp hl).2, fun i hi h => posL_mem.mpr ⟨lev_mem.mpr ⟨i, hi, rfl⟩, h⟩, fun l hl => lev_mem.mp (posL_mem.mp hl).1, fun _ => by rw [hy]; rfl⟩
theorem sorted_self {xs : List Int} (h : xs.Pairwise (· < ·)) : sortI xs = xs := sorted_uniq (sortI_perm _) (sortI_sorted _) (h.imp fun z => by omega)
theorem seats_asc {f : Nat → Bool} : (((seatsM gs).filter f).map fun i : Nat => (i : Int)).Pairwise (· < ·) := by
  rw [List.pairwise_map]
  unfold seatsM
  rw [List.filter_filter]
  refine List.Pairwise.imp ?_ (List.pairwise_lt_range.filter _)
  intro a b h
  omega
theorem dL_max {a m : Int} (h : ∀ b ∈ bs, b ≤ m) : dL bs a m = dR bs a := by
  unfold dL dR
  refine List.map_congr_left fun b hb => ?_
  have := h b hb
  rw [if_neg (by omega)]
end
end Cd
set_option Elab.async false
set_option linter.all false
set_option maxRecDepth 100000
set_option maxHeartbeats 4000000
namespace Cd
open PySem L2
def s55_0 : S := .if_ (.val (.op2 .eq (.var 1) (.lit (.int 0)))) [.ret (.lst [(.tup [])])] []
def s55_1 : S := .set 2 (.mk (.lst []))
def s55_2_0_0 : S := .app (.var 2) (.op2d .add (.tup [(.op2b .ix (.var 0) (.var 3))]) (.var 4))
def ls55_2_0 : List S := [s55_2_0_0]
def s55_2_0 : S := .for_ (.name 4) (.e (.call 55 [(.op3b (.slice true false) (.var 0) (.op2d .addI (.var 3) (.lit (.int 1))) (.lit .none)), (.op2d .sub (.var 1) (.lit (.int 1)))])) ls55_2_0
def ls55_2 : List S := [s55_2_0]
def s55_2 : S := .for_ (.name 3) (.rng1 (.op2d .add (.op2d .sub (.op1 .len (.var 0)) (.var 1)) (.lit (.int 1)))) ls55_2
def s55_3 : S := .ret (.freeze 2)
def ls55 : List S := [s55_0, s55_1, s55_2, s55_3]
theorem b55_eq : b55 = ls55 := rfl
def s56_0 : S := .ret (.op1 .max (.comp [1] (.name 1) (.e (.call 55 [(.var 0), (.lit (.int 5))])) [] (.call 50 [(.var 1)])))
def ls56 : List S := [s56_0]
theorem b56_eq : b56 = ls56 := rfl
def s57_0 : S := .set 2 (.comp [3] (.name 3) (.e (.var 0)) [] (.call 56 [(.op2d .add (.var 3) (.var 1))]))
def s57_1 : S := .ret (.op1 .tuple (.comp [4, 5] (.tup [(.name 4), (.name 5)]) (.enum (.var 2)) [(.val (.op2 .eq (.var 5) (.op1 .max (.var 2))))] (.var 4)))
def ls57 : List S := [s57_0, s57_1]
theorem b57_eq : b57 = ls57 := rfl
def s58_0 : S := .set 3 (.call 56 [(.op2d .add (.var 0) (.var 1))])
def s58_1 : S := .ret (.op1 .tuple (.comp [4] (.name 4) (.e (.call 55 [(.var 2), (.lit (.int 2))])) [(.val (.op2 .gt (.call 56 [(.op2d .add (.var 4) (.var 1))]) (.var 3)))] (.var 4)))
def ls58 : List S := [s58_0, s58_1]
theorem b58_eq : b58 = ls58 := rfl
end Cd
set_option Elab.async false
set_option linter.all false
set_option maxRecDepth 100000
set_option maxHeartbeats 4000000
namespace Cd
open PySem L2
/-! ### choices -/
def chooseM {α : Type} : List α → Nat → List (List α)
  | _, 0 => [[]]
  | [], _ + 1 => []
  | x :: l, k + 1 => (chooseM l k).map (x :: ·) ++ chooseM l (k + 1)
theorem choose_few {α : Type} : ∀ (l : List α) (k : Nat), l.length < k → chooseM l k = []
  | [], 0, h => absurd h (by simp)
  | [], k + 1, _ => rfl
  | x :: l, 0, h => absurd h (by simp)
  | x :: l, k + 1, h => by
    rw [List.length_cons] at h
    show (chooseM l k).map _ ++ chooseM l (k + 1) = []
    rw [choose_few l k (by omega), choose_few l (k + 1) (by omega)]; rfl
theorem choose_len {α : Type} : ∀ (l : List α) (k : Nat), ∀ c ∈ chooseM l k, c.length = k
  | l, 0, c, h => by
    have e : chooseM l 0 = [[]] := by cases l <;> rfl
    rw [e] at h
    rw [List.mem_singleton.mp h]; rfl
  | [], k + 1, c, h => by cases h
  | x :: l, k + 1, c, h => by
    rcases List.mem_append.mp (show c ∈ (chooseM l k).map (x :: ·) ++ chooseM l (k + 1) from h) with h | h
    · obtain ⟨d, hd, rfl⟩ := List.mem_map.mp h
      rw [List.length_cons, choose_len l k d hd]
    · exact choose_len l (k + 1) c h
theorem choose_zero {α : Type} (l : List α) : chooseM l 0 = [[]] := by cases l <;> rfl
theorem choose_mem {α : Type} : ∀ (l : List α) (k : Nat) (c : List α), c ∈ chooseM l k ↔ c.Sublist l ∧ c.length = k
  | l, 0, c => by
    rw [choose_zero, List.mem_singleton]
    constructor
    · rintro rfl; exact ⟨List.nil_sublist _, rfl⟩
    · intro h; exact List.length_eq_zero_iff.mp h.2
  | [], k + 1, c => by
    constructor
    · intro h; cases h
    · intro h
      have h1 := h.1.length_le
      have h2 := h.2
      rw [List.length_nil] at h1
      omega
  | x :: l, k + 1, c => by
    show c ∈ (chooseM l k).map (x :: ·) ++ chooseM l (k + 1) ↔ _
    rw [List.mem_append, List.mem_map, choose_mem l (k + 1) c]
    constructor
    · rintro (⟨d, hd, rfl⟩ | ⟨h1, h2⟩)
      · have := (choose_mem l k d).mp hd
        exact ⟨this.1.cons_cons x, by rw [List.length_cons, this.2]⟩
      · exact ⟨h1.cons x, h2⟩
    · rintro ⟨h1, h2⟩
      cases h1 with
      | cons _ h => exact .inr ⟨h, h2⟩
      | cons_cons _ h => exact .inl ⟨_, (choose_mem l k _).mpr ⟨h, by simpa using h2⟩, rfl⟩
theorem choose_ne {α : Type} {l : List α} {k : Nat} (h : k ≤ l.length) : chooseM l k ≠ [] := by
  have : l.take k ∈ chooseM l k := (choose_mem _ _ _).mpr ⟨List.take_sublist _ _, by rw [List.length_take]; omega⟩
  intro e
  rw [e] at this
  cases this
theorem choose_size {α : Type} : ∀ (l : List α) (k : Nat), (chooseM l k).length ≤ 2 ^ l.length
  | l, 0 => by rw [choose_zero]; exact Nat.one_le_two_pow
  | [], k + 1 => Nat.zero_le _
  | x :: l, k + 1 => by
    show ((chooseM l k).map (x :: ·) ++ chooseM l (k + 1)).length ≤ _
    have h1 := choose_size l k
    have h2 := choose_size l (k + 1)
    rw [List.length_append, List.length_map, List.length_cons, Nat.pow_succ]
    omega
/-- those that begin with the first so many -/
def headM {α : Type} (l : List α) (k n : Nat) : List (List α) := match l[n]? with
  | some x => (chooseM (l.drop (n + 1)) k).map (x :: ·)
  | none => []
def headsM {α : Type} (l : List α) (k : Nat) : Nat → List (List α)
  | 0 => []
  | n + 1 => headsM l k n ++ headM l k n
theorem head_some {α : Type} {l : List α} {k n : Nat} (h : n < l.length) : headM l k n = (chooseM (l.drop (n + 1)) k).map (l[n] :: ·) := by
  unfold headM
  rw [List.getElem?_eq_getElem h]
theorem head_none {α : Type} {l : List α} {k n : Nat} (h : l.length ≤ n) : headM l k n = [] := by
  unfold headM
  rw [List.getElem?_eq_none h]
theorem heads_all {α : Type} (k : Nat) : ∀ (l : List α) (n : Nat), l.length ≤ n + k → headsM l k n = chooseM l (k + 1)
  | l, n => by
    have drop : ∀ (n : Nat) (l : List α), headsM l k n ++ chooseM (l.drop n) (k + 1) = chooseM l (k + 1) := fun n => by
      induction n with
      | zero => intro l; rfl
      | succ n ih =>
        intro l
        rw [← ih l]
        show (headsM l k n ++ _) ++ _ = _
        rw [List.append_assoc]
        congr 1
        by_cases c : n < l.length
        · rw [head_some c, List.drop_eq_getElem_cons c]; rfl
        · have c' : l.length ≤ n := Nat.le_of_not_lt c
          rw [head_none c', List.drop_eq_nil_of_le (show l.length ≤ n + 1 by omega), List.drop_eq_nil_of_le c']; rfl
    intro h
    have := drop n l
    rw [choose_few _ _ (by rw [List.length_drop]; omega), List.append_nil] at this
    exact this
def fivD (cs : List Card) : PyData := .tuple (cs.map cardD)
section
variable {fns : Nat → Option FnD} {h : Hi} {cf : Calls}
abbrev envCh (l : List Card) (k : Nat) (v2 v3 v4 : Option Val) : Ev := [some (.p (fivD l)), some (.p (.int (k : Int))), v2, v3, v4]
theorem loop55b {l : List Card} {k n : Nat} (hl : l.length < 100) (hn : n < l.length) : ∀ (rows done : List (List Card)) (v4 : Option Val), done.length + rows.length < 10000 → (∀ r ∈ rows, r.length < 100) →
    ∃ w4, forL (evalSs cf ls55_2_0) (bindT (.name 4)) (rows.map fivD) (envCh l k (some (.ref h.length)) (some (.p (natD n))) v4) (h ++ [.lst (done.map fivD)]) =
      .ok .nx (envCh l k (some (.ref h.length)) (some (.p (natD n))) w4) (h ++ [.lst ((done ++ rows.map (l[n] :: ·)).map fivD)])
  | [], done, v4, _, _ => ⟨v4, by simp [forL]⟩
  | r :: rows, done, v4, hz, hr => by
    rw [List.length_cons] at hz
    obtain ⟨w4, e⟩ := loop55b hl hn rows (done ++ [l[n] :: r]) (some (.p (fivD r))) (by simp; omega) (fun x hx => hr x (List.mem_cons_of_mem _ hx))
    refine ⟨w4, ?_⟩
    rw [List.map_cons]
    unfold forL
    have eb : bindT (.name 4) (fivD r) (envCh l k (some (.ref h.length)) (some (.p (natD n))) v4) = some (envCh l k (some (.ref h.length)) (some (.p (natD n))) (some (.p (fivD r)))) := by
      simp only [bt_name, setSlot_0, setSlot_s]
    rw [eb]
    have gx : atI (l.map cardD) ((n : Nat) : Int) = some (cardD l[n]) := by
      exact atI_nat (by rw [List.getElem?_map, List.getElem?_eq_getElem hn]; rfl)
    have ad : opf2 .add (.tuple [cardD l[n]]) (fivD r) = some (fivD (l[n] :: r)) := by
      have := hr r List.mem_cons_self
      unfold fivD
      rw [addT_ok (by simp; omega)]; rfl
    have sz : (done.map fivD).length < sizeLine := by
      rw [List.length_map]
      have := sizeLine_eq
      omega
    have st : evalSs cf ls55_2_0 (envCh l k (some (.ref h.length)) (some (.p (natD n))) (some (.p (fivD r)))) (h ++ [.lst (done.map fivD)]) = .ok .nx (envCh l k (some (.ref h.length)) (some (.p (natD n))) (some (.p (fivD r)))) (h ++ [.lst ((done ++ [l[n] :: r]).map fivD)]) := by
      unfold ls55_2_0 s55_2_0_0
      simp only [ss_cons, ss_nil, st_app, getL_var, slot_0, slot_s, refOf_r, Option.bind_some, listAt_app, ev_op2d, ev_tup, eps_cons, eps_nil, ev_op2b, bor_var, borV_p, fivD, ev_var, ofO_some, R.bind_ok, unP_p, o_ixT, natD, gx, Option.map_some]
      simp only [fivD] at ad sz
      simp only [ad, Option.map_some, ofO_some, R.bind_ok, unP_p, R.toS_ok, appH_var, getL_var, slot_0, slot_s, refOf_r, Option.bind_some, listAt_app, if_pos sz, set_app, ofH_some, RS.bind_nx, List.map_append, List.map_cons, List.map_nil]
      rfl
    simp only [st]
    rw [e, List.map_cons, List.append_assoc]; rfl
theorem loop55a {l : List Card} {k : Nat} (hl : l.length < 100) (hc : ∀ n, n + k < l.length → ∀ h : Hi, cf 55 [.p (fivD (l.drop (n + 1))), .p (.int (k : Int))] h = .ok (.p (.list ((chooseM (l.drop (n + 1)) k).map fivD))) h)
    (hs : ∀ n, (headsM l k n).length < 5000) (hk : ∀ n, (chooseM (l.drop (n + 1)) k).length < 5000) (hk2 : k < 100) : ∀ (m n : Nat) (v3 v4 : Option Val), n + m + k ≤ l.length →
    ∃ w3 w4, forL (evalSs cf ls55_2) (bindT (.name 3)) ((List.range' n m).map natD) (envCh l (k + 1) (some (.ref h.length)) v3 v4) (h ++ [.lst ((headsM l k n).map fivD)]) =
      .ok .nx (envCh l (k + 1) (some (.ref h.length)) w3 w4) (h ++ [.lst ((headsM l k (n + m)).map fivD)])
  | 0, n, v3, v4, _ => ⟨v3, v4, rfl⟩
  | m + 1, n, v3, v4, hm => by
    obtain ⟨u4, e4⟩ := loop55b (cf := cf) (h := h) (k := k + 1) hl (show n < l.length by omega) (chooseM (l.drop (n + 1)) k) (headsM l k n) v4 (by have := hs n; have := hk n; omega) (fun r hr => by rw [choose_len _ _ r hr]; exact hk2)
    obtain ⟨w3, w4, e⟩ := loop55a hl hc hs hk hk2 m (n + 1) (some (.p (natD n))) u4 (by omega)
    refine ⟨w3, w4, ?_⟩
    rw [List.range'_succ, List.map_cons]
    unfold forL
    have eb : bindT (.name 3) (natD n) (envCh l (k + 1) (some (.ref h.length)) v3 v4) = some (envCh l (k + 1) (some (.ref h.length)) (some (.p (natD n))) v4) := by
      simp only [bt_name, setSlot_0, setSlot_s]
    rw [eb]
    have sl : opf3 (.slice true false) (fivD l) (.int ((n : Int) + 1)) .none = some (fivD (l.drop (n + 1))) := by
      unfold fivD
      rw [slice_T (lo := some ((n + 1 : Nat) : Int)) (hi := none) rfl rfl, cut_hi _ _ (by omega)]
    have hcn := hc n (by omega) (h ++ [.lst ((headsM l k n).map fivD)])
    have hh : headsM l k (n + 1) = headsM l k n ++ (chooseM (l.drop (n + 1)) k).map (l[n] :: ·) := by
      show headsM l k n ++ headM l k n = _
      rw [head_some]
    have km : ((k + 1 : Nat) : Int) - 1 = (k : Int) := by omega
    have st : evalSs cf ls55_2 (envCh l (k + 1) (some (.ref h.length)) (some (.p (natD n))) v4) (h ++ [.lst ((headsM l k n).map fivD)]) = .ok .nx (envCh l (k + 1) (some (.ref h.length)) (some (.p (natD n))) u4) (h ++ [.lst ((headsM l k (n + 1)).map fivD)]) := by
      unfold ls55_2 s55_2_0
      simp only [ss_cons, ss_nil, st_for, es_e, ev_call, ees_cons, ees_nil, ev_op3b, bor_var, slot_0, slot_s, borV_p, ev_op2d, ev_var, natD, ofO_some, R.bind_ok, unP_p, ev_lit, o_addI, sl, Option.map_some, o_sub, km, hcn, items_L, R.toS_ok]
      simp only [natD] at e4
      rw [e4, hh]
      rfl
    simp only [st]
    rw [e, show n + 1 + m = n + (m + 1) by omega]
theorem choices_eval (F55 : fns 55 = some d55) : ∀ (k : Nat) (l : List Card) (q : Nat) (h : Hi), k < q → k ≤ l.length → l.length ≤ 9 →
    callF fns q 55 [.p (fivD l), .p (.int (k : Int))] h = .ok (.p (.list ((chooseM l k).map fivD))) h
  | k, l, 0, h, hq, _, _ => absurd hq (by omega)
  | 0, l, q + 1, h, hq, hk, hl => by
    rw [call_eq F55 rfl]
    show finF h.length (evalSs (callF fns q) b55 [some (.p (fivD l)), some (.p (.int ((0 : Nat) : Int))), none, none, none] h) = _
    rw [b55_eq, choose_zero]
    unfold ls55
    rw [ss_cons]
    simp only [s55_0, st_if, et_val, bor_op2, ev_op2, ev_var, slot_0, slot_s, ofO_some, R.bind_ok, unP_p, bor_lit, ev_lit, o_eqI, Option.map_some, Int.natCast_zero, decide_true, truth_b, R.toS_ok, if_true, ss_cons, st_ret, ev_lst, eps_cons, eps_nil, ev_tup, RS.bind_rt, fin_rp, List.take_length]
    rfl
  | k + 1, l, q + 1, h, hq, hk, hl => by
    rw [call_eq F55 rfl]
    have p2 : ∀ n, 2 ^ (l.drop n).length ≤ 512 := fun n => by
      have : (l.drop n).length ≤ 9 := by rw [List.length_drop]; omega
      exact Nat.le_trans (Nat.pow_le_pow_right (by decide) this) (by decide)
    have hs : ∀ n, (headsM l k n).length < 5000 := fun n => by
      have : ∀ n, (headsM l k n).length ≤ n * 512 := fun n => by
        induction n with
        | zero => simp [headsM]
        | succ n ih =>
          show (headsM l k n ++ headM l k n).length ≤ _
          rw [List.length_append]
          have h1 := choose_size (l.drop (n + 1)) k
          have h2 := p2 (n + 1)
          by_cases c : n < l.length
          · rw [head_some c, List.length_map]; omega
          · rw [head_none (Nat.le_of_not_lt c), List.length_nil]; omega
      have stop : ∀ n, 9 ≤ n → headsM l k n = headsM l k 9 := fun n => by
        induction n with
        | zero => intro h; omega
        | succ n ih =>
          intro h
          by_cases c : 9 ≤ n
          · rw [← ih c]
            show headsM l k n ++ headM l k n = _
            rw [head_none (by omega), List.append_nil]
          · have : n + 1 = 9 := by omega
            rw [this]
      by_cases c : 9 ≤ n
      · rw [stop n c]; have := this 9; omega
      · have := this n; omega
    have hkk : ∀ n, (chooseM (l.drop (n + 1)) k).length < 5000 := fun n => by
      have h1 := choose_size (l.drop (n + 1)) k
      have h2 := p2 (n + 1)
      omega
    obtain ⟨w3, w4, e2⟩ := loop55a (cf := callF fns q) (h := h) (l := l) (k := k) (by omega) (fun n hn h => choices_eval F55 k (l.drop (n + 1)) q h (by omega) (by rw [List.length_drop]; omega) (by rw [List.length_drop]; omega)) hs hkk (by omega) (l.length - k) 0 none none (by omega)
    rw [Nat.zero_add, heads_all k l (l.length - k) (by omega), ← List.range_eq_range'] at e2
    generalize callF fns q = cf at e2
    show finF h.length (evalSs cf b55 (envCh l (k + 1) none none none) h) = _
    rw [b55_eq]
    unfold ls55
    have ne : ¬ ((k + 1 : Nat) : Int) = 0 := by omega
    have t0 : evalS cf s55_0 (envCh l (k + 1) none none none) h = .ok .nx (envCh l (k + 1) none none none) h := by
      unfold s55_0
      simp only [st_if, et_val, bor_op2, ev_op2, ev_var, slot_0, slot_s, ofO_some, R.bind_ok, unP_p, bor_lit, ev_lit, o_eqI, Option.map_some, decide_eq_false ne, truth_b, R.toS_ok, Bool.false_eq_true, if_false, ss_nil]
    have t1 : evalS cf s55_1 (envCh l (k + 1) none none none) h = .ok .nx (envCh l (k + 1) (some (.ref h.length)) none none) (h ++ [.lst ((headsM l k 0).map fivD)]) := by
      unfold s55_1
      simp only [st_set, ev_mk, ev_lst, eps_nil, R.bind_ok, unP_p, mkK, R.toS_ok, setSlot_0, setSlot_s]
      rfl
    have cnt : ((l.length : Int) - ((k + 1 : Nat) : Int)) + 1 = ((l.length - k : Nat) : Int) := by omega
    have t2 : evalS cf s55_2 (envCh l (k + 1) (some (.ref h.length)) none none) (h ++ [.lst ((headsM l k 0).map fivD)]) = .ok .nx (envCh l (k + 1) (some (.ref h.length)) w3 w4) (h ++ [.lst ((chooseM l (k + 1)).map fivD)]) := by
      unfold s55_2
      have ln : opf1 .len (fivD l) = some (.int (l.length : Int)) := by show some (PyData.int ((l.map cardD).length : Int)) = _; rw [List.length_map]
      rw [st_for, src_nat (j := l.length - k) (by simp only [ev_op2d, ev_op1, bor_var, slot_0, slot_s, borV_p, ln, ev_var, ev_lit, ofO_some, R.bind_ok, unP_p, Option.map_some, o_sub, o_add, cnt]) (by omega), R.toS_ok]
      exact e2
    rw [ss_cons, t0, RS.bind_nx, ss_cons, t1, RS.bind_nx, ss_cons, t2, RS.bind_nx, ss_cons]
    have fz : freezeK (envCh l (k + 1) (some (.ref h.length)) w3 w4) 2 (h ++ [.lst ((chooseM l (k + 1)).map fivD)]) = .ok (.p (.list ((chooseM l (k + 1)).map fivD))) (h ++ [.dead]) := by
      unfold freezeK
      simp only [lstOf_eq, slot_0, slot_s, refOf_r, Option.bind_some, listAt_app, Option.map_some, set_app]
    show finF h.length ((evalS cf s55_3 _ _).bind _) = _
    unfold s55_3
    rw [st_ret]
    show finF h.length (((freezeK _ 2 _).toS _ _).bind _) = _
    rw [fz]
    simp only [R.toS_ok, RS.bind_rt, fin_rp, take_app]
end
end Cd
set_option Elab.async false
set_option linter.all false
set_option maxRecDepth 100000
set_option maxHeartbeats 4000000
namespace Cd
open PySem L2
/-! ### the best of some cards, who wins -/
theorem Fit.sub {cs ds : List Card} (f : Fit cs) (s : ds.Sublist cs) : Fit ds :=
  ⟨fun r => Nat.le_trans ((s.map (·.1)).count_le r) (f.1 r), fun c hc => f.2 c (s.subset hc)⟩
theorem Fit.perm {cs ds : List Card} (f : Fit cs) (p : ds.Perm cs) : Fit ds :=
  ⟨fun r => by rw [(p.map (·.1)).count_eq r]; exact f.1 r, fun c hc => f.2 c (p.mem_iff.mp hc)⟩
abbrev Rank := Int × List Int
theorem ltI_irr : ∀ xs : List Int, ltI xs xs = false
  | [] => rfl
  | x :: xs => by unfold ltI; rw [if_pos rfl]; exact ltI_irr xs
theorem ltI_tot : ∀ xs ys : List Int, ltI xs ys = true ∨ xs = ys ∨ ltI ys xs = true
  | [], [] => .inr (.inl rfl)
  | [], _ :: _ => .inl rfl
  | _ :: _, [] => .inr (.inr rfl)
  | x :: xs, y :: ys => by
    unfold ltI
    by_cases c : x = y
    · subst c
      rw [if_pos rfl, if_pos rfl]
      rcases ltI_tot xs ys with h | h | h
      · exact .inl h
      · subst h; exact .inr (.inl rfl)
      · exact .inr (.inr h)
    · rw [if_neg c, if_neg (fun z => c z.symm)]
      by_cases d : x < y
      · exact .inl (decide_eq_true d)
      · exact .inr (.inr (decide_eq_true (by omega)))
theorem ltI_tra : ∀ xs ys zs : List Int, ltI xs ys = true → ltI ys zs = true → ltI xs zs = true
  | [], [], _, h, _ => by cases h
  | [], _ :: _, [], _, h => by cases h
  | [], _ :: _, _ :: _, _, _ => rfl
  | _ :: _, [], _, h, _ => by cases h
  | _ :: _, _ :: _, [], _, h => by cases h
  | x :: xs, y :: ys, z :: zs, h1, h2 => by
    unfold ltI at h1 h2 ⊢
    by_cases c : x = y
    · subst c
      rw [if_pos rfl] at h1
      by_cases d : x = z
      · subst d
        rw [if_pos rfl] at h2 ⊢
        exact ltI_tra xs ys zs h1 h2
      · rw [if_neg d] at h2 ⊢
        exact h2
    · rw [if_neg c] at h1
      have h1 := of_decide_eq_true h1
      by_cases d : y = z
      · subst d
        rw [if_neg c]
        exact decide_eq_true h1
      · rw [if_neg d] at h2
        have h2 := of_decide_eq_true h2
        rw [if_neg (by omega)]
        exact decide_eq_true (by omega)
theorem ltR_irr (a : Rank) : ltR a a = false := by unfold ltR; rw [if_pos rfl]; exact ltI_irr _
theorem ltR_tot (a b : Rank) : ltR a b = true ∨ a = b ∨ ltR b a = true := by
  obtain ⟨i, xs⟩ := a
  obtain ⟨j, ys⟩ := b
  unfold ltR
  by_cases c : i = j
  · subst c
    rw [if_pos rfl, if_pos rfl]
    rcases ltI_tot xs ys with h | h | h
    · exact .inl h
    · subst h; exact .inr (.inl rfl)
    · exact .inr (.inr h)
  · rw [if_neg c, if_neg (fun z => c z.symm)]
    by_cases d : i < j
    · exact .inl (decide_eq_true d)
    · exact .inr (.inr (decide_eq_true (show j < i by omega)))
theorem ltR_tra {a b c : Rank} (h1 : ltR a b = true) (h2 : ltR b c = true) : ltR a c = true := by
  obtain ⟨i, xs⟩ := a
  obtain ⟨j, ys⟩ := b
  obtain ⟨k, zs⟩ := c
  unfold ltR at h1 h2 ⊢
  simp only at h1 h2 ⊢
  by_cases c1 : i = j
  · subst c1
    rw [if_pos rfl] at h1
    by_cases c2 : i = k
    · subst c2
      rw [if_pos rfl] at h2 ⊢
      exact ltI_tra _ _ _ h1 h2
    · rw [if_neg c2] at h2 ⊢
      exact h2
  · rw [if_neg c1] at h1
    have h1 := of_decide_eq_true h1
    by_cases c2 : j = k
    · subst c2
      rw [if_neg c1]
      exact decide_eq_true h1
    · rw [if_neg c2] at h2
      have h2 := of_decide_eq_true h2
      rw [if_neg (by omega)]
      exact decide_eq_true (by omega)
theorem ltR_asym {a b : Rank} (h : ltR a b = true) : ltR b a = false := by
  cases e : ltR b a with
  | false => rfl
  | true => have := ltR_tra h e; rw [ltR_irr] at this; cases this
/-- not less, either way round -/
theorem ltR_le {a b c : Rank} (h1 : ltR b a = false) (h2 : ltR c b = false) : ltR c a = false := by
  cases e : ltR c a with
  | false => rfl
  | true =>
    rcases ltR_tot a b with h | h | h
    · have := ltR_tra e h; rw [h2] at this; cases this
    · subst h; rw [h2] at e; cases e
    · rw [h1] at h; cases h
theorem maxR_ge {rs : List Rank} : ∀ x ∈ rs, ltR (maxR rs) x = false := by
  cases rs with
  | nil => intro x h; cases h
  | cons r rs =>
    have go : ∀ (l : List Rank) (a : Rank), ltR (l.foldl (fun a y => if ltR a y then y else a) a) a = false ∧ ∀ x ∈ l, ltR (l.foldl (fun a y => if ltR a y then y else a) a) x = false := fun l => by
      induction l with
      | nil => intro a; exact ⟨ltR_irr a, fun x h => by cases h⟩
      | cons y l ih =>
        intro a
        rw [List.foldl_cons]
        obtain ⟨h1, h2⟩ := ih (if ltR a y then y else a)
        cases e : ltR a y with
        | false =>
          rw [e] at h1 h2
          rw [if_neg (by decide)] at h1 h2 ⊢
          refine ⟨h1, fun x hx => ?_⟩
          rcases List.mem_cons.mp hx with rfl | hx
          · exact ltR_le e h1
          · exact h2 x hx
        | true =>
          rw [e] at h1 h2
          rw [if_pos rfl] at h1 h2 ⊢
          refine ⟨ltR_le (ltR_asym e) h1, fun x hx => ?_⟩
          rcases List.mem_cons.mp hx with rfl | hx
          · exact h1
          · exact h2 x hx
    intro x hx
    rcases List.mem_cons.mp hx with rfl | hx
    · exact (go rs _).1
    · exact (go rs r).2 x hx
/-- the greatest is the one that is there and below none -/
theorem maxR_eq {rs : List Rank} {m : Rank} (h : m ∈ rs) (g : ∀ x ∈ rs, ltR m x = false) : maxR rs = m := by
  have ne : rs ≠ [] := fun e => by rw [e] at h; cases h
  rcases ltR_tot (maxR rs) m with e | e | e
  · rw [maxR_ge m h] at e; cases e
  · exact e
  · rw [g _ (maxR_mem ne)] at e; cases e
def bestC (cs : List Card) : Rank := maxR ((chooseM cs 5).map rankM)
theorem best_mem {cs : List Card} (h : 5 ≤ cs.length) : ∃ five, five.Sublist cs ∧ five.length = 5 ∧ bestC cs = rankM five := by
  have := maxR_mem (rs := (chooseM cs 5).map rankM) (fun e => choose_ne h (List.map_eq_nil_iff.mp e))
  obtain ⟨five, hf, e⟩ := List.mem_map.mp this
  have := (choose_mem _ _ _).mp hf
  exact ⟨five, this.1, this.2, e.symm⟩
theorem best_ok {cs : List Card} (f : Fit cs) (h : 5 ≤ cs.length) : RkOk (bestC cs) := by
  obtain ⟨five, s, l, e⟩ := best_mem h
  rw [e]
  exact rank_okF l (f.sub s)
def winM (bs : List Rank) : List Nat := (List.range bs.length).filter fun i => decide (bs.getD i (0, []) = maxR bs)
section
variable {fns : Nat → Option FnD} {h : Hi} {cf : Calls} {q : Nat}
/-- the defs of the ranks and of the choices -/
structure HasC (fns : Nat → Option FnD) : Prop where
  f48 : fns 48 = some d48
  f49 : fns 49 = some d49
  f50 : fns 50 = some d50
  f55 : fns 55 = some d55
  f56 : fns 56 = some d56
theorem rank_evalF (C : HasC fns) {five : List Card} (h5 : five.length = 5) (f : Fit five) : callF fns (q + 2) 50 [.p (fivD five)] h = .ok (.p (rankD (rankM five))) h :=
  rank_eval C.f48 C.f49 C.f50 h5 (shape_ok h5 f.1)
theorem ch_size {α : Type} {l : List α} (k : Nat) (h : l.length ≤ 9) : (chooseM l k).length < 1000 := by
  have h1 := choose_size l k
  have h2 : 2 ^ l.length ≤ 2 ^ 9 := Nat.pow_le_pow_right (by decide) h
  have h3 : 2 ^ 9 = 512 := by decide
  omega
theorem best_eval (C : HasC fns) {cs : List Card} (f : Fit cs) (h5 : 5 ≤ cs.length) (h9 : cs.length ≤ 9) : callF fns (q + 7) 56 [.p (fivD cs)] h = .ok (.p (rankD (bestC cs))) h := by
  rw [call_eq C.f56 rfl]
  have e1 := choices_eval C.f55 5 cs (q + 6) h (by omega) h5 h9
  have e2 : ∀ five ∈ chooseM cs 5, callF fns (q + 6) 50 [.p (fivD five)] h = .ok (.p (rankD (rankM five))) h := fun five hf => by
    have := (choose_mem _ _ _).mp hf
    exact rank_evalF (q := q + 4) C this.2 (f.sub this.1)
  have sz := ch_size 5 h9
  have ne := choose_ne h5
  unfold bestC
  generalize chooseM cs 5 = rows at e1 e2 sz ne
  generalize callF fns (q + 6) = cf at e1 e2
  show finF h.length (evalSs cf b56 [some (.p (fivD cs)), none] h) = _
  have c1 : evalE cf [some (.p (fivD cs)), none] (.comp [1] (.name 1) (.e (.call 55 [(.var 0), (.lit (.int 5))])) [] (.call 50 [(.var 1)])) h = .ok (.p (.list ((rows.map rankM).map rankD))) h := by
    rw [List.map_map]
    have e1' : cf 55 [.p (fivD cs), .p (.int 5)] h = .ok (.p (.list (rows.map fivD))) h := e1
    refine comp_all fivD _ (by simp only [es_e, ev_call, ees_cons, ees_nil, ev_var, slot_0, ofO_some, R.bind_ok, ev_lit, e1', unP_p, items_L]) sz fun five hf => ⟨[some (.p (fivD cs)), some (.p (fivD five))], by simp, ?_⟩
    simp only [ev_call, ees_cons, ees_nil, ev_var, slot_0, slot_s, ofO_some, R.bind_ok, e2 five hf, unP_p]
    rfl
  have mx := o_maxR (rs := rows.map rankM) (fun e => ne (List.map_eq_nil_iff.mp e))
  rw [b56_eq]
  unfold ls56 s56_0
  rw [ss_cons]
  simp only [st_ret, ev_op1, bor_comp, c1, R.bind_ok, unP_p, mx, Option.map_some, ofO_some, R.toS_ok, RS.bind_rt, fin_rp, List.take_length]
theorem win_lt {bs : List Rank} : ∀ i ∈ winM bs, i < bs.length := fun i hi => List.mem_range.mp (List.mem_filter.mp hi).1
theorem winners_eval (C : HasC fns) (F57 : fns 57 = some d57) {holes : List (List Card)} {board : List Card} (f : ∀ x ∈ holes, Fit (x ++ board) ∧ 5 ≤ (x ++ board).length ∧ (x ++ board).length ≤ 9) (hz : holes.length < 500) (hne : holes ≠ []) :
    callF fns (q + 8) 57 [.p (.tuple (holes.map fivD)), .p (fivD board)] h = .ok (.p (.tuple ((winM (holes.map fun x => bestC (x ++ board))).map natD))) h := by
  rw [call_eq F57 rfl]
  have e2 : ∀ x ∈ holes, callF fns (q + 7) 56 [.p (fivD (x ++ board))] h = .ok (.p (rankD (bestC (x ++ board)))) h := fun x hx => best_eval C (f x hx).1 (f x hx).2.1 (f x hx).2.2
  have ok : ∀ b ∈ holes.map fun x => bestC (x ++ board), RkOk b := fun b hb => by
    obtain ⟨x, hx, rfl⟩ := List.mem_map.mp hb
    exact best_ok (f x hx).1 (f x hx).2.1
  generalize callF fns (q + 7) = cf at e2
  have c1 : evalE cf [some (.p (.tuple (holes.map fivD))), some (.p (fivD board)), none, none, none, none] (.comp [3] (.name 3) (.e (.var 0)) [] (.call 56 [(.op2d .add (.var 3) (.var 1))])) h = .ok (.p (.list ((holes.map fun x => bestC (x ++ board)).map rankD))) h := by
    rw [List.map_map]
    refine comp_all fivD _ (by simp) (by omega) fun x hx => ⟨[some (.p (.tuple (holes.map fivD))), some (.p (fivD board)), none, some (.p (fivD x)), none, none], by simp, ?_⟩
    have ad : opf2 .add (fivD x) (fivD board) = some (fivD (x ++ board)) := by
      have := (f x hx).2.2
      rw [List.length_append] at this
      unfold fivD
      rw [addT_ok (by simp; omega), List.map_append]
    simp only [ev_call, ees_cons, ees_nil, ev_op2d, ev_var, slot_0, slot_s, ofO_some, R.bind_ok, unP_p, ad, Option.map_some, e2 x hx]
    rfl
  have bl : (holes.map fun x => bestC (x ++ board)).length = holes.length := List.length_map _
  have bne : (holes.map fun x => bestC (x ++ board)) ≠ [] := fun e => hne (List.map_eq_nil_iff.mp e)
  generalize (holes.map fun x => bestC (x ++ board)) = bs at c1 bl bne ok ⊢
  show finF h.length (evalSs cf b57 [some (.p (.tuple (holes.map fivD))), some (.p (fivD board)), none, none, none, none] h) = _
  have mx := o_maxR bne
  have t0 : evalS cf s57_0 [some (.p (.tuple (holes.map fivD))), some (.p (fivD board)), none, none, none, none] h = .ok .nx [some (.p (.tuple (holes.map fivD))), some (.p (fivD board)), some (.p (.list (bs.map rankD))), none, none, none] h := by
    unfold s57_0
    simp only [st_set, c1, R.toS_ok, setSlot_0, setSlot_s]
  have en : enumFrom 0 (bs.map rankD) = (List.range bs.length).map fun i => .tuple [natD i, rankD (bs.getD i (0, []))] := by
    rw [enumFrom_eq, List.length_map]
    refine List.map_congr_left fun i hi => ?_
    have := List.mem_range.mp hi
    rw [Nat.zero_add]
    congr 2
    simp [this]
  have mok : RkOk (maxR bs) := ok _ (maxR_mem bne)
  have c2 : evalE cf [some (.p (.tuple (holes.map fivD))), some (.p (fivD board)), some (.p (.list (bs.map rankD))), none, none, none] (.comp [4, 5] (.tup [(.name 4), (.name 5)]) (.enum (.var 2)) [(.val (.op2 .eq (.var 5) (.op1 .max (.var 2))))] (.var 4)) h = .ok (.p (.list ((winM bs).map natD))) h := by
    refine comp_ok (fun i : Nat => .tuple [natD i, rankD (bs.getD i (0, []))]) natD _ (by simp only [es_enum, ev_var, slot_0, slot_s, ofO_some, R.bind_ok, unP_p, items_L, Option.map_some, en]) (by simp; omega) fun i hi => ⟨[some (.p (.tuple (holes.map fivD))), some (.p (fivD board)), some (.p (.list (bs.map rankD))), none, some (.p (natD i)), some (.p (rankD (bs.getD i (0, []))))], by simp, ?_, fun _ => by simp⟩
    have hi' := List.mem_range.mp hi
    have iok : RkOk (bs.getD i (0, [])) := ok _ (by simp [hi'])
    have eq := o_eqRank (a := bs.getD i (0, [])) (b := maxR bs) (by have := iok.few; omega) (by have := mok.few; omega)
    simp only [ets_one, et_val, bor_op2, ev_op2, ev_var, slot_0, slot_s, ofO_some, R.bind_ok, unP_p, bor_op1, ev_op1, bor_var, borV_p, mx, Option.map_some, eq, truth_b]
  rw [b57_eq]
  unfold ls57
  rw [ss_cons, t0, RS.bind_nx, ss_cons]
  simp only [s57_1, st_ret, ev_op1, bor_comp, c2, R.bind_ok, unP_p, o_tupL, Option.map_some, ofO_some, R.toS_ok, RS.bind_rt, fin_rp, List.take_length]
def beatM (hole board stub : List Card) : List (List Card) := (chooseM stub 2).filter fun two => ltR (bestC (hole ++ board)) (bestC (two ++ board))
theorem gt_rank (a b : Rank) : opf2 .gt (rankD a) (rankD b) = some (.bool (ltR b a)) := by
  have c : cmpOk (rankD a) (rankD b) = true := by
    unfold cmpOk
    rw [alike_rank, depth_rank, depth_rank]
    rfl
  show cmpD (fun i j => decide (j < i)) (fun x y => PySem.W.dataLt y x) (rankD a) (rankD b) = _
  rw [← lt_rank]
  show (if cmpOk (rankD a) (rankD b) then _ else none) = _
  rw [if_pos c]
theorem beaten_eval (C : HasC fns) (F58 : fns 58 = some d58) {hole board stub : List Card} (f : ∀ two ∈ chooseM stub 2, Fit (two ++ board)) (f1 : Fit (hole ++ board)) (h2 : hole.length = 2) (hb : 3 ≤ board.length) (hb7 : board.length ≤ 7) (hs : 2 ≤ stub.length) (hs9 : stub.length ≤ 9) :
    callF fns (q + 8) 58 [.p (fivD hole), .p (fivD board), .p (fivD stub)] h = .ok (.p (.tuple ((beatM hole board stub).map fivD))) h := by
  rw [call_eq F58 rfl]
  have lt2 : ∀ two ∈ chooseM stub 2, two.length = 2 := fun two ht => choose_len _ _ two ht
  have e1 := choices_eval C.f55 2 stub (q + 7) h (by omega) hs hs9
  have e0 := best_eval (q := q) (h := h) C f1 (by rw [List.length_append]; omega) (by rw [List.length_append]; omega)
  have e2 : ∀ x ∈ chooseM stub 2, callF fns (q + 7) 56 [.p (fivD (x ++ board))] h = .ok (.p (rankD (bestC (x ++ board)))) h := fun x hx => best_eval C (f x hx) (by rw [List.length_append, lt2 x hx]; omega) (by rw [List.length_append, lt2 x hx]; omega)
  have sz := ch_size 2 hs9
  unfold beatM
  generalize chooseM stub 2 = rows at e1 e2 sz lt2
  generalize callF fns (q + 7) = cf at e0 e1 e2
  have ad : ∀ x : List Card, x.length = 2 → opf2 .add (fivD x) (fivD board) = some (fivD (x ++ board)) := fun x hx => by
    unfold fivD
    rw [addT_ok (by simp; omega), List.map_append]
  generalize bestC (hole ++ board) = own at e0 ⊢
  show finF h.length (evalSs cf b58 [some (.p (fivD hole)), some (.p (fivD board)), some (.p (fivD stub)), none, none] h) = _
  have t0 : evalS cf s58_0 [some (.p (fivD hole)), some (.p (fivD board)), some (.p (fivD stub)), none, none] h = .ok .nx [some (.p (fivD hole)), some (.p (fivD board)), some (.p (fivD stub)), some (.p (rankD own)), none] h := by
    unfold s58_0
    simp only [st_set, ev_call, ees_cons, ees_nil, ev_op2d, ev_var, slot_0, slot_s, ofO_some, R.bind_ok, unP_p, ad hole h2, Option.map_some, e0, R.toS_ok, setSlot_0, setSlot_s]
  have c2 : evalE cf [some (.p (fivD hole)), some (.p (fivD board)), some (.p (fivD stub)), some (.p (rankD own)), none] (.comp [4] (.name 4) (.e (.call 55 [(.var 2), (.lit (.int 2))])) [(.val (.op2 .gt (.call 56 [(.op2d .add (.var 4) (.var 1))]) (.var 3)))] (.var 4)) h = .ok (.p (.list ((rows.filter fun two => ltR own (bestC (two ++ board))).map fivD))) h := by
    have e1' : cf 55 [.p (fivD stub), .p (.int 2)] h = .ok (.p (.list (rows.map fivD))) h := e1
    refine comp_ok fivD fivD _ (by simp only [es_e, ev_call, ees_cons, ees_nil, ev_var, slot_0, slot_s, ofO_some, R.bind_ok, ev_lit, e1', unP_p, items_L]) sz fun x hx => ⟨[some (.p (fivD hole)), some (.p (fivD board)), some (.p (fivD stub)), some (.p (rankD own)), some (.p (fivD x))], by simp, ?_, fun _ => by simp⟩
    simp only [ets_one, et_val, bor_op2, ev_op2, ev_call, ees_cons, ees_nil, ev_op2d, ev_var, slot_0, slot_s, ofO_some, R.bind_ok, unP_p, ad x (lt2 x hx), Option.map_some, e2 x hx, bor_var, borV_p, gt_rank, truth_b]
  rw [b58_eq]
  unfold ls58
  rw [ss_cons, t0, RS.bind_nx, ss_cons]
  simp only [s58_1, st_ret, ev_op1, bor_comp, c2, R.bind_ok, unP_p, o_tupL, Option.map_some, ofO_some, R.toS_ok, RS.bind_rt, fin_rp, List.take_length]
end
end Cd
set_option Elab.async false
set_option linter.all false
set_option maxRecDepth 100000
set_option maxHeartbeats 4000000
namespace Cd
open PySem L2
/-! ### who wins, in plain words -/
abbrev gR (bs : List Rank) (i : Nat) : Rank := bs.getD i (0, [])
theorem gR_mem {bs : List Rank} {i : Nat} (h : i < bs.length) : gR bs i ∈ bs := by
  unfold gR
  rw [List.getD_eq_getElem?_getD, List.getElem?_eq_getElem h]
  exact List.getElem_mem h
theorem gR_of {bs : List Rank} {x : Rank} (h : x ∈ bs) : ∃ i, i < bs.length ∧ gR bs i = x := by
  obtain ⟨i, hi, rfl⟩ := List.getElem_of_mem h
  exact ⟨i, hi, by unfold gR; rw [List.getD_eq_getElem?_getD, List.getElem?_eq_getElem hi]; rfl⟩
theorem win_mem {bs : List Rank} {i : Nat} : i ∈ winM bs ↔ i < bs.length ∧ gR bs i = maxR bs := by
  unfold winM
  rw [List.mem_filter, List.mem_range, decide_eq_true_iff]
theorem win_iff {bs : List Rank} {i : Nat} (hi : i < bs.length) : i ∈ winM bs ↔ ∀ j, j < bs.length → ltR (gR bs i) (gR bs j) = false := by
  rw [win_mem]
  constructor
  · rintro ⟨_, e⟩ j hj
    rw [e]
    exact maxR_ge _ (gR_mem hj)
  · intro h
    refine ⟨hi, (maxR_eq (gR_mem hi) fun x hx => ?_).symm⟩
    obtain ⟨j, hj, rfl⟩ := gR_of hx
    exact h j hj
theorem win_ne {bs : List Rank} (h : bs ≠ []) : winM bs ≠ [] := by
  obtain ⟨i, hi, e⟩ := gR_of (maxR_mem h)
  exact List.ne_nil_of_mem (win_mem.mpr ⟨hi, e⟩)
theorem win_two (x y : Rank) : (0 ∈ winM [x, y] ↔ ltR x y = false) ∧ (winM [x, y] = [0] ↔ ltR y x = true) := by
  have h0 : 0 ∈ winM [x, y] ↔ ltR x y = false := by
    rw [win_iff (by simp)]
    constructor
    · intro h; exact h 1 (by simp)
    · intro h j hj
      match j, hj with
      | 0, _ => exact ltR_irr x
      | 1, _ => exact h
  have h1 : 1 ∈ winM [x, y] ↔ ltR y x = false := by
    rw [win_iff (by simp)]
    constructor
    · intro h; exact h 0 (by simp)
    · intro h j hj
      match j, hj with
      | 0, _ => exact h
      | 1, _ => exact ltR_irr y
  refine ⟨h0, ?_⟩
  have e : winM [x, y] = (if 0 ∈ winM [x, y] then [0] else []) ++ (if 1 ∈ winM [x, y] then [1] else []) := by
    have r : List.range [x, y].length = [0, 1] := rfl
    have a0 : 0 ∈ winM [x, y] ↔ decide (gR [x, y] 0 = maxR [x, y]) = true := by rw [win_mem, decide_eq_true_iff]; exact ⟨fun h => h.2, fun h => ⟨by simp, h⟩⟩
    have a1 : 1 ∈ winM [x, y] ↔ decide (gR [x, y] 1 = maxR [x, y]) = true := by rw [win_mem, decide_eq_true_iff]; exact ⟨fun h => h.2, fun h => ⟨by simp, h⟩⟩
    simp only [a0, a1]
    unfold winM
    rw [r, List.filter_cons, List.filter_cons, List.filter_nil]
    by_cases c : decide (gR [x, y] 0 = maxR [x, y]) = true <;> by_cases d : decide (gR [x, y] 1 = maxR [x, y]) = true <;> simp only [c, d, if_true, if_false, List.nil_append, List.singleton_append] <;> rfl
  rw [e]
  by_cases c : ltR y x = true
  · have d := ltR_asym c
    rw [if_pos (h0.mpr d), if_neg (fun z => by rw [h1.mp z] at c; cases c)]
    simp [c]
  · have c' : ltR y x = false := by simpa using c
    rw [if_pos (h1.mpr c')]
    by_cases d : 0 ∈ winM [x, y]
    · rw [if_pos d]; simp [c']
    · rw [if_neg d]; simp [c']
theorem map_getD {α : Type} {d : α} : ∀ (l : List α), (List.range l.length).map (fun i => l.getD i d) = l := fun l =>
  List.ext_getElem (by simp) fun i h1 h2 => by simp at h1 ⊢; simp [h1]
/-- seats in another order -/
theorem win_perm {bs : List Rank} {p : List Nat} (hp : p.Perm (List.range bs.length)) (hb : bs ≠ []) :
    sortI ((winM (p.map (gR bs))).map fun i => ((p.getD i 0 : Nat) : Int)) = (winM bs).map fun i : Nat => (i : Int) := by
  have mx : maxR (p.map (gR bs)) = maxR bs := by
    refine maxR_eq ?_ fun x hx => ?_
    · obtain ⟨i, hi, e⟩ := gR_of (maxR_mem hb)
      exact List.mem_map.mpr ⟨i, hp.mem_iff.mpr (List.mem_range.mpr hi), e⟩
    · obtain ⟨i, hi, rfl⟩ := List.mem_map.mp hx
      exact maxR_ge _ (gR_mem (List.mem_range.mp (hp.mem_iff.mp hi)))
  have e1 : (winM (p.map (gR bs))).map (fun i => p.getD i 0) = p.filter fun s => decide (gR bs s = maxR bs) := by
    unfold winM
    rw [mx, List.length_map]
    conv => rhs; rw [← map_getD (d := 0) p]
    rw [List.filter_map]
    congr 1
    refine List.filter_congr fun i hi => ?_
    have := List.mem_range.mp hi
    simp [this]
  have e2 : (winM (p.map (gR bs))).map (fun i => ((p.getD i 0 : Nat) : Int)) = (p.filter fun s => decide (gR bs s = maxR bs)).map fun i : Nat => (i : Int) := by
    rw [← e1, List.map_map]; rfl
  rw [e2]
  refine sorted_uniq (((sortI_perm _).trans ((hp.filter _).map _))) (sortI_sorted _) ?_
  unfold winM
  rw [List.pairwise_map]
  exact (List.pairwise_lt_range.filter _).imp fun h => by omega
/-- without a seat that does not win -/
theorem win_less {bs : List Rank} {s : Nat} (hs : s < bs.length) (hn : s ∉ winM bs) :
    (winM (bs.take s ++ bs.drop (s + 1))).map (fun i : Nat => (i : Int)) = (winM bs).map fun i : Nat => (i : Int) - (if decide (s < i) = true then 1 else 0) := by
  have ne : bs ≠ [] := fun e => by rw [e] at hs; simp at hs
  have lt : (bs.take s).length = s := by rw [List.length_take]; omega
  have g1 : ∀ i, i < s → gR (bs.take s ++ bs.drop (s + 1)) i = gR bs i := fun i hi => by
    unfold gR
    rw [List.getD_eq_getElem?_getD, List.getD_eq_getElem?_getD, List.getElem?_append_left (by omega), List.getElem?_take, if_pos hi]
  have g2 : ∀ i, gR (bs.take s ++ bs.drop (s + 1)) (s + i) = gR bs (s + 1 + i) := fun i => by
    unfold gR
    rw [List.getD_eq_getElem?_getD, List.getD_eq_getElem?_getD, List.getElem?_append_right (by omega), lt, List.getElem?_drop]
    congr 3
    omega
  have sub : ∀ x ∈ bs.take s ++ bs.drop (s + 1), x ∈ bs := fun x hx => by
    rcases List.mem_append.mp hx with h | h
    · exact List.mem_of_mem_take h
    · exact List.mem_of_mem_drop h
  obtain ⟨w, hw, ew⟩ := gR_of (maxR_mem ne)
  have hws : w ≠ s := fun e => hn (win_mem.mpr ⟨hs, by rw [← e]; exact ew⟩)
  have l2 : (bs.take s ++ bs.drop (s + 1)).length = s + (bs.length - s - 1) := by rw [List.length_append, lt, List.length_drop]; omega
  have mx : maxR (bs.take s ++ bs.drop (s + 1)) = maxR bs := by
    refine maxR_eq ?_ fun x hx => maxR_ge x (sub x hx)
    by_cases c : w < s
    · rw [← ew, ← g1 w c]
      exact gR_mem (by omega)
    · have : gR (bs.take s ++ bs.drop (s + 1)) (s + (w - s - 1)) = maxR bs := by rw [g2, show s + 1 + (w - s - 1) = w by omega, ew]
      rw [← this]
      exact gR_mem (by omega)
  have r1 : List.range (bs.take s ++ bs.drop (s + 1)).length = List.range s ++ (List.range (bs.length - s - 1)).map (s + ·) := by rw [l2, List.range_add]
  have r2 : List.range bs.length = List.range s ++ (s :: (List.range (bs.length - s - 1)).map (s + 1 + ·)) := by
    have : bs.length = s + 1 + (bs.length - s - 1) := by omega
    conv => lhs; rw [this]
    rw [List.range_add, List.range_succ, List.append_assoc]; rfl
  have sn : ¬ gR bs s = maxR bs := fun e => hn (win_mem.mpr ⟨hs, e⟩)
  unfold winM
  rw [r1, r2, mx, List.filter_append, List.filter_append, List.filter_cons, if_neg (by simpa using sn), List.map_append, List.map_append]
  congr 1
  · have : (List.range s).filter (fun i => decide (gR (bs.take s ++ bs.drop (s + 1)) i = maxR bs)) = (List.range s).filter fun i => decide (gR bs i = maxR bs) := List.filter_congr fun i hi => by rw [g1 i (List.mem_range.mp hi)]
    rw [this]
    refine List.map_congr_left fun i hi => ?_
    have := List.mem_range.mp (List.mem_filter.mp hi).1
    have e : decide (s < i) = false := decide_eq_false (by omega)
    rw [e]; simp
  · rw [List.filter_map, List.filter_map, List.map_map, List.map_map]
    have : (List.range (bs.length - s - 1)).filter ((fun i => decide (gR (bs.take s ++ bs.drop (s + 1)) i = maxR bs)) ∘ (s + ·)) = (List.range (bs.length - s - 1)).filter ((fun i => decide (gR bs i = maxR bs)) ∘ (s + 1 + ·)) := List.filter_congr fun i hi => by
      show decide (gR (bs.take s ++ bs.drop (s + 1)) (s + i) = maxR bs) = decide (gR bs (s + 1 + i) = maxR bs)
      rw [g2]
    rw [this]
    refine List.map_congr_left fun i hi => ?_
    show ((s + i : Nat) : Int) = ((s + 1 + i : Nat) : Int) - (if decide (s < s + 1 + i) = true then 1 else 0)
    rw [decide_eq_true (show s < s + 1 + i by omega), if_pos rfl]
    omega
/-! boards that all have -/
theorem best_top {cs five : List Card} (f : Fit cs) (s : five.Sublist cs) (h5 : five.length = 5) (e : rankM five = topR) : bestC cs = topR := by
  refine maxR_top (fun r hr => ?_) (List.mem_map.mpr ⟨five, (choose_mem _ _ _).mpr ⟨s, h5⟩, e⟩)
  obtain ⟨c, hc, rfl⟩ := List.mem_map.mp hr
  have := (choose_mem _ _ _).mp hc
  exact rank_okF this.2 (f.sub this.1)
theorem win_same {bs : List Rank} {r : Rank} (h : ∀ x ∈ bs, x = r) : winM bs = List.range bs.length := by
  unfold winM
  refine List.filter_eq_self.mpr fun i hi => ?_
  have hi' := List.mem_range.mp hi
  rw [decide_eq_true_iff]
  refine (h _ (gR_mem hi')).trans ?_
  have ne : bs ≠ [] := fun e => by rw [e] at hi'; simp at hi'
  exact (h _ (maxR_mem ne)).symm
end Cd
set_option Elab.async false
set_option linter.all false
set_option maxRecDepth 100000
set_option maxHeartbeats 4000000
namespace Cd
open PySem L2
def s62_0 : S := .set 1 (.mk (.lst []))
def s62_1_0 : S := .ext (.var 1) (.comp [3] (.name 3) (.e (.op3b (.slice true false) (.var 0) (.op2d .addI (.var 2) (.lit (.int 1))) (.lit .none))) [] (.tup [(.op2b .ix (.var 0) (.var 2)), (.var 3)]))
def ls62_1 : List S := [s62_1_0]
def s62_1 : S := .for_ (.name 2) (.rng1 (.op1 .len (.var 0))) ls62_1
def s62_2 : S := .ret (.freeze 1)
def ls62 : List S := [s62_0, s62_1, s62_2]
theorem b62_eq : b62 = ls62 := rfl
end Cd
set_option Elab.async false
set_option linter.all false
set_option maxRecDepth 100000
set_option maxHeartbeats 4000000
namespace Cd
open PySem L2
/-! ### deals -/
theorem plainN : ∀ S : List Nat, PyData.plainAll (S.map natD) = true
  | [] => rfl
  | s :: S => by rw [List.map_cons]; simp [PyData.plainAll, PyData.plain, natD, plainN S]
theorem inN (s : Nat) (ws : List Nat) : inD (.int (s : Int)) (ws.map natD) = some (decide (s ∈ ws)) := by
  unfold inD
  rw [if_pos (by simp [plainN, PyData.plain, PyData.depth]), List.any_map]
  congr 1
  induction ws with
  | nil => rfl
  | cons w ws ih =>
    rw [List.any_cons, ih]
    show (PyData.eqv (.int (w : Int)) (.int (s : Int)) || _) = _
    rw [eqv_int, ← Bool.decide_or]
    refine decide_eq_decide.mpr ?_
    rw [List.mem_cons]
    constructor
    · rintro (h | h)
      · exact .inl (by omega)
      · exact .inr h
    · rintro (h | h)
      · exact .inl (by omega)
      · exact .inr h
theorem o_inN (s : Nat) (ws : List Nat) : opf2 .isIn (.int (s : Int)) (.tuple (ws.map natD)) = some (.bool (decide (s ∈ ws))) := by
  show (inD (.int (s : Int)) (ws.map natD)).map PyData.bool = _
  rw [inN]; rfl
theorem o_notInN (s : Nat) (ws : List Nat) : opf2 .notIn (.int (s : Int)) (.tuple (ws.map natD)) = some (.bool (!decide (s ∈ ws))) := by
  show (inD (.int (s : Int)) (ws.map natD)).map (fun b => PyData.bool !b) = _
  rw [inN]; rfl
theorem cut_mid {α : Type} (xs : List α) (a b : Nat) (h : a ≤ xs.length) (hb : b ≤ xs.length) : cutM xs (some (a : Int)) (some (b : Int)) = (xs.drop a).take (b - a) := by
  unfold cutM
  rw [HT.sIx_nat, HT.sIx_nat, Nat.min_eq_left h, Nat.min_eq_left hb]
/-- the things from place a to place b -/
def seg {α : Type} (xs : List α) (a b : Nat) : List α := (xs.drop a).take (b - a)
theorem seg_len {α : Type} {xs : List α} {a b : Nat} (hb : b ≤ xs.length) : (seg xs a b).length = b - a := by
  unfold seg
  rw [List.length_take, List.length_drop]
  omega
theorem seg_app {α : Type} {xs t : List α} {a b : Nat} (hab : a ≤ b) (h : t.Sublist (xs.drop b)) : (seg xs a b ++ t).Sublist (xs.drop a) := by
  have e : seg xs a b ++ xs.drop b = xs.drop a := by
    unfold seg
    have : xs.drop b = (xs.drop a).drop (b - a) := by rw [List.drop_drop]; congr 1; omega
    rw [this]
    exact List.take_append_drop _ _
  rw [← e]
  exact (List.Sublist.refl _).append h
def holesM (cs : List Card) (s : Nat) : List (List Card) := (List.range s).map fun a => seg cs (2 * a) (2 * a + 2)
theorem strOk_suits : ∀ x ∈ suitsL, PyData.canLay0 (.str x) = true := by
  intro x hx
  simp only [PyData.canLay0]
  revert x
  decide +kernel
theorem lay_cards : ∀ cs : List Card, (∀ c ∈ cs, c.2 ∈ suitsL) → PyData.canLayAll0 (cs.map cardD) = true
  | [], _ => rfl
  | c :: cs, h => by
    have e := strOk_suits _ (h c List.mem_cons_self)
    have e2 := lay_cards cs fun x hx => h x (List.mem_cons_of_mem _ hx)
    simp only [List.map_cons, cardD, PyData.canLayAll0, PyData.canLay0, Bool.and_true, Bool.true_and, Bool.and_eq_true] at e e2 ⊢
    exact ⟨e, e2⟩
theorem depth_cards : ∀ cs : List Card, PyData.depthAll (cs.map cardD) ≤ 1
  | [] => Nat.zero_le _
  | c :: cs => by
    show max (max 0 (max 0 0) + 1) (PyData.depthAll (cs.map cardD)) ≤ 1
    have := depth_cards cs
    omega
theorem shapedC {cs : List Card} (hz : cs.length < 1000) (h : ∀ c ∈ cs, c.2 ∈ suitsL) : SeqAt.shaped (.tuple (cs.map cardD)) = true ∧ SeqAt.shaped (.list (cs.map cardD)) = true :=
  shaped_seq (by rw [List.length_map]; exact hz) (lay_cards cs h) (by have := depth_cards cs; omega)
theorem shapedF {rows : List (List Card)} (hz : rows.length < 1000) (h : ∀ r ∈ rows, ∀ c ∈ r, c.2 ∈ suitsL) : SeqAt.shaped (.tuple (rows.map fivD)) = true ∧ SeqAt.shaped (.list (rows.map fivD)) = true := by
  have l : ∀ rows : List (List Card), (∀ r ∈ rows, ∀ c ∈ r, c.2 ∈ suitsL) → PyData.canLayAll0 (rows.map fivD) = true := fun rows => by
    induction rows with
    | nil => intro _; rfl
    | cons r rows ih =>
      intro h
      have e := lay_cards r (h r List.mem_cons_self)
      have e2 := ih fun x hx => h x (List.mem_cons_of_mem _ hx)
      simp only [List.map_cons, PyData.canLayAll0, Bool.and_eq_true]
      refine ⟨?_, e2⟩
      unfold fivD
      simp only [PyData.canLay0]
      exact e
  have d : ∀ rows : List (List Card), PyData.depthAll (rows.map fivD) ≤ 2 := fun rows => by
    induction rows with
    | nil => exact Nat.zero_le _
    | cons r rows ih =>
      show max (PyData.depthAll (r.map cardD) + 1) (PyData.depthAll (rows.map fivD)) ≤ 2
      have := depth_cards r
      omega
  exact shaped_seq (by rw [List.length_map]; exact hz) (l rows h) (by have := d rows; omega)
section
variable {fns : Nat → Option FnD} {h : Hi} {cf : Calls} {q k n m : Nat}
/-! the twos -/
abbrev envTw (l : List Card) (v1 v2 : Option Val) : Ev := [some (.p (fivD l)), v1, v2, none]
theorem choose_one {α : Type} : ∀ l : List α, chooseM l 1 = l.map fun x => [x]
  | [] => rfl
  | x :: l => by
    show (chooseM l 0).map (x :: ·) ++ chooseM l 1 = _
    rw [choose_zero, choose_one l]; rfl
theorem loop62 {l : List Card} (hl : l.length ≤ 9) : ∀ (m n : Nat) (v2 : Option Val), n + m = l.length →
    ∃ w2, forL (evalSs cf ls62_1) (bindT (.name 2)) ((List.range' n m).map natD) (envTw l (some (.ref h.length)) v2) (h ++ [.lst ((headsM l 1 n).map fivD)]) =
      .ok .nx (envTw l (some (.ref h.length)) w2) (h ++ [.lst ((headsM l 1 (n + m)).map fivD)])
  | 0, n, v2, _ => ⟨v2, rfl⟩
  | m + 1, n, v2, hm => by
    obtain ⟨w2, e⟩ := loop62 hl m (n + 1) (some (.p (natD n))) (by omega)
    refine ⟨w2, ?_⟩
    rw [List.range'_succ, List.map_cons]
    unfold forL
    have eb : bindT (.name 2) (natD n) (envTw l (some (.ref h.length)) v2) = some (envTw l (some (.ref h.length)) (some (.p (natD n)))) := by
      simp only [bt_name, setSlot_0, setSlot_s]
    rw [eb]
    have hn : n < l.length := by omega
    have sl : opf3 (.slice true false) (fivD l) (.int ((n : Int) + 1)) .none = some (fivD (l.drop (n + 1))) := by
      unfold fivD
      rw [slice_T (lo := some ((n + 1 : Nat) : Int)) (hi := none) rfl rfl, cut_hi _ _ (by omega)]
    have gx : atI (l.map cardD) ((n : Nat) : Int) = some (cardD l[n]) := atI_nat (by rw [List.getElem?_map, List.getElem?_eq_getElem hn]; rfl)
    have hh : headsM l 1 (n + 1) = headsM l 1 n ++ (l.drop (n + 1)).map fun c => [l[n], c] := by
      show headsM l 1 n ++ headM l 1 n = _
      rw [head_some hn, choose_one, List.map_map]; rfl
    have c1 : evalE cf (envTw l (some (.ref h.length)) (some (.p (natD n)))) (.comp [3] (.name 3) (.e (.op3b (.slice true false) (.var 0) (.op2d .addI (.var 2) (.lit (.int 1))) (.lit .none))) [] (.tup [(.op2b .ix (.var 0) (.var 2)), (.var 3)])) (h ++ [.lst ((headsM l 1 n).map fivD)]) = .ok (.p (.list (((l.drop (n + 1)).map fun c => [l[n], c]).map fivD))) (h ++ [.lst ((headsM l 1 n).map fivD)]) := by
      rw [List.map_map]
      refine comp_all cardD _ (by simp only [es_e, ev_op3b, bor_var, slot_0, slot_s, borV_p, ev_op2d, ev_var, natD, ofO_some, R.bind_ok, unP_p, ev_lit, o_addI, sl, Option.map_some]; rfl) (by rw [List.length_drop]; omega) fun c hc => ⟨[some (.p (fivD l)), some (.ref h.length), some (.p (natD n)), some (.p (cardD c))], by simp, ?_⟩
      simp only [ev_tup, eps_cons, eps_nil, ev_op2b, bor_var, slot_0, slot_s, borV_p, fivD, ev_var, natD, ofO_some, R.bind_ok, unP_p, o_ixT, gx, Option.map_some]
      rfl
    have hsz : (headsM l 1 n).length ≤ n * 9 := by
      have : ∀ n, (headsM l 1 n).length ≤ n * 9 := fun n => by
        induction n with
        | zero => exact Nat.zero_le _
        | succ n ih =>
          show (headsM l 1 n ++ headM l 1 n).length ≤ _
          rw [List.length_append]
          by_cases c : n < l.length
          · rw [head_some c, List.length_map, choose_one, List.length_map, List.length_drop]; omega
          · rw [head_none (Nat.le_of_not_lt c), List.length_nil]; omega
      exact this n
    have sz : ((headsM l 1 n).map fivD).length + (((l.drop (n + 1)).map fun c => [l[n], c]).map fivD).length ≤ sizeLine := by
      rw [List.length_map, List.length_map, List.length_map, List.length_drop]
      exact sz_ok (by omega)
    have st : evalSs cf ls62_1 (envTw l (some (.ref h.length)) (some (.p (natD n)))) (h ++ [.lst ((headsM l 1 n).map fivD)]) = .ok .nx (envTw l (some (.ref h.length)) (some (.p (natD n)))) (h ++ [.lst ((headsM l 1 (n + 1)).map fivD)]) := by
      have ex : extH (envTw l (some (.ref h.length)) (some (.p (natD n)))) (.var 1) (.list (((l.drop (n + 1)).map fun c => [l[n], c]).map fivD)) (h ++ [.lst ((headsM l 1 n).map fivD)]) = some (h ++ [.lst ((headsM l 1 (n + 1)).map fivD)]) := by
        unfold extH
        simp only [listD, Option.bind_some, getL_var, slot_0, slot_s, refOf_r, listAt_app]
        rw [if_pos sz]
        unfold storeL
        simp only [slotRef_eq, slot_0, slot_s, refOf_r, Option.map_some, set_app, hh, List.map_append]
      unfold ls62_1 s62_1_0
      simp only [ss_cons, ss_nil, st_ext, getL_var, slot_0, slot_s, refOf_r, Option.bind_some, listAt_app, c1, R.bind_ok, unP_p, R.toS_ok, ex, ofH_some, RS.bind_nx]
    simp only [st]
    rw [e, show n + 1 + m = n + (m + 1) by omega]
theorem twos_eval (F62 : fns 62 = some d62) {l : List Card} (hl : l.length ≤ 9) : callF fns (q + 1) 62 [.p (fivD l)] h = .ok (.p (.list ((chooseM l 2).map fivD))) h := by
  rw [call_eq F62 rfl]
  generalize callF fns q = cf
  obtain ⟨w2, e2⟩ := loop62 (cf := cf) (h := h) hl l.length 0 none (by omega)
  rw [Nat.zero_add, heads_all 1 l l.length (by omega), ← List.range_eq_range'] at e2
  show finF h.length (evalSs cf b62 (envTw l none none) h) = _
  rw [b62_eq]
  unfold ls62
  have t0 : evalS cf s62_0 (envTw l none none) h = .ok .nx (envTw l (some (.ref h.length)) none) (h ++ [.lst ((headsM l 1 0).map fivD)]) := by
    unfold s62_0
    simp only [st_set, ev_mk, ev_lst, eps_nil, R.bind_ok, unP_p, mkK, R.toS_ok, setSlot_0, setSlot_s]
    rfl
  have t1 : evalS cf s62_1 (envTw l (some (.ref h.length)) none) (h ++ [.lst ((headsM l 1 0).map fivD)]) = .ok .nx (envTw l (some (.ref h.length)) w2) (h ++ [.lst ((chooseM l 2).map fivD)]) := by
    unfold s62_1
    have ln : opf1 .len (fivD l) = some (.int (l.length : Int)) := by show some (PyData.int ((l.map cardD).length : Int)) = _; rw [List.length_map]
    rw [st_for, src_nat (j := l.length) (by simp only [ev_op1, bor_var, ev_var, slot_0, slot_s, borV_p, ln, ofO_some, R.bind_ok, unP_p, Option.map_some]) (by omega), R.toS_ok]
    exact e2
  have fz : freezeK (envTw l (some (.ref h.length)) w2) 1 (h ++ [.lst ((chooseM l 2).map fivD)]) = .ok (.p (.list ((chooseM l 2).map fivD))) (h ++ [.dead]) := by
    unfold freezeK
    simp only [lstOf_eq, slot_0, slot_s, refOf_r, Option.bind_some, listAt_app, Option.map_some, set_app]
  rw [ss_cons, t0, RS.bind_nx, ss_cons, t1, RS.bind_nx, ss_cons]
  show finF h.length ((evalS cf s62_2 _ _).bind _) = _
  unfold s62_2
  rw [st_ret]
  show finF h.length (((freezeK _ 1 _).toS _ _).bind _) = _
  rw [fz]
  simp only [R.toS_ok, RS.bind_rt, fin_rp, take_app]
end
end Cd
set_option Elab.async false
set_option linter.all false
set_option maxRecDepth 100000
set_option maxHeartbeats 4000000
namespace Cd
open PySem L2
def s61_0_0 : S := .if_ (.and_ (.val (.op2 .ne (.var 3) (.var 2))) (.val (.op2 .notIn (.lit (.int 0)) (.call 57 [(.tup [(.op2b .ix (.var 0) (.var 2)), (.op2b .ix (.var 0) (.var 3))]), (.var 1)])))) [.ret (.lit (.bool false))] []
def ls61_0 : List S := [s61_0_0]
def s61_0 : S := .for_ (.name 3) (.rng1 (.op1 .len (.var 0))) ls61_0
def s61_1 : S := .ret (.lit (.bool true))
def ls61 : List S := [s61_0, s61_1]
theorem b61_eq : b61 = ls61 := rfl
def s63_0 : S := .set 1 (.mk (.lst []))
def s63_1_0 : S := .set2 3 4 (.op2d .add (.lit (.int 2)) (.call 13 [(.var 0), (.var 1), (.lit (.int 3))])) (.op2d .add (.lit (.int 3)) (.call 13 [(.var 0), (.var 1), (.lit (.int 3))]))
def s63_1_1 : S := .set 5 (.call 59 [(.var 0), (.var 1), (.op2d .add (.op2d .mul (.lit (.int 2)) (.var 3)) (.var 4))])
def s63_1_2 : S := .unpack (.tup [(.name 6), (.name 7)]) (.tup [(.op1 .tuple (.comp [21] (.name 21) (.rng1 (.var 3)) [] (.op3b (.slice true true) (.var 5) (.op2d .mul (.lit (.int 2)) (.var 21)) (.op2d .addI (.op2d .mul (.lit (.int 2)) (.var 21)) (.lit (.int 2)))))), (.op3b (.slice true false) (.var 5) (.op2d .mul (.lit (.int 2)) (.var 3)) (.lit .none))])
def s63_1_3 : S := .set 8 (.call 57 [(.var 6), (.var 7)])
def s63_1_4 : S := .set 9 (.comp [13] (.name 13) (.rng1 (.var 3)) [(.val (.call 61 [(.var 6), (.var 7), (.var 13)]))] (.var 13))
def s63_1_5 : S := .if_ (.or_ (.val (.op2 .ne (.op1 .list (.var 8)) (.var 9))) (.val (.op2 .eq (.var 8) (.tup [])))) [.ret (.lit (.bool false))] []
def s63_1_6 : S := .set 10 (.call 41 [(.var 0), (.var 1), (.op1 .range (.var 3))])
def s63_1_7 : S := .set 11 (.call 57 [(.op1 .tuple (.comp [13] (.name 13) (.e (.var 10)) [] (.op2b .ix (.var 6) (.var 13)))), (.var 7)])
def s63_1_8 : S := .if_ (.val (.op2 .ne (.op1 .sorted (.comp [13] (.name 13) (.e (.var 11)) [] (.op2b .ix (.var 10) (.var 13)))) (.op1 .list (.var 8)))) [.ret (.lit (.bool false))] []
def s63_1_9 : S := .set 12 (.comp [18] (.name 18) (.e (.var 6)) [] (.call 56 [(.op2d .add (.var 18) (.var 7))]))
def s63_1_10 : S := .if_ (.not_ (.val (.op1 .all (.comp [13] (.name 13) (.rng1 (.var 3)) [] (.op2 .eq (.op2 .eq (.op2b .ix (.var 12) (.var 13)) (.op1 .max (.var 12))) (.op2 .isIn (.var 13) (.var 8))))))) [.ret (.lit (.bool false))] []
def s63_1_11_0_0 : S := .set 17 (.call 57 [(.op2d .add (.op3b (.slice false true) (.var 6) (.lit .none) (.var 13)) (.op3b (.slice true false) (.var 6) (.op2d .addI (.var 13) (.lit (.int 1))) (.lit .none))), (.var 7)])
def s63_1_11_0_1 : S := .if_ (.val (.op2 .ne (.var 17) (.op1 .tuple (.comp [22] (.name 22) (.e (.var 8)) [] (.op2d .sub (.var 22) (.op1 .int (.op2 .gt (.var 22) (.var 13)))))))) [.ret (.lit (.bool false))] []
def ls63_1_11_0 : List S := [s63_1_11_0_0, s63_1_11_0_1]
def s63_1_11_0 : S := .if_ (.and_ (.val (.op2 .gt (.var 3) (.lit (.int 2)))) (.val (.op2 .notIn (.var 13) (.var 8)))) ls63_1_11_0 []
def ls63_1_11 : List S := [s63_1_11_0]
def s63_1_11 : S := .for_ (.name 13) (.rng1 (.var 3)) ls63_1_11
def s63_1_12_0 : S := .set 16 (.op2d .add (.op2b .ix (.var 6) (.lit (.int 1))) (.ite (.val (.op2 .gt (.var 3) (.lit (.int 2)))) (.op2b .ix (.var 6) (.lit (.int 2))) (.tup [])))
def s63_1_12_1 : S := .set 9 (.comp [19] (.name 19) (.e (.call 62 [(.var 16)])) [(.val (.op2 .eq (.call 57 [(.tup [(.var 19), (.op2b .ix (.var 6) (.lit (.int 0)))]), (.var 7)]) (.tup [(.lit (.int 0))])))] (.var 19))
def s63_1_12_2 : S := .if_ (.val (.op2 .ne (.op1 .list (.call 58 [(.op2b .ix (.var 6) (.lit (.int 0))), (.var 7), (.var 16)])) (.var 9))) [.ret (.lit (.bool false))] []
def ls63_1_12 : List S := [s63_1_12_0, s63_1_12_1, s63_1_12_2]
def s63_1_12 : S := .if_ (.val (.op2 .eq (.var 4) (.lit (.int 5)))) ls63_1_12 []
def s63_1_13 : S := .set 14 (.op1 .tuple (.comp [20] (.name 20) (.e (.tup [(.lit (.int 10)), (.lit (.int 11)), (.lit (.int 12)), (.lit (.int 13)), (.lit (.int 14))])) [] (.tup [(.var 20), (.lit (.str ("h" : Str)))])))
def s63_1_14 : S := .set 15 (.op1 .tuple (.comp [21] (.name 21) (.rng1 (.var 3)) [] (.tup [(.tup [(.op2d .add (.lit (.int 2)) (.var 21)), (.lit (.str ("c" : Str)))]), (.tup [(.op2d .add (.lit (.int 2)) (.var 21)), (.lit (.str ("d" : Str)))])])))
def s63_1_15 : S := .if_ (.val (.op2 .ne (.call 57 [(.var 15), (.var 14)]) (.op1 .rangeT (.var 3)))) [.ret (.lit (.bool false))] []
def ls63_1 : List S := [s63_1_0, s63_1_1, s63_1_2, s63_1_3, s63_1_4, s63_1_5, s63_1_6, s63_1_7, s63_1_8, s63_1_9, s63_1_10, s63_1_11, s63_1_12, s63_1_13, s63_1_14, s63_1_15]
def s63_1 : S := .for_ (.name 2) (.rng1 (.lit (.int 2))) ls63_1
def s63_2 : S := .ret (.lit (.bool true))
def ls63 : List S := [s63_0, s63_1, s63_2]
theorem b63_eq : b63 = ls63 := rfl
end Cd
set_option Elab.async false
set_option linter.all false
set_option maxRecDepth 100000
set_option maxHeartbeats 4000000
namespace Cd
open PySem L2
theorem hasD : HasD fns := ⟨rfl, rfl⟩
theorem hasC : HasC fns := ⟨rfl, rfl, rfl, rfl, rfl⟩
structure Deal (cs : List Card) (s bm : Nat) : Prop where
  len : cs.length = 2 * s + bm
  deck : Deck cs
  s2 : 2 ≤ s
  s4 : s ≤ 4
  b3 : 3 ≤ bm
  b5 : bm ≤ 5
abbrev boardM (cs : List Card) (s : Nat) : List Card := cs.drop (2 * s)
def bsM (cs : List Card) (s : Nat) : List Rank := (holesM cs s).map fun x => bestC (x ++ boardM cs s)
/-- what is asked of cards that are ranked together -/
abbrev Okh (board x : List Card) : Prop := Fit (x ++ board) ∧ 5 ≤ (x ++ board).length ∧ (x ++ board).length ≤ 9
section
variable {cs : List Card} {s bm : Nat}
theorem Deal.bl (D : Deal cs s bm) : (boardM cs s).length = bm := by
  have := D.len
  show (cs.drop (2 * s)).length = bm
  rw [List.length_drop]; omega
theorem Deal.okh (D : Deal cs s bm) {x : List Card} (h2 : x.length = 2) (f : (x ++ boardM cs s).Sublist cs) : Okh (boardM cs s) x := by
  have := D.bl
  have h3 := D.b3
  have h5 := D.b5
  refine ⟨D.deck.fit.sub f, ?_, ?_⟩ <;> rw [List.length_append] <;> omega
theorem Deal.seg2 (D : Deal cs s bm) {a : Nat} (ha : a < s) : (seg cs (2 * a) (2 * a + 2)).length = 2 := by
  have := D.len
  rw [seg_len (by omega)]; omega
theorem Deal.hole (D : Deal cs s bm) {x : List Card} (h : x ∈ holesM cs s) : x.length = 2 ∧ Okh (boardM cs s) x := by
  obtain ⟨a, ha, rfl⟩ := List.mem_map.mp h
  have ha := List.mem_range.mp ha
  have h2 := D.seg2 ha
  refine ⟨h2, D.okh h2 ?_⟩
  have e : boardM cs s = (cs.drop (2 * a + 2)).drop (2 * s - (2 * a + 2)) := by rw [List.drop_drop]; show cs.drop (2 * s) = _; congr 1; omega
  exact (seg_app (by omega) (by rw [e]; exact List.drop_sublist _ _)).trans (List.drop_sublist _ _)
theorem holes_len : (holesM cs s).length = s := by unfold holesM; simp
theorem bs_len : (bsM cs s).length = s := by unfold bsM; rw [List.length_map, holes_len]
theorem holes_at {a : Nat} (ha : a < s) : (holesM cs s).getD a [] = seg cs (2 * a) (2 * a + 2) := by
  unfold holesM
  simp [ha]
theorem bs_at {a : Nat} (ha : a < s) : gR (bsM cs s) a = bestC ((holesM cs s).getD a [] ++ boardM cs s) := by
  unfold bsM gR
  have : a < (holesM cs s).length := by rw [holes_len]; exact ha
  simp [this]
theorem hole_mem {a : Nat} (ha : a < s) : (holesM cs s).getD a [] ∈ holesM cs s := by
  rw [holes_at ha]
  exact List.mem_map.mpr ⟨a, List.mem_range.mpr ha, rfl⟩
end
section
variable {cf : Calls} {h : Hi} {q k n m : Nat} {cs : List Card} {s bm : Nat}
theorem hole_ix {holes : List (List Card)} {j : Nat} (hj : j < holes.length) : atI (holes.map fivD) ((j : Nat) : Int) = some (fivD (holes.getD j [])) := atI_nat (by simp [hj])
abbrev envWa (holes : List (List Card)) (board : List Card) (s : Nat) (v3 : Option Val) : Ev := [some (.p (.tuple (holes.map fivD))), some (.p (fivD board)), some (.p (.int (s : Int))), v3]
theorem loop61 {holes : List (List Card)} {board : List Card} {bs : List Rank} (hs : s < holes.length)
    (w2 : ∀ j, j < holes.length → ∀ h, cf 57 [.p (.tuple [fivD (holes.getD s []), fivD (holes.getD j [])]), .p (fivD board)] h = .ok (.p (.tuple ((winM [gR bs s, gR bs j]).map natD))) h) : ∀ (m n : Nat) (v3 : Option Val), n + m = holes.length →
    ∃ w3, forL (evalSs cf ls61_0) (bindT (.name 3)) ((List.range' n m).map natD) (envWa holes board s v3) h =
      if ((List.range' n m).all fun j => !ltR (gR bs s) (gR bs j)) = true then .ok .nx (envWa holes board s w3) h else .ok (.rt (.p (.bool false))) (envWa holes board s w3) h
  | 0, n, v3, _ => ⟨v3, rfl⟩
  | m + 1, n, v3, hm => by
    obtain ⟨w3, e⟩ := loop61 hs w2 m (n + 1) (some (.p (natD n))) (by omega)
    have hn : n < holes.length := by omega
    rw [List.range'_succ, List.map_cons, List.all_cons]
    have eb : bindT (.name 3) (natD n) (envWa holes board s v3) = some (envWa holes board s (some (.p (natD n)))) := by
      simp only [bt_name, setSlot_0, setSlot_s]
    have gs := hole_ix hs
    have gn := hole_ix hn
    have ww := w2 n hn h
    have nn : opf2 .notIn (.int 0) (.tuple ((winM [gR bs s, gR bs n]).map natD)) = some (.bool (!decide (0 ∈ winM [gR bs s, gR bs n]))) := o_notInN 0 _
    have z := (win_two (gR bs s) (gR bs n)).1
    have st : evalSs cf ls61_0 (envWa holes board s (some (.p (natD n)))) h = if ltR (gR bs s) (gR bs n) = true then .ok (.rt (.p (.bool false))) (envWa holes board s (some (.p (natD n)))) h else .ok .nx (envWa holes board s (some (.p (natD n)))) h := by
      unfold ls61_0 s61_0_0
      by_cases c : n = s
      · subst c
        rw [ltR_irr, if_neg (by decide)]
        simp only [ss_cons, ss_nil, st_if, et_and, et_val, bor_op2, ev_op2, ev_var, slot_0, slot_s, natD, ofO_some, R.bind_ok, unP_p, bor_var, borV_p, o_neI, decide_true, Bool.not_true, Option.map_some, truth_b, ifK_eq, Bool.false_eq_true, if_false, R.toS_ok, RS.bind_nx]
      · have ci : ¬ (n : Int) = (s : Int) := by omega
        by_cases d : ltR (gR bs s) (gR bs n) = true
        · have nz : ¬ 0 ∈ winM [gR bs s, gR bs n] := fun x => by rw [z.mp x] at d; cases d
          rw [decide_eq_false nz] at nn
          rw [if_pos d]
          simp only [ss_cons, ss_nil, st_if, et_and, et_val, bor_op2, ev_op2, ev_var, slot_0, slot_s, natD, ofO_some, R.bind_ok, unP_p, bor_var, borV_p, o_neI, decide_eq_false ci, Bool.not_false, Option.map_some, truth_b, ifK_eq, if_true, ev_lit, ev_call, ees_cons, ees_nil, ev_tup, eps_cons, eps_nil, ev_op2b, o_ixT, gs, gn, bor_call, ww]
          simp only [nn, Option.map_some, ofO_some, R.bind_ok, unP_p, truth_b, ifK_eq, if_true, R.toS_ok, st_ret, ev_lit, RS.bind_rt, Bool.not_false]
        · have d' : ltR (gR bs s) (gR bs n) = false := by simpa using d
          rw [decide_eq_true (z.mpr d')] at nn
          rw [if_neg d]
          simp only [ss_cons, ss_nil, st_if, et_and, et_val, bor_op2, ev_op2, ev_var, slot_0, slot_s, natD, ofO_some, R.bind_ok, unP_p, bor_var, borV_p, o_neI, decide_eq_false ci, Bool.not_false, Option.map_some, truth_b, ifK_eq, if_true, ev_lit, ev_call, ees_cons, ees_nil, ev_tup, eps_cons, eps_nil, ev_op2b, o_ixT, gs, gn, bor_call, ww]
          simp only [nn, Option.map_some, ofO_some, R.bind_ok, unP_p, truth_b, ifK_eq, Bool.not_true, Bool.false_eq_true, if_false, R.toS_ok, RS.bind_nx, ss_nil]
    by_cases d : ltR (gR bs s) (gR bs n) = true
    · refine ⟨some (.p (natD n)), ?_⟩
      rw [d, if_neg (by simp)]
      unfold forL
      rw [eb]
      rw [if_pos d] at st
      simp only [st]
    · have d' : ltR (gR bs s) (gR bs n) = false := by simpa using d
      refine ⟨w3, ?_⟩
      rw [d', Bool.not_false, Bool.true_and]
      unfold forL
      rw [eb]
      rw [if_neg d] at st
      simp only [st]
      exact e
theorem wins_eval {holes : List (List Card)} {board : List Card} (f : ∀ x ∈ holes, Okh board x) (hz : holes.length < 100) (hs : s < holes.length) :
    callF fns (q + 9) 61 [.p (.tuple (holes.map fivD)), .p (fivD board), .p (.int (s : Int))] h = .ok (.p (.bool (decide (s ∈ winM (holes.map fun x => bestC (x ++ board)))))) h := by
  rw [call_eq (d := d61) rfl rfl]
  have ga : ∀ j, j < holes.length → holes.getD j [] ∈ holes ∧ gR (holes.map fun x => bestC (x ++ board)) j = bestC (holes.getD j [] ++ board) := fun j hj => by
    constructor
    · rw [List.getD_eq_getElem?_getD, List.getElem?_eq_getElem hj]; exact List.getElem_mem hj
    · unfold gR; simp [hj]
  have w2 : ∀ j, j < holes.length → ∀ h, callF fns (q + 8) 57 [.p (.tuple [fivD (holes.getD s []), fivD (holes.getD j [])]), .p (fivD board)] h = .ok (.p (.tuple ((winM [gR (holes.map fun x => bestC (x ++ board)) s, gR (holes.map fun x => bestC (x ++ board)) j]).map natD))) h := fun j hj h => by
    rw [(ga s hs).2, (ga j hj).2]
    exact winners_eval (q := q) hasC rfl (holes := [holes.getD s [], holes.getD j []]) (board := board) (fun x hx => by
      rcases List.mem_cons.mp hx with rfl | hx
      · exact f _ (ga s hs).1
      · rw [List.mem_singleton.mp hx]; exact f _ (ga j hj).1) (by simp) (by simp)
  have bl : (holes.map fun x => bestC (x ++ board)).length = holes.length := List.length_map _
  generalize (holes.map fun x => bestC (x ++ board)) = bs at w2 bl ⊢
  generalize callF fns (q + 8) = cf at w2
  obtain ⟨w3, e⟩ := loop61 (cf := cf) (h := h) (bs := bs) (board := board) hs w2 holes.length 0 none (by omega)
  rw [← List.range_eq_range'] at e
  have ac : ((List.range holes.length).all fun j => !ltR (gR bs s) (gR bs j)) = decide (s ∈ winM bs) := by
    by_cases c : s ∈ winM bs
    · rw [decide_eq_true c, List.all_eq_true]
      intro j hj
      rw [(win_iff (by omega)).mp c j (by have := List.mem_range.mp hj; omega)]; rfl
    · rw [decide_eq_false c]
      cases e : ((List.range holes.length).all fun j => !ltR (gR bs s) (gR bs j)) with
      | false => rfl
      | true =>
        refine absurd ((win_iff (by omega)).mpr fun j hj => ?_) c
        have := List.all_eq_true.mp e j (List.mem_range.mpr (by omega))
        simpa using this
  rw [ac] at e
  show finF h.length (evalSs cf b61 (envWa holes board s none) h) = _
  rw [b61_eq]
  unfold ls61
  have t0 : evalS cf s61_0 (envWa holes board s none) h = if decide (s ∈ winM bs) = true then .ok .nx (envWa holes board s w3) h else .ok (.rt (.p (.bool false))) (envWa holes board s w3) h := by
    unfold s61_0
    have ln : opf1 .len (.tuple (holes.map fivD)) = some (.int (holes.length : Int)) := by rw [o_lenT, List.length_map]
    rw [st_for, src_nat (j := holes.length) (by simp only [ev_op1, bor_var, ev_var, slot_0, slot_s, borV_p, ln, ofO_some, R.bind_ok, unP_p, Option.map_some]) (by omega), R.toS_ok]
    exact e
  rw [ss_cons, t0]
  by_cases c : s ∈ winM bs
  · rw [decide_eq_true c, if_pos rfl, RS.bind_nx, ss_cons]
    simp only [s61_1, st_ret, ev_lit, R.toS_ok, RS.bind_rt, fin_rp, List.take_length]
  · rw [decide_eq_false c, if_neg (by decide), RS.bind_rt]
    simp only [fin_rp, List.take_length]
end
end Cd
set_option Elab.async false
set_option linter.all false
set_option maxRecDepth 100000
set_option maxHeartbeats 4000000
namespace Cd
open PySem L2
section
variable {cf : Calls} {h H : Hi} {q k n m : Nat} {cs : List Card} {s bm : Nat}
abbrev envF (ns : List Int) (a2 a3 a4 a5 a6 a7 a8 a9 a10 a11 a12 a13 a14 a15 a16 a17 a18 a19 a20 a21 a22 : Option Val) : Ev := [some (.p (.list (ns.map .int))), some (.ref 0), a2, a3, a4, a5, a6, a7, a8, a9, a10, a11, a12, a13, a14, a15, a16, a17, a18, a19, a20, a21, a22]
abbrev envK (ns : List Int) (a2 a3 a4 a5 a6 a7 a8 a9 a10 a11 a12 a13 a14 a15 a16 a17 : Option Val) : Ev := envF ns a2 a3 a4 a5 a6 a7 a8 a9 a10 a11 a12 a13 a14 a15 a16 a17 none none none none none
abbrev holesD (cs : List Card) (s : Nat) : PyData := .tuple ((holesM cs s).map fivD)
abbrev winD (bs : List Rank) : PyData := .tuple ((winM bs).map natD)
abbrev winL (bs : List Rank) : PyData := .list ((winM bs).map natD)
theorem shapedN (ws : List Nat) (h : ws.length < 1000) : SeqAt.shaped (.tuple (ws.map natD)) = true ∧ SeqAt.shaped (.list (ws.map natD)) = true := by
  rw [natD_int]
  exact shapedI (by rw [List.length_map]; exact h)
theorem win_len (bs : List Rank) : (winM bs).length ≤ bs.length := by
  have := List.length_filter_le (fun i => decide (bs.getD i (0, []) = maxR bs)) (List.range bs.length)
  rw [List.length_range] at this
  exact this
/-- the cards that all have, and small ones -/
def topC : List Card := [10, 11, 12, 13, 14].map fun r : Int => (r, ("h" : Str))
def lowC (a : Nat) : List Card := [(2 + (a : Int), ("c" : Str)), (2 + (a : Int), ("d" : Str))]
theorem rank_topC : rankM topC = topR := by decide
theorem low_fit : ∀ a, a < 4 → Fit (lowC a ++ topC) := by
  intro a ha
  have : ∀ a, a < 4 → (∀ r ∈ (List.range 15), ((lowC a ++ topC).map (·.1)).count (r : Int) ≤ 4) ∧ ∀ c ∈ lowC a ++ topC, 2 ≤ c.1 ∧ c.1 ≤ 14 := by decide
  refine ⟨fun r => ?_, (this a ha).2⟩
  by_cases c : 0 ≤ r ∧ r < 15
  · obtain ⟨j, rfl⟩ := Int.eq_ofNat_of_zero_le c.1
    exact (this a ha).1 j (List.mem_range.mpr (by omega))
  · rw [List.count_eq_zero.mpr fun hm => ?_]
    · omega
    · obtain ⟨x, hx, e⟩ := List.mem_map.mp hm
      have := (this a ha).2 x hx
      omega
theorem low_best {a : Nat} (ha : a < 4) : bestC (lowC a ++ topC) = topR := best_top (low_fit a ha) (List.sublist_append_right _ _) rfl rank_topC
theorem turn63 (ns : List Int) (h0 : 0 < H.length) (hk : k + 500 < 1000000) {a2 a3 a4 a5 a6 a7 a8 a9 a10 a11 a12 a13 a14 a15 a16 a17 : Option Val} :
    ∃ k' b3 b4 b5 b6 b7 b8 b9 b10 b11 b12 b13 b14 b15 b16 b17, k' ≤ k + 70 ∧ evalSs (callF fns (q + 10)) ls63_1 (envK ns a2 a3 a4 a5 a6 a7 a8 a9 a10 a11 a12 a13 a14 a15 a16 a17) (hT H 0 k) = .ok .nx (envK ns a2 b3 b4 b5 b6 b7 b8 b9 b10 b11 b12 b13 b14 b15 b16 b17) (hT H 0 k') := by
  obtain ⟨v1, v10, v11, d1⟩ := draw_eval (fns := fns) (q := q + 9) (h := H) (t := 0) (k := k) rfl ns h0 (by omega) (m := 3) (by decide)
  obtain ⟨v2, v20, v21, d2⟩ := draw_eval (fns := fns) (q := q + 9) (h := H) (t := 0) (k := k + 1) rfl ns h0 (by omega) (m := 3) (by decide)
  obtain ⟨u1, rfl⟩ := Int.eq_ofNat_of_zero_le v10
  obtain ⟨u2, rfl⟩ := Int.eq_ofNat_of_zero_le v20
  obtain ⟨s, hs⟩ : ∃ s : Nat, s = 2 + u1 := ⟨_, rfl⟩
  obtain ⟨bm, hbm⟩ : ∃ bm : Nat, bm = 3 + u2 := ⟨_, rfl⟩
  have is : (2 : Int) + (u1 : Int) = (s : Int) := by omega
  have ib : (3 : Int) + (u2 : Int) = (bm : Int) := by omega
  obtain ⟨cs, cl, cd, e59⟩ := cards_evalG (fns := fns) (i := 59) (q := q + 7) (h := H) (t := 0) (k := k + 2) hasD rfl ns (m := 2 * s + bm) (by omega) h0 (by omega)
  have im : (2 : Int) * (s : Int) + (bm : Int) = ((2 * s + bm : Nat) : Int) := by omega
  have D : Deal cs s bm := ⟨cl, cd, by omega, by omega, by omega, by omega⟩
  obtain ⟨p, hp, e41⟩ := mixed_eval (fns := fns) (q := q + 8) (h := H) (t := 0) (k := k + 2 + 1 + (2 * s + bm)) rfl rfl ns natD (List.range s) h0 (by simp; omega) (by simp; omega)
  rw [List.length_range] at e41
  generalize hk3 : k + 2 + 1 + (2 * s + bm) = k3 at e59 e41
  generalize hk4 : k3 + s = k4 at e41
  have we : ∀ hs : List (List Card), (∀ x ∈ hs, Okh (boardM cs s) x) → hs ≠ [] → hs.length < 100 → ∀ h, callF fns (q + 10) 57 [.p (.tuple (hs.map fivD)), .p (fivD (boardM cs s))] h = .ok (.p (winD (hs.map fun x => bestC (x ++ boardM cs s)))) h := fun hs f ne hl h => winners_eval (q := q + 2) hasC rfl f (by omega) ne
  have wt : ∀ h, callF fns (q + 10) 57 [.p (.tuple (((List.range s).map lowC).map fivD)), .p (fivD topC)] h = .ok (.p (winD (((List.range s).map lowC).map fun x => bestC (x ++ topC)))) h := fun h => winners_eval (q := q + 2) hasC rfl (fun x hx => by
    obtain ⟨a, ha, rfl⟩ := List.mem_map.mp hx
    have := List.mem_range.mp ha
    have := D.s4
    exact ⟨low_fit a (by omega), (by show 5 ≤ 7; decide), (by show 7 ≤ 9; decide)⟩) (by simp; omega) (by simp; omega)
  have wa : ∀ a, a < s → ∀ h, callF fns (q + 10) 61 [.p (holesD cs s), .p (fivD (boardM cs s)), .p (.int (a : Int))] h = .ok (.p (.bool (decide (a ∈ winM (bsM cs s))))) h := fun a ha h => wins_eval (q := q + 1) (fun x hx => (D.hole hx).2) (by rw [holes_len]; omega) (by rw [holes_len]; exact ha)
  have be : ∀ x ∈ holesM cs s, ∀ h, callF fns (q + 10) 56 [.p (fivD (x ++ boardM cs s))] h = .ok (.p (rankD (bestC (x ++ boardM cs s)))) h := fun x hx h => best_eval (q := q + 3) hasC (D.hole hx).2.1 (D.hole hx).2.2.1 (D.hole hx).2.2.2
  have te : ∀ (l : List Card), l.length ≤ 9 → ∀ h, callF fns (q + 10) 62 [.p (fivD l)] h = .ok (.p (.list ((chooseM l 2).map fivD))) h := fun l hl h => twos_eval (q := q + 9) rfl hl
  have bt : ∀ (hole stub : List Card), (∀ two ∈ chooseM stub 2, Fit (two ++ boardM cs s)) → Fit (hole ++ boardM cs s) → hole.length = 2 → 2 ≤ stub.length → stub.length ≤ 9 → ∀ h, callF fns (q + 10) 58 [.p (fivD hole), .p (fivD (boardM cs s)), .p (fivD stub)] h = .ok (.p (.tuple ((beatM hole (boardM cs s) stub).map fivD))) h := fun hole stub f f1 h2 hs hs9 h => beaten_eval (q := q + 2) hasC rfl f f1 h2 (by rw [D.bl]; omega) (by rw [D.bl]; omega) hs hs9
  change callF fns (q + 10) 13 _ _ = _ at d1 d2
  change callF fns (q + 10) 59 _ _ = _ at e59
  change callF fns (q + 10) 41 _ _ = _ at e41
  generalize callF fns (q + 10) = cf at d1 d2 e59 e41 we wt wa be te bt
  have bl := D.bl
  have hl : (holesM cs s).length = s := holes_len
  have hbl : (bsM cs s).length = s := bs_len
  have s2 := D.s2
  have s4 := D.s4
  have bne : bsM cs s ≠ [] := fun e => by rw [e] at hbl; simp at hbl; omega
  have wl := win_len (bsM cs s)
  let S : PyData := .int (s : Int)
  let B : PyData := .int (bm : Int)
  let HD := holesD cs s
  let BD := fivD (boardM cs s)
  let W8 := winD (bsM cs s)
  let X : Option Val → Option Val → Option Val → Option Val → Option Val → Option Val → Option Val → Option Val → Option Val → Option Val → Ev := fun b8 b9 b10 b11 b12 b13 b14 b15 b16 b17 => envK ns a2 (some (.p S)) (some (.p B)) (some (.p (fivD cs))) (some (.p HD)) (some (.p BD)) b8 b9 b10 b11 b12 b13 b14 b15 b16 b17
  have t0 : evalS cf s63_1_0 (envK ns a2 a3 a4 a5 a6 a7 a8 a9 a10 a11 a12 a13 a14 a15 a16 a17) (hT H 0 k) = .ok .nx (envK ns a2 (some (.p S)) (some (.p B)) a5 a6 a7 a8 a9 a10 a11 a12 a13 a14 a15 a16 a17) (hT H 0 (k + 2)) := by
    unfold s63_1_0
    simp only [st_set2, ev_op2d, ev_lit, R.bind_ok, unP_p, ev_call, ees_cons, ees_nil, ev_var, slot_0, slot_s, ofO_some, d1, d2, o_add, Option.map_some, is, ib, R.toS_ok, setSlot_0, setSlot_s, S, B]
  have t1 : evalS cf s63_1_1 (envK ns a2 (some (.p S)) (some (.p B)) a5 a6 a7 a8 a9 a10 a11 a12 a13 a14 a15 a16 a17) (hT H 0 (k + 2)) = .ok .nx (envK ns a2 (some (.p S)) (some (.p B)) (some (.p (fivD cs))) a6 a7 a8 a9 a10 a11 a12 a13 a14 a15 a16 a17) (hT H 0 k3) := by
    unfold s63_1_1
    have e59' : cf 59 [.p (.list (ns.map .int)), .ref 0, .p (.int ((2 * s + bm : Nat) : Int))] (hT H 0 (k + 2)) = .ok (.p (fivD cs)) (hT H 0 k3) := e59
    simp only [st_set, ev_op2d, ev_lit, R.bind_ok, unP_p, ev_call, ees_cons, ees_nil, ev_var, slot_0, slot_s, ofO_some, S, B, o_mul (i := 2) (j := (s : Int)) (.inl (by decide)), o_add, Option.map_some, im, e59', R.toS_ok, setSlot_0, setSlot_s]
  have sl2 : ∀ a : Nat, a < s → opf3 (.slice true true) (fivD cs) (.int (2 * (a : Int))) (.int (2 * (a : Int) + 2)) = some (fivD (seg cs (2 * a) (2 * a + 2))) := fun a ha => by
    unfold fivD
    rw [slice_T (lo := some ((2 * a : Nat) : Int)) (hi := some ((2 * a + 2 : Nat) : Int)) rfl rfl, cut_mid _ _ _ (by omega) (by omega)]
    rfl
  have sl3 : opf3 (.slice true false) (fivD cs) (.int (2 * (s : Int))) .none = some (fivD (boardM cs s)) := by
    unfold fivD
    rw [slice_T (lo := some ((2 * s : Nat) : Int)) (hi := none) rfl rfl, cut_hi _ _ (by omega)]
  have c2 : evalE cf (envK ns a2 (some (.p S)) (some (.p B)) (some (.p (fivD cs))) a6 a7 a8 a9 a10 a11 a12 a13 a14 a15 a16 a17) (.comp [21] (.name 21) (.rng1 (.var 3)) [] (.op3b (.slice true true) (.var 5) (.op2d .mul (.lit (.int 2)) (.var 21)) (.op2d .addI (.op2d .mul (.lit (.int 2)) (.var 21)) (.lit (.int 2))))) (hT H 0 k3) = .ok (.p (.list ((holesM cs s).map fivD))) (hT H 0 k3) := by
    unfold holesM
    rw [List.map_map]
    refine comp_all natD _ (src_nat (j := s) (by simp [S]) (by omega)) (by simp; omega) fun a ha => ⟨envF ns a2 (some (.p S)) (some (.p B)) (some (.p (fivD cs))) a6 a7 a8 a9 a10 a11 a12 a13 a14 a15 a16 a17 none none none (some (.p (natD a))) none, by simp, ?_⟩
    have := List.mem_range.mp ha
    simp only [ev_op3b, bor_var, slot_0, slot_s, borV_p, ev_var, ev_op2d, ev_lit, natD, ofO_some, R.bind_ok, unP_p, o_mul (i := 2) (j := (a : Int)) (.inl (by decide)), o_addI, Option.map_some, sl2 a this]
    rfl
  have t2 : evalS cf s63_1_2 (envK ns a2 (some (.p S)) (some (.p B)) (some (.p (fivD cs))) a6 a7 a8 a9 a10 a11 a12 a13 a14 a15 a16 a17) (hT H 0 k3) = .ok .nx (X a8 a9 a10 a11 a12 a13 a14 a15 a16 a17) (hT H 0 k3) := by
    unfold s63_1_2
    simp only [st_unpack, ev_tup, eps_cons, eps_nil, ev_op1, bor_comp, c2, R.bind_ok, unP_p, o_tupL, Option.map_some, ofO_some, ev_op3b, bor_var, slot_0, slot_s, borV_p, ev_var, ev_op2d, ev_lit, S, o_mul (i := 2) (j := (s : Int)) (.inl (by decide)), sl3, R.toS_ok, bt_tup, bts_cons, bts_nil, bt_name, Option.bind_some, setSlot_0, setSlot_s, X, HD, BD, B]
  have w0 := we (holesM cs s) (fun x hx => (D.hole hx).2) (fun e => by rw [e] at hl; simp at hl; omega) (by omega) (hT H 0 k3)
  have t3 : evalS cf s63_1_3 (X a8 a9 a10 a11 a12 a13 a14 a15 a16 a17) (hT H 0 k3) = .ok .nx (X (some (.p W8)) a9 a10 a11 a12 a13 a14 a15 a16 a17) (hT H 0 k3) := by
    unfold s63_1_3
    simp only [st_set, ev_call, ees_cons, ees_nil, ev_var, X, HD, BD, slot_0, slot_s, ofO_some, R.bind_ok, w0, R.toS_ok, setSlot_0, setSlot_s, W8]
    rfl
  have fl : (List.range s).filter (fun a => decide (a ∈ winM (bsM cs s))) = winM (bsM cs s) := by
    conv => rhs; unfold winM
    rw [hbl]
    refine List.filter_congr fun a ha => decide_eq_decide.mpr ?_
    rw [win_mem, hbl]
    exact ⟨fun x => x.2, fun x => ⟨List.mem_range.mp ha, x⟩⟩
  have c4 : evalE cf (X (some (.p W8)) a9 a10 a11 a12 a13 a14 a15 a16 a17) (.comp [13] (.name 13) (.rng1 (.var 3)) [(.val (.call 61 [(.var 6), (.var 7), (.var 13)]))] (.var 13)) (hT H 0 k3) = .ok (.p (winL (bsM cs s))) (hT H 0 k3) := by
    show _ = R.ok (Val.p (.list ((winM (bsM cs s)).map natD))) _
    rw [← fl]
    refine comp_ok natD natD _ (src_nat (j := s) (by simp [X, S]) (by omega)) (by simp; omega) fun a ha => ⟨envF ns a2 (some (.p S)) (some (.p B)) (some (.p (fivD cs))) (some (.p HD)) (some (.p BD)) (some (.p W8)) a9 a10 a11 a12 (some (.p (natD a))) a14 a15 a16 a17 none none none none none, by simp [X], ?_, fun _ => by simp⟩
    simp only [ets_one, et_val, bor_call, ev_call, ees_cons, ees_nil, ev_var, slot_0, slot_s, ofO_some, R.bind_ok, HD, BD, natD, wa a (List.mem_range.mp ha), unP_p, truth_b]
  have t4 : evalS cf s63_1_4 (X (some (.p W8)) a9 a10 a11 a12 a13 a14 a15 a16 a17) (hT H 0 k3) = .ok .nx (X (some (.p W8)) (some (.p (winL (bsM cs s)))) a10 a11 a12 a13 a14 a15 a16 a17) (hT H 0 k3) := by
    unfold s63_1_4
    rw [st_set, c4, R.toS_ok]
    simp only [X, setSlot_0, setSlot_s]
  have nn := o_neR (shapedN (winM (bsM cs s)) (by omega)).2
  have nz : opf2 .eq W8 (.tuple []) = some (.bool false) := by
    have sh := (shapedN (winM (bsM cs s)) (by omega)).1
    show opf2 .eq (.tuple ((winM (bsM cs s)).map natD)) _ = _
    cases e : winM (bsM cs s) with
    | nil => exact absurd e (win_ne bne)
    | cons w ws => rw [e] at sh; exact eq_nil sh
  have t5 : evalS cf s63_1_5 (X (some (.p W8)) (some (.p (winL (bsM cs s)))) a10 a11 a12 a13 a14 a15 a16 a17) (hT H 0 k3) = .ok .nx (X (some (.p W8)) (some (.p (winL (bsM cs s)))) a10 a11 a12 a13 a14 a15 a16 a17) (hT H 0 k3) := by
    unfold s63_1_5
    simp only [W8] at nz
    simp only [st_if, et_or, et_val, bor_op2, ev_op2, ev_op1, bor_var, X, slot_0, slot_s, borV_p, ev_var, ofO_some, R.bind_ok, unP_p, W8, o_lstT, Option.map_some, nn, truth_b, ifK_eq, Bool.false_eq_true, if_false, bor_tup, ev_tup, eps_nil, nz, R.toS_ok, ss_nil]
  have t6 : evalS cf s63_1_6 (X (some (.p W8)) (some (.p (winL (bsM cs s)))) a10 a11 a12 a13 a14 a15 a16 a17) (hT H 0 k3) = .ok .nx (X (some (.p W8)) (some (.p (winL (bsM cs s)))) (some (.p (.tuple (p.map natD)))) a11 a12 a13 a14 a15 a16 a17) (hT H 0 k4) := by
    unfold s63_1_6
    simp only [st_set, ev_call, ees_cons, ees_nil, ev_op1, bor_var, X, S, slot_0, slot_s, borV_p, ev_var, ofO_some, R.bind_ok, unP_p, o_range1 (show s < 1000000 by omega), Option.map_some, e41, R.toS_ok, setSlot_0, setSlot_s]
  have pl : p.length = s := by rw [hp.length_eq, List.length_range]
  have plt : ∀ a ∈ p, a < s := fun a ha => List.mem_range.mp (hp.mem_iff.mp ha)
  have hx : ∀ a, a < s → atI ((holesM cs s).map fivD) ((a : Nat) : Int) = some (fivD ((holesM cs s).getD a [])) := fun a ha => hole_ix (by rw [hl]; exact ha)
  have c7 : evalE cf (X (some (.p W8)) (some (.p (winL (bsM cs s)))) (some (.p (.tuple (p.map natD)))) a11 a12 a13 a14 a15 a16 a17) (.comp [13] (.name 13) (.e (.var 10)) [] (.op2b .ix (.var 6) (.var 13))) (hT H 0 k4) = .ok (.p (.list ((p.map fun a => (holesM cs s).getD a []).map fivD))) (hT H 0 k4) := by
    rw [List.map_map]
    refine comp_all natD _ (by simp [X]) (by omega) fun a ha => ⟨envF ns a2 (some (.p S)) (some (.p B)) (some (.p (fivD cs))) (some (.p HD)) (some (.p BD)) (some (.p W8)) (some (.p (winL (bsM cs s)))) (some (.p (.tuple (p.map natD)))) a11 a12 (some (.p (natD a))) a14 a15 a16 a17 none none none none none, by simp [X], ?_⟩
    simp only [ev_op2b, bor_var, slot_0, slot_s, borV_p, ev_var, natD, HD, ofO_some, R.bind_ok, unP_p, o_ixT, hx a (plt a ha), Option.map_some]
    rfl
  have w7 := we (p.map fun a => (holesM cs s).getD a []) (fun x hx => by
    obtain ⟨a, ha, rfl⟩ := List.mem_map.mp hx
    exact (D.hole (hole_mem (plt a ha))).2) (fun e => by rw [List.map_eq_nil_iff] at e; rw [e] at pl; simp at pl; omega) (by rw [List.length_map]; omega) (hT H 0 k4)
  have pb : (p.map fun a => (holesM cs s).getD a []).map (fun x => bestC (x ++ boardM cs s)) = p.map (gR (bsM cs s)) := by
    rw [List.map_map]
    exact List.map_congr_left fun a ha => (bs_at (plt a ha)).symm
  rw [pb] at w7
  have t7 : evalS cf s63_1_7 (X (some (.p W8)) (some (.p (winL (bsM cs s)))) (some (.p (.tuple (p.map natD)))) a11 a12 a13 a14 a15 a16 a17) (hT H 0 k4) = .ok .nx (X (some (.p W8)) (some (.p (winL (bsM cs s)))) (some (.p (.tuple (p.map natD)))) (some (.p (winD (p.map (gR (bsM cs s)))))) a12 a13 a14 a15 a16 a17) (hT H 0 k4) := by
    unfold s63_1_7
    simp only [st_set, ev_call, ees_cons, ees_nil, ev_op1, bor_comp, c7, R.bind_ok, unP_p, o_tupL, Option.map_some, ofO_some, ev_var, X, BD, slot_0, slot_s]
    simp only [w7, R.toS_ok, setSlot_0, setSlot_s]
  have c8 : evalE cf (X (some (.p W8)) (some (.p (winL (bsM cs s)))) (some (.p (.tuple (p.map natD)))) (some (.p (winD (p.map (gR (bsM cs s)))))) a12 a13 a14 a15 a16 a17) (.comp [13] (.name 13) (.e (.var 11)) [] (.op2b .ix (.var 10) (.var 13))) (hT H 0 k4) = .ok (.p (.list (((winM (p.map (gR (bsM cs s)))).map fun i => ((p.getD i 0 : Nat) : Int)).map .int))) (hT H 0 k4) := by
    rw [List.map_map]
    have wl2 := win_len (p.map (gR (bsM cs s)))
    rw [List.length_map] at wl2
    refine comp_all natD _ (by simp [X]) (by omega) fun a ha => ⟨envF ns a2 (some (.p S)) (some (.p B)) (some (.p (fivD cs))) (some (.p HD)) (some (.p BD)) (some (.p W8)) (some (.p (winL (bsM cs s)))) (some (.p (.tuple (p.map natD)))) (some (.p (winD (p.map (gR (bsM cs s)))))) a12 (some (.p (natD a))) a14 a15 a16 a17 none none none none none, by simp [X], ?_⟩
    have al := win_lt a ha
    rw [List.length_map] at al
    have gx : atI (p.map natD) ((a : Nat) : Int) = some (natD (p.getD a 0)) := atI_nat (by simp [al])
    simp only [ev_op2b, bor_var, slot_0, slot_s, borV_p, ev_var, natD, ofO_some, R.bind_ok, unP_p, o_ixT]
    rw [gx]
    rfl
  have wp := win_perm (bs := bsM cs s) (p := p) (by rw [hbl]; exact hp) bne
  have wn : (winM (bsM cs s)).map natD = ((winM (bsM cs s)).map fun i : Nat => (i : Int)).map .int := natD_int
  have nn8 := o_neR (shapedI (xs := (winM (bsM cs s)).map fun i : Nat => (i : Int)) (by rw [List.length_map]; omega)).2
  have t8 : evalS cf s63_1_8 (X (some (.p W8)) (some (.p (winL (bsM cs s)))) (some (.p (.tuple (p.map natD)))) (some (.p (winD (p.map (gR (bsM cs s)))))) a12 a13 a14 a15 a16 a17) (hT H 0 k4) = .ok .nx (X (some (.p W8)) (some (.p (winL (bsM cs s)))) (some (.p (.tuple (p.map natD)))) (some (.p (winD (p.map (gR (bsM cs s)))))) a12 a13 a14 a15 a16 a17) (hT H 0 k4) := by
    unfold s63_1_8
    rw [st_if, et_val, bor_op2, ev_op2, ev_op1, bor_comp, c8]
    simp only [R.bind_ok, unP_p, o_sortL, wp, Option.map_some, ofO_some, bor_op1, ev_op1, bor_var, X, slot_0, slot_s, borV_p, ev_var, W8, o_lstT, wn, nn8, truth_b, R.toS_ok, Bool.false_eq_true, if_false, ss_nil]
  let BL : PyData := .list ((bsM cs s).map rankD)
  have c9 : evalE cf (X (some (.p W8)) (some (.p (winL (bsM cs s)))) (some (.p (.tuple (p.map natD)))) (some (.p (winD (p.map (gR (bsM cs s)))))) a12 a13 a14 a15 a16 a17) (.comp [18] (.name 18) (.e (.var 6)) [] (.call 56 [(.op2d .add (.var 18) (.var 7))])) (hT H 0 k4) = .ok (.p BL) (hT H 0 k4) := by
    show _ = R.ok (Val.p (.list (((holesM cs s).map fun x => bestC (x ++ boardM cs s)).map rankD))) _
    rw [List.map_map]
    refine comp_all fivD _ (by simp [X, HD]) (by omega) fun x hx => ⟨envF ns a2 (some (.p S)) (some (.p B)) (some (.p (fivD cs))) (some (.p HD)) (some (.p BD)) (some (.p W8)) (some (.p (winL (bsM cs s)))) (some (.p (.tuple (p.map natD)))) (some (.p (winD (p.map (gR (bsM cs s)))))) a12 a13 a14 a15 a16 a17 (some (.p (fivD x))) none none none none, by simp [X], ?_⟩
    have ad : opf2 .add (fivD x) (fivD (boardM cs s)) = some (fivD (x ++ boardM cs s)) := by
      have := (D.hole hx).1
      unfold fivD
      rw [addT_ok (by rw [List.length_map, List.length_map, bl]; omega), List.map_append]
    simp only [ev_call, ees_cons, ees_nil, ev_op2d, ev_var, slot_0, slot_s, ofO_some, R.bind_ok, unP_p, BD, ad, Option.map_some, be x hx]
    rfl
  let Y : Option Val → Option Val → Option Val → Option Val → Option Val → Option Val → Ev := fun b9 b13 b14 b15 b16 b17 => X (some (.p W8)) b9 (some (.p (.tuple (p.map natD)))) (some (.p (winD (p.map (gR (bsM cs s)))))) (some (.p BL)) b13 b14 b15 b16 b17
  have t9 : evalS cf s63_1_9 (X (some (.p W8)) (some (.p (winL (bsM cs s)))) (some (.p (.tuple (p.map natD)))) (some (.p (winD (p.map (gR (bsM cs s)))))) a12 a13 a14 a15 a16 a17) (hT H 0 k4) = .ok .nx (Y (some (.p (winL (bsM cs s)))) a13 a14 a15 a16 a17) (hT H 0 k4) := by
    unfold s63_1_9
    rw [st_set, c9, R.toS_ok]
    simp only [Y, X, setSlot_0, setSlot_s]
  have rok : ∀ r ∈ bsM cs s, RkOk r := fun r hr => by
    obtain ⟨x, hx, rfl⟩ := List.mem_map.mp hr
    exact best_ok (D.hole hx).2.1 (D.hole hx).2.2.1
  have mx := o_maxR bne
  have c10 : evalE cf (Y (some (.p (winL (bsM cs s)))) a13 a14 a15 a16 a17) (.comp [13] (.name 13) (.rng1 (.var 3)) [] (.op2 .eq (.op2 .eq (.op2b .ix (.var 12) (.var 13)) (.op1 .max (.var 12))) (.op2 .isIn (.var 13) (.var 8)))) (hT H 0 k4) = .ok (.p (.list (((List.range s).map fun _ => true).map .bool))) (hT H 0 k4) := by
    rw [List.map_map]
    refine comp_all natD _ (src_nat (j := s) (by simp [Y, X, S]) (by omega)) (by simp; omega) fun a ha => ⟨envF ns a2 (some (.p S)) (some (.p B)) (some (.p (fivD cs))) (some (.p HD)) (some (.p BD)) (some (.p W8)) (some (.p (winL (bsM cs s)))) (some (.p (.tuple (p.map natD)))) (some (.p (winD (p.map (gR (bsM cs s)))))) (some (.p BL)) (some (.p (natD a))) a14 a15 a16 a17 none none none none none, by simp [Y, X], ?_⟩
    have al := List.mem_range.mp ha
    have gx : atI ((bsM cs s).map rankD) ((a : Nat) : Int) = some (rankD (gR (bsM cs s) a)) := atI_nat (by unfold gR; simp [hbl, al])
    have e1 := o_eqRank (a := gR (bsM cs s) a) (b := maxR (bsM cs s)) (by have := (rok _ (gR_mem (show a < (bsM cs s).length by omega))).few; omega) (by have := (rok _ (maxR_mem bne)).few; omega)
    have e2 := o_inN a (winM (bsM cs s))
    have e3 : decide (a ∈ winM (bsM cs s)) = decide (gR (bsM cs s) a = maxR (bsM cs s)) := decide_eq_decide.mpr (by rw [win_mem]; exact ⟨fun x => x.2, fun x => ⟨by omega, x⟩⟩)
    rw [e3] at e2
    generalize decide (gR (bsM cs s) a = maxR (bsM cs s)) = b at e1 e2
    simp only [ev_op2, ev_op2b, bor_var, slot_0, slot_s, borV_p, ev_var, natD, BL, ofO_some, R.bind_ok, unP_p, o_ixL, gx, bor_op1, ev_op1, mx, Option.map_some, e1, bor_op2, W8, e2, o_eqB, beq_self_eq_true]
    rfl
  have t10 : evalS cf s63_1_10 (Y (some (.p (winL (bsM cs s)))) a13 a14 a15 a16 a17) (hT H 0 k4) = .ok .nx (Y (some (.p (winL (bsM cs s)))) a13 a14 a15 a16 a17) (hT H 0 k4) := by
    have al : ((List.range s).map fun _ => true).all id = true := by simp
    unfold s63_1_10
    rw [st_if, et_not, et_val, bor_op1, ev_op1, bor_comp, c10]
    simp only [R.bind_ok, unP_p, o_allL, al, Option.map_some, ofO_some, truth_b, Bool.not_true, R.toS_ok, Bool.false_eq_true, if_false, ss_nil]
  -- without a seat that does not win
  obtain ⟨env11, h11, f11, b13, b17, ee11, eh11⟩ := forL_inv (body := evalSs cf ls63_1_11) (bt := bindT (.name 13))
    (fun j env' h' => ∃ b13 b17, env' = Y (some (.p (winL (bsM cs s)))) b13 a14 a15 a16 b17 ∧ h' = hT H 0 k4) ((List.range s).map natD) 0 _ _ ⟨a13, a17, rfl, rfl⟩ (fun j env' h' _ hj x hx' hI => by
      obtain ⟨b13, b17, rfl, rfl⟩ := hI
      obtain ⟨a, ha, rfl⟩ := List.mem_map.mp (List.mem_of_getElem? hx')
      have al := List.mem_range.mp ha
      have e2 := o_notInN a (winM (bsM cs s))
      by_cases c : 2 < s ∧ a ∉ winM (bsM cs s)
      · have tk : opf3 (.slice false true) (holesD cs s) .none (.int (a : Int)) = some (.tuple (((holesM cs s).take a).map fivD)) := by
          rw [show holesD cs s = .tuple ((holesM cs s).map fivD) from rfl, slice_T (lo := none) (hi := some (a : Int)) rfl rfl, cut_lo]
        have dk : opf3 (.slice true false) (holesD cs s) (.int ((a : Int) + 1)) .none = some (.tuple (((holesM cs s).drop (a + 1)).map fivD)) := by
          rw [show holesD cs s = .tuple ((holesM cs s).map fivD) from rfl, slice_T (lo := some ((a + 1 : Nat) : Int)) (hi := none) rfl rfl, cut_hi _ _ (by omega)]
        have ad : opf2 .add (.tuple (((holesM cs s).take a).map fivD)) (.tuple (((holesM cs s).drop (a + 1)).map fivD)) = some (.tuple (((holesM cs s).take a ++ (holesM cs s).drop (a + 1)).map fivD)) := by
          rw [addT_ok (by simp; omega), List.map_append]
        have w11 := we ((holesM cs s).take a ++ (holesM cs s).drop (a + 1)) (fun x hx => by
          rcases List.mem_append.mp hx with h | h
          · exact (D.hole (List.mem_of_mem_take h)).2
          · exact (D.hole (List.mem_of_mem_drop h)).2) (fun e => by have := congrArg List.length e; rw [List.length_append, List.length_take, List.length_drop, hl, List.length_nil] at this; omega) (by rw [List.length_append, List.length_take, List.length_drop, hl]; omega) (hT H 0 k4)
        have bb : ((holesM cs s).take a ++ (holesM cs s).drop (a + 1)).map (fun x => bestC (x ++ boardM cs s)) = (bsM cs s).take a ++ (bsM cs s).drop (a + 1) := by
          unfold bsM
          rw [List.map_append, List.map_take, List.map_drop]
        rw [bb] at w11
        have wl := win_less (bs := bsM cs s) (s := a) (by omega) c.2
        have wl3 := win_len ((bsM cs s).take a ++ (bsM cs s).drop (a + 1))
        let Z : PyData := winD ((bsM cs s).take a ++ (bsM cs s).drop (a + 1))
        have zi : (winM ((bsM cs s).take a ++ (bsM cs s).drop (a + 1))).map natD = ((winM (bsM cs s)).map fun i : Nat => (i : Int) - (if decide (a < i) = true then 1 else 0)).map .int := by
          rw [natD_int, wl]
        have c12 : evalE cf (Y (some (.p (winL (bsM cs s)))) (some (.p (natD a))) a14 a15 a16 (some (.p Z))) (.comp [22] (.name 22) (.e (.var 8)) [] (.op2d .sub (.var 22) (.op1 .int (.op2 .gt (.var 22) (.var 13))))) (hT H 0 k4) = .ok (.p (.list (((winM (bsM cs s)).map fun i : Nat => (i : Int) - (if decide (a < i) = true then 1 else 0)).map .int))) (hT H 0 k4) := by
          rw [List.map_map]
          refine comp_all natD _ (by simp [Y, X, W8]) (by omega) fun i hi => ⟨envF ns a2 (some (.p S)) (some (.p B)) (some (.p (fivD cs))) (some (.p HD)) (some (.p BD)) (some (.p W8)) (some (.p (winL (bsM cs s)))) (some (.p (.tuple (p.map natD)))) (some (.p (winD (p.map (gR (bsM cs s)))))) (some (.p BL)) (some (.p (natD a))) a14 a15 a16 (some (.p Z)) none none none none (some (.p (natD i))), by simp [Y, X], ?_⟩
          have g : decide ((a : Int) < (i : Int)) = decide (a < i) := decide_eq_decide.mpr (by omega)
          have oi : ∀ b : Bool, opf1 .int (.bool b) = some (.int (if b = true then 1 else 0)) := fun b => by cases b <;> rfl
          simp only [ev_op2d, ev_op1, bor_op2, ev_op2, bor_var, slot_0, slot_s, borV_p, ev_var, natD, ofO_some, R.bind_ok, unP_p, o_gt, g, Option.map_some, oi, o_sub]
          rfl
        have nz := o_neR (shapedI (xs := (winM (bsM cs s)).map fun i : Nat => (i : Int) - (if decide (a < i) = true then 1 else 0)) (by rw [List.length_map]; omega)).1
        refine ⟨Y (some (.p (winL (bsM cs s)))) (some (.p (natD a))) a14 a15 a16 b17, by simp [Y, X], .nx, Y (some (.p (winL (bsM cs s)))) (some (.p (natD a))) a14 a15 a16 (some (.p Z)), hT H 0 k4, ?_, .inl rfl, _, _, rfl, rfl⟩
        have u0 : evalS cf s63_1_11_0_0 (Y (some (.p (winL (bsM cs s)))) (some (.p (natD a))) a14 a15 a16 b17) (hT H 0 k4) = .ok .nx (Y (some (.p (winL (bsM cs s)))) (some (.p (natD a))) a14 a15 a16 (some (.p Z))) (hT H 0 k4) := by
          unfold s63_1_11_0_0
          simp only [st_set, ev_call, ees_cons, ees_nil, ev_op2d, ev_op3b, bor_var, Y, X, HD, BD, slot_0, slot_s, borV_p, ev_var, natD, ofO_some, R.bind_ok, unP_p, ev_lit, tk, Option.map_some, o_addI, dk, ad, w11, R.toS_ok, setSlot_0, setSlot_s, Z]
        have u1 : evalS cf s63_1_11_0_1 (Y (some (.p (winL (bsM cs s)))) (some (.p (natD a))) a14 a15 a16 (some (.p Z))) (hT H 0 k4) = .ok .nx (Y (some (.p (winL (bsM cs s)))) (some (.p (natD a))) a14 a15 a16 (some (.p Z))) (hT H 0 k4) := by
          unfold s63_1_11_0_1
          have v17 : evalE cf (Y (some (.p (winL (bsM cs s)))) (some (.p (natD a))) a14 a15 a16 (some (.p Z))) (.var 17) (hT H 0 k4) = .ok (.p (.tuple (((winM (bsM cs s)).map fun i : Nat => (i : Int) - (if decide (a < i) = true then 1 else 0)).map .int))) (hT H 0 k4) := by
            simp only [ev_var, Y, X, slot_0, slot_s, ofO_some, Z, winD, zi]
          rw [st_if, et_val, bor_op2, ev_op2, v17]
          simp only [R.bind_ok, unP_p, bor_op1, ev_op1, bor_comp]
          rw [c12]
          simp only [R.bind_ok, unP_p, o_tupL, Option.map_some, ofO_some, nz, truth_b, R.toS_ok, Bool.false_eq_true, if_false, ss_nil]
        show evalSs cf ls63_1_11 _ _ = _
        unfold ls63_1_11 s63_1_11_0
        rw [ss_cons, st_if]
        have s3 : decide ((2 : Int) < (s : Int)) = true := decide_eq_true (by omega)
        rw [decide_eq_false c.2] at e2
        have e2' : opf2 .notIn (natD a) W8 = some (.bool true) := e2
        simp only [et_and, et_val, bor_op2, ev_op2, ev_var, Y, X, S, slot_0, slot_s, ofO_some, R.bind_ok, unP_p, bor_lit, ev_lit, o_gt, s3, Option.map_some, truth_b, ifK_eq, if_true, bor_var, borV_p, e2', R.toS_ok]
        unfold ls63_1_11_0
        simp only [Y, X, S] at u0 u1
        rw [ss_cons, u0, RS.bind_nx, ss_cons, u1, RS.bind_nx, ss_nil, RS.bind_nx, ss_nil]
      · refine ⟨Y (some (.p (winL (bsM cs s)))) (some (.p (natD a))) a14 a15 a16 b17, by simp [Y, X], .nx, Y (some (.p (winL (bsM cs s)))) (some (.p (natD a))) a14 a15 a16 b17, hT H 0 k4, ?_, .inl rfl, _, _, rfl, rfl⟩
        show evalSs cf ls63_1_11 _ _ = _
        unfold ls63_1_11 s63_1_11_0
        have e2' : opf2 .notIn (natD a) W8 = some (.bool (!decide (a ∈ winM (bsM cs s)))) := e2
        by_cases c1 : 2 < s
        · have c2 : a ∈ winM (bsM cs s) := Classical.not_not.mp fun z => c ⟨c1, z⟩
          have s3 : decide ((2 : Int) < (s : Int)) = true := decide_eq_true (by omega)
          rw [decide_eq_true c2] at e2'
          simp only [ss_cons, ss_nil, st_if, et_and, et_val, bor_op2, ev_op2, ev_var, Y, X, S, slot_0, slot_s, ofO_some, R.bind_ok, unP_p, bor_lit, ev_lit, o_gt, s3, Option.map_some, truth_b, ifK_eq, if_true, bor_var, borV_p, e2', Bool.not_true, Bool.false_eq_true, if_false, R.toS_ok, RS.bind_nx]
        · have s3 : decide ((2 : Int) < (s : Int)) = false := decide_eq_false (by omega)
          simp only [ss_cons, ss_nil, st_if, et_and, et_val, bor_op2, ev_op2, ev_var, Y, X, S, slot_0, slot_s, ofO_some, R.bind_ok, unP_p, bor_lit, ev_lit, o_gt, s3, Option.map_some, truth_b, ifK_eq, Bool.false_eq_true, if_false, R.toS_ok, RS.bind_nx])
  have t11 : evalS cf s63_1_11 (Y (some (.p (winL (bsM cs s)))) a13 a14 a15 a16 a17) (hT H 0 k4) = .ok .nx (Y (some (.p (winL (bsM cs s)))) b13 a14 a15 a16 b17) (hT H 0 k4) := by
    unfold s63_1_11
    rw [st_for, src_nat (j := s) (by simp [Y, X, S]) (by omega), R.toS_ok, f11, ee11, eh11]
  -- twos that beat a hole
  have t12 : ∃ b9 b16, evalS cf s63_1_12 (Y (some (.p (winL (bsM cs s)))) b13 a14 a15 a16 b17) (hT H 0 k4) = .ok .nx (Y b9 b13 a14 a15 b16 b17) (hT H 0 k4) := by
    by_cases c : bm = 5
    · let H0 := (holesM cs s).getD 0 []
      let H1 := (holesM cs s).getD 1 []
      let H2 : List Card := if 2 < s then (holesM cs s).getD 2 [] else []
      have m0 := hole_mem (cs := cs) (show 0 < s by omega)
      have m1 := hole_mem (cs := cs) (show 1 < s by omega)
      have q0 := D.hole m0
      have q1 := D.hole m1
      have l2 : H2.length ≤ 2 := by
        show (if 2 < s then _ else _ : List Card).length ≤ 2
        by_cases c : 2 < s
        · rw [if_pos c, (D.hole (hole_mem (cs := cs) c)).1]; exact Nat.le_refl _
        · rw [if_neg c]; exact Nat.zero_le _
      have l1 : H1.length = 2 := q1.1
      let RS' := H1 ++ H2
      have rl : RS'.length ≤ 4 := by show (H1 ++ H2).length ≤ 4; rw [List.length_append]; omega
      have rl2 : 2 ≤ RS'.length := by show 2 ≤ (H1 ++ H2).length; rw [List.length_append]; omega
      have sub : (RS' ++ boardM cs s).Sublist cs := by
        show ((H1 ++ H2) ++ boardM cs s).Sublist cs
        have e1 : H1 = seg cs 2 4 := holes_at (show 1 < s by omega)
        have bs2 : ∀ b, b ≤ 2 * s → (boardM cs s).Sublist (cs.drop b) := fun b hb => by
          have e : boardM cs s = (cs.drop b).drop (2 * s - b) := by rw [List.drop_drop]; show cs.drop (2 * s) = _; congr 1; omega
          rw [e]; exact List.drop_sublist _ _
        rw [List.append_assoc, e1]
        refine (seg_app (by omega) ?_).trans (List.drop_sublist _ _)
        show ((if 2 < s then (holesM cs s).getD 2 [] else []) ++ boardM cs s).Sublist (cs.drop 4)
        by_cases c : 2 < s
        · rw [if_pos c, holes_at c]
          exact seg_app (by omega) (bs2 6 (by omega))
        · rw [if_neg c]
          exact bs2 4 (by omega)
      have tw : ∀ two ∈ chooseM RS' 2, two.length = 2 ∧ Okh (boardM cs s) two := fun two ht => by
        have := (choose_mem _ _ _).mp ht
        exact ⟨this.2, D.okh this.2 ((this.1.append (List.Sublist.refl _)).trans sub)⟩
      have g0 : atI ((holesM cs s).map fivD) 0 = some (fivD H0) := hx 0 (by omega)
      have g1 : atI ((holesM cs s).map fivD) 1 = some (fivD H1) := hx 1 (by omega)
      have ad : opf2 .add (fivD H1) (fivD H2) = some (fivD RS') := by
        unfold fivD
        rw [addT_ok (by simp; omega), ← List.map_append]
      have u0 : evalS cf s63_1_12_0 (Y (some (.p (winL (bsM cs s)))) b13 a14 a15 a16 b17) (hT H 0 k4) = .ok .nx (Y (some (.p (winL (bsM cs s)))) b13 a14 a15 (some (.p (fivD RS'))) b17) (hT H 0 k4) := by
        unfold s63_1_12_0
        by_cases c : 2 < s
        · have s3 : decide ((2 : Int) < (s : Int)) = true := decide_eq_true (by omega)
          have g2 : atI ((holesM cs s).map fivD) 2 = some (fivD H2) := by
            show _ = some (fivD (if 2 < s then _ else _))
            rw [if_pos c]
            exact hx 2 c
          simp only [st_set, ev_op2d, ev_op2b, bor_var, Y, X, HD, S, slot_0, slot_s, borV_p, ev_var, ofO_some, R.bind_ok, unP_p, ev_lit, o_ixT, g1, Option.map_some, ev_ite, et_val, bor_op2, ev_op2, bor_lit, o_gt, s3, truth_b, ifK_eq, if_true, g2, ad, R.toS_ok, setSlot_0, setSlot_s]
        · have s3 : decide ((2 : Int) < (s : Int)) = false := decide_eq_false (by omega)
          have g2 : fivD H2 = .tuple [] := by
            show fivD (if 2 < s then _ else _) = _
            rw [if_neg c]; rfl
          rw [g2] at ad
          simp only [st_set, ev_op2d, ev_op2b, bor_var, Y, X, HD, S, slot_0, slot_s, borV_p, ev_var, ofO_some, R.bind_ok, unP_p, ev_lit, o_ixT, g1, Option.map_some, ev_ite, et_val, bor_op2, ev_op2, bor_lit, o_gt, s3, truth_b, ifK_eq, Bool.false_eq_true, if_false, ev_tup, eps_nil, ad, R.toS_ok, setSlot_0, setSlot_s]
      have c12 : evalE cf (Y (some (.p (winL (bsM cs s)))) b13 a14 a15 (some (.p (fivD RS'))) b17) (.comp [19] (.name 19) (.e (.call 62 [(.var 16)])) [(.val (.op2 .eq (.call 57 [(.tup [(.var 19), (.op2b .ix (.var 6) (.lit (.int 0)))]), (.var 7)]) (.tup [(.lit (.int 0))])))] (.var 19)) (hT H 0 k4) = .ok (.p (.list ((beatM H0 (boardM cs s) RS').map fivD))) (hT H 0 k4) := by
        unfold beatM
        have t6 := te RS' (by omega) (hT H 0 k4)
        refine comp_ok fivD fivD _ (by simp only [es_e, ev_call, ees_cons, ees_nil, ev_var, Y, X, slot_0, slot_s, ofO_some, R.bind_ok, t6, unP_p, items_L]) (ch_size 2 (by omega)) fun two ht => ⟨envF ns a2 (some (.p S)) (some (.p B)) (some (.p (fivD cs))) (some (.p HD)) (some (.p BD)) (some (.p W8)) (some (.p (winL (bsM cs s)))) (some (.p (.tuple (p.map natD)))) (some (.p (winD (p.map (gR (bsM cs s)))))) (some (.p BL)) b13 a14 a15 (some (.p (fivD RS'))) b17 none (some (.p (fivD two))) none none none, by simp [Y, X], ?_, fun _ => by simp⟩
        have w12 := we [two, H0] (fun x hx => by
          rcases List.mem_cons.mp hx with rfl | hx
          · exact (tw _ ht).2
          · rw [List.mem_singleton.mp hx]; exact q0.2) (by simp) (by simp) (hT H 0 k4)
        have w12' : cf 57 [.p (.tuple [fivD two, fivD H0]), .p (fivD (boardM cs s))] (hT H 0 k4) = .ok (.p (winD [bestC (two ++ boardM cs s), bestC (H0 ++ boardM cs s)])) (hT H 0 k4) := w12
        have z := (win_two (bestC (two ++ boardM cs s)) (bestC (H0 ++ boardM cs s))).2
        have wl2 := win_len [bestC (two ++ boardM cs s), bestC (H0 ++ boardM cs s)]
        rw [show [bestC (two ++ boardM cs s), bestC (H0 ++ boardM cs s)].length = 2 from rfl] at wl2
        have eq : opf2 .eq (winD [bestC (two ++ boardM cs s), bestC (H0 ++ boardM cs s)]) (.tuple [.int 0]) = some (.bool (ltR (bestC (H0 ++ boardM cs s)) (bestC (two ++ boardM cs s)))) := by
          have := o_eqT (xs := (winM [bestC (two ++ boardM cs s), bestC (H0 ++ boardM cs s)]).map fun i : Nat => (i : Int)) (ys := [0]) (by rw [List.length_map]; omega) (by decide)
          rw [← natD_int] at this
          refine (show opf2 .eq (.tuple ((winM _).map natD)) (.tuple [.int 0]) = _ from this).trans ?_
          congr 2
          by_cases c : ltR (bestC (H0 ++ boardM cs s)) (bestC (two ++ boardM cs s)) = true
          · rw [c, z.mpr c]; rfl
          · have c' : ltR (bestC (H0 ++ boardM cs s)) (bestC (two ++ boardM cs s)) = false := by simpa using c
            rw [c']
            refine decide_eq_false fun e => c (z.mp ?_)
            generalize winM [bestC (two ++ boardM cs s), bestC (H0 ++ boardM cs s)] = ws at e
            match ws, e with
            | [w], e =>
              have : (w : Int) = 0 := by simpa using e
              congr 1
              omega
        simp only [ets_one, et_val, bor_op2, ev_op2, ev_call, ees_cons, ees_nil, ev_tup, eps_cons, eps_nil, ev_var, slot_0, slot_s, ofO_some, R.bind_ok, unP_p, ev_op2b, bor_var, borV_p, HD, BD, ev_lit, o_ixT, g0, Option.map_some, w12', bor_tup, eq, truth_b]
      have b12 := bt H0 RS' (fun two ht => (tw two ht).2.1) q0.2.1 q0.1 rl2 (by omega) (hT H 0 k4)
      have nl : (beatM H0 (boardM cs s) RS').length < 1000 := by
        have h1 := ch_size (l := RS') 2 (by omega)
        have h2 := List.length_filter_le (fun two => ltR (bestC (H0 ++ boardM cs s)) (bestC (two ++ boardM cs s))) (chooseM RS' 2)
        unfold beatM
        omega
      have fv : ∀ two ∈ beatM H0 (boardM cs s) RS', ∀ c ∈ two, c.2 ∈ suitsL := fun two ht c hc => by
        have h1 := (choose_mem _ _ _).mp (List.mem_filter.mp ht).1
        exact (D.deck.range c (sub.subset (List.mem_append_left _ (h1.1.subset hc)))).2.2
      have nn := o_neR (shapedF nl fv).2
      refine ⟨some (.p (.list ((beatM H0 (boardM cs s) RS').map fivD))), some (.p (fivD RS')), ?_⟩
      have s5 : evalS cf s63_1_12 (Y (some (.p (winL (bsM cs s)))) b13 a14 a15 a16 b17) (hT H 0 k4) = evalSs cf ls63_1_12 (Y (some (.p (winL (bsM cs s)))) b13 a14 a15 a16 b17) (hT H 0 k4) := by
        unfold s63_1_12
        have e5 : decide ((bm : Int) = 5) = true := decide_eq_true (by omega)
        simp only [st_if, et_val, bor_op2, ev_op2, ev_var, Y, X, B, slot_0, slot_s, ofO_some, R.bind_ok, unP_p, bor_lit, ev_lit, o_eqI, e5, Option.map_some, truth_b, R.toS_ok, if_true]
      rw [s5]
      unfold ls63_1_12
      rw [ss_cons, u0, RS.bind_nx, ss_cons]
      unfold s63_1_12_1
      rw [st_set, c12, R.toS_ok, RS.bind_nx, ss_cons]
      unfold s63_1_12_2
      simp only [st_if, et_val, bor_op2, ev_op2, ev_op1, bor_call, ev_call, ees_cons, ees_nil, ev_op2b, bor_var, Y, X, HD, BD, slot_0, slot_s, borV_p, ev_var, ofO_some, R.bind_ok, unP_p, ev_lit, o_ixT, g0, Option.map_some, b12, o_lstT, setSlot_0, setSlot_s, nn, truth_b, R.toS_ok, Bool.false_eq_true, if_false, ss_nil, RS.bind_nx]
    · refine ⟨some (.p (winL (bsM cs s))), a16, ?_⟩
      have e5 : decide ((bm : Int) = 5) = false := decide_eq_false (by omega)
      unfold s63_1_12
      simp only [st_if, et_val, bor_op2, ev_op2, ev_var, Y, X, B, slot_0, slot_s, ofO_some, R.bind_ok, unP_p, bor_lit, ev_lit, o_eqI, e5, Option.map_some, truth_b, R.toS_ok, Bool.false_eq_true, if_false, ss_nil]
  obtain ⟨b9, b16, t12⟩ := t12
  -- a board that all have
  have c13 : evalE cf (Y b9 b13 a14 a15 b16 b17) (.comp [20] (.name 20) (.e (.tup [(.lit (.int 10)), (.lit (.int 11)), (.lit (.int 12)), (.lit (.int 13)), (.lit (.int 14))])) [] (.tup [(.var 20), (.lit (.str ("h" : Str)))])) (hT H 0 k4) = .ok (.p (.list (topC.map cardD))) (hT H 0 k4) := by
    unfold topC
    rw [List.map_map]
    refine comp_all PyData.int _ (by simp only [es_e, ev_tup, eps_cons, eps_nil, ev_lit, R.bind_ok, unP_p, items_T, ofO_some]; rfl) (by decide) fun r hr => ⟨envF ns a2 (some (.p S)) (some (.p B)) (some (.p (fivD cs))) (some (.p HD)) (some (.p BD)) (some (.p W8)) b9 (some (.p (.tuple (p.map natD)))) (some (.p (winD (p.map (gR (bsM cs s)))))) (some (.p BL)) b13 a14 a15 b16 b17 none none (some (.p (.int r))) none none, by simp [Y, X], by simp [cardD]⟩
  have t13 : evalS cf s63_1_13 (Y b9 b13 a14 a15 b16 b17) (hT H 0 k4) = .ok .nx (Y b9 b13 (some (.p (fivD topC))) a15 b16 b17) (hT H 0 k4) := by
    unfold s63_1_13
    rw [st_set, ev_op1, bor_comp, c13]
    simp only [R.bind_ok, unP_p, o_tupL, Option.map_some, ofO_some, R.toS_ok, Y, X, setSlot_0, setSlot_s, fivD]
  have c14 : evalE cf (Y b9 b13 (some (.p (fivD topC))) a15 b16 b17) (.comp [21] (.name 21) (.rng1 (.var 3)) [] (.tup [(.tup [(.op2d .add (.lit (.int 2)) (.var 21)), (.lit (.str ("c" : Str)))]), (.tup [(.op2d .add (.lit (.int 2)) (.var 21)), (.lit (.str ("d" : Str)))])])) (hT H 0 k4) = .ok (.p (.list (((List.range s).map lowC).map fivD))) (hT H 0 k4) := by
    rw [List.map_map]
    refine comp_all natD _ (src_nat (j := s) (by simp [Y, X, S]) (by omega)) (by simp; omega) fun a ha => ⟨envF ns a2 (some (.p S)) (some (.p B)) (some (.p (fivD cs))) (some (.p HD)) (some (.p BD)) (some (.p W8)) b9 (some (.p (.tuple (p.map natD)))) (some (.p (winD (p.map (gR (bsM cs s)))))) (some (.p BL)) b13 (some (.p (fivD topC))) a15 b16 b17 none none none (some (.p (natD a))) none, by simp [Y, X], ?_⟩
    simp only [ev_tup, eps_cons, eps_nil, ev_op2d, ev_lit, ev_var, slot_0, slot_s, natD, ofO_some, R.bind_ok, unP_p, o_add, Option.map_some]
    rfl
  have t14 : evalS cf s63_1_14 (Y b9 b13 (some (.p (fivD topC))) a15 b16 b17) (hT H 0 k4) = .ok .nx (Y b9 b13 (some (.p (fivD topC))) (some (.p (.tuple (((List.range s).map lowC).map fivD)))) b16 b17) (hT H 0 k4) := by
    unfold s63_1_14
    rw [st_set, ev_op1, bor_comp, c14]
    simp only [R.bind_ok, unP_p, o_tupL, Option.map_some, ofO_some, R.toS_ok, Y, X, setSlot_0, setSlot_s]
  have ws : winM (((List.range s).map lowC).map fun x => bestC (x ++ topC)) = List.range s := by
    rw [win_same (r := topR) fun x hx => by
      obtain ⟨y, hy, rfl⟩ := List.mem_map.mp hx
      obtain ⟨a, ha, rfl⟩ := List.mem_map.mp hy
      exact low_best (by have := List.mem_range.mp ha; omega)]
    simp
  have w15 := wt (hT H 0 k4)
  rw [show winD (((List.range s).map lowC).map fun x => bestC (x ++ topC)) = .tuple ((winM (((List.range s).map lowC).map fun x => bestC (x ++ topC))).map natD) from rfl, ws] at w15
  have nn15 := o_neR (shapedN (List.range s) (by simp; omega)).1
  have t15 : evalS cf s63_1_15 (Y b9 b13 (some (.p (fivD topC))) (some (.p (.tuple (((List.range s).map lowC).map fivD)))) b16 b17) (hT H 0 k4) = .ok .nx (Y b9 b13 (some (.p (fivD topC))) (some (.p (.tuple (((List.range s).map lowC).map fivD)))) b16 b17) (hT H 0 k4) := by
    unfold s63_1_15
    simp only [st_if, et_val, bor_op2, ev_op2, ev_call, ees_cons, ees_nil, ev_var, Y, X, S, slot_0, slot_s, ofO_some, R.bind_ok, w15, unP_p, bor_op1, ev_op1, bor_var, borV_p, o_rangeT (show s < 1000000 by omega), Option.map_some, nn15, truth_b, R.toS_ok, Bool.false_eq_true, if_false, ss_nil]
  refine ⟨k4, some (.p S), some (.p B), some (.p (fivD cs)), some (.p HD), some (.p BD), some (.p W8), b9, some (.p (.tuple (p.map natD))), some (.p (winD (p.map (gR (bsM cs s))))), some (.p BL), b13, some (.p (fivD topC)), some (.p (.tuple (((List.range s).map lowC).map fivD))), b16, b17, by omega, ?_⟩
  unfold ls63_1
  rw [ss_cons, t0, RS.bind_nx, ss_cons, t1, RS.bind_nx, ss_cons, t2, RS.bind_nx, ss_cons, t3, RS.bind_nx, ss_cons, t4, RS.bind_nx, ss_cons, t5, RS.bind_nx, ss_cons, t6, RS.bind_nx, ss_cons, t7, RS.bind_nx, ss_cons, t8, RS.bind_nx, ss_cons, t9, RS.bind_nx, ss_cons, t10, RS.bind_nx, ss_cons, t11, RS.bind_nx, ss_cons, t12, RS.bind_nx, ss_cons, t13, RS.bind_nx, ss_cons, t14, RS.bind_nx, ss_cons, t15, RS.bind_nx, ss_nil]
theorem law63 (ns : List Int) : ∃ h', callF fns 31 63 [.p (.list (ns.map .int))] [] = .ok (.p (.bool true)) h' := by
  rw [call_eq (d := d63) (n := 30) rfl rfl]
  have tb : ∀ (H : Hi) (k : Nat), 0 < H.length → k + 500 < 1000000 → ∀ (a2 a3 a4 a5 a6 a7 a8 a9 a10 a11 a12 a13 a14 a15 a16 a17 : Option Val), ∃ k' b3 b4 b5 b6 b7 b8 b9 b10 b11 b12 b13 b14 b15 b16 b17, k' ≤ k + 70 ∧ evalSs (callF fns 30) ls63_1 (envK ns a2 a3 a4 a5 a6 a7 a8 a9 a10 a11 a12 a13 a14 a15 a16 a17) (hT H 0 k) = .ok .nx (envK ns a2 b3 b4 b5 b6 b7 b8 b9 b10 b11 b12 b13 b14 b15 b16 b17) (hT H 0 k') := fun H k h0 hk a2 a3 a4 a5 a6 a7 a8 a9 a10 a11 a12 a13 a14 a15 a16 a17 => turn63 (q := 20) ns h0 hk
  generalize callF fns 30 = cf at tb
  have t0 : evalS cf s63_0 (some (.p (.list (ns.map .int))) :: List.replicate 22 none) [] = .ok .nx (envK ns none none none none none none none none none none none none none none none none) (hT [.dead] 0 0) := by
    simp [s63_0, mkK]; rfl
  obtain ⟨env2, h2, f2, H2, k2, b2, b3, b4, b5, b6, b7, b8, b9, b10, b11, b12, b13, b14, b15, b16, b17, p0, p1, ee, eh⟩ := forL_inv (body := evalSs cf ls63_1) (bt := bindT (.name 2))
    (fun j env' h' => ∃ (H' : Hi) (k' : Nat) (b2 b3 b4 b5 b6 b7 b8 b9 b10 b11 b12 b13 b14 b15 b16 b17 : Option Val), 0 < H'.length ∧ k' ≤ 70 * j ∧ env' = envK ns b2 b3 b4 b5 b6 b7 b8 b9 b10 b11 b12 b13 b14 b15 b16 b17 ∧ h' = hT H' 0 k') (rangeD 0 2 1) 0 _ _ ⟨[.dead], 0, none, none, none, none, none, none, none, none, none, none, none, none, none, none, none, none, by simp, by omega, rfl, rfl⟩ (fun j env' h' _ hj x hx hI => by
      obtain ⟨H', k', b2, b3, b4, b5, b6, b7, b8, b9, b10, b11, b12, b13, b14, b15, b16, b17, p0, p1, rfl, rfl⟩ := hI
      have hl : (rangeD 0 2 1).length = 2 := rfl
      rw [hl] at hj
      obtain ⟨k'', c3, c4, c5, c6, c7, c8, c9, c10, c11, c12, c13, c14, c15, c16, c17, p1', e⟩ := tb H' k' p0 (by omega) (some (.p x)) b3 b4 b5 b6 b7 b8 b9 b10 b11 b12 b13 b14 b15 b16 b17
      exact ⟨_, by simp, .nx, _, _, e, .inl rfl, H', k'', some (.p x), c3, c4, c5, c6, c7, c8, c9, c10, c11, c12, c13, c14, c15, c16, c17, p0, by omega, rfl, rfl⟩)
  have t1 : evalS cf s63_1 (envK ns none none none none none none none none none none none none none none none none) (hT [.dead] 0 0) = .ok .nx env2 h2 := by
    unfold s63_1
    rw [st_for, rngLit (by decide), R.toS_ok]
    exact f2
  have t2 : ∀ env h, evalS cf s63_2 env h = .ok (.rt (.p (.bool true))) env h := fun env h => by simp [s63_2]
  refine ⟨h2.take 0, ?_⟩
  show finF 0 (evalSs cf b63 (some (.p (.list (ns.map .int))) :: List.replicate 22 none) []) = _
  rw [b63_eq]
  unfold ls63
  rw [ss_cons, t0, RS.bind_nx, ss_cons, t1, RS.bind_nx, ss_cons, t2, RS.bind_rt, fin_rp]
end
end Cd
set_option Elab.async false
set_option maxRecDepth 100000
set_option maxHeartbeats 4000000
namespace Cd
theorem holds (ns : List Int) (h : ns.length ≤ 63) : okTrue (callF Γ0.fns 31 63 [scriptD ns] []) = true := by
  rw [show Γ0.fns = fns from rfl]
  have : scriptD ns = .p (.list (ns.map .int)) := rfl
  rw [this]
  obtain ⟨h', e⟩ := law63 ns
  rw [e]
  rfl
end Cd
set_option Elab.async false
set_option linter.all false
set_option maxRecDepth 100000
set_option maxHeartbeats 4000000
open PySem PySem.W PyProof.Rows
set_option maxRecDepth 100000 in
set_option maxHeartbeats 0 in
theorem PySem.Challenge.cw_cardhands_k20_whole_winners_by_pairs_holds : PySem.Challenge.rw_cardhands_k20_whole_winners_by_pairs.Holds := by
  w_on; o_law; k_head; (case hw => w_witness2)
  k_fill
  refine Cd.walk_endK (l := PySem.Challenge.rw_cardhands_k20_whole_winners_by_pairs) (Γ := Cd.Γ0) (fi := 63) (n := 30) "_law_script" rfl (by decide) rfl ⟨rfl, by decide, by decide⟩ Cd.holds (fun w h Y => PySem.W.kIn_of Y) ?F
  case F =>
    intro w mg fa h KX G hmg
    refine' Cd.all_mk KX G hmg ?tn0 ?tb0 ?a55 ?i55 ?l55 ?c55 ?k55 ?a48 ?i48 ?l48 ?c48 ?k48 ?a49 ?i49 ?l49 ?c49 ?k49 ?a50 ?i50 ?l50 ?c50 ?k50 ?a56 ?i56 ?l56 ?c56 ?k56 ?a57 ?i57 ?l57 ?c57 ?k57 ?a58 ?i58 ?l58 ?c58 ?k58 ?a13 ?i13 ?l13 ?c13 ?k13 ?a14 ?i14 ?l14 ?c14 ?k14 ?a59 ?i59 ?l59 ?c59 ?k59 ?a41 ?i41 ?l41 ?c41 ?k41 ?a61 ?i61 ?l61 ?c61 ?k61 ?a62 ?i62 ?l62 ?c62 ?k62 ?a63 ?i63 ?l63 ?c63 ?k63 ?z0 ?z1 ?z2 ?z3 ?z4 ?z5 ?z6 ?z7 ?z8 ?z9 ?tk0_0 ?th0_0 ?tk0_1 ?th0_1 ?tk0_2 ?th0_2 ?tk0_3 ?th0_3 ?tk0_4 ?th0_4 ?cn0 ?ct0
    (case tn0 => first | k_is | rfl)
    (case tb0 => first | k_is | rfl)
    (case a55 => first | k_is | rfl)
    (case i55 => first | k_is | rfl)
    (case l55 => first | k_is | rfl)
    (case c55 => first | k_is | rfl)
    (case k55 => first | k_is | rfl)
    (case a48 => first | k_is | rfl)
    (case i48 => first | k_is | rfl)
    (case l48 => first | k_is | rfl)
    (case c48 => first | k_is | rfl)
    (case k48 => first | k_is | rfl)
    (case a49 => first | k_is | rfl)
    (case i49 => first | k_is | rfl)
    (case l49 => first | k_is | rfl)
    (case c49 => first | k_is | rfl)
    (case k49 => first | k_is | rfl)
    (case a50 => first | k_is | rfl)
    (case i50 => first | k_is | rfl)
    (case l50 => first | k_is | rfl)
    (case c50 => first | k_is | rfl)
    (case k50 => first | k_is | rfl)
    (case a56 => first | k_is | rfl)
    (case i56 => first | k_is | rfl)
    (case l56 => first | k_is | rfl)
    (case c56 => first | k_is | rfl)
    (case k56 => first | k_is | rfl)
    (case a57 => first | k_is | rfl)
    (case i57 => first | k_is | rfl)
    (case l57 => first | k_is | rfl)
    (case c57 => first | k_is | rfl)
    (case k57 => first | k_is | rfl)
    (case a58 => first | k_is | rfl)
    (case i58 => first | k_is | rfl)
    (case l58 => first | k_is | rfl)
    (case c58 => first | k_is | rfl)
    (case k58 => first | k_is | rfl)
    (case a13 => first | k_is | rfl)
    (case i13 => first | k_is | rfl)
    (case l13 => first | k_is | rfl)
    (case c13 => first | k_is | rfl)
    (case k13 => first | k_is | rfl)
    (case a14 => first | k_is | rfl)
    (case i14 => first | k_is | rfl)
    (case l14 => first | k_is | rfl)
    (case c14 => first | k_is | rfl)
    (case k14 => first | k_is | rfl)
    (case a59 => first | k_is | rfl)
    (case i59 => first | k_is | rfl)
    (case l59 => first | k_is | rfl)
    (case c59 => first | k_is | rfl)
    (case k59 => first | k_is | rfl)
    (case a41 => first | k_is | rfl)
    (case i41 => first | k_is | rfl)
    (case l41 => first | k_is | rfl)
    (case c41 => first | k_is | rfl)
    (case k41 => first | k_is | rfl)
    (case a61 => first | k_is | rfl)
    (case i61 => first | k_is | rfl)
    (case l61 => first | k_is | rfl)
    (case c61 => first | k_is | rfl)
    (case k61 => first | k_is | rfl)
    (case a62 => first | k_is | rfl)
    (case i62 => first | k_is | rfl)
    (case l62 => first | k_is | rfl)
    (case c62 => first | k_is | rfl)
    (case k62 => first | k_is | rfl)
    (case a63 => first | k_is | rfl)
    (case i63 => first | k_is | rfl)
    (case l63 => first | k_is | rfl)
    (case c63 => first | k_is | rfl)
    (case k63 => first | k_is | rfl)
    (case z0 => first | k_is | rfl)
    (case z1 => first | k_is | rfl)
    (case z2 => first | k_is | rfl)
    (case z3 => first | k_is | rfl)
    (case z4 => first | k_is | rfl)
    (case z5 => first | k_is | rfl)
    (case z6 => first | k_is | rfl)
    (case z7 => first | k_is | rfl)
    (case z8 => first | k_is | rfl)
    (case z9 => first | k_is | rfl)
    (case tk0_0 => first | k_is | rfl)
    (case th0_0 => first | rfl | decide +kernel)
    (case tk0_1 => first | k_is | rfl)
    (case th0_1 => first | rfl | decide +kernel)
    (case tk0_2 => first | k_is | rfl)
    (case th0_2 => first | rfl | decide +kernel)
    (case tk0_3 => first | k_is | rfl)
    (case th0_3 => first | rfl | decide +kernel)
    (case tk0_4 => first | k_is | rfl)
    (case th0_4 => first | rfl | decide +kernel)
    (case cn0 => first | k_is | rfl)
    (case ct0 => first | k_is | rfl)
