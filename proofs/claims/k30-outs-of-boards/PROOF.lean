import PyProof.Rows.All
import PyProof.ReprRoads
import Wide.All
import OpenK.AllK
import Wide.FinOn
import HandS.ForMost
import HandS.ForExc
import HandS.TryMany
import HandS.CallSlots
import KE.DataMinMax
import KE.DataCmp
import KE.KTupSum
import KE.DataFind
import HandS.Lambda
import HandS.ExcInit
import HandS.ExcField
import HandS.WordsExc
import HandS.HotCalls
import HandS.ExcInitHot
import HandS.ExcIs
import HandS.TupAny
import HandS.Deep
import HandS.Style
import HandS.IsInst
import HandS.Conv
import HandS.Text
import PyProof.Rows.SeqMore
import HandS.SortInts
import PyProof.ListStr
import KE.GoesNew
import HandS.Iter
import HandS.SetFor
import KE.GoesEnum
import HandS.HeadEnd
import HandS.Set
import HandS.Strs
import PyProof.Rows.SetFrom
import HandS.ExcOwn
import HandS.TupMul
import HandS.WordsDict
import HandS.Replace
import KE.SortData
import HandS.NoneIn
import KE.DataAny
import KE.KDictZip
import PyProof.SumAny
import KE.KDictPairs
import KE.KDictCopyH
import HandS.TupLen
import HandS.FStr
import HandS.TupSets
import HandS.Nested
import KE.SortKeyHeap
import HandS.EndOwn
import PySem.Challenge.RW_cardhands_k30_whole_outs_of_boards
import PyProof.P3Eq
set_option Elab.async false
set_option linter.all false
set_option maxRecDepth 100000
set_option maxHeartbeats 4000000
namespace Cd
open PySem L2

inductive Val where
  | p (d : PyData)
  | ref (n : Nat)
inductive Fld where
  | p (d : PyData)
  | l (ts : List PyData)
inductive Ob where
  | lst (ts : List PyData)
  | dct (kvs : List (Key × Fld))
  | ins (c : Nat) (fs : List Fld)
  | dead
abbrev Hi := List Ob
abbrev Ev := List (Option Val)
structure Ex where
  c : Nat
  fs : List PyData
/-- what an evaluation comes to -/
inductive R (α : Type) where
  | ok (a : α) (h : Hi)
  | exc (e : Ex) (h : Hi)
  | stuck
def R.bind {α β : Type} (r : R α) (k : α → Hi → R β) : R β :=
  match r with
  | .ok a h => k a h
  | .exc e h => .exc e h
  | .stuck => .stuck
def ofO {α : Type} (o : Option α) (h : Hi) : R α := match o with
  | some a => .ok a h
  | none => .stuck
@[simp] theorem R.bind_ok {α β : Type} (a : α) (h : Hi) (k : α → Hi → R β) : (R.ok a h).bind k = k a h := rfl
@[simp] theorem R.bind_exc {α β : Type} (e : Ex) (h : Hi) (k : α → Hi → R β) : (R.exc e h : R α).bind k = .exc e h := rfl
@[simp] theorem R.bind_stuck {α β : Type} (k : α → Hi → R β) : (R.stuck : R α).bind k = .stuck := rfl
@[simp] theorem ofO_some {α : Type} (a : α) (h : Hi) : ofO (some a) h = .ok a h := rfl
@[simp] theorem ofO_none {α : Type} (h : Hi) : ofO (none : Option α) h = .stuck := rfl

/-- unary operations on data -/
inductive O1 where
  | len | sum | max | min | any | all | sorted | sortedSet | lenSet | tuple | list | neg | isNone | notNone | rev | abs | truth | join0 | split0 | int
  | range | rangeT | lenDict | revT | sortedT | lenSetI | lenSetT
  | joinS (sep : Str) | indexS (t : Str) | strI | lenDictT
  | anyI | sortedDict | sumL | sortedD | words | repr
  | lookI (kvs : List (Int × PyData))
  | inRg (a b : Int)
  | uptoS (z : Str)
  | revFrom (n : Nat)
  | look (kvs : List (List Int × Int))
/-- binary operations -/
inductive O2 where
  | add | addI | cat | sub | mul | rep | fdiv | mod | eq | ne | lt | le | gt | ge | isIn | notIn | ix | count | index | max2 | min2 | join | split | starts | from_ | upto | zipL | enumL | countT | countN | indexN | repT | indexT | inS | notInS | catT
/-- ternary: a slice -/
inductive O3 where
  | slice (l u : Bool)
  | sliceS (l u : Bool)
  | leLe
/-- what a name may be asked to be -/
inductive Ty where
  | int | bool | str | tuple | list | exc (c : Nat)
/-- what a suite does with e.at: return e.at; x = (text, e.at) -/
inductive AtK where
  | ret (j : Nat)
  | set (j i : Nat) (z : Str)
  /-- f(e), f a def that asks the class of e alone -/
  | setH (j i : Nat) (g : Nat → PyData)
  | retH (j : Nat) (g : Nat → PyData)
  /-- if e.at != len(x): return False -/
  | neLen (j i : Nat)
inductive Tg where
  | name (i : Nat)
  | tup (ts : List Tg)

mutual
inductive E where
  | var (i : Nat)
  | lit (d : PyData)
  | fld (i j : Nat)
  | key (i : Nat) (k : Key)
  | op1 (o : O1) (a : E)
  | op2 (o : O2) (a b : E)
  | op2b (o : O2) (a b : E)
  | op2d (o : O2) (a b : E)
  | op3 (o : O3) (a b c : E)
  | op3b (o : O3) (a b c : E)
  | and_ (a b : E)
  | or_ (a b : E)
  | not_ (a : E)
  | ite (c : Te) (a b : E)
  | tup (es : List E)
  | lst (es : List E)
  | call (f : Nat) (es : List E)
  | meth (c f i : Nat) (es : List E)
  /-- the method of an object that is told by a -/
  | methN (c f : Nat) (a : E) (es : List E)
  | new (c f : Nat) (es : List E)
  | comp (own : List Nat) (t : Tg) (src : Src) (cond : List Te) (elt : E)
  | compB (i : Nat) (own : List Nat) (t : Tg) (cond : List Te) (elt : E)
  | compI (i : Nat) (own : List Nat) (t : Tg) (cond : List Te) (elt : E)
  | catB (i : Nat) (b : E)
  | isi (a : E) (t : Ty)
  | dget (i : Nat) (k : E)
  /-- sorted(a, key=lambda x: ..): the lambda as the def f of x and of what it captures -/
  | sortK (f : Nat) (caps : List Nat) (a : E)
  /-- k in d, k not in d -/
  | dhas (i : Nat) (k : E) (neg : Bool)
  | dzip (a b : E)
  | dgetD (i : Nat) (k d : E)
  | din (i : Nat) (neg : Bool) (k : E)
  | pop (i : Nat) (a : E)
  | freeze (i : Nat)
  | mk (e : E)
  | excFld (i j : Nat)
inductive Te where
  | val (e : E)
  | and_ (a b : Te)
  | or_ (a b : Te)
  | not_ (a : Te)
inductive Src where
  | e (a : E)
  | rng1 (a : E)
  | rng2 (a b : E)
  | rng3 (a b : E)
  | enum (a : E)
  | zip (a b : E)
  | items (i : Nat)
end
inductive S where
  | set (i : Nat) (e : E)
  | newD (i : Nat) (kvs : List (Key × Bool × E))
  | set2 (i j : Nat) (a b : E)
  | set3 (i j k : Nat) (a b c : E)
  | unpack (t : Tg) (e : E)
  | setFld (i j : Nat) (e : E)
  | newFld (i j : Nat) (e : E)
  | setKey (i : Nat) (k : Key) (e : E)
  | newKey (i : Nat) (k : Key) (e : E)
  | setKeyD (i : Nat) (k e : E)
  | setIx (p : E) (i e : E)
  | setIx2 (i j : Nat) (k l a b : E)
  | app (p : E) (e : E)
  | ext (p : E) (e : E)
  | expr (e : E)
  | if_ (c : Te) (a b : List S)
  | for_ (t : Tg) (src : Src) (body : List S)
  | while_ (c : Te) (body : List S)
  | ret (e : E)
  | brk | cont | pass
  | raise_ (c : Nat) (es : List E)
  /-- raise C(e), C's own __init__ keeps its argument; f: a def of the small program that stands for it -/
  | raiseI (c f : Nat) (e : E)
  /-- try: body; except C as e: k of e.at -/
  | tryAt (body : List S) (c : Nat) (k : AtK)
  | forB (t : Tg) (i : Nat) (body : List S)
  | try_ (body : List S) (hs : List (Nat × List S))

def intsD : List PyData → Option (List Int)
  | [] => some []
  | .int i :: r => (intsD r).map (i :: ·)
  | _ :: _ => none
def boolsD : List PyData → Option (List Bool)
  | [] => some []
  | .bool b :: r => (boolsD r).map (b :: ·)
  | _ :: _ => none
def strsD : List PyData → Option (List Str)
  | [] => some []
  | .str x :: r => (strsD r).map (x :: ·)
  | _ :: _ => none
def insI (x : Int) : List Int → List Int
  | [] => [x]
  | y :: r => if x ≤ y then x :: y :: r else y :: insI x r
def sortI : List Int → List Int
  | [] => []
  | x :: r => insI x (sortI r)
def dedup {α : Type} [DecidableEq α] : List α → List α
  | [] => []
  | x :: r => if x ∈ r then dedup r else x :: dedup r
def truthD : PyData → Option Bool
  | .none => some false
  | .bool b => some b
  | .int i => some (i != 0)
  | .list ts => some (!ts.isEmpty)
  | .tuple ts => some (!ts.isEmpty)
  | .str x => if x.length ≤ sizeLine then some ((x.length : Int) != 0) else none
  | _ => none
def isNoneD : PyData → Bool
  | .none => true
  | _ => false
def cmpOk (x y : PyData) : Bool := PySem.W.alike x y && !isNoneD x && decide (min x.depth y.depth ≤ 64)
def maxOk (ts : List PyData) : Bool := ts.all (fun a => ts.all (PySem.W.alike a)) && ts.all (fun a => !isNoneD a) && decide (PyData.depthAll ts ≤ 60)
def seqD : PyData → Option (List PyData)
  | .list ts => some ts
  | .tuple ts => some ts
  | _ => none
def scalD : PyData → Bool
  | .none => true
  | .bool _ => true
  | .int _ => true
  | .str _ => true
  | _ => false
/-- x == y -/
def eqD (x y : PyData) : Option Bool :=
  if scalD x && scalD y then some (PyData.eqv x y)
  else if SeqAt.shaped x && SeqAt.shaped y then some (PyData.eqv x y) else none
/-- x in the items -/
def inD (x : PyData) (ys : List PyData) : Option Bool :=
  if x.plain && PyData.plainAll ys && decide (x.depth ≤ 60) then some (ys.any fun y => PyData.eqv y x) else none
def small64 (i : Int) : Bool := decide (i.natAbs < 18446744073709551616)
def strAt (x : Str) (i : Int) : Option PyData := if x.length ≤ sizeLine then (atI x.cps.toList i).map fun c => .str ⟨#[c]⟩ else none
def lenD : PyData → Option PyData
  | .list ts => some (.int ts.length)
  | .tuple ts => some (.int ts.length)
  | .str x => if x.length ≤ sizeLine then some (.int x.length) else none
  | _ => none
def sumD : PyData → Option PyData
  | .list ts => (intsD ts).map fun ns => .int ns.sum
  | .tuple ts => (intsD ts).map fun ns => .int ns.sum
  | _ => none
def maxS : List PyData → Option PyData
  | x :: xs => if maxOk (x :: xs) then some (PySem.W.maxD x xs) else none
  | [] => none
def minS : List PyData → Option PyData
  | x :: xs => if maxOk (x :: xs) then some (PySem.W.minD x xs) else none
  | [] => none
def anyS : PyData → Option PyData
  | .list ts => (boolsD ts).map fun bs => .bool (bs.any id)
  | _ => none
/-- any(ints) -/
def anyIS : PyData → Option PyData
  | .list ts => (intsD ts).map fun ns => .bool (ns.any (· != 0))
  | _ => none
def allS : PyData → Option PyData
  | .list ts => (boolsD ts).map fun bs => .bool (bs.all id)
  | _ => none
def pairsD : List PyData → Option (List (Int × Int))
  | [] => some []
  | .tuple [.int a, .int b] :: r => (pairsD r).map ((a, b) :: ·)
  | _ :: _ => none
def pairD (p : Int × Int) : PyData := .tuple [.int p.1, .int p.2]
/-- p ≤ q, the first ahead of the second -/
def leP (p q : Int × Int) : Bool := decide (p.1 < q.1) || (decide (p.1 = q.1) && decide (p.2 ≤ q.2))
def insP (x : Int × Int) : List (Int × Int) → List (Int × Int)
  | [] => [x]
  | y :: r => if leP x y then x :: y :: r else y :: insP x r
def sortP : List (Int × Int) → List (Int × Int)
  | [] => []
  | x :: r => insP x (sortP r)
def sortedS : PyData → Option PyData
  | .list ts => match intsD ts with
    | some ns => some (.list ((sortI ns).map .int))
    | none => (pairsD ts).map fun ps => .list ((sortP ps).map pairD)
  | .tuple ts => (intsD ts).map fun ns => .list ((sortI ns).map .int)
  | _ => none
def sortedSetS : PyData → Option PyData
  | .list ts => (intsD ts).bind fun ns => if ns.length < 64 then some (.list ((sortI (dedup ns)).map .int)) else none
  | _ => none
/-- rows of ints, the first ahead of the second -/
def leL : List Int → List Int → Bool
  | [], _ => true
  | _ :: _, [] => false
  | x :: xs, y :: ys => decide (x < y) || (decide (x = y) && leL xs ys)
def insT (x : List Int) : List (List Int) → List (List Int)
  | [] => [x]
  | y :: r => if leL x y then x :: y :: r else y :: insT x r
def sortT : List (List Int) → List (List Int)
  | [] => []
  | x :: r => insT x (sortT r)
def tupsD : List PyData → Option (List (List Int))
  | [] => some []
  | .tuple (d :: ds) :: r => (intsD (d :: ds)).bind fun ns => (tupsD r).map (ns :: ·)
  | _ :: _ => none
def tupD (ns : List Int) : PyData := .tuple (ns.map .int)
/-- sorted(a list of tuples of ints, none empty) -/
def sortedTS : PyData → Option PyData
  | .list ts => (tupsD ts).map fun rs => .list ((sortT rs).map tupD)
  | _ => none
/-- sep.join(a list of texts) -/
def joinSD (sep : Str) : PyData → Option PyData
  | .list ts => (strsD ts).bind fun ys => if (ys.map (·.length)).sum + ys.length * sep.length ≤ 16777216 then some (.str (Txt.join sep ys)) else none
  | _ => none
/-- t.index(a text that is in it) -/
def indexSD (t : Str) : PyData → Option PyData
  | .str b => match Builtin.Str.occurrences t b 0 t.length 1 with
    | i :: _ => some (.int ((i : Nat) : Int))
    | [] => none
  | _ => none
/-- len(set(ints)) -/
def lenSetIS : PyData → Option PyData
  | .list ts => (intsD ts).bind fun xs => if xs.length < 64 then some (.int (dedup xs).length) else none
  | _ => none
def tupleS : PyData → Option PyData
  | .list ts => some (.tuple ts)
  | .tuple ts => some (.tuple ts)
  | _ => none
def listS : PyData → Option PyData
  | .list ts => some (.list ts)
  | .tuple ts => some (.list ts)
  | .str x => if x.cps.size ≤ sizeLine then some (.list (x.cps.toList.map fun c => .str ⟨#[c]⟩)) else none
  | _ => none
def negS : PyData → Option PyData
  | .int i => some (.int (-i))
  | _ => none
def absS : PyData → Option PyData
  | .int i => some (.int (if i < 0 then -i else i))
  | _ => none
def revS : PyData → Option PyData
  | .list ts => some (.list ts.reverse)
  | _ => none
def revTS : PyData → Option PyData
  | .tuple ts => some (.tuple ts.reverse)
  | _ => none
/-- len(set(texts)) -/
def lenSetS : PyData → Option PyData
  | .list ts => (strsD ts).bind fun xs => if xs.length < 1000 then some (.int (dedup xs.reverse).length) else none
  | _ => none
/-- a module's table at a tuple of ints -/
def lookS (kvs : List (List Int × Int)) : PyData → Option PyData
  | .tuple ts => (intsD ts).bind fun ks => (kvs.lookup ks).map .int
  | _ => none
def rangeD (lo : Int) (n : Nat) (c : Int) : List PyData := (List.range n).map fun (i : Nat) => .int (lo + (i : Int) * c)
def rngOk (i : Int) : Bool := decide (i.natAbs < 4611686018427387904)
def rangeS : PyData → Option PyData
  | .int j => if rngOk j && decide (j.toNat ≤ 16777216) then some (.list (rangeD 0 j.toNat 1)) else none
  | _ => none
def fromS : PyData → PyData → Option PyData
  | .int i, .int j => if rngOk i && rngOk j && decide ((j - i).toNat ≤ 16777216) then some (.list (rangeD i (j - i).toNat 1)) else none
  | _, _ => none
def key0 : PyData → Option Key
  | .int i => some (.inl i)
  | .str x => some (.inr x)
  | _ => none
def pairKeys : List PyData → Option (List Key)
  | [] => some []
  | .tuple [k, _] :: r => (key0 k).bind fun q => (pairKeys r).map (q :: ·)
  | _ :: _ => none
/-- len(dict(pairs)) -/
def lenDictS : PyData → Option PyData
  | .list ts => (pairKeys ts).map fun ks => .int (dedup ks).length
  | _ => none
def intKeys : List Key → Option (List Int)
  | [] => some []
  | .inl i :: r => (intKeys r).map (i :: ·)
  | .inr _ :: _ => none
/-- sorted(dict(pairs)), the keys ints -/
def sortedDictS : PyData → Option PyData
  | .list ts => (pairKeys ts).bind fun ks => (intKeys ks).bind fun ns => if ns.length < 64 then some (.list ((sortI (dedup ns)).map .int)) else none
  | _ => none
/-- int(x) of a truth or an int -/
def intS : PyData → Option PyData
  | .int i => some (.int i)
  | .bool k => some (.int (if k then 1 else 0))
  | _ => none
def _root_.PySem.PyData.isSeqD : PyData → Bool
  | .list _ => true
  | .tuple _ => true
  | _ => false
/-- repr(x) of a list or a tuple, no dict within; of None -/
def reprS (d : PyData) : Option PyData :=
  if isNoneD d = true then some (.str "None") else if (d.isSeqD && d.showable && !d.hasDict && decide (d.depth ≤ 50) && decide (d.shown.length ≤ sizeLine)) = true then some (.str d.shown) else none
def listsD : List PyData → Option (List PyData)
  | [] => some []
  | .list ts :: r => (listsD r).map (ts ++ ·)
  | _ :: _ => none
/-- sum(lists, []) -/
def sumLS : PyData → Option PyData
  | .list ts => (listsD ts).bind fun us => if ts.isEmpty = false ∧ us.length < 1000 then some (.list us) else none
  | _ => none
def tupNe : PyData → Bool
  | .tuple (_ :: _) => true
  | _ => false
def leD (a b : PyData) : Bool := !PySem.W.dataLt b a
/-- sorted(a list of tuples, none empty) -/
def sortedDS : PyData → Option PyData
  | .list ts => if (ts.all (fun a => ts.all (PySem.W.alike a)) && ts.all tupNe && decide (PyData.depthAll ts ≤ 60)) then some (.list (ts.mergeSort leD)) else none
  | .tuple ts => if (ts.all (fun a => ts.all (PySem.W.alike a)) && ts.all tupNe && decide (PyData.depthAll ts ≤ 60)) then some (.list (ts.mergeSort leD)) else none
  | _ => none
/-- a dict display that is looked up at once -/
def lookIS (kvs : List (Int × PyData)) : PyData → Option PyData
  | .int k => kvs.lookup k
  | _ => none
/-- a tuple's items from the place n on, back to the first -/
def revFromS (n : Nat) : PyData → Option PyData
  | .tuple ts => if n < ts.length then some (.tuple (ts.take (n + 1)).reverse) else none
  | _ => none
/-- text.split() -/
def wordsS : PyData → Option PyData
  | .str x => if x.length + 2 ≤ sizeLine then some (.list ((Txt.words x).map .str)) else none
  | _ => none
/-- x in range(a, b), x an int -/
def inRgS (a b : Int) : PyData → Option PyData
  | .int x => some (.bool (decide (a ≤ x ∧ x < b)))
  | _ => none
/-- z[:n] of a text that is told -/
def uptoSD (z : Str) : PyData → Option PyData
  | .int n => if z.length ≤ sizeLine then some (.str (L2.cutS z none (some n))) else none
  | _ => none
def keysT : List PyData → Option (List Key)
  | [] => some []
  | d :: r => (key0 d).bind fun k => (keysT r).map (k :: ·)
def tupKeys : List PyData → Option (List (List Key))
  | [] => some []
  | .tuple [.tuple ds, _] :: r => (keysT ds).bind fun k => (tupKeys r).map (k :: ·)
  | _ :: _ => none
def tupsK : List PyData → Option (List (List Key))
  | [] => some []
  | .tuple ds :: r => (keysT ds).bind fun k => (tupsK r).map (k :: ·)
  | _ :: _ => none
/-- len(set(tuples)), few of them -/
def lenSetTS : PyData → Option PyData
  | .list ts => (tupsK ts).bind fun ks => if ks.length ≤ 8 then some (.int (dedup ks).length) else none
  | _ => none
/-- len(dict(pairs)), the keys tuples, no key twice -/
def lenDictTS : PyData → Option PyData
  | .list ts => (tupKeys ts).bind fun ks => if (dedup ks).length = ks.length ∧ ks.length < 1000 then some (.int ks.length) else none
  | _ => none
/-- str(n) -/
def strIS : PyData → Option PyData
  | .int i => if i.natAbs.log2 < 1920 then some (.str (toString i)) else none
  | _ => none
def opf1 (o : O1) (d : PyData) : Option PyData := match o with
  | .strI => strIS d
  | .lenDictT => lenDictTS d
  | .int => intS d
  | .repr => reprS d
  | .sumL => sumLS d
  | .sortedD => sortedDS d
  | .lookI kvs => lookIS kvs d
  | .inRg a b => inRgS a b d
  | .uptoS z => uptoSD z d
  | .words => wordsS d
  | .revFrom n => revFromS n d
  | .range => rangeS d
  | .rangeT => (rangeS d).bind tupleS
  | .lenDict => lenDictS d
  | .lenSet => lenSetS d
  | .revT => revTS d
  | .look kvs => lookS kvs d
  | .sortedT => sortedTS d
  | .lenSetI => lenSetIS d
  | .lenSetT => lenSetTS d
  | .joinS sep => joinSD sep d
  | .anyI => anyIS d
  | .sortedDict => sortedDictS d
  | .indexS t => indexSD t d
  | .len => lenD d
  | .sum => sumD d
  | .max => (seqD d).bind maxS
  | .min => (seqD d).bind minS
  | .any => anyS d
  | .all => allS d
  | .sorted => sortedS d
  | .sortedSet => sortedSetS d
  | .tuple => tupleS d
  | .list => listS d
  | .neg => negS d
  | .isNone => some (.bool (isNoneD d))
  | .notNone => some (.bool (!isNoneD d))
  | .rev => revS d
  | .abs => absS d
  | _ => none
def addD : PyData → PyData → Option PyData
  | .int i, .int j => some (.int (i + j))
  | .str x, .str y => if x.length + y.length ≤ sizeLine then some (.str (x ++ y)) else none
  | .tuple xs, .tuple ys => if xs.length + ys.length ≤ sizeLine then some (.tuple (xs ++ ys)) else none
  | .list xs, .list ys => if xs.length + ys.length ≤ sizeLine then some (.list (xs ++ ys)) else none
  | _, _ => none
def addI : PyData → PyData → Option PyData
  | .int i, .int j => some (.int (i + j))
  | _, _ => none
def catD : PyData → PyData → Option PyData
  | .list xs, .list ys => if xs.length + ys.length ≤ sizeLine then some (.list (xs ++ ys)) else none
  | _, _ => none
def subD : PyData → PyData → Option PyData
  | .int i, .int j => some (.int (i - j))
  | _, _ => none
def mulD : PyData → PyData → Option PyData
  | .int i, .int j => if small64 i || small64 j then some (.int (i * j)) else none
  | _, _ => none
def repD : PyData → PyData → Option PyData
  | .list xs, .int k => if decide (k.natAbs < 9223372036854775808) && decide (xs.length * k.toNat ≤ sizeLine) then some (.list (List.replicate k.toNat xs).flatten) else none
  | _, _ => none
def repTD : PyData → PyData → Option PyData
  | .tuple xs, .int k => if !xs.isEmpty && decide (2 ≤ k) && decide (k ≤ 1000) && decide (xs.length ≤ 1000) then some (.tuple (List.replicate k.toNat xs).flatten) else none
  | _, _ => none
def fdivD : PyData → PyData → Option PyData
  | .int i, .int j => if decide (j ≠ 0) && decide (j.natAbs < 1073741824) then some (.int (i.fdiv j)) else none
  | _, _ => none
def modD : PyData → PyData → Option PyData
  | .int i, .int j => if j = 0 then none else some (.int (i.fmod j))
  | _, _ => none
/-- a comparison: of ints, or of data -/
def cmpD (p : Int → Int → Bool) (f : PyData → PyData → Bool) : PyData → PyData → Option PyData
  | .int i, .int j => some (.bool (p i j))
  | x, y => if cmpOk x y then some (.bool (f x y)) else none
def ixD : PyData → PyData → Option PyData
  | .list xs, .int i => atI xs i
  | .tuple xs, .int i => atI xs i
  | .str x, .int i => strAt x i
  | _, _ => none
def max2D : PyData → PyData → Option PyData
  | .int i, .int j => some (.int (if j > i then j else i))
  | _, _ => none
def min2D : PyData → PyData → Option PyData
  | .int i, .int j => some (.int (if j < i then j else i))
  | _, _ => none
def countD : PyData → PyData → Option PyData
  | .list xs, y => if scalD y && xs.all scalD then some (.int (xs.countP fun x => PyData.eqv x y)) else none
  | _, _ => none
/-- tuples whose methods may be called: their object is known -/
def needT : List PyData → Bool
  | .bool _ :: _ => true
  | .tuple _ :: _ => true
  | _ => false
def countTD : PyData → PyData → Option PyData
  | .tuple xs, y => if scalD y && xs.all scalD then some (.int (xs.countP fun x => PyData.eqv x y)) else none
  | _, _ => none
/-- the first place of an equal one -/
def placeD (ds : List PyData) (d : PyData) : Option PyData :=
  if PyData.plainAll ds && d.plain && decide (d.depth ≤ 60) then (ds.findIdx? fun z => PyData.eqv z d).map fun j : Nat => .int (j : Int) else none
def indexD : PyData → PyData → Option PyData
  | .list ds, d => placeD ds d
  | _, _ => none
def indexTD : PyData → PyData → Option PyData
  | .tuple ds, d => placeD ds d
  | _, _ => none
def zipD : List PyData → List PyData → List PyData
  | x :: xs, y :: ys => .tuple [x, y] :: zipD xs ys
  | _, _ => []
def itemsOf : PyData → Option (List PyData)
  | .list ts => some ts
  | .tuple ts => some ts
  | .str x => some (x.cps.toList.map fun c => .str ⟨#[c]⟩)
  | _ => none
/-- tuple(zip(x, y)) -/
def zipTS (x y : PyData) : Option PyData := (itemsOf x).bind fun xs => (itemsOf y).bind fun ys => if xs.length < 1000 then some (.tuple (zipD xs ys)) else none
/-- text.startswith(text) -/
def startsD : PyData → PyData → Option PyData
  | .str x, .str y => some (.bool (Txt.startswith x y))
  | _, _ => none
/-- text.split(text) -/
def splitD : PyData → PyData → Option PyData
  | .str x, .str y => if (y.length == 0) = false ∧ x.length + 2 ≤ sizeLine then some (.list ((Txt.split x y).map .str)) else none
  | _, _ => none
/-- sep.join(texts), sep had -/
def joinVD : PyData → PyData → Option PyData
  | .str sep, d => joinSD sep d
  | _, _ => none
/-- text in text -/
def inSD : PyData → PyData → Option PyData
  | .str i, .str j => some (.bool (!(Builtin.Str.occurrences j i 0 j.length 1).isEmpty))
  | _, _ => none
/-- text + text, in a place that makes nothing -/
def catTD : PyData → PyData → Option PyData
  | .str x, .str y => if x.length + y.length ≤ sizeLine then some (.str (x ++ y)) else none
  | _, _ => none
/-- text not in text -/
def notInSD : PyData → PyData → Option PyData
  | .str i, .str j => some (.bool (!(!(Builtin.Str.occurrences j i 0 j.length 1).isEmpty)))
  | _, _ => none
def opf2 (o : O2) (x y : PyData) : Option PyData := match o with
  | .notInS => notInSD x y
  | .inS => inSD x y
  | .join => joinVD x y
  | .catT => catTD x y
  | .zipL => zipTS x y
  | .starts => startsD x y
  | .split => splitD x y
  | .index => indexD x y
  | .indexT => indexTD x y
  | .add => addD x y
  | .addI => addI x y
  | .cat => catD x y
  | .sub => subD x y
  | .mul => mulD x y
  | .rep => repD x y
  | .repT => repTD x y
  | .fdiv => fdivD x y
  | .mod => modD x y
  | .eq => (eqD x y).map .bool
  | .ne => (eqD x y).map fun b => .bool !b
  | .lt => cmpD (fun i j => decide (i < j)) (fun x y => PySem.W.dataLt x y) x y
  | .le => cmpD (fun i j => decide (i ≤ j)) (fun x y => !PySem.W.dataLt y x) x y
  | .gt => cmpD (fun i j => decide (j < i)) (fun x y => PySem.W.dataLt y x) x y
  | .ge => cmpD (fun i j => decide (j ≤ i)) (fun x y => !PySem.W.dataLt x y) x y
  | .isIn => (seqD y).bind fun ys => (inD x ys).map .bool
  | .notIn => (seqD y).bind fun ys => (inD x ys).map fun b => .bool !b
  | .ix => ixD x y
  | .max2 => max2D x y
  | .min2 => min2D x y
  | .count => countD x y
  | .from_ => fromS x y
  | .countT => countTD x y
  | .countN => (match x with | .tuple ts => if needT ts then countTD x y else none | _ => none)
  | .indexN => (match x with | .tuple ts => if needT ts then indexTD x y else none | _ => none)
  | _ => none
def cutD (xs : List PyData) (lo hi : Option Int) : List PyData := (xs.drop (HT.sIx xs.length 0 lo)).take (HT.sIx xs.length xs.length hi - HT.sIx xs.length 0 lo)
def partD : Bool → PyData → Option (Option Int)
  | false, .none => some none
  | true, .int i => some (some i)
  | _, _ => none
def opf3 : O3 → PyData → PyData → PyData → Option PyData
  | .slice l u, .list xs, a, b => (partD l a).bind fun lo => (partD u b).map fun hi => .list (cutD xs lo hi)
  | .slice l u, .tuple xs, a, b => (partD l a).bind fun lo => (partD u b).map fun hi => .tuple (cutD xs lo hi)
  | .sliceS l u, .str x, a, b => if x.length ≤ sizeLine then (partD l a).bind fun lo => (partD u b).map fun hi => .str (L2.cutS x lo hi) else none
  | .leLe, x, y, z => match opf2 .le x y with
    | some (.bool true) => opf2 .le y z
    | some (.bool false) => some (.bool false)
    | _ => none
  | _, _, _, _ => none

def slot : Ev → Nat → Option Val
  | [], _ => none
  | v :: _, 0 => v
  | _ :: r, i + 1 => slot r i
def setSlot : Ev → Nat → Option Val → Ev
  | [], _, _ => []
  | _ :: r, 0, v => v :: r
  | x :: r, i + 1, v => x :: setSlot r i v
def wipeE (env : Ev) : List Nat → Ev
  | [] => env
  | v :: vs => setSlot (wipeE env vs) v none
mutual
def bindT : Tg → PyData → Ev → Option Ev
  | .name i, d, env => some (setSlot env i (some (.p d)))
  | .tup ts, .tuple ds, env => bindTs ts ds env
  | .tup _, _, _ => none
def bindTs : List Tg → List PyData → Ev → Option Ev
  | [], [], env => some env
  | t :: ts, d :: ds, env => (bindT t d env).bind (bindTs ts ds)
  | _, _, _ => none
end
def enumFrom (k : Nat) : List PyData → List PyData
  | [] => []
  | x :: r => .tuple [.int k, x] :: enumFrom (k + 1) r
def listAt (h : Hi) (n : Nat) : Option (List PyData) := match h[n]? with
  | some (.lst ts) => some ts
  | _ => none
def insAt (h : Hi) (n : Nat) : Option (Nat × List Fld) := match h[n]? with
  | some (.ins c fs) => some (c, fs)
  | _ => none
def dctAt (h : Hi) (n : Nat) : Option (List (Key × Fld)) := match h[n]? with
  | some (.dct kvs) => some kvs
  | _ => none
def slotRef (env : Ev) (i : Nat) : Option Nat := match slot env i with
  | some (.ref n) => some n
  | _ => none
def dctOf (env : Ev) (h : Hi) (i : Nat) : Option (Nat × List (Key × Fld)) := (slotRef env i).bind fun n => (dctAt h n).map fun kvs => (n, kvs)
def insOf (env : Ev) (h : Hi) (i : Nat) : Option (Nat × Nat × List Fld) := (slotRef env i).bind fun n => (insAt h n).map fun p => (n, p)
def lstOf (env : Ev) (h : Hi) (i : Nat) : Option (Nat × List PyData) := (slotRef env i).bind fun n => (listAt h n).map fun ts => (n, ts)
/-- what a list source holds that is not a value: a list of the heap, a list of an instance's or a dict's own -/
def peek (env : Ev) (h : Hi) : E → Option PyData
  | .var i => (lstOf env h i).map fun p => .list p.2
  | .fld i j => (insOf env h i).bind fun p => match p.2.2[j]? with | some (.l ts) => some (.list ts) | _ => none
  | .key i k => (dctOf env h i).bind fun p => match p.2.lookup k with | some (.l ts) => some (.list ts) | _ => none
  | _ => none
def unP (v : Val) (h : Hi) : R PyData := match v with
  | .p d => .ok d h
  | .ref _ => .stuck
def bor (env : Ev) (h : Hi) (a : E) (r : R Val) : R PyData := match peek env h a with
  | some d => .ok d h
  | none => r.bind unP
def keyOf : PyData → Option Key
  | .int i => some (.inl i)
  | .str x => some (.inr x)
  | _ => none
def compL (elt : Ev → Hi → R PyData) (cond : Ev → Hi → R Bool) (bt : PyData → Ev → Option Ev) (env : Ev) : List PyData → Hi → R (List PyData)
  | [], h => .ok [] h
  | x :: r, h => match bt x env with
    | none => .stuck
    | some env1 => (cond env1 h).bind fun b h1 =>
      if b then (elt env1 h1).bind fun y h2 => (compL elt cond bt env r h2).bind fun ys h3 => .ok (y :: ys) h3
      else compL elt cond bt env r h1
def isTy : Ty → PyData → Bool
  | .int, .int _ => true
  | .int, .bool _ => true
  | .bool, .bool _ => true
  | .str, .str _ => true
  | .tuple, .tuple _ => true
  | .list, .list _ => true
  | _, _ => false
def andK (ev : Hi → R Val) (v : Val) (h : Hi) : R Val := match v with
  | .p (.bool true) => ev h
  | .p (.bool false) => .ok (.p (.bool false)) h
  | _ => .stuck
def orK (ev : Hi → R Val) (v : Val) (h : Hi) : R Val := match v with
  | .p (.bool true) => .ok (.p (.bool true)) h
  | .p (.bool false) => ev h
  | _ => .stuck
def notK (v : Val) (h : Hi) : R Val := match v with
  | .p (.bool b) => .ok (.p (.bool !b)) h
  | _ => .stuck
def ifK {α : Type} (a b : Hi → R α) (k : Bool) (h : Hi) : R α := if k = true then a h else b h
def newK (n : Nat) (v : Val) (h : Hi) : R Val := match v with
  | .p .none => .ok (.ref n) h
  | _ => .stuck
def noX {α : Type} (r : R α) : R α := match r with
  | .ok a h => .ok a h
  | _ => .stuck
def mkK (d : PyData) (h : Hi) : R Val := match d with
  | .list ts => .ok (.ref h.length) (h ++ [.lst ts])
  | _ => .stuck
def compK (r : R (List PyData)) : R Val := match r with
  | .ok ys h => .ok (.p (.list ys)) h
  | _ => .stuck
def rng1K (d : PyData) (h : Hi) : R (List PyData) := match d with
  | .int j => if rngOk j = true then .ok (rangeD 0 j.toNat 1) h else .stuck
  | _ => .stuck
def rng2K (d e : PyData) (h : Hi) : R (List PyData) := match d, e with
  | .int i, .int j => if rngOk i = true ∧ rngOk j = true then .ok (rangeD i (j - i).toNat 1) h else .stuck
  | _, _ => .stuck
def rng3K (d e : PyData) (h : Hi) : R (List PyData) := match d, e with
  | .int i, .int j => if rngOk i = true ∧ rngOk j = true then .ok (rangeD i (i - j).toNat (-1)) h else .stuck
  | _, _ => .stuck
def fldK : Option Fld → Option Val
  | some (.p d) => some (.p d)
  | _ => none
def dgetK (env : Ev) (i : Nat) (d : PyData) (h : Hi) : R Val := match dctOf env h i, keyOf d with
  | some p, some k => ofO (fldK (p.2.lookup k)) h
  | _, _ => .stuck
def dhasK (env : Ev) (i : Nat) (neg : Bool) (d : PyData) (h : Hi) : R Val := match dctOf env h i, keyOf d with
  | some p, some k => .ok (.p (.bool (if neg then (p.2.lookup k).isNone else (p.2.lookup k).isSome))) h
  | _, _ => .stuck
def dgetDK (env : Ev) (i : Nat) (d e : PyData) (h : Hi) : R Val := match dctOf env h i, keyOf d with
  | some p, some k => match p.2.lookup k with
    | none => .ok (.p e) h
    | some f => ofO (fldK (some f)) h
  | _, _ => .stuck
def zipKV : List Key → List PyData → List (Key × Fld)
  | k :: ks, y :: ys => (k, .p y) :: zipKV ks ys
  | _, _ => []
def keysD : List PyData → Option (List Key)
  | [] => some []
  | d :: r => (key0 d).bind fun k => (keysD r).map (k :: ·)
/-- dict(zip(keys, a tuple)), no key twice -/
def dzipK (d e : PyData) (h : Hi) : R Val := match itemsOf d, e with
  | some xs, .tuple ys => match keysD xs with
    | some ks => if ks.length < 60 ∧ (dedup ks).length = ks.length then .ok (.ref h.length) (h ++ [.dct (zipKV ks ys)]) else .stuck
    | none => .stuck
  | _, _ => .stuck
def dinK (env : Ev) (i : Nat) (neg : Bool) (d : PyData) (h : Hi) : R Val := match dctOf env h i, keyOf d with
  | some p, some k => .ok (.p (.bool (if neg = true then !(p.2.lookup k).isSome else (p.2.lookup k).isSome))) h
  | _, _ => .stuck
def popK (env : Ev) (i : Nat) (d : PyData) (h : Hi) : R Val := match lstOf env h i, d with
  | some p, .int k => match ixN p.2.length k with
    | some j => match p.2[j]? with
      | some x => if k.natAbs < 9223372036854775808 then .ok (.p x) (h.set p.1 (.lst (p.2.eraseIdx j))) else .stuck
      | none => .stuck
    | none => .stuck
  | _, _ => .stuck
def freezeK (env : Ev) (i : Nat) (h : Hi) : R Val := match lstOf env h i with
  | some p => .ok (.p (.list p.2)) (h.set p.1 .dead)
  | none => .stuck
/-- an own list and a list: a new one -/
def catBK (env : Ev) (i : Nat) (y : PyData) (h : Hi) : R Val := match lstOf env h i with
  | none => .stuck
  | some p => ofO ((catD (.list p.2) y).map .p) h
def methOk (env : Ev) (h : Hi) (c i : Nat) : Option Nat := match insOf env h i with
  | some p => if p.2.1 = c then some p.1 else none
  | none => none
def refIns (v : Val) (h : Hi) (c : Nat) : Option Nat := match v with
  | .ref n => match insAt h n with
    | some p => if p.1 = c then some n else none
    | none => none
  | _ => none
def compK2 (run : List PyData → Hi → R (List PyData)) (items : List PyData) (h : Hi) : R Val := if items.length < sizeLine then compK (run items h) else .stuck
abbrev Calls := Nat → List Val → Hi → R Val
/-- captured names, all data -/
def capsD (env : Ev) : List Nat → Option (List Val)
  | [] => some []
  | i :: r => match slot env i with
    | some (.p d) => (capsD env r).map (Val.p d :: ·)
    | _ => none
/-- the keys of the items, one by one -/
def keysK (cf : Calls) (f : Nat) (caps : List Val) : List PyData → Hi → R (List PyData)
  | [], h => .ok [] h
  | t :: ts, h => (noX ((cf f (.p t :: caps) h).bind unP)).bind fun k h1 => (keysK cf f caps ts h1).bind fun ks h2 => .ok (k :: ks) h2
/-- keys that can be sorted by: tuples that are not empty, or numbers -/
def keyN : PyData → Bool
  | .int _ => true
  | _ => false
def keysOk (ks : List PyData) : Bool := ks.all (fun a => ks.all (PySem.W.alike a)) && (ks.all tupNe || ks.all keyN) && decide (PyData.depthAll ks ≤ 60)
/-- stable, by the keys -/
def sortBy (ts ks : List PyData) : List PyData := ((ts.zip ks).mergeSort fun a b => leD a.2 b.2).map Prod.fst
def sortKK (cf : Calls) (f : Nat) (caps : Option (List Val)) (d : PyData) (h : Hi) : R Val := match caps, d with
  | some vs, .list ts => if ts.length < sizeLine then (keysK cf f vs ts h).bind fun ks h1 => if keysOk ks then .ok (.p (.list (sortBy ts ks))) h1 else .stuck else .stuck
  | _, _ => .stuck
mutual
def sameD : PyData → PyData → Bool
  | .none, .none => true
  | .bool a, .bool b => a == b
  | .int a, .int b => decide (a = b)
  | .str a, .str b => decide (a = b)
  | .list xs, .list ys => sameL xs ys
  | .tuple xs, .tuple ys => sameL xs ys
  | _, _ => false
def sameL : List PyData → List PyData → Bool
  | [], [] => true
  | x :: xs, y :: ys => sameD x y && sameL xs ys
  | _, _ => false
end
/-- the list at n is still ts -/
def stillL (h : Hi) (n : Nat) (ts : List PyData) : Bool := match listAt h n with
  | some us => sameL us ts
  | none => false
def keyD : Key → PyData
  | .inl i => .int i
  | .inr x => .str x
def itemsD : List (Key × Fld) → Option (List PyData)
  | [] => some []
  | (k, .p d) :: r => if scalD d then (itemsD r).map (.tuple [keyD k, d] :: ·) else none
  | (_, .l _) :: _ => none
/-- a comprehension over a list of the heap, that its parts leave alone -/
def compLB (ok : Hi → Bool) (elt : Ev → Hi → R PyData) (cond : Ev → Hi → R Bool) (bt : PyData → Ev → Option Ev) (env : Ev) : List PyData → Hi → R (List PyData)
  | [], h => if ok h then .ok [] h else .stuck
  | x :: r, h => if ok h then match bt x env with
    | none => .stuck
    | some env1 => (cond env1 h).bind fun b h1 =>
      if b then (elt env1 h1).bind fun y h2 => (compLB ok elt cond bt env r h2).bind fun ys h3 => .ok (y :: ys) h3
      else compLB ok elt cond bt env r h1
    else .stuck
mutual
def evalE (cf : Calls) (env : Ev) : E → Hi → R Val
  | .var i, h => ofO (slot env i) h
  | .lit d, h => .ok (.p d) h
  | .fld i j, h => ofO ((insOf env h i).bind fun p => fldK p.2.2[j]?) h
  | .key i k, h => ofO ((dctOf env h i).bind fun p => fldK (p.2.lookup k)) h
  | .op1 o a, h => (bor env h a (evalE cf env a h)).bind fun x h1 => ofO ((opf1 o x).map .p) h1
  | .op2 o a b, h => ((evalE cf env a h).bind unP).bind fun x h1 => (bor env h1 b (evalE cf env b h1)).bind fun y h2 => ofO ((opf2 o x y).map .p) h2
  | .op2b o a b, h => (bor env h a (evalE cf env a h)).bind fun x h1 => ((evalE cf env b h1).bind unP).bind fun y h2 => ofO ((opf2 o x y).map .p) h2
  | .op2d o a b, h => ((evalE cf env a h).bind unP).bind fun x h1 => ((evalE cf env b h1).bind unP).bind fun y h2 => ofO ((opf2 o x y).map .p) h2
  | .op3 o a b c, h => ((evalE cf env a h).bind unP).bind fun x h1 => ((evalE cf env b h1).bind unP).bind fun y h2 => ((evalE cf env c h2).bind unP).bind fun z h3 => ofO ((opf3 o x y z).map .p) h3
  | .op3b o a b c, h => (bor env h a (evalE cf env a h)).bind fun x h1 => ((evalE cf env b h1).bind unP).bind fun y h2 => ((evalE cf env c h2).bind unP).bind fun z h3 => ofO ((opf3 o x y z).map .p) h3
  | .and_ a b, h => (evalE cf env a h).bind fun v h1 => andK (fun h2 => evalE cf env b h2) v h1
  | .or_ a b, h => (evalE cf env a h).bind fun v h1 => orK (fun h2 => evalE cf env b h2) v h1
  | .not_ a, h => (evalE cf env a h).bind notK
  | .ite c a b, h => (evalT cf env c h).bind fun k h1 => ifK (fun h2 => evalE cf env a h2) (fun h2 => evalE cf env b h2) k h1
  | .tup es, h => (evalPs cf env es h).bind fun ds h1 => .ok (.p (.tuple ds)) h1
  | .lst es, h => (evalPs cf env es h).bind fun ds h1 => .ok (.p (.list ds)) h1
  | .call f es, h => (evalEs cf env es h).bind fun vs h1 => cf f vs h1
  | .meth c f i es, h => match methOk env h c i with
    | none => .stuck
    | some n => (evalEs cf env es h).bind fun vs h1 => cf f (.ref n :: vs) h1
  | .methN c f a es, h => (evalE cf env a h).bind fun v h1 => match refIns v h1 c with
    | none => .stuck
    | some n => (evalEs cf env es h1).bind fun vs h2 => cf f (.ref n :: vs) h2
  | .new c f es, h => (evalEs cf env es h).bind fun vs h1 => (noX (cf f (.ref h1.length :: vs) (h1 ++ [.ins c []]))).bind fun v h2 => newK h1.length v h2
  | .comp own t src cond elt, h => (evalSrc cf env src h).bind fun items h1 =>
    compK2 (compL (fun e h => (evalE cf e elt h).bind unP) (fun e h => evalTs cf e cond h) (fun x e => bindT t x e) (wipeE env own)) items h1
  | .compB i own t cond elt, h => match lstOf env h i with
    | none => .stuck
    | some p => compK2 (compLB (fun h => stillL h p.1 p.2) (fun e h => (evalE cf e elt h).bind unP) (fun e h => evalTs cf e cond h) (fun x e => bindT t x e) (wipeE env own)) p.2 h
  | .compI i own t cond elt, h => match dctOf env h i with
    | none => .stuck
    | some p => match itemsD p.2 with
      | none => .stuck
      | some items => (compK2 (compL (fun e h => (evalE cf e elt h).bind unP) (fun e h => evalTs cf e cond h) (fun x e => bindT t x e) (wipeE env own)) items (h.set p.1 .dead)).bind fun v h2 => .ok v (h2.set p.1 (.dct p.2))
  | .isi a t, h => ((evalE cf env a h).bind unP).bind fun d h1 => .ok (.p (.bool (isTy t d))) h1
  | .dhas i k neg, h => ((evalE cf env k h).bind unP).bind fun d h1 => dhasK env i neg d h1
  | .dget i k, h => ((evalE cf env k h).bind unP).bind fun d h1 => dgetK env i d h1
  | .dzip a b, h => ((evalE cf env a h).bind unP).bind fun d h1 => ((evalE cf env b h1).bind unP).bind fun e h2 => dzipK d e h2
  | .dgetD i k d, h => ((evalE cf env k h).bind unP).bind fun kd h1 => ((evalE cf env d h1).bind unP).bind fun dd h2 => dgetDK env i kd dd h2
  | .din i neg k, h => ((evalE cf env k h).bind unP).bind fun kd h1 => dinK env i neg kd h1
  | .pop i a, h => match lstOf env h i with
    | none => .stuck
    | some _ => ((evalE cf env a h).bind unP).bind fun d h1 => popK env i d h1
  | .freeze i, h => freezeK env i h
  | .catB i b, h => match lstOf env h i with
    | none => .stuck
    | some _ => ((evalE cf env b h).bind unP).bind fun y h1 => catBK env i y h1
  | .mk e, h => ((evalE cf env e h).bind unP).bind mkK
  | .sortK f caps a, h => ((evalE cf env a h).bind unP).bind fun d h1 => sortKK cf f (capsD env caps) d h1
  | .excFld _ _, _ => .stuck
def evalT (cf : Calls) (env : Ev) : Te → Hi → R Bool
  | .and_ a b, h => (evalT cf env a h).bind fun k h1 => ifK (fun h2 => evalT cf env b h2) (fun h2 => .ok false h2) k h1
  | .or_ a b, h => (evalT cf env a h).bind fun k h1 => ifK (fun h2 => .ok true h2) (fun h2 => evalT cf env b h2) k h1
  | .not_ a, h => (evalT cf env a h).bind fun k h1 => .ok (!k) h1
  | .val e, h => (bor env h e (evalE cf env e h)).bind fun d h1 => ofO (truthD d) h1
def evalTs (cf : Calls) (env : Ev) : List Te → Hi → R Bool
  | [], h => .ok true h
  | t :: ts, h => (evalT cf env t h).bind fun k h1 => ifK (fun h2 => evalTs cf env ts h2) (fun h2 => .ok false h2) k h1
def evalEs (cf : Calls) (env : Ev) : List E → Hi → R (List Val)
  | [], h => .ok [] h
  | e :: es, h => (evalE cf env e h).bind fun v h1 => (evalEs cf env es h1).bind fun vs h2 => .ok (v :: vs) h2
def evalPs (cf : Calls) (env : Ev) : List E → Hi → R (List PyData)
  | [], h => .ok [] h
  | e :: es, h => ((evalE cf env e h).bind unP).bind fun v h1 => (evalPs cf env es h1).bind fun vs h2 => .ok (v :: vs) h2
def evalSrc (cf : Calls) (env : Ev) : Src → Hi → R (List PyData)
  | .e a, h => ((evalE cf env a h).bind unP).bind fun d h1 => ofO (itemsOf d) h1
  | .rng1 a, h => ((evalE cf env a h).bind unP).bind rng1K
  | .rng2 a b, h => ((evalE cf env a h).bind unP).bind fun d h1 => ((evalE cf env b h1).bind unP).bind fun e h2 => rng2K d e h2
  | .rng3 a b, h => ((evalE cf env a h).bind unP).bind fun d h1 => ((evalE cf env b h1).bind unP).bind fun e h2 => rng3K d e h2
  | .enum a, h => ((evalE cf env a h).bind unP).bind fun d h1 => ofO ((itemsOf d).map (enumFrom 0)) h1
  | .zip a b, h => ((evalE cf env a h).bind unP).bind fun d h1 => ((evalE cf env b h1).bind unP).bind fun e h2 => ofO ((itemsOf d).bind fun xs => (itemsOf e).map fun ys => zipD xs ys) h2
  | .items _, _ => .stuck
end
end Cd

namespace Cd
open PySem L2
inductive Fl where
  | nx | bk | ct
  | rt (v : Val)
inductive RS where
  | ok (f : Fl) (env : Ev) (h : Hi)
  | exc (e : Ex) (env : Ev) (h : Hi)
  | stuck
def RS.bind (r : RS) (k : Ev → Hi → RS) : RS := match r with
  | .ok .nx env h => k env h
  | .ok f env h => .ok f env h
  | .exc e env h => .exc e env h
  | .stuck => .stuck
/-- go on from an expression's end -/
def R.toS {α : Type} (r : R α) (env : Ev) (k : α → Hi → RS) : RS := match r with
  | .ok a h => k a h
  | .exc e h => .exc e env h
  | .stuck => .stuck
@[simp] theorem RS.bind_nx (env : Ev) (h : Hi) (k : Ev → Hi → RS) : (RS.ok .nx env h).bind k = k env h := rfl
@[simp] theorem RS.bind_bk (env : Ev) (h : Hi) (k : Ev → Hi → RS) : (RS.ok .bk env h).bind k = .ok .bk env h := rfl
@[simp] theorem RS.bind_ct (env : Ev) (h : Hi) (k : Ev → Hi → RS) : (RS.ok .ct env h).bind k = .ok .ct env h := rfl
@[simp] theorem RS.bind_rt (v : Val) (env : Ev) (h : Hi) (k : Ev → Hi → RS) : (RS.ok (.rt v) env h).bind k = .ok (.rt v) env h := rfl
@[simp] theorem RS.bind_exc (e : Ex) (env : Ev) (h : Hi) (k : Ev → Hi → RS) : (RS.exc e env h).bind k = .exc e env h := rfl
@[simp] theorem R.toS_ok {α : Type} (a : α) (h : Hi) (env : Ev) (k : α → Hi → RS) : (R.ok a h).toS env k = k a h := rfl
@[simp] theorem R.toS_exc {α : Type} (e : Ex) (h : Hi) (env : Ev) (k : α → Hi → RS) : (R.exc e h : R α).toS env k = .exc e env h := rfl
def getL (env : Ev) (h : Hi) (p : E) : Option (List PyData) := match peek env h p with
  | some (.list ts) => some ts
  | _ => none
def setKV (kvs : List (Key × Fld)) (k : Key) (f : Fld) : List (Key × Fld) := match kvs with
  | [] => [(k, f)]
  | (q, g) :: r => if q = k then (q, f) :: r else (q, g) :: setKV r k f
def storeL (env : Ev) (h : Hi) (p : E) (ts : List PyData) : Option Hi := match p with
  | .var i => (slotRef env i).map fun n => h.set n (.lst ts)
  | .fld i j => (slotRef env i).bind fun n => (insAt h n).map fun q => h.set n (.ins q.1 (q.2.set j (.l ts)))
  | .key i k => (slotRef env i).bind fun n => (dctAt h n).map fun kvs => h.set n (.dct (setKV kvs k (.l ts)))
  | _ => none
def putFl (fs : List Fld) (j : Nat) (f : Fld) : Option (List Fld) := if j < fs.length then some (fs.set j f) else if j = fs.length then some (fs ++ [f]) else none
def ofH (env : Ev) : Option Hi → RS
  | some h => .ok .nx env h
  | none => .stuck
def listD : PyData → Option (List PyData)
  | .list ts => some ts
  | _ => none
def setFldH (env : Ev) (i j : Nat) (f : Fld) (h : Hi) : Option Hi := (insOf env h i).bind fun p => (putFl p.2.2 j f).map fun fs => h.set p.1 (.ins p.2.1 fs)
def setKeyH (env : Ev) (i : Nat) (k : Key) (f : Fld) (h : Hi) : Option Hi := (dctOf env h i).bind fun p => if p.2.length < 1000 then some (h.set p.1 (.dct (setKV p.2 k f))) else none
def setIxH (env : Ev) (p : E) (k d : PyData) (h : Hi) : Option Hi := match k with
  | .int k => (getL env h p).bind fun ts => (ixN ts.length k).bind fun j => storeL env h p (ts.set j d)
  | _ => none
def appH (env : Ev) (p : E) (d : PyData) (h : Hi) : Option Hi := (getL env h p).bind fun ts => if ts.length < sizeLine then storeL env h p (ts ++ [d]) else none
def extH (env : Ev) (p : E) (d : PyData) (h : Hi) : Option Hi := (listD d).bind fun ds => (getL env h p).bind fun ts => if ts.length + ds.length ≤ sizeLine then storeL env h p (ts ++ ds) else none
/-- a store of a thing that is had: the index, then the store -/
def stIx (ek : Ev → Hi → R Val) (p : E) (d : PyData) (env : Ev) (h : Hi) : RS := match getL env h p with
  | none => .stuck
  | some _ => ((ek env h).bind unP).toS env fun k h2 => ofH env (setIxH env p k d h2)
def forL (body : Ev → Hi → RS) (bt : PyData → Ev → Option Ev) : List PyData → Ev → Hi → RS
  | [], env, h => .ok .nx env h
  | x :: r, env, h => match bt x env with
    | none => .stuck
    | some env1 => match body env1 h with
      | .ok .nx env2 h2 => forL body bt r env2 h2
      | .ok .ct env2 h2 => forL body bt r env2 h2
      | .ok .bk env2 h2 => .ok .nx env2 h2
      | .ok (.rt v) env2 h2 => .ok (.rt v) env2 h2
      | .exc e env2 h2 => .exc e env2 h2
      | .stuck => .stuck
def whileL (c : Ev → Hi → R Bool) (body : Ev → Hi → RS) : Nat → Ev → Hi → RS
  | 0, _, _ => .stuck
  | n + 1, env, h => (c env h).toS env fun b h1 => if b then
      match body env h1 with
      | .ok .nx env2 h2 => whileL c body n env2 h2
      | .ok .ct env2 h2 => whileL c body n env2 h2
      | .ok .bk env2 h2 => .ok .nx env2 h2
      | .ok (.rt v) env2 h2 => .ok (.rt v) env2 h2
      | .exc e env2 h2 => .exc e env2 h2
      | .stuck => .stuck
    else .ok .nx env h1
/-- a for over a list of the heap, that the body leaves alone -/
def forLB (ok : Hi → Bool) (body : Ev → Hi → RS) (bt : PyData → Ev → Option Ev) : List PyData → Ev → Hi → RS
  | [], env, h => if ok h then .ok .nx env h else .stuck
  | x :: r, env, h => if ok h then match bt x env with
    | none => .stuck
    | some env1 => match body env1 h with
      | .ok .nx env2 h2 => forLB ok body bt r env2 h2
      | .ok .ct env2 h2 => forLB ok body bt r env2 h2
      | .ok .bk env2 h2 => .ok .nx env2 h2
      | .ok (.rt v) env2 h2 => .ok (.rt v) env2 h2
      | .exc e env2 h2 => .exc e env2 h2
      | .stuck => .stuck
    else .stuck
def wFuel : Nat := 1000000
/-- the classes of refusals: 0 CardError, 1 BadCards, 2 BadRank, 3 BadDeed, 4 Over -/
def subC (c d : Nat) : Bool := c == d || (d == 0 && decide (c ≤ 4))
def evalKVs (cf : Calls) (env : Ev) : List (Key × Bool × E) → List (Key × Fld) → Hi → R (List (Key × Fld))
  | [], acc, h => .ok acc h
  | (k, b, e) :: r, acc, h => ((evalE cf env e h).bind unP).bind fun d h1 =>
    if b then match d with
      | .list ts => evalKVs cf env r (setKV acc k (.l ts)) h1
      | _ => .stuck
    else evalKVs cf env r (setKV acc k (.p d)) h1
def atK (k : AtK) (e : Ex) (env : Ev) (h : Hi) : RS := match e.fs, k with
  | [x], .ret j => if j < env.length then .ok (.rt (.p x)) env h else .stuck
  | [x], .set j i z => if j < env.length then .ok .nx (setSlot (setSlot env i (some (.p (.tuple [.str z, x])))) j none) h else .stuck
  | [x], .neLen j i => match slot env i, x with
    | some (.p (.tuple ts)), .int v => if j < env.length ∧ i ≠ j then (if v = (ts.length : Int) then .ok .nx (setSlot env j none) h else .ok (.rt (.p (.bool false))) env h) else .stuck
    | _, _ => .stuck
  | _, .setH j i g => if j < env.length then .ok .nx (setSlot (setSlot env i (some (.p (g e.c)))) j none) h else .stuck
  | _, .retH j g => if j < env.length then .ok (.rt (.p (g e.c))) env h else .stuck
  | _, _ => .stuck
mutual
def evalS (cf : Calls) : S → Ev → Hi → RS
  | .set i e, env, h => (evalE cf env e h).toS env fun v h1 => .ok .nx (setSlot env i (some v)) h1
  | .newD i kvs, env, h => (evalKVs cf env kvs [] h).toS env fun es h1 => .ok .nx (setSlot env i (some (.ref h1.length))) (h1 ++ [.dct es])
  | .set2 i j a b, env, h => (evalE cf env a h).toS env fun v h1 => (evalE cf env b h1).toS env fun w h2 => .ok .nx (setSlot (setSlot env i (some v)) j (some w)) h2
  | .set3 i j l a b c, env, h => (evalE cf env a h).toS env fun u h1 => (evalE cf env b h1).toS env fun v h2 => (evalE cf env c h2).toS env fun w h3 => .ok .nx (setSlot (setSlot (setSlot env i (some u)) j (some v)) l (some w)) h3
  | .unpack t e, env, h => ((evalE cf env e h).bind unP).toS env fun d h1 => match bindT t d env with
    | some env1 => .ok .nx env1 h1
    | none => .stuck
  | .setFld i j e, env, h => ((evalE cf env e h).bind unP).toS env fun d h1 => ofH env (setFldH env i j (.p d) h1)
  | .newFld i j e, env, h => ((evalE cf env e h).bind unP).toS env fun d h1 => ofH env ((listD d).bind fun ts => setFldH env i j (.l ts) h1)
  | .setKey i k e, env, h => ((evalE cf env e h).bind unP).toS env fun d h1 => ofH env (setKeyH env i k (.p d) h1)
  | .newKey i k e, env, h => ((evalE cf env e h).bind unP).toS env fun d h1 => ofH env ((listD d).bind fun ts => setKeyH env i k (.l ts) h1)
  | .setKeyD i k e, env, h => ((evalE cf env e h).bind unP).toS env fun d h1 => ((evalE cf env k h1).bind unP).toS env fun kd h2 => ofH env ((keyOf kd).bind fun q => setKeyH env i q (.p d) h2)
  | .setIx p i e, env, h => ((evalE cf env e h).bind unP).toS env fun d h1 => match getL env h1 p with
    | none => .stuck
    | some _ => ((evalE cf env i h1).bind unP).toS env fun k h2 => ofH env (setIxH env p k d h2)
  | .setIx2 i j k l a b, env, h => ((evalE cf env a h).bind unP).toS env fun d h1 => ((evalE cf env b h1).bind unP).toS env fun d2 h2 =>
    (stIx (fun env h => evalE cf env k h) (.var i) d env h2).bind fun env2 h3 => stIx (fun env h => evalE cf env l h) (.var j) d2 env2 h3
  | .app p e, env, h => match getL env h p with
    | none => .stuck
    | some _ => ((evalE cf env e h).bind unP).toS env fun d h1 => ofH env (appH env p d h1)
  | .ext p e, env, h => match getL env h p with
    | none => .stuck
    | some _ => ((evalE cf env e h).bind unP).toS env fun d h1 => ofH env (extH env p d h1)
  | .expr e, env, h => (evalE cf env e h).toS env fun _ h1 => .ok .nx env h1
  | .if_ c a b, env, h => (evalT cf env c h).toS env fun k h1 => if k then evalSs cf a env h1 else evalSs cf b env h1
  | .for_ t src body, env, h => (evalSrc cf env src h).toS env fun items h1 => forL (evalSs cf body) (bindT t) items env h1
  | .forB t i body, env, h => match lstOf env h i with
    | none => .stuck
    | some p => forLB (fun h => stillL h p.1 p.2) (evalSs cf body) (bindT t) p.2 env h
  | .while_ c body, env, h => whileL (fun e h => evalT cf e c h) (evalSs cf body) wFuel env h
  | .ret e, env, h => (evalE cf env e h).toS env fun v h1 => .ok (.rt v) env h1
  | .brk, env, h => .ok .bk env h
  | .cont, env, h => .ok .ct env h
  | .pass, env, h => .ok .nx env h
  | .raise_ c es, env, h => (evalPs cf env es h).toS env fun ds h1 => .exc ⟨c, ds⟩ env h1
  | .raiseI c f e, env, h => match cf f [.p .none] h with
    | .ok _ _ => ((evalE cf env e h).bind unP).toS env fun d h1 => .exc ⟨c, [d]⟩ env h1
    | _ => .stuck
  | .tryAt body c k, env, h => match evalSs cf body env h with
    | .exc e env1 h1 => if subC e.c c then atK k e env1 h1 else .exc e env1 h1
    | r => r
  | .try_ body hs, env, h => match evalSs cf body env h with
    | .exc e env1 h1 => evalHs cf hs e env1 h1
    | r => r
def evalSs (cf : Calls) : List S → Ev → Hi → RS
  | [], env, h => .ok .nx env h
  | s :: r, env, h => (evalS cf s env h).bind (evalSs cf r)
def evalHs (cf : Calls) : List (Nat × List S) → Ex → Ev → Hi → RS
  | [], e, env, h => .exc e env h
  | (c, body) :: r, e, env, h => if subC e.c c then evalSs cf body env h else evalHs cf r e env h
end
structure FnD where
  np : Nat
  ns : Nat
  body : List S
def startE (d : FnD) (args : List Val) : Ev := args.map some ++ List.replicate (d.ns - args.length) none
/-- behind a call: what it made goes, where it hands back data -/
def finF (n : Nat) : RS → R Val
  | .ok (.rt (.p d)) _ h => .ok (.p d) (h.take n)
  | .ok (.rt (.ref m)) _ h => .ok (.ref m) h
  | .ok .nx _ h => .ok (.p .none) (h.take n)
  | .ok _ _ _ => .stuck
  | .exc e _ h => .exc e (h.take n)
  | .stuck => .stuck
def callF (fns : Nat → Option FnD) : Nat → Calls
  | 0, _, _, _ => .stuck
  | n + 1, f, args, h => match fns f with
    | none => .stuck
    | some d => if args.length = d.np then finF h.length (evalSs (callF fns n) d.body (startE d args) h) else .stuck
end Cd
set_option Elab.async false
set_option linter.all false
set_option maxRecDepth 100000
set_option maxHeartbeats 4000000
namespace Cd
open PySem PySem.Spec PyProof.Rows L2

/-- a list that will not change: a frozen one, or one of the written part -/
def LQ (K : PySem.W.Frag) (F : Addr → Prop) (H : Hp) (a : Addr) (xs : List V) : Prop := (F a ∧ Rd H a (.lst xs)) ∨
  ∃ (o : Obj) (its : Array Value) (n : Nat), K.lookup a = some o ∧ o.cls = .type "list" ∧ o.dict = none ∧ o.data = .seq its n ∧ its.size ≤ sizeLine ∧ Vals xs its.toList
theorem LQ.sq {K : PySem.W.Frag} {F : Addr → Prop} {H : Hp} {a : Addr} {xs : List V} (h : LQ K F H a xs) : SqL K H a xs := h.elim (fun h => .inl h.2) .inr
/-- a tuple's object: no dict -/
def TupO (o : Obj) : Prop := o.cls = .type "tuple" ∧ o.dict = none
/-- a tuple whose object is known: laid so, or one of the written part -/
def StT (K : PySem.W.Frag) (H : Hp) (a : Addr) (xs : List V) : Prop := (∃ o, TupO o ∧ H a = some (.frz o (.tup xs))) ∨
  ∃ (o : Obj) (its : Array Value) (n : Nat), K.lookup a = some o ∧ o.cls = .type "tuple" ∧ o.dict = none ∧ o.data = .seq its n ∧ its.size ≤ sizeLine ∧ Vals xs its.toList
theorem StT.sq {K : PySem.W.Frag} {H : Hp} {a : Addr} {xs : List V} (h : StT K H a xs) : SqT K H a xs := by
  rcases h with ⟨o, _, h⟩ | ⟨o, its, n, h1, h2, _, h3⟩
  · exact .inl (.inr ⟨o, h⟩)
  · exact .inr ⟨o, its, n, h1, h2, h3⟩
theorem StT.of {K : PySem.W.Frag} {H : Hp} {a : Addr} {xs : List V} {o : Obj} (c : TupO o) (h : H a = some (.frz o (.tup xs))) : StT K H a xs := .inl ⟨o, c, h⟩
theorem needT_ints (ns : List Int) : needT (ns.map .int) = false := by cases ns <;> rfl
/-- a tuple, known where that is asked -/
def NdT (K : PySem.W.Frag) (H : Hp) (a : Addr) (xs : List V) (ts : List PyData) : Prop := SqT K H a xs ∧ (needT ts = true → StT K H a xs)
theorem NdT.st {K : PySem.W.Frag} {H : Hp} {a : Addr} {xs : List V} {ts : List PyData} (h : StT K H a xs) : NdT K H a xs ts := ⟨h.sq, fun _ => h⟩
theorem NdT.lo {K : PySem.W.Frag} {H : Hp} {a : Addr} {xs : List V} {ts : List PyData} (h : SqT K H a xs) (n : needT ts = false) : NdT K H a xs ts := ⟨h, fun z => by rw [n] at z; cases z⟩
mutual
inductive RF (K : PySem.W.Frag) (F : Addr → Prop) (H : Hp) : PyData → V → Prop
  | non : RF K F H .none .non
  | bl (b : Bool) : RF K F H (.bool b) (.bl b)
  | int (i : Int) : RF K F H (.int i) (.int i)
  | str (x : Str) : RF K F H (.str x) (.str x)
  | lst {a : Addr} {xs : List V} {ts : List PyData} : LQ K F H a xs → RFs K F H ts xs → RF K F H (.list ts) (.ref a)
  | tup {a : Addr} {xs : List V} {ts : List PyData} : NdT K H a xs ts → RFs K F H ts xs → RF K F H (.tuple ts) (.ref a)
inductive RFs (K : PySem.W.Frag) (F : Addr → Prop) (H : Hp) : List PyData → List V → Prop
  | nil : RFs K F H [] []
  | cons {d : PyData} {v : V} {ds : List PyData} {vs : List V} : RF K F H d v → RFs K F H ds vs → RFs K F H (d :: ds) (v :: vs)
end

/-- the state: where the objects stand, what will not change, the small heap, the abstract heap -/
structure Sx where
  φ : Nat → Nat → Addr
  F : Addr → Prop
  h : Hi
  H : Hp
  B : Addr → Prop

/-- what frozen things lean on is kept -/
structure KeepF (F : Addr → Prop) (H : Hp) (F' : Addr → Prop) (H' : Hp) : Prop where
  up : ∀ a, F a → F' a
  fz : ∀ a o, F a → H a = some o → H' a = some o
  tp : ∀ a xs, H a = some (.tup xs) → H' a = some (.tup xs)
  zz : ∀ a o u, H a = some (.frz o u) → H' a = some (.frz o u)
  cd : ∀ a c q, H a = some (LamX.CodeO c q) → H' a = some (LamX.CodeO c q)
theorem KeepF.refl {F : Addr → Prop} {H : Hp} : KeepF F H F H := ⟨fun _ h => h, fun _ _ _ h => h, fun _ _ h => h, fun _ _ _ h => h, fun _ _ _ h => h⟩
theorem KeepF.trans {F F' F'' : Addr → Prop} {H H' H'' : Hp} (a : KeepF F H F' H') (b : KeepF F' H' F'' H'') : KeepF F H F'' H'' :=
  ⟨fun c h => b.up c (a.up c h), fun c o f h => b.fz c o (a.up c f) (a.fz c o f h), fun c xs h => b.tp c xs (a.tp c xs h), fun c o u h => b.zz c o u (a.zz c o u h), fun c d q h => b.cd c d q (a.cd c d q h)⟩
theorem KeepF.sqT {K : PySem.W.Frag} {F F' : Addr → Prop} {H H' : Hp} (k : KeepF F H F' H') {a : Addr} {xs : List V} (h : SqT K H a xs) : SqT K H' a xs := by
  rcases h with (h | ⟨o, h⟩) | h
  · exact .inl (.inl (k.tp _ _ h))
  · exact .inl (.inr ⟨o, k.zz _ _ _ h⟩)
  · exact .inr h
theorem KeepF.stT {K : PySem.W.Frag} {F F' : Addr → Prop} {H H' : Hp} (k : KeepF F H F' H') {a : Addr} {xs : List V} (h : StT K H a xs) : StT K H' a xs := h.imp (fun ⟨o, c, h⟩ => ⟨o, c, k.zz _ _ _ h⟩) fun h => h
theorem KeepF.ndT {K : PySem.W.Frag} {F F' : Addr → Prop} {H H' : Hp} (k : KeepF F H F' H') {a : Addr} {xs : List V} {ts : List PyData} (h : NdT K H a xs ts) : NdT K H' a xs ts := ⟨k.sqT h.1, fun z => k.stT (h.2 z)⟩
theorem KeepF.sqL {F F' : Addr → Prop} {H H' : Hp} (k : KeepF F H F' H') {a : Addr} {u : HO} (f : F a) (h : Rd H a u) : Rd H' a u := by
  rcases h with h | ⟨o, h⟩
  · exact .inl (k.fz _ _ f h)
  · exact .inr ⟨o, k.zz _ _ _ h⟩
theorem KeepF.lq {K : PySem.W.Frag} {F F' : Addr → Prop} {H H' : Hp} (k : KeepF F H F' H') {a : Addr} {xs : List V} (h : LQ K F H a xs) : LQ K F' H' a xs := h.elim (fun h => .inl ⟨k.up _ h.1, k.sqL h.1 h.2⟩) .inr
mutual
theorem RF.keep {K : PySem.W.Frag} {F F' : Addr → Prop} {H H' : Hp} (k : KeepF F H F' H') : ∀ {d : PyData} {v : V}, RF K F H d v → RF K F' H' d v
  | _, _, .non => .non
  | _, _, .bl b => .bl b
  | _, _, .int i => .int i
  | _, _, .str x => .str x
  | _, _, .lst s r => .lst (k.lq s) (RFs.keep k r)
  | _, _, .tup s r => .tup (k.ndT s) (RFs.keep k r)
theorem RFs.keep {K : PySem.W.Frag} {F F' : Addr → Prop} {H H' : Hp} (k : KeepF F H F' H') : ∀ {ds : List PyData} {vs : List V}, RFs K F H ds vs → RFs K F' H' ds vs
  | _, _, .nil => .nil
  | _, _, .cons r t => .cons (RF.keep k r) (RFs.keep k t)
end
mutual
/-- the same, forgetting what is frozen -/
theorem RF.loose {K : PySem.W.Frag} {F : Addr → Prop} {H : Hp} : ∀ {d : PyData} {v : V}, RF K F H d v → RF K (fun _ => True) H d v
  | _, _, .non => .non
  | _, _, .bl b => .bl b
  | _, _, .int i => .int i
  | _, _, .str x => .str x
  | _, _, .lst s r => .lst (s.elim (fun h => .inl ⟨trivial, h.2⟩) .inr) (RFs.loose r)
  | _, _, .tup s r => .tup s (RFs.loose r)
theorem RFs.loose {K : PySem.W.Frag} {F : Addr → Prop} {H : Hp} : ∀ {ds : List PyData} {vs : List V}, RFs K F H ds vs → RFs K (fun _ => True) H ds vs
  | _, _, .nil => .nil
  | _, _, .cons r t => .cons (RF.loose r) (RFs.loose t)
end
mutual
theorem RF.dp {K : PySem.W.Frag} {F : Addr → Prop} {H : Hp} : ∀ {d : PyData} {v : V}, RF K F H d v → Dp K H v d
  | _, _, .non => .non
  | _, _, .bl b => .bl b
  | _, _, .int i => .int i
  | _, _, .str x => .str x
  | _, _, .lst s r => .lst s.sq (RFs.dp r)
  | _, _, .tup s r => .tup s.1 (RFs.dp r)
theorem RFs.dp {K : PySem.W.Frag} {F : Addr → Prop} {H : Hp} : ∀ {ds : List PyData} {vs : List V}, RFs K F H ds vs → DpAll K H vs ds
  | _, _, .nil => .nil
  | _, _, .cons r t => .cons (RF.dp r) (RFs.dp t)
end
section
variable {K : PySem.W.Frag} {F F' : Addr → Prop} {H H' : Hp}
theorem RFs.length : ∀ {ds : List PyData} {vs : List V}, RFs K F H ds vs → ds.length = vs.length
  | _, _, .nil => rfl
  | _, _, .cons _ t => by simp [RFs.length t]
theorem RFs.append : ∀ {ds es : List PyData} {vs us : List V}, RFs K F H ds vs → RFs K F H es us → RFs K F H (ds ++ es) (vs ++ us)
  | _, _, _, _, .nil, s => s
  | _, _, _, _, .cons r t, s => .cons r (RFs.append t s)
theorem RFs.get : ∀ {ds : List PyData} {vs : List V} {i : Nat} {d : PyData}, RFs K F H ds vs → ds[i]? = some d → ∃ v, vs[i]? = some v ∧ RF K F H d v
  | _, _, _, _, .nil, e => by simp at e
  | _, _, 0, _, .cons r _, e => by simp at e; subst e; exact ⟨_, rfl, r⟩
  | _, _, i + 1, d, .cons _ t, e => by
    obtain ⟨v, h1, h2⟩ := RFs.get (i := i) (d := d) t (by simpa using e)
    exact ⟨v, by simpa using h1, h2⟩
theorem RFs.get' : ∀ {ds : List PyData} {vs : List V} {i : Nat} {v : V}, RFs K F H ds vs → vs[i]? = some v → ∃ d, ds[i]? = some d ∧ RF K F H d v
  | _, _, _, _, .nil, e => by simp at e
  | _, _, 0, _, .cons r _, e => by simp at e; subst e; exact ⟨_, rfl, r⟩
  | _, _, i + 1, v, .cons _ t, e => by
    obtain ⟨d, h1, h2⟩ := RFs.get' (i := i) (v := v) t (by simpa using e)
    exact ⟨d, by simpa using h1, h2⟩
theorem RFs.set {d : PyData} {v : V} (r : RF K F H d v) : ∀ {ds : List PyData} {vs : List V} (i : Nat), RFs K F H ds vs → RFs K F H (ds.set i d) (vs.set i v)
  | _, _, _, .nil => .nil
  | _, _, 0, .cons _ t => .cons r t
  | _, _, i + 1, .cons q t => .cons q (RFs.set r i t)
theorem RFs.take : ∀ {ds : List PyData} {vs : List V} (n : Nat), RFs K F H ds vs → RFs K F H (ds.take n) (vs.take n)
  | _, _, 0, _ => by simp; exact .nil
  | _, _, _ + 1, .nil => .nil
  | _, _, n + 1, .cons r t => .cons r (RFs.take n t)
theorem RFs.drop : ∀ {ds : List PyData} {vs : List V} (n : Nat), RFs K F H ds vs → RFs K F H (ds.drop n) (vs.drop n)
  | _, _, 0, r => r
  | _, _, _ + 1, .nil => .nil
  | _, _, n + 1, .cons _ t => RFs.drop n t
theorem RFs.eraseIdx : ∀ {ds : List PyData} {vs : List V} (n : Nat), RFs K F H ds vs → RFs K F H (ds.eraseIdx n) (vs.eraseIdx n)
  | _, _, _, .nil => .nil
  | _, _, 0, .cons _ t => t
  | _, _, n + 1, .cons r t => .cons r (RFs.eraseIdx n t)
theorem RFs.reverse : ∀ {ds : List PyData} {vs : List V}, RFs K F H ds vs → RFs K F H ds.reverse vs.reverse
  | _, _, .nil => .nil
  | _, _, .cons r t => by
    rw [List.reverse_cons, List.reverse_cons]
    exact (RFs.reverse t).append (.cons r .nil)
theorem RFs.rep (n : Nat) {ds : List PyData} {vs : List V} (r : RFs K F H ds vs) : RFs K F H (List.replicate n ds).flatten (List.replicate n vs).flatten := by
  induction n with
  | zero => exact .nil
  | succ n ih => rw [List.replicate_succ, List.replicate_succ, List.flatten_cons, List.flatten_cons]; exact r.append ih
theorem RFs.ofInts : ∀ (ns : List Int), RFs K F H (ns.map .int) (ns.map V.int)
  | [] => .nil
  | n :: r => .cons (.int n) (RFs.ofInts r)
theorem RFs.ints' : ∀ {ds : List PyData} {vs : List V} {ns : List Int}, RFs K F H ds vs → intsD ds = some ns → vs = ns.map V.int ∧ ds = ns.map .int
  | _, _, _, .nil, e => by simp [intsD] at e; subst e; exact ⟨rfl, rfl⟩
  | _, _, ns, .cons (d := d) (ds := ds) r t, e => by
    cases r with
    | int i =>
      simp only [intsD, Option.map_eq_some_iff] at e
      obtain ⟨ms, e1, rfl⟩ := e
      obtain ⟨h1, h2⟩ := RFs.ints' t e1
      exact ⟨by rw [h1]; rfl, by rw [h2]; rfl⟩
    | _ => simp [intsD] at e
theorem RFs.bools' : ∀ {ds : List PyData} {vs : List V} {ns : List Bool}, RFs K F H ds vs → boolsD ds = some ns → vs = ns.map V.bl ∧ ds = ns.map .bool
  | _, _, _, .nil, e => by simp [boolsD] at e; subst e; exact ⟨rfl, rfl⟩
  | _, _, ns, .cons (d := d) (ds := ds) r t, e => by
    cases r with
    | bl i =>
      simp only [boolsD, Option.map_eq_some_iff] at e
      obtain ⟨ms, e1, rfl⟩ := e
      obtain ⟨h1, h2⟩ := RFs.bools' t e1
      exact ⟨by rw [h1]; rfl, by rw [h2]; rfl⟩
    | _ => simp [boolsD] at e
theorem RF.int_inv {i : Int} {v : V} (r : RF K F H (.int i) v) : v = .int i := by cases r; rfl
theorem RF.bl_inv {b : Bool} {v : V} (r : RF K F H (.bool b) v) : v = .bl b := by cases r; rfl
theorem RF.non_inv {v : V} (r : RF K F H .none v) : v = .non := by cases r; rfl
theorem RF.str_inv {x : Str} {v : V} (r : RF K F H (.str x) v) : v = .str x := by cases r; rfl
theorem RF.lst_inv {ts : List PyData} {v : V} (r : RF K F H (.list ts) v) : ∃ a xs, v = .ref a ∧ LQ K F H a xs ∧ RFs K F H ts xs := by cases r with | lst s r => exact ⟨_, _, rfl, s, r⟩
theorem RF.tup_inv {ts : List PyData} {v : V} (r : RF K F H (.tuple ts) v) : ∃ a xs, v = .ref a ∧ SqT K H a xs ∧ RFs K F H ts xs := by cases r with | tup s r => exact ⟨_, _, rfl, s.1, r⟩
theorem RF.tup_invN {ts : List PyData} {v : V} (r : RF K F H (.tuple ts) v) : ∃ a xs, v = .ref a ∧ NdT K H a xs ts ∧ RFs K F H ts xs := by cases r with | tup s r => exact ⟨_, _, rfl, s, r⟩
end

/-- a field, or an entry, of the object n: data, or a list of its own -/
def FlR (K : PySem.W.Frag) (s : Sx) (n j : Nat) : Fld → V → Prop
  | .p d, v => RF K s.F s.H d v
  | .l ts, v => v = .ref (s.φ n (j + 1)) ∧ ∃ xs, s.H (s.φ n (j + 1)) = some (.lst xs) ∧ RFs K s.F s.H ts xs
/-- the classes: where they stand, their fields' names -/
structure CInf where
  f : Nat → Option (Addr × List Str)
  /-- tables of code objects, the names that they may tell -/
  tbs : List (Addr × Str) := []
instance : CoeFun CInf (fun _ => Nat → Option (Addr × List Str)) := ⟨CInf.f⟩
/-- what a table is, or leans on -/
def TEo (o : HO) : Prop := (∃ ps, o = .tbl ps) ∨ ∃ c q, o = LamX.CodeO c q
theorem te_lst {xs : List V} : ¬ TEo (.lst xs) := fun z => by
  rcases z with ⟨_, z⟩ | ⟨_, _, z⟩
  · cases z
  · unfold LamX.CodeO at z; cases z
theorem te_dK {xs : List (Key × V)} : ¬ TEo (.dK xs) := fun z => by
  rcases z with ⟨_, z⟩ | ⟨_, _, z⟩
  · cases z
  · unfold LamX.CodeO at z; cases z
theorem te_ins {C dx : Addr} {fs : List (Str × V)} : ¬ TEo (.ins C dx fs) := fun z => by
  rcases z with ⟨_, z⟩ | ⟨_, _, z⟩
  · cases z
  · unfold LamX.CodeO at z; cases z
theorem te_frz {o : Obj} {u : HO} : ¬ TEo (.frz o u) := fun z => by
  rcases z with ⟨_, z⟩ | ⟨_, _, z⟩
  · cases z
  · unfold LamX.CodeO at z; cases z
theorem tabs_stay {T : List (Addr × Str)} {H H' : Hp} (t : LamX.Tabs T H) (k : ∀ b o, H b = some o → TEo o → H' b = some o) : LamX.Tabs T H' := fun p hp => by
  obtain ⟨ps, h1, h2, h3⟩ := t p hp
  refine ⟨ps, k _ _ h1 (.inl ⟨ps, rfl⟩), h2, fun pos cv hc => ?_⟩
  obtain ⟨c, e1, e2⟩ := h3 pos cv hc
  exact ⟨c, e1, k _ _ e2 (.inr ⟨c, _, rfl⟩)⟩
theorem tabs_upd {T : List (Addr × Str)} {H : Hp} {p : Addr} {o : HO} (t : LamX.Tabs T H) (h : ∀ u, H p = some u → ¬ TEo u) : LamX.Tabs T (upd H p o) := tabs_stay t fun b u e te => by
  rw [upd_ne (fun z => h u (by rw [← z]; exact e) te)]; exact e
theorem tabs_new {T : List (Addr × Str)} {H : Hp} {p : Addr} {o : HO} (t : LamX.Tabs T H) (h : H p = none) : LamX.Tabs T (upd H p o) := tabs_upd t fun u e => by rw [h] at e; cases e
theorem tabs_at {T : List (Addr × Str)} {H : Hp} {p : Addr} {o w : HO} (t : LamX.Tabs T H) (h : H p = some w) (n : ¬ TEo w) : LamX.Tabs T (upd H p o) := tabs_upd t fun u e => by rw [h] at e; cases e; exact n
def ObR (K : PySem.W.Frag) (CI : CInf) (s : Sx) (n : Nat) : Ob → Prop
  | .lst ts => ∃ xs, s.H (s.φ n 0) = some (.lst xs) ∧ RFs K s.F s.H ts xs
  | .dct kvs => ∃ es : List (Key × V), s.H (s.φ n 0) = some (.dK es) ∧ es.map (·.1) = kvs.map (·.1) ∧ (kvs.map (·.1)).Nodup ∧ ∀ j k f, kvs[j]? = some (k, f) → ∃ v, es[j]? = some (k, v) ∧ FlR K s n j f v
  | .ins c fs => ∃ C names dx es, CI c = some (C, names) ∧ s.H (s.φ n 0) = some (.ins C dx es) ∧ es.map (·.1) = names.take fs.length ∧ fs.length ≤ names.length ∧
      ∀ j f, fs[j]? = some f → ∃ x v, names[j]? = some x ∧ es[j]? = some (x, v) ∧ FlR K s n j f v
  | .dead => True
/-- a place that is in use -/
def Live (h : Hi) (n : Nat) : Nat → Prop
  | 0 => ∃ o, h[n]? = some o ∧ o ≠ .dead
  | j + 1 => (∃ c fs ts, h[n]? = some (.ins c fs) ∧ fs[j]? = some (.l ts)) ∨ (∃ kvs k ts, h[n]? = some (.dct kvs) ∧ kvs[j]? = some (k, .l ts))
structure HR (K : PySem.W.Frag) (CI : CInf) (s : Sx) : Prop where
  ob : ∀ n o, s.h[n]? = some o → ObR K CI s n o
  inj : ∀ n j m k, Live s.h n j → Live s.h m k → s.φ n j = s.φ m k → n = m ∧ j = k
  nf : ∀ n j, Live s.h n j → ¬ s.F (s.φ n j)
  bt : ∀ b, s.B b → (∀ n j, Live s.h n j → s.φ n j ≠ b) ∧ ¬ s.F b ∧ ∃ o, s.H b = some o
  ft : ∀ b, s.F b → ∃ o, s.H b = some o
  tb : LamX.Tabs CI.tbs s.H
  tn : ∀ q ∈ CI.tbs, ¬ s.F q.1 ∧ ¬ s.B q.1
/-- no place of the small heap -/
def NotLive (s : Sx) (b : Addr) : Prop := ∀ n j, Live s.h n j → s.φ n j ≠ b
structure Le (s s' : Sx) : Prop where
  len : s.h.length ≤ s'.h.length
  ph : ∀ n, n < s.h.length → s'.φ n 0 = s.φ n 0
  kf : KeepF s.F s.H s'.F s'.H
  fr : ∀ b, s.B b → s'.B b ∧ s'.H b = s.H b
theorem Le.refl (s : Sx) : Le s s := ⟨Nat.le_refl _, fun _ _ => rfl, .refl, fun _ h => ⟨h, rfl⟩⟩
theorem Le.trans {s s' s'' : Sx} (a : Le s s') (b : Le s' s'') : Le s s'' :=
  ⟨Nat.le_trans a.len b.len, fun n h => (b.ph n (Nat.lt_of_lt_of_le h a.len)).trans (a.ph n h), a.kf.trans b.kf, fun c h =>
    let ⟨h1, e1⟩ := a.fr c h
    let ⟨h2, e2⟩ := b.fr c h1
    ⟨h2, e2.trans e1⟩⟩
def VR (K : PySem.W.Frag) (s : Sx) : Val → V → Prop
  | .p d, x => RF K s.F s.H d x
  | .ref n, x => n < s.h.length ∧ x = .ref (s.φ n 0)
theorem VR.le {K : PySem.W.Frag} {s s' : Sx} (l : Le s s') {v : Val} {x : V} (r : VR K s v x) : VR K s' v x := by
  cases v with
  | p d => exact RF.keep l.kf r
  | ref n => exact ⟨Nat.lt_of_lt_of_le r.1 l.len, by rw [l.ph n r.1]; exact r.2⟩
structure ER (K : PySem.W.Frag) (s : Sx) (env : Ev) (σ : L2.St) : Prop where
  len : env.length = σ.length
  at_ : ∀ i v, slot env i = some v → ∃ x, σ[i]? = some (some x) ∧ VR K s v x
theorem ER.le {K : PySem.W.Frag} {s s' : Sx} (l : Le s s') {env : Ev} {σ : L2.St} (r : ER K s env σ) : ER K s' env σ :=
  ⟨r.len, fun i v e => let ⟨x, h1, h2⟩ := r.at_ i v e; ⟨x, h1, h2.le l⟩⟩
theorem slot_set_same : ∀ {env : Ev} {i : Nat} {v : Option Val}, i < env.length → slot (setSlot env i v) i = v
  | [], _, _, h => by simp at h
  | _ :: _, 0, _, _ => rfl
  | _ :: r, i + 1, v, h => slot_set_same (env := r) (i := i) (by simpa using h)
theorem slot_set_ne : ∀ {env : Ev} {i j : Nat} {v : Option Val}, j ≠ i → slot (setSlot env i v) j = slot env j
  | [], _, _, _, _ => rfl
  | _ :: _, 0, 0, _, h => absurd rfl h
  | _ :: _, 0, j + 1, _, _ => rfl
  | _ :: _, i + 1, 0, _, _ => rfl
  | _ :: r, i + 1, j + 1, v, h => slot_set_ne (env := r) (i := i) (j := j) (fun e => h (by rw [e]))
theorem setSlot_length : ∀ {env : Ev} {i : Nat} {v : Option Val}, (setSlot env i v).length = env.length
  | [], _, _ => rfl
  | _ :: _, 0, _ => rfl
  | _ :: r, i + 1, v => by simp [setSlot, setSlot_length (env := r) (i := i) (v := v)]
theorem slot_lt : ∀ {env : Ev} {i : Nat} {v : Val}, slot env i = some v → i < env.length
  | [], _, _, h => by simp [slot] at h
  | _ :: _, 0, _, _ => by simp
  | _ :: r, i + 1, v, h => by have := slot_lt (env := r) (i := i) (v := v) h; simp; omega
theorem setSlot_out : ∀ {env : Ev} {i : Nat} {v : Option Val}, env.length ≤ i → setSlot env i v = env
  | [], _, _, _ => rfl
  | _ :: _, 0, _, h => by simp at h
  | x :: r, i + 1, v, h => by simp [setSlot, setSlot_out (env := r) (i := i) (v := v) (by simpa using h)]
theorem ER.set {K : PySem.W.Frag} {s : Sx} {env : Ev} {σ : L2.St} (r : ER K s env σ) {i : Nat} {v : Val} {x : V} (q : VR K s v x) : ER K s (setSlot env i (some v)) (σ.set i (some x)) where
  len := by rw [setSlot_length, List.length_set]; exact r.len
  at_ := fun j w e => by
    by_cases hj : j = i
    · subst hj
      by_cases hl : j < env.length
      · rw [slot_set_same hl] at e
        cases e
        exact ⟨x, by rw [List.getElem?_set_self (by rw [← r.len]; exact hl)], q⟩
      · rw [setSlot_out (by omega)] at e
        exact absurd (slot_lt e) hl
    · rw [slot_set_ne hj] at e
      obtain ⟨y, h1, h2⟩ := r.at_ j w e
      exact ⟨y, by rw [List.getElem?_set_ne (Ne.symm hj)]; exact h1, h2⟩
theorem ER.unset {K : PySem.W.Frag} {s : Sx} {env : Ev} {σ : L2.St} (r : ER K s env σ) {i : Nat} : ER K s (setSlot env i none) (σ.set i none) where
  len := by rw [setSlot_length, List.length_set]; exact r.len
  at_ := fun j w e => by
    by_cases hj : j = i
    · subst hj
      by_cases hl : j < env.length
      · rw [slot_set_same hl] at e
        cases e
      · rw [setSlot_out (by omega)] at e
        exact absurd (slot_lt e) hl
    · rw [slot_set_ne hj] at e
      obtain ⟨y, h1, h2⟩ := r.at_ j w e
      exact ⟨y, by rw [List.getElem?_set_ne (Ne.symm hj)]; exact h1, h2⟩
theorem ER.wipe {K : PySem.W.Frag} {s : Sx} {env : Ev} {σ : L2.St} (r : ER K s env σ) : ∀ vs : List Nat, ER K s (wipeE env vs) (wipe σ vs)
  | [] => r
  | v :: vs => (ER.wipe r vs).unset
/-- a new thing at p -/
def Sx.put (s : Sx) (p : Addr) (o : HO) (fz : Bool) : Sx := { s with H := upd s.H p o, F := fun a => s.F a ∨ (fz = true ∧ a = p) }
theorem KeepF.put {F : Addr → Prop} {H : Hp} {p : Addr} {o : HO} {fz : Bool} (h : H p = none) : KeepF F H (fun a => F a ∨ (fz = true ∧ a = p)) (upd H p o) where
  up := fun _ f => .inl f
  fz := fun a o' _ e => by rw [upd_ne (ne_of_none e h)]; exact e
  tp := fun a o' e => by rw [upd_ne (ne_of_none e h)]; exact e
  zz := fun a o' _ e => by rw [upd_ne (ne_of_none e h)]; exact e
  cd := fun a c q e => by rw [upd_ne (ne_of_none e h)]; exact e
section
variable {K : PySem.W.Frag} {CI : CInf} {s : Sx}
theorem HR.tne (h : HR K CI s) {q : Addr × Str} (hq : q ∈ CI.tbs) {p : Addr} {o : HO} (e : s.H p = some o) (n : ¬ TEo o) : q.1 ≠ p := fun z => by
  obtain ⟨ps, h1, _⟩ := h.tb q hq
  rw [z, e] at h1
  cases h1
  exact n (.inl ⟨ps, rfl⟩)
theorem HR.tn0 (h : HR K CI s) {q : Addr × Str} (hq : q ∈ CI.tbs) {p : Addr} (e : s.H p = none) : q.1 ≠ p := fun z => by
  obtain ⟨ps, h1, _⟩ := h.tb q hq
  rw [z, e] at h1
  cases h1
/-- what stands at a place in use -/
theorem HR.there (h : HR K CI s) {n j : Nat} (l : Live s.h n j) : ∃ o, s.H (s.φ n j) = some o := by
  cases j with
  | zero =>
    obtain ⟨o, e, nd⟩ := l
    have q := h.ob n o e
    cases o with
    | lst ts => obtain ⟨xs, e, _⟩ := q; exact ⟨_, e⟩
    | dct kvs => obtain ⟨es, e, _⟩ := q; exact ⟨_, e⟩
    | ins c fs => obtain ⟨C, names, dx, es, _, e, _⟩ := q; exact ⟨_, e⟩
    | dead => exact absurd rfl nd
  | succ j =>
    rcases l with ⟨c, fs, ts, e, ef⟩ | ⟨kvs, k, ts, e, ef⟩
    · obtain ⟨C, names, dx, es, _, _, _, _, q⟩ := h.ob n _ e
      obtain ⟨x, v, _, _, _, xs, e2, _⟩ := q j _ ef
      exact ⟨_, e2⟩
    · obtain ⟨es, _, _, _, q⟩ := h.ob n _ e
      obtain ⟨v, _, _, xs, e2, _⟩ := q j _ _ ef
      exact ⟨_, e2⟩
/-- the objects in another abstract heap, where what they lean on is kept -/
theorem FlR.move {s s' : Sx} {n j : Nat} {f : Fld} {v : V} (r : FlR K s n j f v) (k : KeepF s.F s.H s'.F s'.H)
    (ph : ∀ ts, f = .l ts → s'.φ n (j + 1) = s.φ n (j + 1) ∧ ∀ xs, s.H (s.φ n (j + 1)) = some (.lst xs) → s'.H (s.φ n (j + 1)) = some (.lst xs)) : FlR K s' n j f v := by
  cases f with
  | p d => exact RF.keep k r
  | l ts =>
    obtain ⟨e, xs, hx, q⟩ := r
    obtain ⟨e1, e2⟩ := ph ts rfl
    exact ⟨by rw [e1]; exact e, xs, by rw [e1]; exact e2 xs hx, q.keep k⟩
theorem ObR.move {s s' : Sx} {n : Nat} {o : Ob} (r : ObR K CI s n o) (k : KeepF s.F s.H s'.F s'.H) (hn : s.h[n]? = some o)
    (ph : ∀ j, Live s.h n j → s'.φ n j = s.φ n j ∧ ∀ u, s.H (s.φ n j) = some u → s'.H (s.φ n j) = some u) : ObR K CI s' n o := by
  cases o with
  | lst ts =>
    obtain ⟨xs, e, q⟩ := r
    obtain ⟨e1, e2⟩ := ph 0 ⟨_, hn, by intro z; cases z⟩
    exact ⟨xs, by rw [e1]; exact e2 _ e, q.keep k⟩
  | dct kvs =>
    obtain ⟨es, e, m, nd, q⟩ := r
    obtain ⟨e1, e2⟩ := ph 0 ⟨_, hn, by intro z; cases z⟩
    refine ⟨es, by rw [e1]; exact e2 _ e, m, nd, fun j y f ef => ?_⟩
    obtain ⟨v, h1, h2⟩ := q j y f ef
    refine ⟨v, h1, h2.move k fun ts eq => ?_⟩
    subst eq
    obtain ⟨a, b⟩ := ph (j + 1) (.inr ⟨kvs, y, ts, hn, ef⟩)
    exact ⟨a, fun xs => b _⟩
  | ins c fs =>
    obtain ⟨C, names, dx, es, ci, e, m, l, q⟩ := r
    obtain ⟨e1, e2⟩ := ph 0 ⟨_, hn, by intro z; cases z⟩
    refine ⟨C, names, dx, es, ci, by rw [e1]; exact e2 _ e, m, l, fun j f ef => ?_⟩
    obtain ⟨x, v, h0, h1, h2⟩ := q j f ef
    refine ⟨x, v, h0, h1, h2.move k fun ts eq => ?_⟩
    subst eq
    obtain ⟨a, b⟩ := ph (j + 1) (.inl ⟨c, fs, ts, hn, ef⟩)
    exact ⟨a, fun xs => b _⟩
  | dead => trivial
theorem HR.notLive (h : HR K CI s) {p : Addr} (hp : s.H p = none) : NotLive s p := fun n j l e => by
  obtain ⟨o, q⟩ := h.there l
  rw [e, hp] at q; cases q
theorem HR.put (h : HR K CI s) {p : Addr} {o : HO} {fz : Bool} (hp : s.H p = none) : HR K CI (s.put p o fz) where
  ob := fun n u e => (h.ob n u e).move (KeepF.put hp) e fun j l => ⟨rfl, fun w e => by
    show upd s.H p o (s.φ n j) = some w
    rw [upd_ne (ne_of_none e hp)]; exact e⟩
  inj := h.inj
  nf := fun n j l f => by
    rcases f with f | ⟨_, f⟩
    · exact h.nf n j l f
    · obtain ⟨u, e⟩ := h.there l
      exact ne_of_none e hp f
  bt := fun b hb => by
    obtain ⟨h1, h2, u, e⟩ := h.bt b hb
    exact ⟨h1, fun f => f.elim h2 fun z => ne_of_none e hp z.2, u, by show upd s.H p o b = some u; rw [upd_ne (ne_of_none e hp)]; exact e⟩
  ft := fun b hb => by
    rcases hb with hb | ⟨_, rfl⟩
    · obtain ⟨u, e⟩ := h.ft b hb
      exact ⟨u, by show upd s.H p o b = some u; rw [upd_ne (ne_of_none e hp)]; exact e⟩
    · exact ⟨o, upd_same⟩
  tb := tabs_new h.tb hp
  tn := fun q hq => ⟨fun f => f.elim (h.tn q hq).1 fun z => h.tn0 hq hp z.2, (h.tn q hq).2⟩
theorem HR.put_le (h : HR K CI s) {p : Addr} {o : HO} {fz : Bool} (hp : s.H p = none) : Le s (s.put p o fz) := ⟨Nat.le_refl _, fun _ _ => rfl, .put hp, fun b hb => by
  obtain ⟨_, _, u, e⟩ := h.bt b hb
  exact ⟨hb, by show upd s.H p o b = s.H b; rw [upd_ne (ne_of_none e hp)]⟩⟩
end
end Cd
set_option Elab.async false
set_option linter.all false
set_option maxRecDepth 100000
set_option maxHeartbeats 4000000
namespace Cd
open PySem PySem.Spec PyProof.Rows L2

structure Inf where
  ci : CInf
  xi : Nat → Option Addr
def XR (K : PySem.W.Frag) (I : Inf) (s : Sx) (e : Ex) (cls : Value) (d : Option Addr) : Prop :=
  ∃ C, I.xi e.c = some C ∧ cls = .ref C ∧ match e.fs with
    | [] => d = none
    | [x] => ∃ dx v, d = some dx ∧ s.H dx = some (.xd [("at", v)]) ∧ RF K s.F s.H x v
    | _ => False
/-- an evaluation's end, from the state s on -/
def PR {α β : Type} (K : PySem.W.Frag) (I : Inf) (W : WX) (s : Sx) (σ : L2.St) (r : R α) (Rel : Sx → α → β → Prop) (Q : β → Hp → Prop) : Prop :=
  match r with
  | .ok a h' => ∀ s' x, Le s s' → s'.h = h' → HR K I.ci s' → Rel s' a x → Q x s'.H
  | .exc e h' => ∀ s' cls d, Le s s' → s'.h = h' → HR K I.ci s' → XR K I s' e cls d → W cls d σ s'.H
  | .stuck => False
theorem PR.le {α β : Type} {K : PySem.W.Frag} {I : Inf} {W : WX} {s s1 : Sx} {σ : L2.St} {r : R α} {Rel : Sx → α → β → Prop} {Q : β → Hp → Prop} (h : PR K I W s σ r Rel Q) (l : Le s s1) : PR K I W s1 σ r Rel Q := by
  cases r with
  | ok a h' => exact fun s' x l' => h s' x (l.trans l')
  | exc e h' => exact fun s' c d l' => h s' c d (l.trans l')
  | stuck => exact h
theorem PR.mono {α β : Type} {K : PySem.W.Frag} {I : Inf} {W : WX} {s : Sx} {σ : L2.St} {r : R α} {Rel : Sx → α → β → Prop} {Q Q' : β → Hp → Prop} (h : PR K I W s σ r Rel Q) (m : ∀ x H, Q x H → Q' x H) : PR K I W s σ r Rel Q' := by
  cases r with
  | ok a h' => exact fun s' x l e hr rel => m _ _ (h s' x l e hr rel)
  | exc e h' => exact h
  | stuck => exact h
def At {α β : Type} (K : PySem.W.Frag) (I : Inf) (W : WX) (σ : L2.St) (H : Hp) (G : Sx → Prop) (r : Ev → Hi → R α) (Rel : Sx → α → β → Prop) (Q : β → Hp → Prop) : Prop :=
  ∃ env s, s.H = H ∧ HR K I.ci s ∧ ER K s env σ ∧ G s ∧ PR K I W s σ (r env s.h) Rel Q
def tE {α β : Type} (K : PySem.W.Frag) (I : Inf) (W : WX) (r : Ev → Hi → R α) (Rel : Sx → α → β → Prop) : L2.St → Hp → (β → Hp → Prop) → Prop := fun σ H Q => At K I W σ H (fun _ => True) r Rel Q
theorem At.bind {α β γ δ : Type} {K : PySem.W.Frag} {I : Inf} {W : WX} {σ : L2.St} {H : Hp} {G G' : Sx → Prop} {ev1 : Ev → Hi → R α} {ev2 : α → Ev → Hi → R γ} {Rel1 : Sx → α → β → Prop} {Rel2 : Sx → γ → δ → Prop} {Q : δ → Hp → Prop}
    (h : At K I W σ H G (fun env h => (ev1 env h).bind fun a h1 => ev2 a env h1) Rel2 Q) (mono : ∀ s s', Le s s' → G s → G' s' := by intro _ _ _ g; exact g) :
    tE K I W ev1 Rel1 σ H (fun x H1 => ∃ a, At K I W σ H1 (fun s => G' s ∧ Rel1 s a x) (ev2 a) Rel2 Q) := by
  obtain ⟨env, s, eH, hr, er, g, pr⟩ := h
  refine ⟨env, s, eH, hr, er, trivial, ?_⟩
  replace pr : PR K I W s σ ((ev1 env s.h).bind fun a h1 => ev2 a env h1) Rel2 Q := pr
  generalize ev1 env s.h = r at pr ⊢
  cases r with
  | ok a h1 =>
    intro s' x l eh hr' rel
    subst eh
    exact ⟨a, env, s', rfl, hr', er.le l, ⟨mono s s' l g, rel⟩, PR.le (r := ev2 a env s'.h) pr l⟩
  | exc e h1 => exact pr
  | stuck => exact pr
theorem _root_.L2.PE.imp {X : Cx} {e : Expr} {t t' : TE} (h : PE X e t) (i : ∀ σ H Q, t' σ H Q → t σ H Q) : PE X e t' := ⟨fun pins s σ H Q I q => h.run pins s σ H Q I (i σ H Q q)⟩
theorem _root_.L2.PT.imp {X : Cx} {e : Expr} {t t' : TT} (h : PT X e t) (i : ∀ σ H Q, t' σ H Q → t σ H Q) : PT X e t' := ⟨fun pins s σ H Q I q => h.run pins s σ H Q I (i σ H Q q)⟩
theorem _root_.L2.PA.imp {X : Cx} {e : List Expr} {t t' : TA} (h : PA X e t) (i : ∀ σ H Q, t' σ H Q → t σ H Q) : PA X e t' := ⟨fun pos pins s σ H Q I q => h.run pos pins s σ H Q I (i σ H Q q)⟩
theorem _root_.L2.PS.imp {X : Cx} {e : Stmt} {t t' : TS} (h : PS X e t) (i : ∀ D σ H, t' D σ H → t D σ H) : PS X e t' := ⟨fun pins s σ H D I q => h.run pins s σ H D I (i D σ H q)⟩
theorem _root_.L2.PSs.imp {X : Cx} {e : List Stmt} {t t' : TS} (h : PSs X e t) (i : ∀ D σ H, t' D σ H → t D σ H) : PSs X e t' := ⟨fun pins s σ H D I q => h.run pins s σ H D I (i D σ H q)⟩
theorem _root_.L2.PI.imp {X : Cx} {tg e : Expr} {t t' : TI} (h : PI X tg e t) (i : ∀ σ H Q, t' σ H Q → t σ H Q) : PI X tg e t' := ⟨fun pins s σ H Q I q => h.run pins s σ H Q I (i σ H Q q)⟩

/-- borrowed: what is read at once -/
def RB (K : PySem.W.Frag) (s : Sx) (d : PyData) (x : V) : Prop := RF K s.F s.H d x ∨ ∃ ts a xs, d = .list ts ∧ x = .ref a ∧ Rd s.H a (.lst xs) ∧ RFs K s.F s.H ts xs
def PRl (K : PySem.W.Frag) (s : Sx) (d : PyData) (x : V) : Prop := RF K s.F s.H d x
theorem PRl.le {K : PySem.W.Frag} {s s' : Sx} {d : PyData} {x : V} (l : Le s s') (r : PRl K s d x) : PRl K s' d x := RF.keep l.kf r
theorem PR.val {K : PySem.W.Frag} {I : Inf} {W : WX} {s : Sx} {σ : L2.St} {o : Option Val} {v : Val} {x : V} {Q : V → Hp → Prop} (pr : PR K I W s σ (ofO o s.h) (VR K) Q) (hr : HR K I.ci s) (e : o = some v) (r : VR K s v x) : Q x s.H := by
  subst e
  exact pr s x (.refl s) rfl hr r
theorem PR.new {K : PySem.W.Frag} {I : Inf} {W : WX} {s : Sx} {σ : L2.St} {o : Option Val} {v : Val} {p : Addr} {u : HO} {Q : V → Hp → Prop} (pr : PR K I W s σ (ofO o s.h) (VR K) Q) (hr : HR K I.ci s) (e : o = some v) (hp : s.H p = none) (r : VR K (s.put p u true) v (.ref p)) : Q (.ref p) (upd s.H p u) := by
  subst e
  exact pr (s.put p u true) _ (hr.put_le hp) rfl (hr.put hp) r
theorem PR.isSome {K : PySem.W.Frag} {I : Inf} {W : WX} {s : Sx} {σ : L2.St} {o : Option Val} {Q : V → Hp → Prop} (pr : PR K I W s σ (ofO o s.h) (VR K) Q) : ∃ v, o = Option.some v := by
  cases o with
  | none => exact pr.elim
  | some v => exact ⟨v, rfl⟩
theorem lst_new {K : PySem.W.Frag} {s : Sx} {p : Addr} {ts : List PyData} {xs : List V} (hp : s.H p = none) (r : RFs K s.F s.H ts xs) : VR K (s.put p (.lst xs) true) (.p (.list ts)) (.ref p) :=
  .lst (.inl ⟨.inr ⟨rfl, rfl⟩, Rd.of upd_same⟩) (r.keep (KeepF.put hp))
theorem tup_newL {K : PySem.W.Frag} {s : Sx} {p : Addr} {ts : List PyData} {xs : List V} {b : Bool} (hp : s.H p = none) (r : RFs K s.F s.H ts xs) (nn : needT ts = false := by rfl) : VR K (s.put p (.tup xs) b) (.p (.tuple ts)) (.ref p) :=
  .tup (.lo (SqT.of upd_same) nn) (r.keep (KeepF.put hp))
theorem tup_new {K : PySem.W.Frag} {s : Sx} {p : Addr} {ts : List PyData} {xs : List V} {b : Bool} {o : Obj} (hp : s.H p = none) (ho : TupO o) (r : RFs K s.F s.H ts xs) : VR K (s.put p (.frz o (.tup xs)) b) (.p (.tuple ts)) (.ref p) :=
  .tup (.st (.of ho upd_same)) (r.keep (KeepF.put hp))

structure Gm where
  fns : Nat → Option FnD
  defs : List (Str × Nat)
  nobs : List Str
  cons : List (Str × PyData)
  cls : List (Str × Nat × Nat)
  meths : List (Nat × Str × Nat)
  flds : List (Nat × List Str)
  excs : List (Str × Nat)
  tabs : List (Str × List (List Int × Int)) := []
  sts : List (Nat × Str × Nat) := []
  /-- defs that are handed the exception that is handled, and ask its class alone -/
  hots : List (Str × (Nat → PyData)) := []
/-- an entry of a table of the written part: a tuple of ints, an int -/
def TabEnt (K : PySem.W.Frag) (ks : List Int) (i : Int) (e : DictEntry) : Prop := ∃ (t : Addr) (tok : Tok) (o : Obj) (items : Array Value) (n : Nat), e.key = .ref t ∧ e.val = .int i tok ∧ (∀ (P : Program) (w : World), e.hash = tupleKeyHash (mixKind P w) (ks.map Sum.inl)) ∧
  K.lookup t = some o ∧ o.cls = .type "tuple" ∧ o.data = .seq items n ∧ IntsAre items.toList ks
def TabEs (K : PySem.W.Frag) : List (List Int × Int) → List DictEntry → Prop
  | [], [] => True
  | p :: ps, e :: es => TabEnt K p.1 p.2 e ∧ TabEs K ps es
  | _, _ => False
/-- a table of the written part -/
def TabK (K : PySem.W.Frag) (a : Addr) (kvs : List (List Int × Int)) : Prop := ∃ (es : Array DictEntry) (m : Nat), K.lookup a = some ⟨.type "dict", none, .dict es m, #[]⟩ ∧ TabEs K kvs es.toList ∧ (kvs.map (·.1)).Nodup
/-- an own exception class whose __init__ keeps its one argument as at -/
structure XoSt (K : PySem.W.Frag) (C : Addr) : Prop where
  oex : OexC K C
  xf : XfC K C
  no : PySem.W.findIn K (.ref C) "at" = some none
  ex : ∃ (fI : Addr) (x qual : Str) (st : Stmt) (fd : FuncData) (p1 p2 p3 p4 : Pos), PySem.W.findIn K (.ref C) "__init__" = some (some (.ref fI)) ∧ PySem.W.typeIn K (.ref fI) = some (.type "function") ∧ Fun K x qual st fI fd ∧ Binds K fd ["self", "at"] [] ∧
    FnScope ["self", "at"] ["self", "at"] (defScope st) ∧ (defScope st).names.lookup ("self" : Str) = some .local ∧ (defScope st).names.lookup ("at" : Str) = some .local ∧ defBody st = [.Assign [.Attribute (.Name "self" p1) "at" p2] (.Name "at" p3) p4]
/-- an own exception class -/
structure XcOk (K : PySem.W.Frag) (c : Nat) (C : Addr) : Prop where
  q : c ≠ 1 → PySem.W.excIn K C [.type "ValueError", .type "Exception", .type "BaseException", .type "object"] "ValueError.__new__" = true
  kC : PySem.W.keepIn K (.ref C) = true
  sb : PySem.W.subIn K (.ref C) (.type "BaseException") = some true
  ty : PySem.W.typeIn K (.ref C) = some (.type "type")
  more : c = 1 → XoSt K C
/-- what is asked of the def f, by the interpreter -/
def spF (K : PySem.W.Frag) (I : Inf) (fns : Nat → Option FnD) (n f np : Nat) : Sp := fun vs H Q E => ∃ s args, s.H = H ∧ HR K I.ci s ∧ Paired (VR K s) args vs ∧ args.length = np ∧
  match callF fns n f args s.h with
  | .ok v h' => ∀ s' x, Le s s' → s'.h = h' → HR K I.ci s' → VR K s' v x → Q x s'.H
  | .exc e h' => ∀ s' cls d, Le s s' → s'.h = h' → HR K I.ci s' → XR K I s' e cls d → E cls d s'.H
  | .stuck => False
/-- the def f of the small program stands at a -/
def FAt (P : Program) (w : World) (K : PySem.W.Frag) (mg : Str → Option Value) (base : Heap) (I : Inf) (fns : Nat → Option FnD) (n f : Nat) (a : Addr) : Prop :=
  PySem.W.keepIn K (.ref a) = true ∧ PySem.W.isFn K (.ref a) = true ∧ ∃ fd ps d, fns f = some d ∧ ps.length = d.np ∧ Binds K fd ps [] ∧ FnOk P w K mg base (L2.CX P w) (2 * n) a fd ps (spF K I fns n f d.np)
/-- a tuple whose object is known -/
def StR (K : PySem.W.Frag) (s : Sx) (ts : List PyData) (x : V) : Prop := ∃ (a : Addr) (xs : List V) (o : Obj), x = .ref a ∧ s.H a = some (.frz o (.tup xs)) ∧ o.cls = .type "tuple" ∧ o.dict = none ∧ RFs K s.F s.H ts xs
/-- the field is a list: its own, or data -/
def FldL : Option Fld → List PyData → Prop
  | some (.l us), ts => us = ts
  | some (.p d), ts => d = .list ts
  | none, _ => False
/-- what is asked of a method that tells tuple(its field j) -/
def spS (K : PySem.W.Frag) (I : Inf) (n c j : Nat) : Sp := fun vs H Q _ => 0 < n ∧ ∃ (s : Sx) (k : Nat) (fs : List Fld) (ts : List PyData), s.H = H ∧ HR K I.ci s ∧ vs = [.ref (s.φ k 0)] ∧ insAt s.h k = some (c, fs) ∧ FldL fs[j]? ts ∧
  ∀ s' x, Le s s' → s'.h = s.h → HR K I.ci s' → StR K s' ts x → Q x s'.H
/-- a promise that hangs on the exception that is handled -/
structure FnE (P : Program) (w : World) (K : PySem.W.Frag) (mg : Str → Option Value) (base : Heap) (CX : CXT) (k : Nat) (f : Addr) (fd : FuncData) (ps : List Str) (sp : Addr → Value → Option Addr → Sp) : Prop where
  len : ∀ a cls d vs H Q E, sp a cls d vs H Q E → vs.length = ps.length
  run : ∀ (A : Around) (outer : List Env) (s : Shared) (H : Hp) (args : Args) (us : List Value) (vs : List V) (Q : VK) (E : XK) (p : Addr × Obj), L2H.RoomH k A → (∃ xs : Array Value, p.2.data = .fields xs) → L2H.PinOk outer H s p → Env0 P w K mg base A outer s H →
    BindsTo s fd args (ps.zip us) → Vals vs us → sp p.1 p.2.cls p.2.dict vs H Q E → codeAny (model P w) A (.call (.ref f) args) (CR CX outer P w H s Q E) s
/-- what is asked of such a def -/
def spE (K : PySem.W.Frag) (I : Inf) (g : Nat → PyData) (a : Addr) (cls : Value) (d : Option Addr) : Sp := fun vs H Q _ => ∃ (s : Sx) (c : Nat) (C : Addr), s.H = H ∧ HR K I.ci s ∧ vs = [.ref a] ∧ I.xi c = some C ∧ cls = .ref C ∧ (d = none ∨ ∃ dx v, d = some dx ∧ H dx = some (.xd v)) ∧ s.H a = none ∧
  ∀ s' x, Le s s' → s'.h = s.h → HR K I.ci s' → RF K s'.F s'.H (g c) x → Q x s'.H
/-- a block's names; those whose cells it has made itself -/
structure Sco where
  s : Scope
  fn : Str → Bool
  top : Bool
  /-- whether nothing guards here against running round -/
  gd : Bool
  /-- whether a lambda may be made here -/
  lm : Bool
/-- where a lambda is made: the maker's table of code objects, the defs at any fuel -/
def LmAt (Γ : Gm) (I : Inf) (X : Cx) : Prop := (Γ.cls = [] ∧ Γ.meths = [] ∧ Γ.sts = [] ∧ Γ.hots = []) ∧ (∃ c P, X.env.code = .ref c ∧ LamX.TabB X.base X.mg c P ∧ I.ci.tbs = [(P, X.env.qual ++ "<lambda>")]) ∧
  ∀ m, ∀ p ∈ Γ.defs, ∃ a, X.mg p.1 = some (.ref a) ∧ FAt X.prog X.w X.K X.mg X.base I Γ.fns m p.2 a
structure GX (Γ : Gm) (n : Nat) (I : Inf) (N : List Str) (sc : Sco) (W : WX) (X : Cx) : Prop where
  stk : sc.top = true → X.stack = X.env :: X.outer ∧ X.env.frame = some X.env.locals
  gd : sc.gd = true → X.A.guards = some []
  lm : sc.lm = true → LmAt Γ I X
  hN : X.N = N
  nd : N.Nodup
  fnc : X.fn = sc.fn
  sc : X.env.scope = sc.s
  calm : X.calm = true
  tk : Takes X W
  pass : PassesOwn (model X.prog X.w) X.A X.env X.xe
  room : Room (2 * n + 1) X.A
  fn : ∀ p ∈ Γ.defs, ∃ a, X.mg p.1 = some (.ref a) ∧ FAt X.prog X.w X.K X.mg X.base I Γ.fns n p.2 a
  nob : ∀ x ∈ Γ.nobs, X.mg x = none
  con : ∀ p ∈ Γ.cons, ∃ u v, X.mg p.1 = some u ∧ RelV v u ∧ ∀ F H, RF X.K F H p.2 v
  cl : ∀ p ∈ Γ.cls, ∃ C names a, X.mg p.1 = some (.ref C) ∧ I.ci p.2.1 = some (C, names) ∧ Mk X.K C a ∧ FAt X.prog X.w X.K X.mg X.base I Γ.fns n p.2.2 a
  mt : ∀ p ∈ Γ.meths, ∃ C names a, I.ci p.1 = some (C, names) ∧ Meth X.K C p.2.1 a ∧ p.2.1 ∉ names ∧ FAt X.prog X.w X.K X.mg X.base I Γ.fns n p.2.2 a
  fl : ∀ p ∈ Γ.flds, ∃ C, I.ci p.1 = some (C, p.2) ∧ Cls X.K C ∧ p.2.Nodup ∧ p.2.length < 1000 ∧ ∀ x ∈ p.2, NoAttr X.K C x
  ci : ∀ c C names, I.ci c = some (C, names) → (c, names) ∈ Γ.flds
  xc : ∀ p ∈ Γ.excs, ∃ C, X.mg p.1 = some (.ref C) ∧ I.xi p.2 = some C ∧ XcOk X.K p.2 C
  xm : ∀ c C c' C', I.xi c = some C → I.xi c' = some C' → PySem.W.exmOne X.K (.ref C) (.ref C') = some (subC c c')
  tb : ∀ p ∈ Γ.tabs, ∃ a, X.mg p.1 = some (.ref a) ∧ TabK X.K a p.2
  st : ∀ p ∈ Γ.sts, ∃ C names a fd, I.ci p.1 = some (C, names) ∧ Meth X.K C p.2.1 a ∧ p.2.1 ∉ names ∧ Binds X.K fd ["self"] [] ∧ FnOk X.prog X.w X.K X.mg X.base (L2.CX X.prog X.w) (2 * n) a fd ["self"] (spS X.K I n p.1 p.2.2)
  ho : ∀ p ∈ Γ.hots, ∃ a fd x, X.mg p.1 = some (.ref a) ∧ PySem.W.keepIn X.K (.ref a) = true ∧ Binds X.K fd [x] [] ∧ FnE X.prog X.w X.K X.mg X.base (L2.CX X.prog X.w) 1 a fd [x] (spE X.K I p.2)
def DE (Γ : Gm) (N : List Str) (sc : Sco) (e : Expr) (a : E) : Prop :=
  ∀ n I W X, GX Γ n I N sc W X → PE X e (tE X.K I W (fun env h => evalE (callF Γ.fns n) env a h) (VR X.K))
def DB (Γ : Gm) (N : List Str) (sc : Sco) (e : Expr) (a : E) : Prop :=
  ∀ n I W X, GX Γ n I N sc W X → PE X e (tE X.K I W (fun env h => bor env h a (evalE (callF Γ.fns n) env a h)) (RB X.K))
/-- as data that stays -/
def DV (Γ : Gm) (N : List Str) (sc : Sco) (e : Expr) (a : E) : Prop :=
  ∀ n I W X, GX Γ n I N sc W X → PE X e (tE X.K I W (fun env h => (evalE (callF Γ.fns n) env a h).bind unP) (PRl X.K))
def tP (K : PySem.W.Frag) (I : Inf) (r : Ev → Hi → R Val) : TE := fun σ H Q => ∃ env s, s.H = H ∧ HR K I.ci s ∧ ER K s env σ ∧ match r env s.h with
  | .ok (.p d) h' => h' = s.h ∧ ∀ x, RF K s.F s.H d x → Q x H
  | _ => False
/-- data that is looked up, changing nothing -/
structure DP (Γ : Gm) (N : List Str) (sc : Sco) (e : Expr) (a : E) : Prop where
  run : ∀ n I W X, GX Γ n I N sc W X → PE X e (tP X.K I (fun env h => evalE (callF Γ.fns n) env a h))
  pure : ∀ cf env h, (∃ v, evalE cf env a h = .ok v h) ∨ evalE cf env a h = .stuck
def DT (Γ : Gm) (N : List Str) (sc : Sco) (e : Expr) (a : Te) : Prop :=
  ∀ n I W X, GX Γ n I N sc W X → PT X e (tE X.K I W (fun env h => evalT (callF Γ.fns n) env a h) (fun _ a x => x = a))
section
variable {Γ : Gm} {N : List Str} {sc : Sco} {x : Expr} {a : E}
theorem DE.v (h : DE Γ N sc x a) : DV Γ N sc x a := fun n I W X g => (h n I W X g).imp fun σ H Q q => by
  obtain ⟨env, s, eH, hr, er, _, pr⟩ := q
  refine ⟨env, s, eH, hr, er, trivial, ?_⟩
  replace pr : PR X.K I W s σ ((evalE (callF Γ.fns n) env a s.h).bind unP) (PRl X.K) Q := pr
  show PR X.K I W s σ (evalE (callF Γ.fns n) env a s.h) (VR X.K) Q
  generalize evalE (callF Γ.fns n) env a s.h = r at pr ⊢
  cases r with
  | ok v h1 =>
    intro s' x l eh hr' rel
    cases v with
    | p d => exact pr s' x l eh hr' rel
    | ref m => exact False.elim pr
  | exc e h1 => exact pr
  | stuck => exact pr
theorem DV.b (h : DV Γ N sc x a) (np : ∀ env h, peek env h a = none := by intros; rfl) : DB Γ N sc x a := fun n I W X g => (h n I W X g).imp fun σ H Q q => by
  obtain ⟨env, s, eH, hr, er, _, pr⟩ := q
  refine ⟨env, s, eH, hr, er, trivial, ?_⟩
  replace pr : PR X.K I W s σ (bor env s.h a (evalE (callF Γ.fns n) env a s.h)) (RB X.K) Q := pr
  show PR X.K I W s σ ((evalE (callF Γ.fns n) env a s.h).bind unP) (PRl X.K) Q
  simp only [bor, np] at pr
  generalize (evalE (callF Γ.fns n) env a s.h).bind unP = r at pr ⊢
  cases r with
  | ok v h1 => exact fun s' y l eh hr' rel => pr s' y l eh hr' (.inl rel)
  | exc e h1 => exact pr
  | stuck => exact pr
theorem DP.v (h : DP Γ N sc x a) : DV Γ N sc x a := fun n I W X g => (h.run n I W X g).imp fun σ H Q q => by
  obtain ⟨env, s, eH, hr, er, _, pr⟩ := q
  refine ⟨env, s, eH, hr, er, ?_⟩
  replace pr : PR X.K I W s σ ((evalE (callF Γ.fns n) env a s.h).bind unP) (PRl X.K) Q := pr
  show (match evalE (callF Γ.fns n) env a s.h with
  | .ok (.p d) h' => h' = s.h ∧ ∀ x, RF X.K s.F s.H d x → Q x H
  | _ => False)
  rcases h.pure (callF Γ.fns n) env s.h with ⟨v, e⟩ | e
  · rw [e] at pr ⊢
    cases v with
    | p d => exact ⟨rfl, fun y r => by rw [← eH]; exact pr s y (.refl s) rfl hr r⟩
    | ref m => exact False.elim pr
  · rw [e] at pr
    exact False.elim pr
end
section
variable {K : PySem.W.Frag} {s : Sx}
theorem RB.dp {d : PyData} {x : V} (r : RB K s d x) : Dp K s.H x d := by
  rcases r with r | ⟨ts, a, xs, rfl, rfl, h, t⟩
  · exact r.dp
  · exact .lst (.inl h) t.dp
theorem RB.strict {d : PyData} {x : V} (r : RB K s d x) (n : ∀ ts, d ≠ .list ts) : RF K s.F s.H d x := by
  rcases r with r | ⟨ts, a, xs, rfl, rfl, h, t⟩
  · exact r
  · exact absurd rfl (n ts)
theorem RB.lst {ts : List PyData} {x : V} (r : RB K s (.list ts) x) : ∃ a xs, x = .ref a ∧ SqL K s.H a xs ∧ RFs K s.F s.H ts xs := by
  rcases r with r | ⟨ts', a, xs, e, rfl, h, t⟩
  · obtain ⟨a, xs, e, h, t⟩ := r.lst_inv
    exact ⟨a, xs, e, h.sq, t⟩
  · cases e
    exact ⟨a, xs, rfl, .inl h, t⟩
theorem RB.tup {ts : List PyData} {x : V} (r : RB K s (.tuple ts) x) : ∃ a xs, x = .ref a ∧ SqT K s.H a xs ∧ RFs K s.F s.H ts xs := (r.strict (fun _ z => nomatch z)).tup_inv
theorem RB.tupN {ts : List PyData} {x : V} (r : RB K s (.tuple ts) x) : ∃ a xs, x = .ref a ∧ NdT K s.H a xs ts ∧ RFs K s.F s.H ts xs := (r.strict (fun _ z => nomatch z)).tup_invN
theorem RB.int {i : Int} {x : V} (r : RB K s (.int i) x) : x = .int i := (r.strict (fun _ z => nomatch z)).int_inv
theorem RB.bl {i : Bool} {x : V} (r : RB K s (.bool i) x) : x = .bl i := (r.strict (fun _ z => nomatch z)).bl_inv
theorem RB.str {i : Str} {x : V} (r : RB K s (.str i) x) : x = .str i := (r.strict (fun _ z => nomatch z)).str_inv
theorem RB.non {x : V} (r : RB K s .none x) : x = .non := (r.strict (fun _ z => nomatch z)).non_inv
end
/-- an operation's end: data that was there, or a new thing -/
def Fin (K : PySem.W.Frag) (s : Sx) (d : PyData) (Q : VK) : Prop :=
  (∀ z, RF K s.F s.H d z → Q z s.H) ∧ ∀ p u, s.H p = none → VR K (s.put p u true) (.p d) (.ref p) → Q (.ref p) (upd s.H p u)
theorem PR.fin {K : PySem.W.Frag} {I : Inf} {W : WX} {s : Sx} {σ : L2.St} {o : Option PyData} {Q : V → Hp → Prop} (pr : PR K I W s σ (ofO (o.map Val.p) s.h) (VR K) Q) (hr : HR K I.ci s) : ∃ d, o = some d ∧ Fin K s d Q := by
  cases o with
  | none => exact False.elim pr
  | some d => exact ⟨d, rfl, fun z r => PR.val (v := .p d) pr hr rfl r, fun p u hp r => PR.new (v := .p d) pr hr rfl hp r⟩
def Op1Ok (K : PySem.W.Frag) (r : V → Hp → VK → Prop) (o : O1) : Prop := ∀ (s : Sx) d1 d x (Q : VK), RB K s d1 x → opf1 o d1 = some d → Fin K s d Q → r x s.H Q
def Op2Ok (K : PySem.W.Frag) (r : R2) (o : O2) : Prop := ∀ (s : Sx) d1 d2 d x y (Q : VK), RB K s d1 x → RB K s d2 y → opf2 o d1 d2 = some d → Fin K s d Q → r x y s.H Q
section
variable {Γ : Gm} {N : List Str} {sc : Sco} {e ea eb ec : Expr} {a b c : E} {o : O2}
theorem op1_imp {o : O1} {r : V → Hp → VK → Prop} {n : Nat} {I : Inf} {W : WX} {X : Cx} (ok : Op1Ok X.K r o) {σ : L2.St} {H : Hp} {Q : VK} (q : tE X.K I W (fun env h => evalE (callF Γ.fns n) env (.op1 o a) h) (VR X.K) σ H Q) :
    tUn r (tE X.K I W (fun env h => bor env h a (evalE (callF Γ.fns n) env a h)) (RB X.K)) σ H Q := by
    obtain ⟨env, s, eH, hr, er, _, pr⟩ := At.bind (Rel1 := RB X.K) (ev2 := fun x env h => ofO ((opf1 o x).map Val.p) h) q
    refine ⟨env, s, eH, hr, er, trivial, ?_⟩
    refine PR.mono pr fun x H1 ⟨d, env, s, e, hr, er, ⟨_, rb⟩, pr⟩ => ?_
    subst e
    obtain ⟨d', e1, f⟩ := PR.fin (o := opf1 o d) pr hr
    exact ok s d d' x Q rb e1 f
theorem de_op1 {o : O1} {r : Cx → V → Hp → VK → Prop} (hpe : ∀ n I W X, GX Γ n I N sc W X → ∀ ta, PE X ea ta → PE X e (tUn (r X) ta)) (ok : ∀ n I W X, GX Γ n I N sc W X → Op1Ok X.K (r X) o) (ha : DB Γ N sc ea a) : DE Γ N sc e (.op1 o a) := fun n I W X g =>
  (hpe n I W X g _ (ha n I W X g)).imp fun σ H Q q => op1_imp (ok n I W X g) q
theorem op2_imp {r : R2} {n : Nat} {I : Inf} {W : WX} {X : Cx} (ok : Op2Ok X.K r o) {σ : L2.St} {H : Hp} {Q : VK} (q : tE X.K I W (fun env h => evalE (callF Γ.fns n) env (.op2 o a b) h) (VR X.K) σ H Q) :
    tOp r (tE X.K I W (fun env h => (evalE (callF Γ.fns n) env a h).bind unP) (PRl X.K)) (tE X.K I W (fun env h => bor env h b (evalE (callF Γ.fns n) env b h)) (RB X.K)) σ H Q := by
    obtain ⟨env, s, eH, hr, er, _, pr⟩ := At.bind (Rel1 := PRl X.K) (ev2 := fun x env h => (bor env h b (evalE (callF Γ.fns n) env b h)).bind fun y h2 => ofO ((opf2 o x y).map Val.p) h2) q
    refine ⟨env, s, eH, hr, er, trivial, ?_⟩
    refine PR.mono pr fun x H1 ⟨d, q⟩ => ?_
    obtain ⟨env, s, eH, hr, er, _, pr⟩ := At.bind (Rel1 := RB X.K) (G' := fun s => PRl X.K s d x) (ev2 := fun y env h2 => ofO ((opf2 o d y).map Val.p) h2) q (fun s s' l g => g.2.le l)
    refine ⟨env, s, eH, hr, er, trivial, ?_⟩
    refine PR.mono pr fun y H2 ⟨d2, env, s, e, hr, er, ⟨r1, r2⟩, pr⟩ => ?_
    subst e
    obtain ⟨d', e1, f⟩ := PR.fin (o := opf2 o d d2) pr hr
    exact ok s d d2 d' x y Q (.inl r1) r2 e1 f
theorem de_op2 {r : Cx → R2} (hpe : ∀ n I W X, GX Γ n I N sc W X → ∀ ta tb, PE X ea ta → PE X eb tb → PE X e (tOp (r X) ta tb)) (ok : ∀ n I W X, GX Γ n I N sc W X → Op2Ok X.K (r X) o) (ha : DV Γ N sc ea a) (hb : DB Γ N sc eb b) :
    DE Γ N sc e (.op2 o a b) := fun n I W X g =>
  (hpe n I W X g _ _ (ha n I W X g) (hb n I W X g)).imp fun σ H Q q => op2_imp (ok n I W X g) q
theorem op2b_imp {r : R2} {n : Nat} {I : Inf} {W : WX} {X : Cx} (ok : Op2Ok X.K r o) (hb : ∀ cf env h, (∃ v, evalE cf env b h = .ok v h) ∨ evalE cf env b h = .stuck) {σ : L2.St} {H : Hp} {Q : VK} (q : tE X.K I W (fun env h => evalE (callF Γ.fns n) env (.op2b o a b) h) (VR X.K) σ H Q) :
    tOp r (tE X.K I W (fun env h => bor env h a (evalE (callF Γ.fns n) env a h)) (RB X.K)) (tP X.K I (fun env h => evalE (callF Γ.fns n) env b h)) σ H Q := by
    obtain ⟨env, s, eH, hr, er, _, pr⟩ := At.bind (Rel1 := RB X.K) (ev2 := fun x env h => ((evalE (callF Γ.fns n) env b h).bind unP).bind fun y h2 => ofO ((opf2 o x y).map Val.p) h2) q
    refine ⟨env, s, eH, hr, er, trivial, ?_⟩
    refine PR.mono pr fun x H1 ⟨d, env, s, eH, hr, er, ⟨_, rb⟩, pr⟩ => ?_
    refine ⟨env, s, eH, hr, er, ?_⟩
    replace pr : PR X.K I W s σ (((evalE (callF Γ.fns n) env b s.h).bind unP).bind fun y h2 => ofO ((opf2 o d y).map Val.p) h2) (VR X.K) Q := pr
    show (match evalE (callF Γ.fns n) env b s.h with
    | .ok (.p d2) h' => h' = s.h ∧ ∀ y, RF X.K s.F s.H d2 y → r x y H1 Q
    | _ => False)
    rcases hb (callF Γ.fns n) env s.h with ⟨v, e⟩ | e
    · rw [e] at pr ⊢
      cases v with
      | p d2 =>
        refine ⟨rfl, fun y ry => ?_⟩
        obtain ⟨d', e1, f⟩ := PR.fin (o := opf2 o d d2) pr hr
        rw [← eH]
        exact ok s d d2 d' x y Q rb (.inl ry) e1 f
      | ref m => exact False.elim pr
    · rw [e] at pr
      exact False.elim pr
theorem de_op2b {r : Cx → R2} (hpe : ∀ n I W X, GX Γ n I N sc W X → ∀ ta tb, PE X ea ta → PE X eb tb → PE X e (tOp (r X) ta tb)) (ok : ∀ n I W X, GX Γ n I N sc W X → Op2Ok X.K (r X) o) (ha : DB Γ N sc ea a) (hb : DP Γ N sc eb b) :
    DE Γ N sc e (.op2b o a b) := fun n I W X g =>
  (hpe n I W X g _ _ (ha n I W X g) (hb.run n I W X g)).imp fun σ H Q q => op2b_imp (ok n I W X g) hb.pure q
/-- operations that make nothing -/
def Op2Pu (K : PySem.W.Frag) (r : R2) (o : O2) : Prop := ∀ (s : Sx) d1 d2 d x y (Q : VK), RB K s d1 x → RB K s d2 y → opf2 o d1 d2 = some d → (∀ z, RF K s.F s.H d z → Q z s.H) → r x y s.H Q
theorem Op2Pu.ok {K : PySem.W.Frag} {r : R2} (h : Op2Pu K r o) : Op2Ok K r o := fun s d1 d2 d x y Q r1 r2 e f => h s d1 d2 d x y Q r1 r2 e f.1
theorem de_op2d {r : Cx → R2} (hpe : ∀ n I W X, GX Γ n I N sc W X → ∀ ta tb, PE X ea ta → PE X eb tb → PE X e (tOp (r X) ta tb)) (ok : ∀ n I W X, GX Γ n I N sc W X → Op2Ok X.K (r X) o) (ha : DV Γ N sc ea a) (hb : DV Γ N sc eb b) :
    DE Γ N sc e (.op2d o a b) := fun n I W X g =>
  (hpe n I W X g _ _ (ha n I W X g) (hb n I W X g)).imp fun σ H Q q => by
    obtain ⟨env, s, eH, hr, er, _, pr⟩ := At.bind (Rel1 := PRl X.K) (ev2 := fun x env h => ((evalE (callF Γ.fns n) env b h).bind unP).bind fun y h2 => ofO ((opf2 o x y).map Val.p) h2) q
    refine ⟨env, s, eH, hr, er, trivial, ?_⟩
    refine PR.mono pr fun x H1 ⟨d, q⟩ => ?_
    obtain ⟨env, s, eH, hr, er, _, pr⟩ := At.bind (Rel1 := PRl X.K) (G' := fun s => PRl X.K s d x) (ev2 := fun y env h2 => ofO ((opf2 o d y).map Val.p) h2) q (fun s s' l g => g.2.le l)
    refine ⟨env, s, eH, hr, er, trivial, ?_⟩
    refine PR.mono pr fun y H2 ⟨d2, env, s, e, hr, er, ⟨r1, r2⟩, pr⟩ => ?_
    subst e
    obtain ⟨d', e1, f⟩ := PR.fin (o := opf2 o d d2) pr hr
    exact ok n I W X g s d d2 d' x y Q (.inl r1) (.inl r2) e1 f
theorem dp_op2d {r : Cx → R2} (hpe : ∀ n I W X, GX Γ n I N sc W X → ∀ ta tb, PE X ea ta → PE X eb tb → PE X e (tOp (r X) ta tb)) (ok : ∀ n I W X, GX Γ n I N sc W X → Op2Pu X.K (r X) o) (ha : DP Γ N sc ea a) (hb : DP Γ N sc eb b) : DP Γ N sc e (.op2d o a b) where
  run := fun n I W X g => (hpe n I W X g _ _ (ha.run n I W X g) (hb.run n I W X g)).imp fun σ H Q q => by
    obtain ⟨env, s, eH, hr, er, pr⟩ := q
    refine ⟨env, s, eH, hr, er, ?_⟩
    replace pr : (match ((evalE (callF Γ.fns n) env a s.h).bind unP).bind (fun x h1 => ((evalE (callF Γ.fns n) env b h1).bind unP).bind fun y h2 => ofO ((opf2 o x y).map Val.p) h2) with
      | .ok (.p d) h' => h' = s.h ∧ ∀ x, RF X.K s.F s.H d x → Q x H
      | _ => False) := pr
    show (match evalE (callF Γ.fns n) env a s.h with
    | .ok (.p d2) h' => h' = s.h ∧ ∀ y, RF X.K s.F s.H d2 y → tP X.K I (fun env h => evalE (callF Γ.fns n) env b h) σ H (fun y H2 => r X _ y H2 Q)
    | _ => False)
    rcases ha.pure (callF Γ.fns n) env s.h with ⟨v, e⟩ | e
    · rw [e] at pr ⊢
      cases v with
      | p d1 =>
        refine ⟨rfl, fun x rx => ⟨env, s, eH, hr, er, ?_⟩⟩
        simp only [R.bind_ok, unP] at pr
        show (match evalE (callF Γ.fns n) env b s.h with
        | .ok (.p d2) h' => h' = s.h ∧ ∀ y, RF X.K s.F s.H d2 y → r X x y H Q
        | _ => False)
        rcases hb.pure (callF Γ.fns n) env s.h with ⟨v, e⟩ | e
        · rw [e] at pr ⊢
          cases v with
          | p d2 =>
            refine ⟨rfl, fun y ry => ?_⟩
            simp only [R.bind_ok, unP] at pr
            cases e1 : opf2 o d1 d2 with
            | none => rw [e1] at pr; exact False.elim pr
            | some d' =>
              rw [e1] at pr
              rw [← eH]
              exact ok n I W X g s d1 d2 d' x y Q (.inl rx) (.inl ry) e1 fun z rz => by rw [eH]; exact pr.2 z rz
          | ref m => exact False.elim pr
        · rw [e] at pr
          exact False.elim pr
      | ref m => exact False.elim pr
    · rw [e] at pr
      exact False.elim pr
  pure := fun cf env h => by
    show (∃ v, ((evalE cf env a h).bind unP).bind (fun x h1 => ((evalE cf env b h1).bind unP).bind fun y h2 => ofO ((opf2 o x y).map Val.p) h2) = .ok v h) ∨ ((evalE cf env a h).bind unP).bind (fun x h1 => ((evalE cf env b h1).bind unP).bind fun y h2 => ofO ((opf2 o x y).map Val.p) h2) = .stuck
    rcases ha.pure cf env h with ⟨v, e⟩ | e
    · rw [e]
      cases v with
      | p d1 =>
        simp only [R.bind_ok, unP]
        rcases hb.pure cf env h with ⟨v, e⟩ | e
        · rw [e]
          cases v with
          | p d2 =>
            simp only [R.bind_ok, unP]
            cases opf2 o d1 d2 with
            | none => exact .inr rfl
            | some d => exact .inl ⟨_, rfl⟩
          | ref m => exact .inr rfl
        · rw [e]; exact .inr rfl
      | ref m => exact .inr rfl
    · rw [e]; exact .inr rfl
end
end Cd
set_option Elab.async false
set_option linter.all false
set_option maxRecDepth 100000
set_option maxHeartbeats 4000000
namespace Cd
open PySem PySem.Spec PyProof.Rows L2

structure VOk (N : List Str) (sc : Sco) (i : Nat) (x : Str) : Prop where
  hN : N[i]? = some x
  hv : Vis sc.s x
  hd : (x == ("__debug__" : Str)) = false
  hc : (x == ("__classdict__" : Str)) = false
structure GOk (sc : Sco) (x : Str) : Prop where
  gl : sc.s.names.lookup x = some .globalImplicit
  db : (x == ("__debug__" : Str)) = false
  nm : x ≠ "__name__"
section
variable {Γ : Gm} {N : List Str} {sc : Sco} {n : Nat} {I : Inf} {W : WX} {X : Cx} {i : Nat} {x : Str} {pos : Pos}
theorem VOk.pe (v : VOk N sc i x) (g : GX Γ n I N sc W X) : PE X (.Name x pos) (tVar i) := pe_var (by rw [g.hN]; exact v.hN) (by rw [g.sc]; exact v.hv) v.hd v.hc
theorem GOk.g (v : GOk sc x) (g : GX Γ n I N sc W X) : Gl X x := by
  unfold Gl Env.kindOf
  rw [g.sc]; exact v.gl
theorem de_var (v : VOk N sc i x) : DE Γ N sc (.Name x pos) (.var i) := fun n I W X g => (v.pe g).imp fun σ H Q q => by
  obtain ⟨env, s, eH, hr, er, _, pr⟩ := q
  obtain ⟨v, e⟩ := PR.isSome (o := slot env i) pr
  obtain ⟨y, h1, h2⟩ := er.at_ i v e
  exact ⟨y, h1, by rw [← eH]; exact PR.val (o := slot env i) pr hr e h2⟩
theorem dp_var (v : VOk N sc i x) : DP Γ N sc (.Name x pos) (.var i) where
  run := fun n I W X g => (v.pe g).imp fun σ H Q q => by
    obtain ⟨env, s, eH, hr, er, pr⟩ := q
    replace pr : (match ofO (slot env i) s.h with
      | .ok (.p d) h' => h' = s.h ∧ ∀ x, RF X.K s.F s.H d x → Q x H
      | _ => False) := pr
    cases e : slot env i with
    | none => rw [e] at pr; exact False.elim pr
    | some v =>
      rw [e] at pr
      cases v with
      | p d =>
        obtain ⟨y, h1, h2⟩ := er.at_ i _ e
        exact ⟨y, h1, pr.2 y h2⟩
      | ref m => exact False.elim pr
  pure := fun cf env h => by
    show (∃ v, ofO (slot env i) h = .ok v h) ∨ ofO (slot env i) h = .stuck
    cases slot env i with
    | none => exact .inr rfl
    | some v => exact .inl ⟨v, rfl⟩
theorem slotRef_of {env : Ev} {i n : Nat} (e : slotRef env i = some n) : slot env i = some (.ref n) := by
  unfold slotRef at e
  split at e
  · cases e; assumption
  · cases e
theorem listAt_of {h : Hi} {n : Nat} {ts : List PyData} (e : listAt h n = some ts) : h[n]? = some (.lst ts) := by
  unfold listAt at e
  split at e
  · cases e; assumption
  · cases e
theorem insAt_of {h : Hi} {n : Nat} {p : Nat × List Fld} (e : insAt h n = some p) : h[n]? = some (.ins p.1 p.2) := by
  unfold insAt at e
  split at e
  · cases e; assumption
  · cases e
theorem dctAt_of {h : Hi} {n : Nat} {p : List (Key × Fld)} (e : dctAt h n = some p) : h[n]? = some (.dct p) := by
  unfold dctAt at e
  split at e
  · cases e; assumption
  · cases e
theorem db_var (v : VOk N sc i x) : DB Γ N sc (.Name x pos) (.var i) := fun n I W X g => (v.pe g).imp fun σ H Q q => by
  obtain ⟨env, s, eH, hr, er, _, pr⟩ := q
  replace pr : PR X.K I W s σ (bor env s.h (.var i) (ofO (slot env i) s.h)) (RB X.K) Q := pr
  cases e : slot env i with
  | none =>
    have e2 : slotRef env i = none := by unfold slotRef; rw [e]
    simp only [bor, peek, lstOf, e2, e, ofO_none, Option.bind_none, Option.map_none, R.bind_stuck] at pr
    exact False.elim pr
  | some v =>
    obtain ⟨y, h1, h2⟩ := er.at_ i v e
    refine ⟨y, h1, ?_⟩
    cases v with
    | p d =>
      have e2 : slotRef env i = none := by unfold slotRef; rw [e]
      simp only [bor, peek, lstOf, e2, e, ofO_some, Option.bind_none, Option.map_none, R.bind_ok, unP] at pr
      rw [← eH]
      exact pr s y (.refl s) rfl hr (.inl h2)
    | ref m =>
      have e2 : slotRef env i = some m := by unfold slotRef; rw [e]
      cases e3 : listAt s.h m with
      | none =>
        simp only [bor, peek, lstOf, e2, e, e3, ofO_some, Option.bind_some, Option.map_none, R.bind_ok, unP] at pr
        exact False.elim pr
      | some ts =>
        simp only [bor, peek, lstOf, e2, e, e3, ofO_some, Option.bind_some, Option.map_some, R.bind_ok, unP] at pr
        obtain ⟨xs, q1, q2⟩ := hr.ob m _ (listAt_of e3)
        rw [← eH]
        exact pr s y (.refl s) rfl hr (.inr ⟨ts, _, xs, rfl, h2.2, Rd.of q1, q2⟩)
theorem dp_c {e : Expr} {d : PyData} {v : V} (hpe : ∀ X, PE X e (tC v)) (hd : ∀ K F H, RF K F H d v) : DP Γ N sc e (.lit d) where
  run := fun n I W X g => (hpe X).imp fun σ H Q ⟨env, s, eH, hr, er, pr⟩ => pr.2 v (hd _ _ _)
  pure := fun cf env h => .inl ⟨_, rfl⟩
theorem dp_int {i : Int} {j : Nat} {pos : Pos} : DP Γ N sc (.Constant (.int i) j pos) (.lit (.int i)) := dp_c (fun _ => pe_int) fun _ _ _ => .int _
theorem dp_bool {b : Bool} {j : Nat} {pos : Pos} : DP Γ N sc (.Constant (.bool b) j pos) (.lit (.bool b)) := dp_c (fun _ => pe_bl) fun _ _ _ => .bl _
theorem dp_str {y : Str} {j : Nat} {pos : Pos} : DP Γ N sc (.Constant (.str y) j pos) (.lit (.str y)) := dp_c (fun _ => pe_str) fun _ _ _ => .str _
theorem dp_con {d : PyData} (v : GOk sc x) (hm : (x, d) ∈ Γ.cons) : DP Γ N sc (.Name x pos) (.lit d) where
  run := fun n I W X g => by
    obtain ⟨u, y, h1, h2, h3⟩ := g.con _ hm
    exact (pe_glob (v.g g) h1 h2 v.db).imp fun σ H Q ⟨env, s, eH, hr, er, pr⟩ => pr.2 y (h3 _ _)
  pure := fun cf env h => .inl ⟨_, rfl⟩
end
section
variable {Γ : Gm} {N : List Str} {sc : Sco} {e : Expr} {a : E}
theorem DP.b (h : DP Γ N sc e a) (np : ∀ env h, peek env h a = none := by intros; rfl) : DB Γ N sc e a := h.v.b np
end
section
variable {X : Cx} {pins : List (Addr × Obj)} {σ : L2.St} {H : Hp} {s : Shared} {p : Addr} {xs : List V}
def rCatR (K : PySem.W.Frag) : R2 := fun x y H Q => ∃ p q xs ys, x = .ref p ∧ y = .ref q ∧ SqL K H p xs ∧ SqL K H q ys ∧ xs.length + ys.length ≤ sizeLine ∧ ∀ l, H l = none → Q (.ref l) (upd H l (.lst (xs ++ ys)))
theorem op_catR : OpR X (binaryOp .Add) (rCatR X.K) := fun pins s σ H x y v u Q I rx ry ⟨p, q, xs, ys, ex, ey, hp, hq, hz, k⟩ => by
  subst ex ey
  obtain rfl : v = .ref p := rx
  obtain rfl : u = .ref q := ry
  obtain ⟨us, ru, pu, _⟩ := I.list hp
  obtain ⟨ws, rw', pw, _⟩ := I.list hq
  obtain ⟨⟨c1, d1, t1, l1⟩, m1, o1, k1, k2, k3⟩ := pu
  obtain ⟨⟨c2, d2, t2, l2⟩, m2, o2, k4, k5, k6⟩ := pw
  simp only at k1 k2 k3 k4 k5 k6
  subst k1 k2 k3 k4 k5 k6
  have h1 := ru.length
  have h2 := rw'.length
  refine concat_meets ⟨_, o1, rfl⟩ ⟨_, o2, rfl⟩ noFill_list_add seq_list_add PySem.F.slot_list_add PySem.F.entry_list_add (PySem.F.args_list_add_2 _ _) (list_addW p q us.toArray ws.toArray m1 m2 none none l1 l2 (by simp only [List.size_toArray]; omega)) ⟨o1, o2, ?_⟩
  rw [List.append_toArray]
  exact ⟨.ref _, _, I.lnew (ru.append rw') (by simp only [List.length_append]; omega), rfl, k _ I.fresh⟩
end
section
variable {K : PySem.W.Frag} {X : Cx}
theorem ok_sub : Op2Pu K (rI0 fun i j => .int (i - j)) .sub := fun s d1 d2 d x y Q r1 r2 e f => by
  replace e : subD d1 d2 = some d := e
  unfold subD at e
  split at e
  · cases e; rw [r1.int, r2.int]; exact ⟨_, _, rfl, rfl, f _ (.int _)⟩
  · cases e
def rModN : R2 := rI (fun _ j => j ≠ 0) fun i j => .int (i.fmod j)
theorem ok_mod : Op2Pu K rModN .mod := fun s d1 d2 d x y Q r1 r2 e f => by
  replace e : modD d1 d2 = some d := e
  unfold modD at e
  split at e
  · split at e
    · cases e
    · rename_i h
      cases e; rw [r1.int, r2.int]; exact ⟨_, _, rfl, rfl, h, f _ (.int _)⟩
  · cases e
def rDivN : R2 := rI CDivN fun i j => .int (i.fdiv j)
theorem ok_fdiv : Op2Pu K rDivN .fdiv := fun s d1 d2 d x y Q r1 r2 e f => by
  replace e : fdivD d1 d2 = some d := e
  unfold fdivD at e
  split at e
  · split at e
    · rename_i h
      simp only [Bool.and_eq_true, decide_eq_true_eq] at h
      cases e; rw [r1.int, r2.int]; exact ⟨_, _, rfl, rfl, h, f _ (.int _)⟩
    · cases e
  · cases e
/-- t + u, what it lays known -/
def rCatS (K : PySem.W.Frag) : R2 := fun x y H Q => ∃ a b xs ys, x = .ref a ∧ y = .ref b ∧ SqT K H a xs ∧ SqT K H b ys ∧ xs.length + ys.length ≤ sizeLine ∧
  (xs = [] → Q (.ref b) H) ∧ (xs ≠ [] → ys = [] → Q (.ref a) H) ∧ (xs ≠ [] → ys ≠ [] → ∀ p o, H p = none → TupO o → Q (.ref p) (upd H p (.frz o (.tup (xs ++ ys)))))
theorem op_catS {X : Cx} : OpR X (binaryOp .Add) (rCatS X.K) := by
  intro pins s σ H x y v u Q I rx ry h
  obtain ⟨a, b, xs, ys, rfl, rfl, ha, hb, hz, q0, q1, q2⟩ := h
  by_cases hx : xs = []
  · exact op_catA pins s σ H _ _ v u Q I rx ry ⟨a, b, xs, ys, rfl, rfl, ha, hb, hz, q0, fun z => absurd hx z, fun z => absurd hx z⟩
  · cases rx
    cases ry
    obtain ⟨its, r1, p1, _⟩ := I.tuple ha
    obtain ⟨its2, r2, p2, _⟩ := I.tuple hb
    refine HT.cat_tup p1 p2 (fun z => hx (r1.nil_iff.mp z)) (fun z => ⟨.ref a, H, I, rfl, q1 hx (r2.nil_iff.mp z)⟩) (fun z => ?_) (by rw [← r1.length, ← r2.length]; exact hz)
    refine ⟨.ref s.heap.objs.size, _, I.laid (t' := s.toks) (o := .frz { cls := .type "tuple", data := .seq (its ++ its2).toArray } (.tup (xs ++ ys))) (fun b ob q => Heap.get?_push_of_some _ q) (Nat.le_refl _) ?_, rfl, q2 hx (fun w => z (r2.nil_iff.mpr w)) _ _ (I.hok.fresh (Nat.le_refl _)) ⟨rfl, rfl⟩⟩
    exact ⟨Heap.get?_push_size _ rfl, by rw [List.length_append]; exact hz, _, r1.append r2, IsTup.new _ _⟩
/-- ints, texts, tuples, lists -/
def rAdd (K : PySem.W.Frag) : R2 := fun x y H Q => (((rI0 fun i j => .int (i + j)) x y H Q ∨ (∃ i j, x = .str i ∧ y = .str j ∧ i.length + j.length ≤ sizeLine ∧ Q (.str (i ++ j)) H)) ∨ rCatS K x y H Q) ∨ rCatR K x y H Q
theorem op_addA : OpR X (binaryOp .Add) (rAdd X.K) := ((op_add.or op_add_str).or op_catS).or op_catR
theorem ok_add : Op2Ok K (rAdd K) .add := fun s d1 d2 d x y Q r1 r2 e f => by
  replace e : addD d1 d2 = some d := e
  unfold addD at e
  split at e
  · cases e; rw [r1.int, r2.int]; exact .inl (.inl (.inl ⟨_, _, rfl, rfl, f.1 _ (.int _)⟩))
  · split at e
    · rename_i h
      cases e; rw [r1.str, r2.str]; exact .inl (.inl (.inr ⟨_, _, rfl, rfl, h, f.1 _ (.str _)⟩))
    · cases e
  · split at e
    · rename_i h
      cases e
      obtain ⟨a, xs, rfl, h1, q1⟩ := r1.tupN
      obtain ⟨b, ys, rfl, h2, q2⟩ := r2.tupN
      refine .inl (.inr ⟨a, b, xs, ys, rfl, rfl, h1.1, h2.1, by rw [← q1.length, ← q2.length]; exact h, fun e => ?_, fun _ e => ?_, fun _ _ p o hp ho => f.2 p _ hp (tup_new hp ho (q1.append q2))⟩)
      · subst e
        cases q1
        exact f.1 _ (.tup h2 q2)
      · subst e
        cases q2
        rw [List.append_nil] at f
        exact f.1 _ (.tup h1 q1)
    · cases e
  · split at e
    · rename_i h
      cases e
      obtain ⟨a, xs, rfl, h1, q1⟩ := r1.lst
      obtain ⟨b, ys, rfl, h2, q2⟩ := r2.lst
      exact .inr ⟨a, b, xs, ys, rfl, rfl, h1, h2, by rw [← q1.length, ← q2.length]; exact h, fun p hp => f.2 p _ hp (lst_new hp (q1.append q2))⟩
    · cases e
  · cases e
def rAddI : R2 := rI0 fun i j => .int (i + j)
theorem small64_of {i : Int} (h : small64 i = true) : -(2 ^ 64) < i ∧ i < 2 ^ 64 := by
  unfold small64 at h
  rw [decide_eq_true_eq] at h
  omega
theorem ok_mul : Op2Pu K (rI CMul fun i j => .int (i * j)) .mul := fun s d1 d2 d x y Q r1 r2 e f => by
  replace e : mulD d1 d2 = some d := e
  unfold mulD at e
  split at e
  · split at e
    · rename_i h
      cases e
      rw [r1.int, r2.int]
      refine ⟨_, _, rfl, rfl, ?_, f _ (.int _)⟩
      rcases Bool.or_eq_true _ _ ▸ h with h | h
      · exact .inl (small64_of h)
      · exact .inr (small64_of h)
    · cases e
  · cases e
def rCmpD (K : PySem.W.Frag) (f : PyData → PyData → Bool) : R2 := fun x y H Q => ∃ d e, Dp K H x d ∧ Dp K H y e ∧ cmpOk d e = true ∧ Q (.bl (f d e)) H
theorem cmpOk_of {d e : PyData} (h : cmpOk d e = true) : PySem.W.alike d e = true ∧ d ≠ .none ∧ min d.depth e.depth ≤ 64 := by
  unfold cmpOk at h
  simp only [Bool.and_eq_true, decide_eq_true_eq] at h
  refine ⟨h.1.1, fun z => ?_, h.2⟩
  rw [z] at h
  simp [isNoneD] at h
theorem op_ltG (hu : X.A.units + 64 < cLine) : OpR X (compareOp .Lt) (rCmpD X.K fun d e => PySem.W.dataLt d e) := by
  intro pins s σ H x y v u Q I rx ry h
  obtain ⟨d, e, hd, he, c, q⟩ := h
  obtain ⟨as, r1⟩ := Dp.reads I d x v hd rx
  obtain ⟨bs, r2⟩ := Dp.reads I e y u he ry
  obtain ⟨c1, c2, c3⟩ := cmpOk_of c
  exact PySem.W.lt_data r1 r2 c1 c2 (by omega) ⟨.bl _, H, I, rfl, q⟩
theorem op_gtG (hu : X.A.units + 64 < cLine) : OpR X (compareOp .Gt) (rCmpD X.K fun d e => PySem.W.dataLt e d) := by
  intro pins s σ H x y v u Q I rx ry h
  obtain ⟨d, e, hd, he, c, q⟩ := h
  obtain ⟨as, r1⟩ := Dp.reads I d x v hd rx
  obtain ⟨bs, r2⟩ := Dp.reads I e y u he ry
  obtain ⟨c1, c2, c3⟩ := cmpOk_of c
  exact PySem.W.gt_data r1 r2 c1 c2 (by omega) ⟨.bl _, H, I, rfl, q⟩
theorem op_geG (hu : X.A.units + 64 < cLine) : OpR X (compareOp .GtE) (rCmpD X.K fun d e => !PySem.W.dataLt d e) := by
  intro pins s σ H x y v u Q I rx ry h
  obtain ⟨d, e, hd, he, c, q⟩ := h
  obtain ⟨as, r1⟩ := Dp.reads I d x v hd rx
  obtain ⟨bs, r2⟩ := Dp.reads I e y u he ry
  obtain ⟨c1, c2, c3⟩ := cmpOk_of c
  exact PySem.W.ge_data r1 r2 c1 c2 (by omega) ⟨.bl _, H, I, rfl, q⟩
/-- ints, or data -/
def rCmp (K : PySem.W.Frag) (p : Int → Int → Bool) (f : PyData → PyData → Bool) : R2 := fun x y H Q => (rI0 fun i j => .bl (p i j)) x y H Q ∨ rCmpD K f x y H Q
theorem ok_cmp {p : Int → Int → Bool} {f : PyData → PyData → Bool} {o : O2} (ho : ∀ x y, opf2 o x y = cmpD p f x y) : Op2Pu K (rCmp K p f) o := fun s d1 d2 d x y Q r1 r2 e q => by
  rw [ho] at e
  unfold cmpD at e
  split at e
  · cases e; rw [r1.int, r2.int]; exact .inl ⟨_, _, rfl, rfl, q _ (.bl _)⟩
  · split at e
    · rename_i c
      cases e
      exact .inr ⟨_, _, r1.dp, r2.dp, c, q _ (.bl _)⟩
    · cases e
def rEqA (K : PySem.W.Frag) : R2 := fun x y H Q => rEq x y H Q ∨ rEqD K x y H Q
def rNeA (K : PySem.W.Frag) : R2 := fun x y H Q => rNe x y H Q ∨ rNeD K x y H Q
theorem op_eqA (hu : X.A.units + 64 < cLine) : OpR X (compareOp .Eq) (rEqA X.K) := op_eq.or (op_eqD hu)
theorem op_neA (hu : X.A.units + 64 < cLine) : OpR X (compareOp .NotEq) (rNeA X.K) := op_ne.or (op_neD hu)
theorem eqD_cases {d1 d2 : PyData} {b : Bool} (e : eqD d1 d2 = some b) : b = PyData.eqv d1 d2 ∧ ((scalD d1 = true ∧ scalD d2 = true) ∨ (SeqAt.shaped d1 = true ∧ SeqAt.shaped d2 = true)) := by
  unfold eqD at e
  split at e
  · rename_i h
    rw [Bool.and_eq_true] at h
    cases e
    exact ⟨rfl, .inl h⟩
  · split at e
    · rename_i h
      rw [Bool.and_eq_true] at h
      cases e
      exact ⟨rfl, .inr h⟩
    · cases e
theorem scal_eq {s : Sx} {d1 d2 : PyData} {x y : V} (h1 : scalD d1 = true) (h2 : scalD d2 = true) (r1 : RB K s d1 x) (r2 : RB K s d2 y) : (scal x y = true ∧ PyData.eqv d1 d2 = decide (x = y)) ∨ (SeqAt.shaped d1 = true ∧ SeqAt.shaped d2 = true) := by
  cases d1 with
  | none =>
    rw [r1.non]
    cases d2 with
    | none => rw [r2.non]; exact .inl ⟨rfl, rfl⟩
    | bool b => rw [r2.bl]; exact .inl ⟨rfl, rfl⟩
    | int b => rw [r2.int]; exact .inl ⟨rfl, rfl⟩
    | str b => rw [r2.str]; exact .inl ⟨rfl, rfl⟩
    | _ => cases h2
  | bool a =>
    rw [r1.bl]
    cases d2 with
    | none => rw [r2.non]; exact .inl ⟨rfl, rfl⟩
    | bool b => rw [r2.bl]; exact .inl ⟨rfl, by rw [dec_bl]; rfl⟩
    | int b => exact .inr ⟨rfl, rfl⟩
    | str b => rw [r2.str]; exact .inl ⟨rfl, rfl⟩
    | _ => cases h2
  | int a =>
    rw [r1.int]
    cases d2 with
    | none => rw [r2.non]; exact .inl ⟨rfl, rfl⟩
    | bool b => exact .inr ⟨rfl, rfl⟩
    | int b => rw [r2.int]; exact .inl ⟨rfl, by rw [dec_int]; rfl⟩
    | str b => rw [r2.str]; exact .inl ⟨rfl, rfl⟩
    | _ => cases h2
  | str a =>
    rw [r1.str]
    cases d2 with
    | none => rw [r2.non]; exact .inl ⟨rfl, rfl⟩
    | bool b => rw [r2.bl]; exact .inl ⟨rfl, rfl⟩
    | int b => rw [r2.int]; exact .inl ⟨rfl, rfl⟩
    | str b => rw [r2.str]; exact .inl ⟨rfl, by rw [dec_str]; rfl⟩
    | _ => cases h2
  | _ => cases h1
theorem ok_eq : Op2Pu K (rEqA K) .eq := fun s d1 d2 d x y Q r1 r2 e f => by
  replace e : (eqD d1 d2).map PyData.bool = some d := e
  rw [Option.map_eq_some_iff] at e
  obtain ⟨b, e, rfl⟩ := e
  obtain ⟨rfl, h⟩ := eqD_cases e
  have sh : SeqAt.shaped d1 = true ∧ SeqAt.shaped d2 = true → rEqA K x y s.H Q := fun h => .inr ⟨_, _, r1.dp, r2.dp, h.1, h.2, f _ (.bl _)⟩
  rcases h with ⟨h1, h2⟩ | h
  · rcases scal_eq h1 h2 r1 r2 with ⟨a, b⟩ | h
    · exact .inl ⟨a, by rw [← b]; exact f _ (.bl _)⟩
    · exact sh h
  · exact sh h
theorem ok_ne : Op2Pu K (rNeA K) .ne := fun s d1 d2 d x y Q r1 r2 e f => by
  replace e : (eqD d1 d2).map (fun b => PyData.bool !b) = some d := e
  rw [Option.map_eq_some_iff] at e
  obtain ⟨b, e, rfl⟩ := e
  obtain ⟨rfl, h⟩ := eqD_cases e
  have sh : SeqAt.shaped d1 = true ∧ SeqAt.shaped d2 = true → rNeA K x y s.H Q := fun h => .inr ⟨_, _, r1.dp, r2.dp, h.1, h.2, f _ (.bl _)⟩
  rcases h with ⟨h1, h2⟩ | h
  · rcases scal_eq h1 h2 r1 r2 with ⟨a, b⟩ | h
    · exact .inl ⟨a, by rw [← b]; exact f _ (.bl _)⟩
    · exact sh h
  · exact sh h
theorem RFs.atI {F : Addr → Prop} {H : Hp} {ts : List PyData} {xs : List V} (r : RFs K F H ts xs) {i : Int} {d : PyData} (e : L2.atI ts i = some d) : ∃ v, L2.atI xs i = some v ∧ RF K F H d v := by
  unfold L2.atI at e ⊢
  rw [r.length] at e
  cases h : ixN xs.length i with
  | none => rw [h] at e; cases e
  | some j =>
    rw [h] at e
    exact r.get e
theorem ok_ix : Op2Pu K (rIx K) .ix := fun s d1 d2 d x y Q r1 r2 e f => by
  replace e : ixD d1 d2 = some d := e
  unfold ixD at e
  split at e
  · obtain ⟨a, xs, rfl, h1, q1⟩ := r1.lst
    rw [r2.int]
    obtain ⟨v, e1, rv⟩ := q1.atI e
    exact .inl ⟨a, xs, _, v, rfl, rfl, h1, e1, f v rv⟩
  · obtain ⟨a, xs, rfl, h1, q1⟩ := r1.tup
    rw [r2.int]
    obtain ⟨v, e1, rv⟩ := q1.atI e
    exact .inr (.inl ⟨a, xs, _, v, rfl, rfl, h1, e1, f v rv⟩)
  · unfold strAt at e
    split at e
    · rename_i hz
      rw [Option.map_eq_some_iff] at e
      obtain ⟨c, e, rfl⟩ := e
      rw [r1.str, r2.int]
      exact .inr (.inr ⟨_, _, c, rfl, rfl, hz, e, f _ (.str _)⟩)
    · cases e
  · cases e
end
end Cd
set_option Elab.async false
set_option linter.all false
set_option maxRecDepth 100000
set_option maxHeartbeats 4000000
namespace Cd
open PySem PySem.Spec PyProof.Rows L2
section
variable {K : PySem.W.Frag} {X : Cx}
abbrev one (r : List V → Hp → VK → Prop) : V → Hp → VK → Prop := fun x H Q => r [x] H Q
theorem ok_len : Op1Ok K (one fun xs H Q => ∃ x n, xs = [x] ∧ LenV K x H n ∧ Q (.int n) H) .len := fun s d1 d x Q r e f => by
  replace e : lenD d1 = some d := e
  unfold lenD at e
  split at e
  · cases e
    obtain ⟨a, xs, rfl, h1, q1⟩ := r.lst
    exact ⟨_, _, rfl, .inl ⟨xs, h1, rfl⟩, by rw [← q1.length]; exact f.1 _ (.int _)⟩
  · cases e
    obtain ⟨a, xs, rfl, h1, q1⟩ := r.tup
    exact ⟨_, _, rfl, .inr ⟨xs, h1, rfl⟩, by rw [← q1.length]; exact f.1 _ (.int _)⟩
  · split at e
    · rename_i hz
      cases e
      rw [r.str]
      exact ⟨_, _, rfl, ⟨hz, rfl⟩, f.1 _ (.int _)⟩
    · cases e
  · cases e
theorem maxOk_of {ts : List PyData} (h : maxOk ts = true) : PySem.W.AlikeAll ts ∧ PyData.depthAll ts ≤ 60 := by
  unfold maxOk at h
  simp only [Bool.and_eq_true, decide_eq_true_eq, List.all_eq_true] at h
  refine ⟨⟨fun x hx y hy => h.1.1 x hx y hy, fun x hx z => ?_⟩, h.2⟩
  have := h.1.2 x hx
  rw [z] at this
  simp [isNoneD] at this
/-- the item y of the sequence at a is the f of its data -/
def rBest (K : PySem.W.Frag) (f : PyData → List PyData → PyData) : List V → Hp → VK → Prop := fun vs H Q => ∃ (a : Addr) (xs : List V) (d : PyData) (ds : List PyData), vs = [V.ref a] ∧ (SqL K H a xs ∨ SqT K H a xs) ∧ DpAll K H xs (d :: ds) ∧ maxOk (d :: ds) = true ∧
  ∀ (i : Nat) (y : V), xs[i]? = some y → (d :: ds)[i]? = some (f d ds) → Q y H
theorem vals_get' : ∀ {xs : List V} {us : List Value} {i : Nat} {u : Value}, Vals xs us → us[i]? = some u → ∃ x, xs[i]? = some x ∧ RelV x u
  | _, _, _, _, .nil, e => by simp at e
  | _, _, 0, _, .cons r _, e => by simp at e; subst e; exact ⟨_, rfl, r⟩
  | _, _, i + 1, x, .cons _ t, e => by
    obtain ⟨u, h1, h2⟩ := vals_get' (i := i) (u := x) t (by simpa using e)
    exact ⟨u, by simpa using h1, h2⟩
theorem best_back {pins : List (Addr × Obj)} {s : Shared} {σ : L2.St} {H : Hp} {xs : List V} {its : List Value} {d m : PyData} {ds : List PyData} {Q : VK} {as bs : List Addr} {i : Nat} {v : Value} {h' : Heap} {tk : Nat}
    (I : Inv X pins σ H s) (rv : Vals xs its) (ra : ReadsAll s.heap its (d :: ds) as) (hv : its.toArray[i]? = some v) (r : Reads h' v m bs) (hk : ∀ b o, s.heap.get? b = some o → h'.get? b = some o)
    (q : ∀ (i : Nat) (y : V), xs[i]? = some y → (d :: ds)[i]? = some m → Q y H) : EP X pins σ Q v { s with heap := h', toks := tk } := by
  have hv' : its[i]? = some v := by simpa using hv
  obtain ⟨y, hy, ry⟩ := vals_get' rv hv'
  refine ⟨y, H, I.kept hk, ry, q i y hy ?_⟩
  obtain ⟨cs, r2, hl, _⟩ := PySem.W.readsAll_atA (vs := its.toArray) ra i v hv
  have e : (d :: ds).getD i .none = m := (PySem.W.reads_keeps hk r2).unique _ _ r |>.1
  rw [List.getD_eq_getElem?_getD] at e
  rw [List.getElem?_eq_getElem hl] at e ⊢
  simpa using e
theorem cr_maxG (hc : X.calm = true) (hu : X.A.units + 64 < cLine) : CallR X (.builtin "max") (rBest X.K PySem.W.maxD) := by
  intro pins s σ H vs us Q I r h
  obtain ⟨a, xs, d, ds, rfl, hs, dp, ok, q⟩ := h
  obtain ⟨al, dl⟩ := maxOk_of ok
  rw [Vals.ref1 r]
  rcases hs with hs | hs
  · obtain ⟨its, rv, hl, _⟩ := I.list hs
    obtain ⟨as, ra⟩ := Dp.readsAll I _ _ its dp rv
    exact PySem.W.max_list_data (I.ok.hd hc) hl.isList ra al (by omega) fun i v h' tk bs hv r hk => best_back I rv ra hv r hk q
  · obtain ⟨its, rv, ⟨o, ho, hcl, n, hd⟩, _⟩ := I.tuple hs
    obtain ⟨as, ra⟩ := Dp.readsAll I _ _ its dp rv
    exact PySem.W.max_tuple_data (I.ok.hd hc) ⟨o, ho, hcl, n, hd⟩ ra al (by omega) fun i v h' tk bs hv r hk => best_back I rv ra hv r hk q
theorem ok_best {f : PyData → List PyData → PyData} {g : List PyData → Option PyData} {o : O1} (ho : ∀ d, opf1 o d = (seqD d).bind g) (hg : ∀ x xs, g (x :: xs) = if maxOk (x :: xs) then some (f x xs) else none) (h0 : g [] = none) : Op1Ok K (one (rBest K f)) o := fun s d1 d x Q r e q => by
  rw [ho] at e
  have fin : ∀ {a : Addr} {xs : List V} {ts : List PyData}, (SqL K s.H a xs ∨ SqT K s.H a xs) → RFs K s.F s.H ts xs → g ts = some d → x = .ref a → one (rBest K f) x s.H Q := fun {a xs ts} hs q1 e ex => by
    subst ex
    cases ts with
    | nil => rw [h0] at e; cases e
    | cons y ys =>
      rw [hg] at e
      split at e
      · rename_i ok
        cases e
        refine ⟨a, xs, y, ys, rfl, hs, q1.dp, ok, fun i z hz e => ?_⟩
        obtain ⟨d', e1, rz⟩ := q1.get' hz
        rw [e] at e1
        cases e1
        exact q.1 _ rz
      · cases e
  cases d1 with
  | list ts =>
    obtain ⟨a, xs, ex, h1, q1⟩ := r.lst
    exact fin (.inl h1) q1 e ex
  | tuple ts =>
    obtain ⟨a, xs, ex, h1, q1⟩ := r.tup
    exact fin (.inr h1) q1 e ex
  | _ => cases e
theorem ok_max : Op1Ok K (one (rBest K PySem.W.maxD)) .max := ok_best (fun _ => rfl) (fun _ _ => rfl) rfl
theorem ok_any : Op1Ok K (one (rAny K)) .any := fun s d1 d x Q r e f => by
  replace e : anyS d1 = some d := e
  unfold anyS at e
  split at e
  · rw [Option.map_eq_some_iff] at e
    obtain ⟨ns, e, rfl⟩ := e
    obtain ⟨a, xs, rfl, h1, q1⟩ := r.lst
    obtain ⟨rfl, _⟩ := q1.bools' e
    exact ⟨a, ns, rfl, h1, f.1 _ (.bl _)⟩
  · cases e
/-- tuple(x), what it lays known -/
def rTupS (K : PySem.W.Frag) : List V → Hp → VK → Prop := fun xs H Q => ∃ p ys, xs = [.ref p] ∧ ((SqL K H p ys ∧ ∀ l o, H l = none → TupO o → Q (.ref l) (upd H l (.frz o (.tup ys)))) ∨ (SqT K H p ys ∧ Q (.ref p) H))
theorem call_tuple_S {X : Cx} : CallR X (.type "tuple") (rTupS X.K) := by
  intro pins s σ H xs us Q I r h
  obtain ⟨p, ys, rfl, h⟩ := h
  obtain ⟨u, rfl, rx⟩ := vals1 r
  cases rx
  rcases h with ⟨hq, q⟩ | ⟨hq, q⟩
  · obtain ⟨its, r', pl, hz⟩ := I.list hq
    have hlen := r'.length
    refine call_tuple_list pl.isList (fun h' kp => ?_) (by simp only [List.size_toArray] <;> omega)
    have I1 : Inv _ pins σ H { s with heap := h' } := I.kept (t' := s.toks) kp
    have I2 : Inv _ pins σ (upd H h'.objs.size (.frz { cls := .type "tuple", data := .seq its.toArray } (.tup ys))) { s with heap := h'.push { cls := .type "tuple", data := .seq its.toArray } } :=
      I1.laid (t' := s.toks) (fun b o e => Heap.get?_push_of_some _ e) (Nat.le_refl _) (show ObjOk _ _ _ _ _ (.frz _ (.tup ys)) from ⟨Heap.get?_push_size _ rfl, hz, its, r', IsTup.new _ _⟩)
    exact ⟨.ref h'.objs.size, _, I2, rfl, q _ _ (I1.hok.fresh (Nat.le_refl _)) ⟨rfl, rfl⟩⟩
  · obtain ⟨its, r', pl, hz⟩ := I.tuple hq
    exact call_tuple_same pl ⟨.ref p, H, I, rfl, q⟩
theorem ok_tuple : Op1Ok K (one (rTupS K)) .tuple := fun s d1 d x Q r e f => by
  replace e : tupleS d1 = some d := e
  unfold tupleS at e
  split at e
  · cases e
    obtain ⟨a, xs, rfl, h1, q1⟩ := r.lst
    exact ⟨a, xs, rfl, .inl ⟨h1, fun p o hp ho => f.2 p _ hp (tup_new hp ho q1)⟩⟩
  · cases e
    obtain ⟨a, xs, rfl, h1, q1⟩ := r.tupN
    exact ⟨a, xs, rfl, .inr ⟨h1.1, f.1 _ (.tup h1 q1)⟩⟩
  · cases e
/-- a new list of a list's, a tuple's, a text's -/
def rListA (K : PySem.W.Frag) : List V → Hp → VK → Prop := fun xs H Q => (∃ p ys, xs = [.ref p] ∧ (SqL K H p ys ∨ SqT K H p ys) ∧ ∀ l, H l = none → Q (.ref l) (upd H l (.lst ys))) ∨ (∃ z : Str, xs = [.str z] ∧ z.cps.size ≤ sizeLine ∧ ∀ l, H l = none → Q (.ref l) (upd H l (.lst (z.cps.toList.map fun c => V.str ⟨#[c]⟩))))
theorem vals_at : ∀ (xs : List V) (us : List Value), us.length = xs.length → (∀ (j : Nat) (u : Value), us[j]? = some u → ∃ x, xs[j]? = some x ∧ RelV x u) → Vals xs us
  | [], [], _, _ => .nil
  | [], _ :: _, h, _ => by cases h
  | _ :: _, [], h, _ => by cases h
  | x :: xs, u :: us, h, k => by
    refine .cons ?_ (vals_at xs us (by simpa using h) fun j w e => k (j + 1) w e)
    obtain ⟨y, e, r⟩ := k 0 u rfl
    cases e
    exact r
theorem call_list_txt {X : Cx} (hc : X.calm = true) : CallR X (.type "list") (fun xs H Q => ∃ z : Str, xs = [.str z] ∧ z.cps.size ≤ sizeLine ∧ ∀ l, H l = none → Q (.ref l) (upd H l (.lst (z.cps.toList.map fun c => V.str ⟨#[c]⟩)))) := by
  intro pins s σ H xs us Q I r h
  obtain ⟨z, rfl, hz, q⟩ := h
  obtain ⟨u, rfl, rx⟩ := vals1 r
  obtain ⟨t, rfl⟩ := rx
  refine call_list_str (I.ok.hd hc) z t (fun h' tk acc c' kp e ia => ?_) hz
  have ln : acc.toList.length = (z.cps.toList.map fun c => V.str ⟨#[c]⟩).length := by rw [List.length_map, Array.length_toList, Array.length_toList]; exact ia.1
  have rv : Vals (z.cps.toList.map fun c => V.str ⟨#[c]⟩) acc.toList := vals_at _ _ ln fun j w ew => by
    rw [Array.getElem?_toList] at ew
    obtain ⟨c, tk', e1, e2⟩ := ia.2 j w ew
    refine ⟨.str ⟨#[c]⟩, ?_, ?_⟩
    · rw [List.getElem?_map, Array.getElem?_toList, e1]; rfl
    · rw [e2]; exact ⟨_, rfl⟩
  exact ⟨.ref s.heap.objs.size, _, I.laid (t' := tk) kp (Nat.le_refl _) (show ObjOk X.prog X.w _ h' _ (.lst (z.cps.toList.map fun c => V.str ⟨#[c]⟩)) from ⟨by rw [← ln, Array.length_toList, ia.1]; exact hz, acc.toList, c', rv, e⟩), rfl, q _ (I.hok.fresh (Nat.le_refl _))⟩
theorem insI_perm (x : Int) : ∀ l : List Int, (insI x l).Perm (x :: l)
  | [] => .refl _
  | y :: r => by
    unfold insI
    split
    · exact .refl _
    · exact ((insI_perm x r).cons y).trans (.swap x y r)
theorem insI_sorted (x : Int) : ∀ l : List Int, l.Pairwise (· ≤ ·) → (insI x l).Pairwise (· ≤ ·)
  | [], _ => by simp [insI]
  | y :: r, h => by
    unfold insI
    rw [List.pairwise_cons] at h
    split
    · rename_i hx
      refine List.pairwise_cons.mpr ⟨fun z hz => ?_, List.pairwise_cons.mpr h⟩
      rcases List.mem_cons.mp hz with rfl | hz
      · exact hx
      · exact Int.le_trans hx (h.1 z hz)
    · rename_i hx
      refine List.pairwise_cons.mpr ⟨fun z hz => ?_, insI_sorted x r h.2⟩
      rcases List.mem_cons.mp ((insI_perm x r).mem_iff.mp hz) with rfl | hz
      · omega
      · exact h.1 z hz
theorem sortI_perm : ∀ l : List Int, (sortI l).Perm l
  | [] => .refl _
  | x :: r => (insI_perm x (sortI r)).trans ((sortI_perm r).cons x)
theorem sortI_sorted : ∀ l : List Int, (sortI l).Pairwise (· ≤ ·)
  | [] => .nil
  | x :: r => insI_sorted x _ (sortI_sorted r)
theorem sorted_uniq {l m : List Int} (p : l.Perm m) (h1 : l.Pairwise (· ≤ ·)) (h2 : m.Pairwise (· ≤ ·)) : l = m := p.eq_of_pairwise (fun _ _ _ _ a b => Int.le_antisymm a b) h1 h2
end
end Cd
set_option Elab.async false
set_option linter.all false
set_option maxRecDepth 100000
set_option maxHeartbeats 4000000
namespace Cd
open PySem PySem.Spec PyProof.Rows L2
section
variable {Γ : Gm} {N : List Str} {sc : Sco} {e ea eb ec : Expr} {a b c : E} {o : O2} {pos p p2 : Pos}
structure NB (Γ : Gm) (sc : Sco) (x : Str) : Prop where
  g : GOk sc x
  m : x ∈ Γ.nobs
theorem GX.hu {n : Nat} {I : Inf} {W : WX} {X : Cx} (g : GX Γ n I N sc W X) : X.A.units + 64 < cLine := g.room.units
theorem de_addD (ha : DV Γ N sc ea a) (hb : DV Γ N sc eb b) : DE Γ N sc (.BinOp ea .Add eb pos) (.op2d .add a b) := de_op2d (r := fun X => rAdd X.K) (fun _ _ _ X g ta tb h1 h2 => pe_op op_addA h1 h2) (fun _ _ _ X g => ok_add) ha hb
theorem de_subD (ha : DV Γ N sc ea a) (hb : DV Γ N sc eb b) : DE Γ N sc (.BinOp ea .Sub eb pos) (.op2d .sub a b) := de_op2d (fun _ _ _ X g ta tb h1 h2 => pe_op op_sub h1 h2) (fun _ _ _ X g => ok_sub.ok) ha hb
theorem de_mulD (ha : DV Γ N sc ea a) (hb : DV Γ N sc eb b) : DE Γ N sc (.BinOp ea .Mult eb pos) (.op2d .mul a b) := de_op2d (fun _ _ _ X g ta tb h1 h2 => pe_op op_mul h1 h2) (fun _ _ _ X g => ok_mul.ok) ha hb
theorem de_divD (ha : DV Γ N sc ea a) (hb : DV Γ N sc eb b) : DE Γ N sc (.BinOp ea .FloorDiv eb pos) (.op2d .fdiv a b) := de_op2d (r := fun _ => rDivN) (fun _ _ _ X g ta tb h1 h2 => pe_op op_fdivN h1 h2) (fun _ _ _ X g => ok_fdiv.ok) ha hb
theorem de_modD (ha : DV Γ N sc ea a) (hb : DV Γ N sc eb b) : DE Γ N sc (.BinOp ea .Mod eb pos) (.op2d .mod a b) := de_op2d (r := fun _ => rModN) (fun _ _ _ X g ta tb h1 h2 => pe_op op_modN h1 h2) (fun _ _ _ X g => ok_mod.ok) ha hb
theorem dp_mul (ha : DP Γ N sc ea a) (hb : DP Γ N sc eb b) : DP Γ N sc (.BinOp ea .Mult eb pos) (.op2d .mul a b) := dp_op2d (fun _ _ _ X g ta tb h1 h2 => pe_op op_mul h1 h2) (fun _ _ _ X g => ok_mul) ha hb
theorem dp_mod (ha : DP Γ N sc ea a) (hb : DP Γ N sc eb b) : DP Γ N sc (.BinOp ea .Mod eb pos) (.op2d .mod a b) := dp_op2d (r := fun _ => rModN) (fun _ _ _ X g ta tb h1 h2 => pe_op op_modN h1 h2) (fun _ _ _ X g => ok_mod) ha hb
/-- the sum of ints alone -/
theorem ok_addP {K : PySem.W.Frag} : Op2Pu K rAddI .addI := fun s d1 d2 d x y Q r1 r2 e f => by
  replace e : addI d1 d2 = some d := e
  unfold addI at e
  split at e
  · cases e; rw [r1.int, r2.int]; exact ⟨_, _, rfl, rfl, f _ (.int _)⟩
  · cases e
theorem dp_add (ha : DP Γ N sc ea a) (hb : DP Γ N sc eb b) : DP Γ N sc (.BinOp ea .Add eb pos) (.op2d .addI a b) := dp_op2d (r := fun _ => rAddI) (fun _ _ _ X g ta tb h1 h2 => pe_op op_add h1 h2) (fun _ _ _ X g => ok_addP) ha hb
theorem de_ge (ha : DV Γ N sc ea a) (hb : DB Γ N sc eb b) : DE Γ N sc (.Compare ea [.GtE] [eb] pos) (.op2 .ge a b) := de_op2 (r := fun X => rCmp X.K (fun i j => decide (j ≤ i)) fun d e => !PySem.W.dataLt d e) (fun _ _ _ X g ta tb h1 h2 => pe_cmpR (op_ge.or (op_geG g.hu)) h1 h2 (nomark _)) (fun _ _ _ X g => (ok_cmp fun _ _ => rfl).ok) ha hb
theorem de_eq (ha : DV Γ N sc ea a) (hb : DB Γ N sc eb b) : DE Γ N sc (.Compare ea [.Eq] [eb] pos) (.op2 .eq a b) := de_op2 (r := fun X => rEqA X.K) (fun _ _ _ X g ta tb h1 h2 => pe_cmpR (op_eqA g.hu) h1 h2 (nomark _)) (fun _ _ _ X g => ok_eq.ok) ha hb
theorem de_ix (ha : DV Γ N sc ea a) (hb : DB Γ N sc eb b) (hs : PlainIx eb := by exact fun _ _ => rfl) : DE Γ N sc (.Subscript ea eb pos) (.op2 .ix a b) := de_op2 (r := fun X => rIx X.K) (fun _ _ _ X g ta tb h1 h2 => pe_ix ix_seq h1 h2 hs) (fun _ _ _ X g => ok_ix.ok) ha hb
theorem de_ixB (ha : DB Γ N sc ea a) (hb : DP Γ N sc eb b) (hs : PlainIx eb := by exact fun _ _ => rfl) : DE Γ N sc (.Subscript ea eb pos) (.op2b .ix a b) := de_op2b (r := fun X => rIx X.K) (fun _ _ _ X g ta tb h1 h2 => pe_ix ix_seq h1 h2 hs) (fun _ _ _ X g => ok_ix.ok) ha hb
abbrev Se1 (e : Expr) : Prop := ∀ env, starEach [e] env = (false, eval e env) :: starEach [] env
theorem pe_bi1 {n : Nat} {I : Inf} {W : WX} {X : Cx} {x : Str} {id : String} {r : List V → Hp → VK → Prop} {ta : TE} (g : GX Γ n I N sc W X) (hc : CallR X (.builtin id) r) (v : NB Γ sc x) (hv : bootBuiltins x = some (.builtin id)) (h : PE X ea ta) (se : Se1 ea) :
    PE X (.Call (.Name x p) [ea] [] pos) (tUn (one r) ta) := pe_callB hc (v.g.g g) (g.nob _ v.m) hv (pa_cons h pa_nil (se _)) v.g.nm v.g.db (se _)
theorem pe_ty1 {n : Nat} {I : Inf} {W : WX} {X : Cx} {x : Str} {id : String} {r : List V → Hp → VK → Prop} {ta : TE} (g : GX Γ n I N sc W X) (hc : CallR X (.type id) r) (v : NB Γ sc x) (hv : bootBuiltins x = some (.type id)) (h : PE X ea ta) (se : Se1 ea) :
    PE X (.Call (.Name x p) [ea] [] pos) (tUn (one r) ta) := pe_callTy hc (v.g.g g) (g.nob _ v.m) hv (pa_cons h pa_nil (se _)) v.g.nm v.g.db (se _)
theorem de_len (v : NB Γ sc "len") (ha : DB Γ N sc ea a) (se : Se1 ea := by intro _; rfl) : DE Γ N sc (.Call (.Name "len" p) [ea] [] pos) (.op1 .len a) := de_op1 (fun _ _ _ X g ta h => pe_bi1 g call_len v boot_len h se) (fun _ _ _ X g => ok_len) ha
theorem de_max (v : NB Γ sc "max") (ha : DB Γ N sc ea a) (se : Se1 ea := by intro _; rfl) : DE Γ N sc (.Call (.Name "max" p) [ea] [] pos) (.op1 .max a) := de_op1 (fun _ _ _ X g ta h => pe_bi1 g (cr_maxG g.calm g.hu) v (by decide +kernel) h se) (fun _ _ _ X g => ok_max) ha
theorem de_any (v : NB Γ sc "any") (ha : DB Γ N sc ea a) (se : Se1 ea := by intro _; rfl) : DE Γ N sc (.Call (.Name "any" p) [ea] [] pos) (.op1 .any a) := de_op1 (fun _ _ _ X g ta h => pe_bi1 g (cr_any g.calm) v (by decide +kernel) h se) (fun _ _ _ X g => ok_any) ha
theorem de_tuple (v : NB Γ sc "tuple") (ha : DB Γ N sc ea a) (se : Se1 ea := by intro _; rfl) : DE Γ N sc (.Call (.Name "tuple" p) [ea] [] pos) (.op1 .tuple a) := de_op1 (fun _ _ _ X g ta h => pe_ty1 g call_tuple_S v (by decide +kernel) h se) (fun _ _ _ X g => ok_tuple) ha
end
section
variable {Γ : Gm} {N : List Str} {sc : Sco} {e ea eb ec : Expr} {a b c : E} {ta tb : Te} {pos p p2 : Pos} {rest : List Expr}
theorem truth_rb {K : PySem.W.Frag} {s : Sx} {d : PyData} {x : V} {k : Bool} (r : RB K s d x) (e : truthD d = some k) : TruV K x s.H k := by
  unfold truthD at e
  split at e
  · cases e; rw [r.non]; rfl
  · cases e; rw [r.bl]; rfl
  · cases e; rw [r.int]; rfl
  · cases e
    obtain ⟨a, xs, rfl, h, q⟩ := r.lst
    exact .inl ⟨xs, h, by cases q <;> rfl⟩
  · cases e
    obtain ⟨a, xs, rfl, h, q⟩ := r.tup
    exact .inr (.inl ⟨xs, h, by cases q <;> rfl⟩)
  · split at e
    · rename_i hz
      cases e; rw [r.str]; exact ⟨hz, rfl⟩
    · cases e
  · cases e
/-- an expression as a test -/
theorem dt_val (ha : DB Γ N sc ea a) (he : ∀ env whole, isTrue ea env whole = (do let v ← whole; standAt ea.pos; holding [v] (truthy v)) := by intro _ _; rfl) : DT Γ N sc ea (.val a) := fun n I W X g =>
  (pt_truth (ha n I W X g) (he _)).imp fun σ H Q q => by
    obtain ⟨env, s, eH, hr, er, _, pr⟩ := At.bind (Rel1 := RB X.K) (ev2 := fun x env h => ofO (truthD x) h) q
    refine ⟨env, s, eH, hr, er, trivial, ?_⟩
    refine PR.mono pr fun x H1 ⟨d, env, s, e, hr, er, ⟨_, rb⟩, pr⟩ => ?_
    replace pr : PR X.K I W s σ (ofO (truthD d) s.h) _ Q := pr
    cases e1 : truthD d with
    | none => rw [e1] at pr; exact False.elim pr
    | some k =>
      rw [e1] at pr
      subst e
      exact ⟨k, truth_rb rb e1, pr s k (.refl s) rfl hr rfl⟩
def BoolE (a : E) : Prop := ∀ cf env h v h', evalE cf env a h = .ok v h' → ∃ k, v = .p (.bool k)
theorem boolR {α : Type} {r : R α} {k : α → Hi → R Val} {v : Val} {h' : Hi} (hk : ∀ x h, k x h = .ok v h' → ∃ b, v = .p (.bool b)) (e : r.bind k = .ok v h') : ∃ b, v = .p (.bool b) := by
  cases r with
  | ok a h => exact hk a h e
  | exc e2 h => cases e
  | stuck => cases e
theorem bool_ofO {o : Option PyData} {h h' : Hi} {v : Val} (hb : ∀ d, o = some d → ∃ k, d = .bool k) (e : ofO (o.map Val.p) h = .ok v h') : ∃ b, v = .p (.bool b) := by
  cases o with
  | none => cases e
  | some d =>
    obtain ⟨k, rfl⟩ := hb d rfl
    cases e
    exact ⟨k, rfl⟩
theorem cmp_bool {p : Int → Int → Bool} {f : PyData → PyData → Bool} {x y d : PyData} (e : cmpD p f x y = some d) : ∃ k, d = .bool k := by
  unfold cmpD at e
  split at e
  · cases e; exact ⟨_, rfl⟩
  · split at e
    · cases e; exact ⟨_, rfl⟩
    · cases e
theorem eq_bool {o : Option Bool} {f : Bool → Bool} {d : PyData} (e : o.map (fun b => PyData.bool (f b)) = some d) : ∃ k, d = .bool k := by
  rw [Option.map_eq_some_iff] at e
  obtain ⟨b, _, rfl⟩ := e
  exact ⟨_, rfl⟩
theorem boolE_op2 {o : O2} (hb : ∀ x y d, opf2 o x y = some d → ∃ k, d = .bool k) : BoolE (.op2 o a b) := fun cf env h v h' e => boolR (r := (evalE cf env a h).bind unP) (k := fun x h1 => (bor env h1 b (evalE cf env b h1)).bind fun y h2 => ofO ((opf2 o x y).map Val.p) h2)
  (fun x h1 e => boolR (k := fun y h2 => ofO ((opf2 o x y).map Val.p) h2) (fun y h2 e => bool_ofO (hb x y) e) e) e
theorem test_imp {n : Nat} {I : Inf} {W : WX} {X : Cx} (hb : BoolE a) (np : ∀ env h, peek env h a = none) {σ : L2.St} {H : Hp} {Q : Bool → Hp → Prop} (q : tE X.K I W (fun env h => evalT (callF Γ.fns n) env (.val a) h) (fun _ a x => x = a) σ H Q) :
    tE X.K I W (fun env h => evalE (callF Γ.fns n) env a h) (VR X.K) σ H (fun z H1 => ∃ k, z = .bl k ∧ Q k H1) := by
  obtain ⟨env, s, eH, hr, er, _, pr⟩ := q
  refine ⟨env, s, eH, hr, er, trivial, ?_⟩
  replace pr : PR X.K I W s σ ((bor env s.h a (evalE (callF Γ.fns n) env a s.h)).bind fun d h1 => ofO (truthD d) h1) (fun _ a x => x = a) Q := pr
  simp only [bor, np] at pr
  have hb' := hb (callF Γ.fns n) env s.h
  show PR X.K I W s σ (evalE (callF Γ.fns n) env a s.h) (VR X.K) _
  generalize evalE (callF Γ.fns n) env a s.h = r at pr hb' ⊢
  cases r with
  | ok v h1 =>
    obtain ⟨k, rfl⟩ := hb' v h1 rfl
    intro s' x l eh hr' rv
    exact ⟨k, RF.bl_inv rv, pr s' k l eh hr' rfl⟩
  | exc e h1 => exact pr
  | stuck => exact pr
theorem dt_op2 {o : O2} {r : Cx → R2} (hpt : ∀ n I W X, GX Γ n I N sc W X → ∀ t t2, PE X ea t → PE X eb t2 → PT X e (tTest (tOp (r X) t t2))) (ok : ∀ n I W X, GX Γ n I N sc W X → Op2Ok X.K (r X) o) (hb : ∀ x y d, opf2 o x y = some d → ∃ k, d = .bool k) (ha : DV Γ N sc ea a) (hb2 : DB Γ N sc eb b) : DT Γ N sc e (.val (.op2 o a b)) := fun n I W X g =>
  (hpt n I W X g _ _ (ha n I W X g) (hb2 n I W X g)).imp fun σ H Q q => op2_imp (ok n I W X g) (test_imp (boolE_op2 hb) (fun _ _ => rfl) q)
theorem dt_lt (ha : DV Γ N sc ea a) (hb : DB Γ N sc eb b) : DT Γ N sc (.Compare ea [.Lt] [eb] pos) (.val (.op2 .lt a b)) := dt_op2 (r := fun X => rCmp X.K (fun i j => decide (i < j)) fun d e => PySem.W.dataLt d e) (fun _ _ _ X g ta tb h1 h2 => pt_cmpR (op_lt.or (op_ltG g.hu)) h1 h2 (nomark _)) (fun _ _ _ X g => (ok_cmp fun _ _ => rfl).ok) (fun _ _ _ e => cmp_bool e) ha hb
theorem dt_gt (ha : DV Γ N sc ea a) (hb : DB Γ N sc eb b) : DT Γ N sc (.Compare ea [.Gt] [eb] pos) (.val (.op2 .gt a b)) := dt_op2 (r := fun X => rCmp X.K (fun i j => decide (j < i)) fun d e => PySem.W.dataLt e d) (fun _ _ _ X g ta tb h1 h2 => pt_cmpR (op_gt.or (op_gtG g.hu)) h1 h2 (nomark _)) (fun _ _ _ X g => (ok_cmp fun _ _ => rfl).ok) (fun _ _ _ e => cmp_bool e) ha hb
theorem dt_ge (ha : DV Γ N sc ea a) (hb : DB Γ N sc eb b) : DT Γ N sc (.Compare ea [.GtE] [eb] pos) (.val (.op2 .ge a b)) := dt_op2 (r := fun X => rCmp X.K (fun i j => decide (j ≤ i)) fun d e => !PySem.W.dataLt d e) (fun _ _ _ X g ta tb h1 h2 => pt_cmpR (op_ge.or (op_geG g.hu)) h1 h2 (nomark _)) (fun _ _ _ X g => (ok_cmp fun _ _ => rfl).ok) (fun _ _ _ e => cmp_bool e) ha hb
theorem dt_eq (ha : DV Γ N sc ea a) (hb : DB Γ N sc eb b) : DT Γ N sc (.Compare ea [.Eq] [eb] pos) (.val (.op2 .eq a b)) := dt_op2 (r := fun X => rEqA X.K) (fun _ _ _ X g ta tb h1 h2 => pt_cmpR (op_eqA g.hu) h1 h2 (nomark _)) (fun _ _ _ X g => ok_eq.ok) (fun _ _ _ e => eq_bool (f := id) e) ha hb
theorem dt_ne (ha : DV Γ N sc ea a) (hb : DB Γ N sc eb b) : DT Γ N sc (.Compare ea [.NotEq] [eb] pos) (.val (.op2 .ne a b)) := dt_op2 (r := fun X => rNeA X.K) (fun _ _ _ X g ta tb h1 h2 => pt_cmpR (op_neA g.hu) h1 h2 (nomark _)) (fun _ _ _ X g => ok_ne.ok) (fun _ _ _ e => eq_bool (f := not) e) ha hb
theorem dt_not (ha : DT Γ N sc ea ta) : DT Γ N sc (.UnaryOp .Not ea pos) (.not_ ta) := fun n I W X g =>
  (pt_not (ha n I W X g)).imp fun σ H Q q => by
    obtain ⟨env, s, eH, hr, er, _, pr⟩ := At.bind (Rel1 := fun _ a x => x = a) (ev2 := fun x env h => R.ok (!x) h) q
    refine ⟨env, s, eH, hr, er, trivial, ?_⟩
    refine PR.mono pr fun x H1 ⟨d, env, s, e, hr, er, ⟨_, rb⟩, pr⟩ => ?_
    subst e rb
    exact pr s _ (.refl s) rfl hr rfl
/-- and, or: what stands between -/
def DW (Γ : Gm) (N : List Str) (sc : Sco) (e : Expr) (a : Te) : Prop :=
  ∀ n I W X, GX Γ n I N sc W X → PW X e (tE X.K I W (fun env h => evalT (callF Γ.fns n) env a h) (fun _ a x => x = a))
theorem DW.t (h : DW Γ N sc ea ta) : DT Γ N sc ea ta := fun n I W X g => (h n I W X g).pt
theorem _root_.L2.PW.imp {X : Cx} {e : Expr} {t t' : TT} (h : PW X e t) (i : ∀ σ H Q, t' σ H Q → t σ H Q) : PW X e t' := ⟨fun w pins s σ H Q I q => h.run w pins s σ H Q I (i σ H Q q)⟩
theorem dw_and1 (ha : DT Γ N sc ea ta) : DW Γ N sc (.BoolOp .And [ea] pos) ta := fun n I W X g => pw_and1 (ha n I W X g)
theorem dw_and (ha : DT Γ N sc ea ta) (hb : DW Γ N sc (.BoolOp .And (eb :: rest) pos) tb) : DW Γ N sc (.BoolOp .And (ea :: eb :: rest) pos) (.and_ ta tb) := fun n I W X g =>
  (pw_and (ha n I W X g) (hb n I W X g)).imp fun σ H Q q => by
    obtain ⟨env, s, eH, hr, er, _, pr⟩ := At.bind (Rel1 := fun _ a x => x = a) (ev2 := fun k env h1 => ifK (fun h2 => evalT (callF Γ.fns n) env tb h2) (fun h2 => .ok false h2) k h1) q
    refine ⟨env, s, eH, hr, er, trivial, ?_⟩
    refine PR.mono pr fun x H1 ⟨d, env, s, e, hr, er, ⟨_, rb⟩, pr⟩ => ?_
    subst rb
    cases x with
    | true => exact ⟨env, s, e, hr, er, trivial, pr⟩
    | false => subst e; exact pr s _ (.refl s) rfl hr rfl
def DPs (Γ : Gm) (N : List Str) (sc : Sco) (es : List Expr) (as : List E) : Prop :=
  ∀ n I W X, GX Γ n I N sc W X → PA X es (tE X.K I W (fun env h => evalPs (callF Γ.fns n) env as h) (fun s ds vs => RFs X.K s.F s.H ds vs ∧ ds.length = as.length))
def DAs (Γ : Gm) (N : List Str) (sc : Sco) (es : List Expr) (as : List E) : Prop :=
  ∀ n I W X, GX Γ n I N sc W X → PA X es (tE X.K I W (fun env h => evalEs (callF Γ.fns n) env as h) (fun s ds vs => Paired (VR X.K s) ds vs ∧ ds.length = as.length))
abbrev Sec (e : Expr) (es : List Expr) : Prop := ∀ env, starEach (e :: es) env = (false, eval e env) :: starEach es env
variable {es : List Expr} {as : List E}
theorem dps_nil : DPs Γ N sc [] [] := fun n I W X g => pa_nil.imp fun σ H Q ⟨env, s, eH, hr, er, _, pr⟩ => by
  subst eH
  exact pr s [] (.refl s) rfl hr ⟨.nil, rfl⟩
theorem dps_cons (ha : DV Γ N sc ea a) (hs : DPs Γ N sc es as) (se : Sec ea es := by intro _; rfl) : DPs Γ N sc (ea :: es) (a :: as) := fun n I W X g =>
  (pa_cons (ha n I W X g) (hs n I W X g) (se _)).imp fun σ H Q q => by
    obtain ⟨env, s, eH, hr, er, _, pr⟩ := At.bind (Rel1 := PRl X.K) (ev2 := fun v env h1 => (evalPs (callF Γ.fns n) env as h1).bind fun vs h2 => .ok (v :: vs) h2) q
    refine ⟨env, s, eH, hr, er, trivial, ?_⟩
    refine PR.mono pr fun x H1 ⟨d, q⟩ => ?_
    obtain ⟨env, s, eH, hr, er, _, pr⟩ := At.bind (Rel1 := fun s ds vs => RFs X.K s.F s.H ds vs ∧ ds.length = as.length) (G' := fun s => PRl X.K s d x) (ev2 := fun vs env h2 => R.ok (d :: vs) h2) q (fun s s' l g => g.2.le l)
    refine ⟨env, s, eH, hr, er, trivial, ?_⟩
    refine PR.mono pr fun ys H2 ⟨ds, env, s, e, hr, er, ⟨r1, r2⟩, pr⟩ => ?_
    subst e
    exact pr s _ (.refl s) rfl hr ⟨.cons r1 r2.1, by simp [r2.2]⟩
theorem das_nil : DAs Γ N sc [] [] := fun n I W X g => pa_nil.imp fun σ H Q ⟨env, s, eH, hr, er, _, pr⟩ => by
  subst eH
  exact pr s [] (.refl s) rfl hr ⟨.nil, rfl⟩
theorem das_cons (ha : DE Γ N sc ea a) (hs : DAs Γ N sc es as) (se : Sec ea es := by intro _; rfl) : DAs Γ N sc (ea :: es) (a :: as) := fun n I W X g =>
  (pa_cons (ha n I W X g) (hs n I W X g) (se _)).imp fun σ H Q q => by
    obtain ⟨env, s, eH, hr, er, _, pr⟩ := At.bind (Rel1 := VR X.K) (ev2 := fun v env h1 => (evalEs (callF Γ.fns n) env as h1).bind fun vs h2 => .ok (v :: vs) h2) q
    refine ⟨env, s, eH, hr, er, trivial, ?_⟩
    refine PR.mono pr fun x H1 ⟨d, q⟩ => ?_
    obtain ⟨env, s, eH, hr, er, _, pr⟩ := At.bind (Rel1 := fun s ds vs => Paired (VR X.K s) ds vs ∧ ds.length = as.length) (G' := fun s => VR X.K s d x) (ev2 := fun vs env h2 => R.ok (d :: vs) h2) q (fun s s' l g => g.2.le l)
    refine ⟨env, s, eH, hr, er, trivial, ?_⟩
    refine PR.mono pr fun ys H2 ⟨ds, env, s, e, hr, er, ⟨r1, r2⟩, pr⟩ => ?_
    subst e
    exact pr s _ (.refl s) rfl hr ⟨.cons r1 r2.1, by simp [r2.2]⟩
def tTupS (t : TA) : TE := fun σ H Q => t σ H fun xs H1 => xs.length ≤ sizeLine ∧ ∀ p o, H1 p = none → TupO o → Q (.ref p) (upd H1 p (.frz o (.tup xs)))
theorem pe_tupS {X : Cx} {es : List Expr} {t : TA} {pos : Pos} {x1} (h : PA X es t) : PE X (.Tuple es x1 pos) (tTupS t) := by
  refine ⟨fun pins s σ H Q I hq => ?_⟩
  refine wpAny_Tuple_spliced (thn (h.run pos pins s σ H _ I hq) fun us s1 ⟨xs, H1, I1, r, z, q⟩ => ⟨by rw [← r.length]; exact z, ?_⟩)
  have hf : H1 s1.heap.objs.size = none := I1.hok.fresh (Nat.le_refl _)
  refine ⟨.ref s1.heap.objs.size, _, I1.laid (t' := s1.toks) (o := .frz { cls := .type "tuple", data := .seq us.toArray } (.tup xs)) (fun b u e => Heap.get?_push_of_some _ e) (Nat.le_refl _) ?_, rfl, q _ _ hf ⟨rfl, rfl⟩⟩
  exact ⟨Heap.get?_push_size _ rfl, z, us, r, ⟨_, Heap.get?_push_size _ rfl, rfl, _, rfl⟩⟩
theorem de_tup {k : Nat} (hs : DPs Γ N sc es as) (hz : as.length ≤ sizeLine := by decide) : DE Γ N sc (.Tuple es k pos) (.tup as) := fun n I W X g =>
  (pe_tupS (hs n I W X g)).imp fun σ H Q q => by
    obtain ⟨env, s, eH, hr, er, _, pr⟩ := At.bind (Rel1 := fun s ds vs => RFs X.K s.F s.H ds vs ∧ ds.length = as.length) (ev2 := fun ds env h1 => R.ok (Val.p (.tuple ds)) h1) q
    refine ⟨env, s, eH, hr, er, trivial, ?_⟩
    refine PR.mono pr fun xs H1 ⟨ds, env, s, e, hr, er, ⟨_, rb, rl⟩, pr⟩ => ?_
    subst e
    exact ⟨by rw [← rb.length, rl]; exact hz, fun p o hp ho => PR.new (o := some (.p (.tuple ds))) pr hr rfl hp (tup_new hp ho rb)⟩
end
end Cd
set_option Elab.async false
set_option linter.all false
set_option maxRecDepth 100000
set_option maxHeartbeats 4000000
namespace Cd
open PySem PySem.Spec PyProof.Rows L2
theorem ofO_unP {h : Hi} : ∀ o : Option PyData, (Cd.ofO (o.map Val.p) h).bind unP = Cd.ofO o h
  | none => rfl
  | some _ => rfl
/-- a new list, that nothing else knows -/
def RN (K : PySem.W.Frag) (s : Sx) (d : PyData) (x : V) : Prop := ∃ ts a xs, d = .list ts ∧ x = .ref a ∧ s.H a = some (.lst xs) ∧ RFs K s.F s.H ts xs ∧ ¬ s.F a ∧ NotLive s a ∧ ¬ s.B a
def DN (Γ : Gm) (N : List Str) (sc : Sco) (e : Expr) (a : E) : Prop :=
  ∀ n I W X, GX Γ n I N sc W X → PE X e (tE X.K I W (fun env h => (evalE (callF Γ.fns n) env a h).bind unP) (RN X.K))
/-- frozen -/
def Sx.fz (s : Sx) (a : Addr) : Sx := { s with F := fun b => s.F b ∨ b = a }
theorem fz_keep {s : Sx} {a : Addr} : KeepF s.F s.H (s.fz a).F (s.fz a).H := ⟨fun _ f => .inl f, fun b o f h => h, fun _ _ h => h, fun _ _ _ h => h, fun _ _ _ h => h⟩
theorem fz_le {s : Sx} {a : Addr} : Le s (s.fz a) := ⟨Nat.le_refl _, fun _ _ => rfl, fz_keep, fun _ h => ⟨h, rfl⟩⟩
theorem HR.fz {K : PySem.W.Frag} {CI : CInf} {s : Sx} (h : HR K CI s) {a : Addr} (ha : ∃ o, s.H a = some o) (nl : NotLive s a) (nb : ¬ s.B a) (nt : ∀ q ∈ CI.tbs, q.1 ≠ a) : HR K CI (s.fz a) where
  ob := fun n u e => (h.ob n u e).move fz_keep e fun j l => ⟨rfl, fun w e => e⟩
  inj := h.inj
  nf := fun n j l f => f.elim (h.nf n j l) (nl n j l)
  bt := fun b hb => let ⟨h1, h2, h3⟩ := h.bt b hb; ⟨h1, fun f => f.elim h2 fun z => nb (z ▸ hb), h3⟩
  ft := fun b hb => hb.elim (h.ft b) fun z => z ▸ ha
  tb := h.tb
  tn := fun q hq => ⟨fun f => f.elim (h.tn q hq).1 fun z => nt q hq z, (h.tn q hq).2⟩
section
variable {Γ : Gm} {N : List Str} {sc : Sco} {e ea eb ec : Expr} {a b c : E} {o : O2} {pos p p2 : Pos} {es : List Expr} {as : List E}
theorem HR.fresh {K : PySem.W.Frag} {CI : CInf} {s : Sx} (hr : HR K CI s) {l : Addr} (hp : s.H l = none) : ¬ s.F l ∧ NotLive s l ∧ ¬ s.B l := by
  refine ⟨fun f => ?_, hr.notLive hp, fun hb => ?_⟩
  · obtain ⟨u, e⟩ := hr.ft l f
    rw [hp] at e; cases e
  · obtain ⟨_, _, u, e⟩ := hr.bt l hb
    rw [hp] at e; cases e
theorem RN.new {K : PySem.W.Frag} {CI : CInf} {s : Sx} {l : Addr} {ts : List PyData} {xs : List V} (hr : HR K CI s) (hp : s.H l = none) (r : RFs K s.F s.H ts xs) : RN K (s.put l (.lst xs) false) (.list ts) (.ref l) := by
  refine ⟨ts, l, xs, rfl, rfl, upd_same, r.keep (KeepF.put hp), fun f => ?_, (hr.fresh hp).2.1, (hr.fresh hp).2.2⟩
  rcases f with f | ⟨f, _⟩
  · exact (hr.fresh hp).1 f
  · cases f
/-- a new list is data like any other, once it is frozen -/
theorem DN.v (h : DN Γ N sc e a) : DV Γ N sc e a := fun n I W X g => (h n I W X g).imp fun σ H Q q => by
  obtain ⟨env, s, eH, hr, er, _, pr⟩ := q
  refine ⟨env, s, eH, hr, er, trivial, ?_⟩
  replace pr : PR X.K I W s σ ((evalE (callF Γ.fns n) env a s.h).bind unP) (PRl X.K) Q := pr
  show PR X.K I W s σ ((evalE (callF Γ.fns n) env a s.h).bind unP) (RN X.K) Q
  generalize (evalE (callF Γ.fns n) env a s.h).bind unP = r at pr ⊢
  cases r with
  | ok d h1 =>
    rintro s' x l eh hr' ⟨ts, p, xs, rfl, rfl, hp, q, nf, nl, nb⟩
    exact pr (s'.fz p) _ (l.trans fz_le) eh (hr'.fz ⟨_, hp⟩ nl nb fun q hq => hr'.tne hq hp te_lst) (.lst (.inl ⟨.inr rfl, Rd.of hp⟩) (q.keep fz_keep))
  | exc e h1 => exact pr
  | stuck => exact pr
theorem DV.toE (h : DV Γ N sc e a) (nr : ∀ cf env h, (∃ d h', evalE cf env a h = .ok (.p d) h') ∨ (∀ v h', evalE cf env a h ≠ .ok v h')) : DE Γ N sc e a := fun n I W X g => (h n I W X g).imp fun σ H Q q => by
  obtain ⟨env, s, eH, hr, er, _, pr⟩ := q
  refine ⟨env, s, eH, hr, er, trivial, ?_⟩
  replace pr : PR X.K I W s σ (evalE (callF Γ.fns n) env a s.h) (VR X.K) Q := pr
  show PR X.K I W s σ ((evalE (callF Γ.fns n) env a s.h).bind unP) (PRl X.K) Q
  rcases nr (callF Γ.fns n) env s.h with ⟨d, h', e⟩ | ne
  · rw [e] at pr ⊢
    exact fun s' x l eh hr' rel => pr s' x l eh hr' rel
  · generalize evalE (callF Γ.fns n) env a s.h = r at pr ne ⊢
    cases r with
    | ok v h1 => exact absurd rfl (ne v h1)
    | exc e h1 => exact pr
    | stuck => exact pr
theorem PR.ofO {K : PySem.W.Frag} {I : Inf} {W : WX} {s : Sx} {σ : L2.St} {d : PyData} {x : V} {Rel : Sx → PyData → V → Prop} {Q : V → Hp → Prop} (pr : PR K I W s σ (R.ok d s.h) Rel Q) (hr : HR K I.ci s) {s' : Sx} (l : Le s s') (hr' : HR K I.ci s') (eh : s'.h = s.h) (r : Rel s' d x) : Q x s'.H := pr s' x l eh hr' r
theorem dn_lst (hs : DPs Γ N sc es as) (hz : as.length ≤ sizeLine := by decide) : DN Γ N sc (.List es pos) (.lst as) := fun n I W X g =>
  (pe_lst (hs n I W X g)).imp fun σ H Q q => by
    have q' : tE X.K I W (fun env h => (evalPs (callF Γ.fns n) env as h).bind fun ds h1 => R.ok (PyData.list ds) h1) (RN X.K) σ H Q := by
      obtain ⟨env, s, eH, hr, er, _, pr⟩ := q
      refine ⟨env, s, eH, hr, er, trivial, ?_⟩
      replace pr : PR X.K I W s σ (((evalPs (callF Γ.fns n) env as s.h).bind fun ds h1 => .ok (Val.p (.list ds)) h1).bind unP) (RN X.K) Q := pr
      show PR X.K I W s σ ((evalPs (callF Γ.fns n) env as s.h).bind fun ds h1 => R.ok (PyData.list ds) h1) (RN X.K) Q
      generalize evalPs (callF Γ.fns n) env as s.h = r at pr ⊢
      cases r with
      | ok ds h1 => exact pr
      | exc e h1 => exact pr
      | stuck => exact pr
    obtain ⟨env, s, eH, hr, er, _, pr⟩ := At.bind (Rel1 := fun s ds vs => RFs X.K s.F s.H ds vs ∧ ds.length = as.length) (ev2 := fun ds env h1 => R.ok (PyData.list ds) h1) q'
    refine ⟨env, s, eH, hr, er, trivial, ?_⟩
    refine PR.mono pr fun xs H1 ⟨ds, env, s, e, hr, er, ⟨_, rb, rl⟩, pr⟩ => ?_
    subst e
    exact ⟨by rw [← rb.length, rl]; exact hz, fun p hp => pr (s.put p (.lst xs) false) _ (hr.put_le hp) rfl (hr.put hp) (RN.new hr hp rb)⟩
/-- an operation that makes a list: new each time -/
def Op1N (K : PySem.W.Frag) (r : V → Hp → VK → Prop) (o : O1) : Prop := ∀ (s : Sx) d1 d x (Q : VK), RB K s d1 x → opf1 o d1 = some d → (∀ p xs ts, d = .list ts → RFs K s.F s.H ts xs → s.H p = none → Q (.ref p) (upd s.H p (.lst xs))) → r x s.H Q
theorem dn_op1 {o : O1} {r : Cx → V → Hp → VK → Prop} (hpe : ∀ n I W X, GX Γ n I N sc W X → ∀ ta, PE X ea ta → PE X e (tUn (r X) ta)) (ok : ∀ n I W X, GX Γ n I N sc W X → Op1N X.K (r X) o) (ha : DB Γ N sc ea a) : DN Γ N sc e (.op1 o a) := fun n I W X g =>
  (hpe n I W X g _ (ha n I W X g)).imp fun σ H Q q => by
    have q' : tE X.K I W (fun env h => (bor env h a (evalE (callF Γ.fns n) env a h)).bind fun x h1 => Cd.ofO (opf1 o x) h1) (RN X.K) σ H Q := by
      obtain ⟨env, s, eH, hr, er, _, pr⟩ := q
      refine ⟨env, s, eH, hr, er, trivial, ?_⟩
      replace pr : PR X.K I W s σ (((bor env s.h a (evalE (callF Γ.fns n) env a s.h)).bind fun x h1 => Cd.ofO ((opf1 o x).map .p) h1).bind unP) (RN X.K) Q := pr
      show PR X.K I W s σ ((bor env s.h a (evalE (callF Γ.fns n) env a s.h)).bind fun x h1 => Cd.ofO (opf1 o x) h1) (RN X.K) Q
      generalize bor env s.h a (evalE (callF Γ.fns n) env a s.h) = r at pr ⊢
      cases r with
      | ok d h1 =>
        simp only [R.bind_ok] at pr ⊢
        rw [ofO_unP] at pr
        exact pr
      | exc e h1 => exact pr
      | stuck => exact pr
    obtain ⟨env, s, eH, hr, er, _, pr⟩ := At.bind (Rel1 := RB X.K) (ev2 := fun x env h => Cd.ofO (opf1 o x) h) q'
    refine ⟨env, s, eH, hr, er, trivial, ?_⟩
    refine PR.mono pr fun x H1 ⟨d, env, s, e, hr, er, ⟨_, rb⟩, pr⟩ => ?_
    subst e
    replace pr : PR X.K I W s σ (Cd.ofO (opf1 o d) s.h) (RN X.K) Q := pr
    cases e1 : opf1 o d with
    | none => rw [e1] at pr; exact False.elim pr
    | some d' =>
      rw [e1] at pr
      refine ok n I W X g s d d' x Q rb e1 fun p xs ts ed rf hp => ?_
      subst ed
      exact pr (s.put p (.lst xs) false) _ (hr.put_le hp) rfl (hr.put hp) (RN.new hr hp rf)
theorem okn_list {K : PySem.W.Frag} : Op1N K (one (rListA K)) .list := fun s d1 d x Q r e f => by
  replace e : listS d1 = some d := e
  unfold listS at e
  split at e
  · cases e
    obtain ⟨a, xs, rfl, h1, q1⟩ := r.lst
    exact .inl ⟨a, xs, rfl, .inl h1, fun p hp => f p _ _ rfl q1 hp⟩
  · cases e
    obtain ⟨a, xs, rfl, h1, q1⟩ := r.tup
    exact .inl ⟨a, xs, rfl, .inr h1, fun p hp => f p _ _ rfl q1 hp⟩
  · split at e
    · rename_i z hz
      cases e
      rw [r.str]
      refine .inr ⟨z, rfl, hz, fun p hp => f p _ _ rfl ?_ hp⟩
      generalize z.cps.toList = l
      induction l with
      | nil => exact .nil
      | cons c l ih => exact .cons (.str _) ih
    · cases e
  · cases e
theorem dn_list (v : NB Γ sc "list") (ha : DB Γ N sc ea a) (se : Se1 ea := by intro _; rfl) : DN Γ N sc (.Call (.Name "list" p) [ea] [] pos) (.op1 .list a) := dn_op1 (fun _ _ _ X g ta h => pe_ty1 g (call_list_of.or (call_list_txt g.calm)) v (by decide +kernel) h se) (fun _ _ _ X g => okn_list) ha
end
end Cd
set_option Elab.async false
set_option linter.all false
set_option maxRecDepth 100000
set_option maxHeartbeats 4000000
namespace Cd
open PySem PySem.Spec PyProof.Rows L2
theorem lookup_nd {κ β : Type} [BEq κ] [LawfulBEq κ] : ∀ {l : List (κ × β)} {j : Nat} {x : κ} {v : β}, (l.map (·.1)).Nodup → l[j]? = some (x, v) → l.lookup x = some v
  | [], _, _, _, _, e => by simp at e
  | (y, w) :: r, 0, x, v, nd, e => by
    simp at e
    obtain ⟨rfl, rfl⟩ := e
    simp
  | (y, w) :: r, j + 1, x, v, nd, e => by
    have e' : r[j]? = some (x, v) := by simpa using e
    have nd' : y ∉ r.map (·.1) ∧ (r.map (·.1)).Nodup := by simpa using nd
    have hm : x ∈ r.map (·.1) := List.mem_map.mpr ⟨_, List.mem_of_getElem? e', rfl⟩
    have ne : (x == y) = false := by
      rw [beq_eq_false_iff_ne]
      rintro rfl
      exact nd'.1 hm
    rw [List.lookup_cons, ne]
    exact lookup_nd nd'.2 e'
theorem nd_take {α : Type} {l : List α} (h : l.Nodup) (n : Nat) : (l.take n).Nodup := h.sublist (List.take_sublist n l)
section
variable {Γ : Gm} {N : List Str} {sc : Sco} {e ea eb ec : Expr} {a b c : E} {o : O2} {pos p p2 : Pos} {es : List Expr} {as : List E} {i j : Nat} {x f : Str} {cl : Nat} {names : List Str}
theorem insOf_of {env : Ev} {h : Hi} {i : Nat} {q : Nat × Nat × List Fld} (e : insOf env h i = some q) : slot env i = some (.ref q.1) ∧ h[q.1]? = some (.ins q.2.1 q.2.2) := by
  unfold insOf at e
  rw [Option.bind_eq_some_iff] at e
  obtain ⟨n, e1, e2⟩ := e
  rw [Option.map_eq_some_iff] at e2
  obtain ⟨p, e2, rfl⟩ := e2
  exact ⟨slotRef_of e1, insAt_of e2⟩
theorem lstOf_of {env : Ev} {h : Hi} {i : Nat} {q : Nat × List PyData} (e : lstOf env h i = some q) : slot env i = some (.ref q.1) ∧ h[q.1]? = some (.lst q.2) := by
  unfold lstOf at e
  rw [Option.bind_eq_some_iff] at e
  obtain ⟨n, e1, e2⟩ := e
  rw [Option.map_eq_some_iff] at e2
  obtain ⟨p, e2, rfl⟩ := e2
  exact ⟨slotRef_of e1, listAt_of e2⟩
theorem dctOf_of {env : Ev} {h : Hi} {i : Nat} {q : Nat × List (Key × Fld)} (e : dctOf env h i = some q) : slot env i = some (.ref q.1) ∧ h[q.1]? = some (.dct q.2) := by
  unfold dctOf at e
  rw [Option.bind_eq_some_iff] at e
  obtain ⟨n, e1, e2⟩ := e
  rw [Option.map_eq_some_iff] at e2
  obtain ⟨p, e2, rfl⟩ := e2
  exact ⟨slotRef_of e1, dctAt_of e2⟩
/-- the only class with fields -/
structure FOk (Γ : Gm) (cl : Nat) (names : List Str) (j : Nat) (f : Str) : Prop where
  fl : Γ.flds = [(cl, names)]
  at_ : names[j]? = some f
abbrev Ab (x : Str) (p : Pos) (f : Str) : Prop := ∀ env, attributeBase (.Name x p) f env (eval (.Name x p) env) = eval (.Name x p) env
/-- what a field's name tells -/
theorem fld_at {n : Nat} {I : Inf} {W : WX} {X : Cx} {s : Sx} {env : Ev} {σ : L2.St} (g : GX Γ n I N sc W X) (hr : HR X.K I.ci s) (er : ER X.K s env σ) (hf : FOk Γ cl names j f) {q : Nat × Nat × List Fld} (e : insOf env s.h i = some q) {u : Fld} (eu : q.2.2[j]? = some u) :
    ∃ C dx es v, σ[i]? = some (some (.ref (s.φ q.1 0))) ∧ s.H (s.φ q.1 0) = some (.ins C dx es) ∧ Cls X.K C ∧ NoAttr X.K C f ∧ es.lookup f = some v ∧ FlR X.K s q.1 j u v := by
  obtain ⟨e1, e2⟩ := insOf_of e
  obtain ⟨y, h1, _, rfl⟩ := er.at_ i _ e1
  obtain ⟨C, nms, dx, es, ci, h3, h4, h5, h6⟩ := hr.ob _ _ e2
  have hm := g.ci _ _ _ ci
  obtain ⟨C', ci', k, nd, _, na⟩ := g.fl (cl, names) (by rw [hf.fl]; exact List.mem_singleton.mpr rfl)
  rw [hf.fl] at hm
  have hm' := List.mem_singleton.mp hm
  obtain ⟨hc, hn⟩ := Prod.mk.inj hm'
  rw [hc] at ci
  subst hn
  rw [ci] at ci'
  cases ci'
  obtain ⟨y, v, e3, e4, r⟩ := h6 j u eu
  rw [hf.at_] at e3
  cases e3
  refine ⟨C, dx, es, v, h1, h3, k, na _ (List.mem_of_getElem? hf.at_), lookup_nd (by rw [h4]; exact nd_take nd _) e4, r⟩
def tgSlots : Tg → List Nat
  | .name i => [i]
  | .tup ts => tgSlotsL ts
where tgSlotsL : List Tg → List Nat
  | [] => []
  | t :: ts => tgSlots t ++ tgSlotsL ts
def tG (K : PySem.W.Frag) (CI : CInf) (t : Tg) : TG := fun v σ H Q => ∃ env s d env1, s.H = H ∧ HR K CI s ∧ ER K s env σ ∧ RF K s.F s.H d v ∧ bindT t d env = some env1 ∧
  ∀ σ1, ER K s env1 σ1 → (σ1.length = σ.length ∧ ∀ k, k ∉ tgSlots t → σ1[k]? = σ[k]?) → Q σ1 H
def tGs (K : PySem.W.Frag) (CI : CInf) (ts : List Tg) : TGs := fun vs σ H Q => ∃ env s ds env1, s.H = H ∧ HR K CI s ∧ ER K s env σ ∧ RFs K s.F s.H ds vs ∧ bindTs ts ds env = some env1 ∧
  ∀ σ1, ER K s env1 σ1 → (σ1.length = σ.length ∧ ∀ k, k ∉ tgSlots.tgSlotsL ts → σ1[k]? = σ[k]?) → Q σ1 H
def DG (Γ : Gm) (N : List Str) (sc : Sco) (e : Expr) (t : Tg) : Prop := ∀ n I W X, GX Γ n I N sc W X → PG X e (tG X.K I.ci t)
def DGs (Γ : Gm) (N : List Str) (sc : Sco) (e : List Expr) (t : List Tg) : Prop := ∀ n I W X, GX Γ n I N sc W X → PGs X e (tGs X.K I.ci t)
theorem _root_.L2.PG.imp {X : Cx} {e : Expr} {t t' : TG} (h : PG X e t) (i : ∀ v σ H Q, t' v σ H Q → t v σ H Q) : PG X e t' := ⟨fun pins s σ H v u Q I r q => h.run pins s σ H v u Q I r (i v σ H Q q)⟩
theorem _root_.L2.PGs.imp {X : Cx} {e : List Expr} {t t' : TGs} (h : PGs X e t) (i : ∀ v σ H Q, t' v σ H Q → t v σ H Q) : PGs X e t' := ⟨fun pins s σ H v u Q I r q => h.run pins s σ H v u Q I r (i v σ H Q q)⟩
/-- a name that may be stored -/
structure TOk (N : List Str) (sc : Sco) (i : Nat) (x : Str) : Prop where
  hN : N[i]? = some x
  loc : Loc sc.s x
  fn : sc.fn x = true ∨ sc.s.names.lookup x = some .local
theorem dg_name (v : TOk N sc i x) : DG Γ N sc (.Name x pos) (.name i) := fun n I W X g =>
  (pg_name (i := i) (by rw [g.hN]; exact g.nd) (by rw [g.hN]; exact v.hN) (by rw [g.sc]; exact v.loc) (by rw [g.fnc, g.sc]; exact v.fn)).imp fun y σ H Q ⟨env, s, d, env1, eH, hr, er, r, e, q⟩ => by
    cases e
    refine q _ (er.set (v := .p d) r) ⟨by simp, fun k hk => ?_⟩
    rw [List.getElem?_set_ne]
    rintro rfl
    exact hk (by simp [tgSlots])
theorem dgs_nil : DGs Γ N sc [] [] := fun n I W X g => pgs_nil.imp fun y σ H Q ⟨env, s, ds, env1, eH, hr, er, r, e, q⟩ => by
  cases r with
  | nil =>
    cases e
    exact ⟨rfl, q _ er ⟨rfl, fun _ _ => rfl⟩⟩
  | cons _ _ => cases e
theorem dgs_cons {t : Tg} {ts : List Tg} (ha : DG Γ N sc ea t) (hs : DGs Γ N sc es ts) (hq : ∀ env, (assignEach (ea :: es) env).map (·.2) = assign ea env :: (assignEach es env).map (·.2) := by intro _; rfl) : DGs Γ N sc (ea :: es) (t :: ts) := fun n I W X g =>
  (pgs_cons (ha n I W X g) (hs n I W X g) (hq _)).imp fun y σ H Q ⟨env, s, ds, env1, eH, hr, er, r, e, q⟩ => by
    cases r with
    | nil => cases e
    | @cons d v0 ds vs0 r1 r2 =>
      have e' : (bindT t d env).bind (bindTs ts ds) = some env1 := e
      rw [Option.bind_eq_some_iff] at e'
      obtain ⟨env2, e1, e2⟩ := e'
      refine ⟨_, _, rfl, env, s, d, env2, eH, hr, er, r1, e1, fun σ1 er1 k1 => ?_⟩
      refine ⟨env2, s, ds, env1, eH, hr, er1, r2, e2, fun σ2 er2 k2 => q σ2 er2 ⟨k2.1.trans k1.1, fun k hk => ?_⟩⟩
      have hk' : k ∉ tgSlots t ∧ k ∉ tgSlots.tgSlotsL ts := by
        unfold tgSlots.tgSlotsL at hk
        simpa using hk
      rw [k2.2 k hk'.2, k1.2 k hk'.1]
theorem bindTs_len : ∀ {ts : List Tg} {ds : List PyData} {env env1 : Ev}, bindTs ts ds env = some env1 → ds.length = ts.length
  | [], [], _, _, _ => rfl
  | [], _ :: _, _, _, e => by cases e
  | _ :: _, [], _, _, e => by cases e
  | t :: ts, d :: ds, env, env1, e => by
    have e' : (bindT t d env).bind (bindTs ts ds) = some env1 := e
    rw [Option.bind_eq_some_iff] at e'
    obtain ⟨env2, e1, e2⟩ := e'
    simp [bindTs_len e2]
theorem dg_tup {k m : Nat} {ts : List Tg} (hs : DGs Γ N sc es ts) (hm : ts.length = m := by rfl) (hn : ∀ env, (assignEach es env).length = m := by intro _; rfl) (hst : ∀ env, (assignEach es env).findIdx? (·.1) = none := by intro _; rfl) : DG Γ N sc (.Tuple es k pos) (.tup ts) := fun n I W X g =>
  (pg_tup (n := m) g.calm (hs n I W X g) (hn _) (hst _)).imp fun y σ H Q ⟨env, s, d, env1, eH, hr, er, r, e, q⟩ => by
    cases d with
    | tuple ds =>
      obtain ⟨p, xs, rfl, h1, q1⟩ := r.tup_inv
      have e' : bindTs ts ds env = some env1 := e
      refine ⟨p, xs, rfl, by rw [← eH]; exact h1, ?_, env, s, ds, env1, eH, hr, er, q1, e', q⟩
      rw [← q1.length, bindTs_len e', hm]
    | _ => cases e
end
end Cd
set_option Elab.async false
set_option linter.all false
set_option maxRecDepth 100000
set_option maxHeartbeats 4000000
namespace Cd
open PySem PySem.Spec PyProof.Rows L2
def charsV (x : Str) : List V := x.cps.toList.map fun c => .str ⟨#[c]⟩
/-- v stands for the things xs, wherever C holds -/
structure SeqV (K : PySem.W.Frag) (v : Value) (xs : List V) (C : Hp → Prop) (own : List Addr) (T : Addr → Nat → Heap → Prop) : Prop where
  beg : ∀ (X : Cx) (pins : List (Addr × Obj)) (σ : L2.St) (H : Hp) (s : Shared), X.K = K → Inv X pins σ H s → C H → ∃ (o : Obj) (Pre : Heap → Prop), Begins v o Pre ∧ Pre s.heap ∧ (∀ h it, h.get? it = some o → T it 0 h) ∧ ∀ b ∈ own, b < s.heap.objs.size
  drw : ∀ (X : Cx) (pins : List (Addr × Obj)) (σ : L2.St) (H : Hp) (s : Shared) (A : Around) (it : Addr), X.K = K → Inv X pins σ H s → C H → A.handled = none → it ∉ own →
    ∃ (Pre : Heap → Prop) (Pn : Nat → Value → Prop), Pre s.heap ∧ Draws X.prog X.w A it (it :: own) xs.length Pn (fun i h => T it i h ∧ Pre h) ∧ ∀ i u, Pn i u → ∃ y, xs[i]? = some y ∧ RelV y u
  at_ : ∀ it i h h', T it i h → (∀ o, h.get? it = some o → h'.get? it = some o) → T it i h'
  ob : ∀ it i h, T it i h → ∃ o, h.get? it = some o ∧ ∀ v, o.data ≠ .cell v
theorem seq_list {K : PySem.W.Frag} (a : Addr) (xs : List V) : SeqV K (.ref a) xs (fun H => SqL K H a xs) [a] (fun it i h => h.IsListIter it a i) where
  beg := fun X pins σ H s eK I c => by
    subst eK
    obtain ⟨its, rv, p, _⟩ := I.list c
    exact ⟨_, _, begins_list a its.toArray, p.isList, fun h it e => ⟨_, e, rfl, rfl⟩, fun b hb => by rw [List.mem_singleton.mp hb]; exact p.lt⟩
  drw := fun X pins σ H s A it eK I c hh ne => by
    subst eK
    obtain ⟨its, rv, p, _⟩ := I.list c
    have D := Draws.list (prog := X.prog) (w := X.w) hh it a (fun e => ne (by simp [e])) its.toArray
    rw [List.size_toArray, ← rv.length] at D
    exact ⟨_, _, p.isList, D, fun i u e => vals_get' rv (by simpa using e)⟩
  at_ := fun it i h h' t k => t.at k
  ob := fun it i h ⟨o, e, _, d⟩ => ⟨o, e, fun v q => by rw [d] at q; cases q⟩
theorem seq_tup {K : PySem.W.Frag} (a : Addr) (xs : List V) : SeqV K (.ref a) xs (fun H => SqT K H a xs) [a] (fun it i h => h.IsTupleIter it a i) where
  beg := fun X pins σ H s eK I c => by
    subst eK
    obtain ⟨its, rv, p, _⟩ := I.tuple c
    exact ⟨_, _, begins_tuple a its.toArray, p, fun h it e => ⟨_, e, rfl, rfl⟩, fun b hb => by rw [List.mem_singleton.mp hb]; exact p.lt⟩
  drw := fun X pins σ H s A it eK I c hh ne => by
    subst eK
    obtain ⟨its, rv, p, _⟩ := I.tuple c
    have D := Draws.tuple (prog := X.prog) (w := X.w) hh it a (fun e => ne (by simp [e])) its.toArray
    rw [List.size_toArray, ← rv.length] at D
    exact ⟨_, _, p, D, fun i u e => vals_get' rv (by simpa using e)⟩
  at_ := fun it i h h' t k => t.at k
  ob := fun it i h ⟨o, e, _, d⟩ => ⟨o, e, fun v q => by rw [d] at q; cases q⟩
theorem seq_str {K : PySem.W.Frag} (x : Str) (t : Tok) : SeqV K (.str x t) (charsV x) (fun _ => True) [] (fun it i h => h.IsStrIter it (strIterType x) x t i) where
  beg := fun X pins σ H s eK I c => ⟨_, _, begins_text x t, trivial, fun h it e => ⟨_, e, rfl, rfl⟩, fun b hb => nomatch hb⟩
  drw := fun X pins σ H s A it eK I c hh ne => by
    have D := Draws.text (prog := X.prog) (w := X.w) hh it x t
    have e : x.cps.size = (charsV x).length := by simp [charsV]
    rw [e] at D
    refine ⟨fun _ => True, _, trivial, ⟨fun i h st => D.live i h st.1, fun i h h' st k => ⟨D.frame i h h' st.1 k, trivial⟩, fun i s Q E hi st hQ => D.item i s Q E hi st.1 fun x h' tk hP st' sb => hQ x h' tk hP ⟨st', trivial⟩ sb, fun s Q E st hE => D.done s Q E st.1 hE⟩, fun i u ⟨c, u', e1, e2⟩ => ?_⟩
    subst e2
    refine ⟨.str ⟨#[c]⟩, ?_, _, rfl⟩
    unfold charsV
    rw [List.getElem?_map, Array.getElem?_toList, e1]
    rfl
  at_ := fun it i h h' ⟨o, e, r⟩ k => ⟨o, k o e, r⟩
  ob := fun it i h ⟨o, e, _, d⟩ => ⟨o, e, fun v q => by rw [d] at q; cases q⟩
/-- the kinds of sequences -/
inductive Kd where
  | l (a : Addr)
  | t (a : Addr)
  | s (y : Str)
/-- x is a sequence of xs, of the kind k -/
def SqK (K : PySem.W.Frag) (k : Kd) (x : V) (xs : List V) (H : Hp) : Prop := match k with
  | .l a => x = .ref a ∧ SqL K H a xs
  | .t a => x = .ref a ∧ SqT K H a xs
  | .s y => x = .str y ∧ xs = charsV y
theorem seq_of {K : PySem.W.Frag} {k : Kd} {H : Hp} {x : V} {xs : List V} {v : Value} (h : SqK K k x xs H) (r : RelV x v) : ∃ (own : List Addr) (T : Addr → Nat → Heap → Prop), SeqV K v xs (SqK K k x xs) own T := by
  cases k with
  | l a =>
    obtain ⟨rfl, h⟩ := h
    obtain rfl : v = .ref a := r
    have S := seq_list (K := K) a xs
    exact ⟨_, _, ⟨fun X p σ H s e I c => S.beg X p σ H s e I c.2, fun X p σ H s A it e I c => S.drw X p σ H s A it e I c.2, S.at_, S.ob⟩⟩
  | t a =>
    obtain ⟨rfl, h⟩ := h
    obtain rfl : v = .ref a := r
    have S := seq_tup (K := K) a xs
    exact ⟨_, _, ⟨fun X p σ H s e I c => S.beg X p σ H s e I c.2, fun X p σ H s A it e I c => S.drw X p σ H s A it e I c.2, S.at_, S.ob⟩⟩
  | s y =>
    obtain ⟨rfl, rfl⟩ := h
    obtain ⟨t, rfl⟩ := r
    have S := seq_str (K := K) y t
    exact ⟨_, _, ⟨fun X p σ H s e I c => S.beg X p σ H s e I trivial, fun X p σ H s A it e I c => S.drw X p σ H s A it e I trivial, S.at_, S.ob⟩⟩
/-- a list, a tuple or a text, walked -/
def iSeq (K : PySem.W.Frag) (te : TE) : TI := fun σ H R => te σ H fun x H1 => (∃ a xs, x = .ref a ∧ SqL K H1 a xs ∧ R (Itl K a) H1) ∨ (∃ a xs, x = .ref a ∧ SqT K H1 a xs ∧ R (Itt K a) H1) ∨ ∃ y, x = .str y ∧ R (Its y) H1
theorem pi_seq {X : Cx} {tg e : Expr} {te : TE} (he : PE X e te) : PI X tg e (iSeq X.K te) := ⟨fun pins s σ H R I h => by
  refine thn (he.run pins s σ H _ I h) fun v s1 ⟨x, H1, I1, r, q⟩ => ?_
  rcases q with ⟨a, xs, rfl, hq, q⟩ | ⟨a, xs, rfl, hq, q⟩ | ⟨y, rfl, q⟩
  · obtain rfl : v = .ref a := r
    obtain ⟨its, rv, p, _⟩ := I1.list hq
    exact wpAny_pyIter_list p.isList (pi_one (tk := s1.toks) I1 _ (turn_list a _) ⟨_, Heap.get?_push_size _ rfl, rfl, rfl⟩ q)
  · obtain rfl : v = .ref a := r
    obtain ⟨its, rv, p, _⟩ := I1.tuple hq
    exact wpAny_pyIter_tuple (show s1.heap.IsTuple a its.toArray from p) (pi_one (tk := s1.toks) I1 _ (turn_tuple a _) ⟨_, Heap.get?_push_size _ rfl, rfl, rfl⟩ q)
  · obtain ⟨t, rfl⟩ := r
    cases ha : y.cps.all (· < 128)
    · exact wpAny_pyIter_wide ha (pi_one (tk := s1.toks) I1 _ (turn_str _ y t "str_iterator" (.inr rfl)) ⟨_, Heap.get?_push_size _ rfl, rfl, rfl⟩ q)
    · exact wpAny_pyIter_ascii ha (pi_one (tk := s1.toks) I1 _ (turn_str _ y t "str_ascii_iterator" (.inl rfl)) ⟨_, Heap.get?_push_size _ rfl, rfl, rfl⟩ q)⟩
/-- the iterator J walks the items -/
def JR (K : PySem.W.Frag) (CI : CInf) (s : Sx) (items : List PyData) (J : It) : Prop := ∀ s', Le s s' → HR K CI s' → ∀ i,
  (i < items.length → J.go i s'.H) ∧ (i = items.length → J.stop i s'.H) ∧ ∀ x H', i < items.length → J.yld i s'.H x H' → ∃ d s'', items[i]? = some d ∧ s''.H = H' ∧ Le s' s'' ∧ s''.h = s'.h ∧ HR K CI s'' ∧ RF K s''.F H' d x
theorem JR.le {K : PySem.W.Frag} {CI : CInf} {s s1 : Sx} {items : List PyData} {J : It} (l : Le s s1) (h : JR K CI s items J) : JR K CI s1 items J := fun s' l' => h s' (l.trans l')
def DI (Γ : Gm) (N : List Str) (sc : Sco) (tg e : Expr) (src : Src) : Prop :=
  ∀ n I W X, GX Γ n I N sc W X → PI X tg e (tE X.K I W (fun env h => evalSrc (callF Γ.fns n) env src h) (JR X.K I.ci))
section
variable {K : PySem.W.Frag} {CI : CInf} {s : Sx}
theorem rf_seq {ts : List PyData} {d : PyData} {x : V} (e : itemsOf d = some ts) (r : RF K s.F s.H d x) : ∃ k xs, SqK K k x xs s.H ∧ RFs K s.F s.H ts xs ∧ ∀ s', Le s s' → SqK K k x xs s'.H := by
  cases d with
  | list us =>
    cases e
    obtain ⟨a, xs, rfl, h, q⟩ := r.lst_inv
    exact ⟨.l a, xs, ⟨rfl, h.sq⟩, q, fun s' l => ⟨rfl, (l.kf.lq h).sq⟩⟩
  | tuple us =>
    cases e
    obtain ⟨a, xs, rfl, h, q⟩ := r.tup_inv
    exact ⟨.t a, xs, ⟨rfl, h⟩, q, fun s' l => ⟨rfl, l.kf.sqT h⟩⟩
  | str y =>
    cases e
    obtain rfl := r.str_inv
    refine ⟨.s y, charsV y, ⟨rfl, rfl⟩, ?_, fun s' l => ⟨rfl, rfl⟩⟩
    unfold charsV
    generalize y.cps.toList = l
    induction l with
    | nil => exact .nil
    | cons c l ih => exact .cons (.str _) ih
  | _ => cases e
theorem same_step {H' : Hp} {s' : Sx} {d : PyData} {x : V} (hr : HR K CI s') (r : RF K s'.F s'.H d x) (e : H' = s'.H) {o : Option PyData} (eo : o = some d) : ∃ d s'', o = some d ∧ s''.H = H' ∧ Le s' s'' ∧ s''.h = s'.h ∧ HR K CI s'' ∧ RF K s''.F H' d x :=
  ⟨d, s', eo, e.symm, .refl _, rfl, hr, by rw [e]; exact r⟩
/-- a sequence's own walk -/
theorem jr_seq {X : Cx} {ts : List PyData} {d : PyData} {x : V} (hk : X.K = K) (e : itemsOf d = some ts) (r : RF K s.F s.H d x) {R : It → Hp → Prop} (q : ∀ J, JR K CI s ts J → R J s.H) :
    (∃ a xs, x = .ref a ∧ SqL X.K s.H a xs ∧ R (Itl X.K a) s.H) ∨ (∃ a xs, x = .ref a ∧ SqT X.K s.H a xs ∧ R (Itt X.K a) s.H) ∨ ∃ y, x = .str y ∧ R (Its y) s.H := by
  subst hk
  cases d with
  | list us =>
    cases e
    obtain ⟨a, xs, rfl, h, t⟩ := r.lst_inv
    refine .inl ⟨a, xs, rfl, h.sq, q _ fun s' l hr' i => ⟨fun hi => ?_, fun hi => ?_, fun y H' _ hy => ?_⟩⟩
    · have := t.length
      exact ⟨xs, xs[i]'(by omega), (l.kf.lq h).sq, List.getElem?_eq_getElem _⟩
    · exact ⟨xs, (l.kf.lq h).sq, by have := t.length; omega⟩
    · obtain ⟨rfl, hy⟩ := hy
      obtain ⟨d, e1, rd⟩ := (t.keep l.kf).get' (hy xs (l.kf.lq h).sq)
      exact same_step hr' rd rfl e1
  | tuple us =>
    cases e
    obtain ⟨a, xs, rfl, h, t⟩ := r.tup_inv
    refine .inr (.inl ⟨a, xs, rfl, h, q _ fun s' l hr' i => ⟨fun hi => ?_, fun hi => ?_, fun y H' _ hy => ?_⟩⟩)
    · have := t.length
      exact ⟨xs, xs[i]'(by omega), l.kf.sqT h, List.getElem?_eq_getElem _⟩
    · exact ⟨xs, l.kf.sqT h, by have := t.length; omega⟩
    · obtain ⟨rfl, hy⟩ := hy
      obtain ⟨d, e1, rd⟩ := (t.keep l.kf).get' (hy xs (l.kf.sqT h))
      exact same_step hr' rd rfl e1
  | str y =>
    cases e
    obtain rfl := r.str_inv
    refine .inr (.inr ⟨y, rfl, q _ fun s' l hr' i => ⟨fun hi => ?_, fun hi => ?_, fun z H' _ hz => ?_⟩⟩)
    · show i < y.cps.size
      simpa using hi
    · have : i = y.cps.size := by simpa using hi
      exact Nat.le_of_eq this.symm
    · obtain ⟨rfl, c, e1, rfl⟩ := hz
      exact same_step hr' (.str _) rfl (by rw [List.getElem?_map, Array.getElem?_toList, e1]; rfl)
  | _ => cases e
theorem rangeD_get {lo : Int} {n : Nat} {c : Int} {i : Nat} (h : i < n) : (rangeD lo n c)[i]? = some (.int (lo + (i : Int) * c)) := by
  unfold rangeD
  rw [List.getElem?_map, List.getElem?_range h]
  rfl
theorem rangeD_len {lo : Int} {n : Nat} {c : Int} : (rangeD lo n c).length = n := by simp [rangeD]
theorem jr_rng {lo : Int} {n : Nat} : JR K CI s (rangeD lo n 1) (Itr lo n) := fun s' l hr' i => by
  rw [rangeD_len]
  refine ⟨fun hi => hi, fun hi => Nat.le_of_eq hi.symm, fun x H' hi hy => ?_⟩
  obtain ⟨rfl, rfl⟩ := hy
  exact same_step hr' (.int _) rfl (by rw [rangeD_get hi, Int.mul_one])
end
section
variable {Γ : Gm} {N : List Str} {sc : Sco} {e tg ea eb ec : Expr} {a b c : E} {o : O2} {pos p p2 : Pos} {es : List Expr} {as : List E} {i j : Nat} {x f : Str}
theorem di_e (ha : DV Γ N sc ea a) : DI Γ N sc tg ea (.e a) := fun n I W X g => (pi_seq (ha n I W X g)).imp fun σ H R q => by
  obtain ⟨env, s, eH, hr, er, _, pr⟩ := At.bind (Rel1 := PRl X.K) (ev2 := fun d env h1 => ofO (itemsOf d) h1) q
  refine ⟨env, s, eH, hr, er, trivial, ?_⟩
  refine PR.mono pr fun x H1 ⟨d, env, s, e, hr, er, ⟨_, rb⟩, pr⟩ => ?_
  replace pr : PR X.K I W s σ (ofO (itemsOf d) s.h) (JR X.K I.ci) R := pr
  cases e1 : itemsOf d with
  | none => rw [e1] at pr; exact False.elim pr
  | some ts =>
    rw [e1] at pr
    subst e
    exact jr_seq rfl e1 rb fun J j => pr s J (.refl s) rfl hr j
theorem rngOk_of {j : Int} (h : rngOk j = true) : -(2 ^ 62) ≤ j ∧ j < 2 ^ 62 := by
  unfold rngOk at h
  rw [decide_eq_true_eq] at h
  omega
theorem di_rng1 (v : NB Γ sc "range") (ha : DV Γ N sc ea a) (se : ∀ env, starEach [ea] env = [(false, eval ea env)] := by intro _; rfl) : DI Γ N sc tg (.Call (.Name "range" p) [ea] [] pos) (.rng1 a) := fun n I W X g =>
  (pi_range1 (v.g.g g) (g.nob _ v.m) (pa_cons (ha n I W X g) pa_nil (se _)) (se _)).imp fun σ H R q => by
    obtain ⟨env, s, eH, hr, er, _, pr⟩ := At.bind (Rel1 := PRl X.K) (ev2 := fun d env h1 => rng1K d h1) q
    refine ⟨env, s, eH, hr, er, trivial, ?_⟩
    refine PR.mono pr fun x H1 ⟨d, env, s, e, hr, er, ⟨_, rb⟩, pr⟩ => ?_
    subst e
    replace pr : PR X.K I W s σ (rng1K d s.h) (JR X.K I.ci) R := pr
    unfold rng1K at pr
    cases d with
    | int k =>
      simp only at pr
      split at pr
      · rename_i h
        obtain rfl : x = .int k := RF.int_inv rb
        obtain ⟨h1, h2⟩ := rngOk_of h
        exact ⟨k, rfl, h1, h2, pr s _ (.refl s) rfl hr jr_rng⟩
      · exact False.elim pr
    | _ => exact False.elim pr
end
end Cd
set_option Elab.async false
set_option linter.all false
set_option maxRecDepth 100000
set_option maxHeartbeats 4000000
namespace Cd
open PySem PySem.Spec PyProof.Rows L2
/-- the names within a comprehension -/
def blkS (sc : Sco) (scope : Scope) : Sco := ⟨relS scope sc.s, fun x => scope.names.lookup x == some .cell, false, sc.gd, false⟩
section
variable {Γ : Gm} {N : List Str} {sc : Sco} {n : Nat} {I : Inf} {W : WX} {X : Cx}
theorem GX.blk (g : GX Γ n I N sc W X) (scope : Scope) (s : Shared) (H : Hp) (C : Addr) (cl : List (Str × Addr)) (fp : List Addr) : GX Γ n I N (blkS sc scope) (fun _ _ _ _ => False) (X.blk s H scope (compEnvC scope cl C X.env) fp) where
  hN := g.hN
  nd := g.nd
  fnc := rfl
  sc := by
    show relabel scope X.env = relS scope sc.s
    rw [← g.sc]
    rfl
  calm := g.calm
  tk := takes0
  pass := PassesOwn.never
  room := g.room
  fn := g.fn
  nob := g.nob
  con := g.con
  cl := g.cl
  mt := g.mt
  fl := g.fl
  ci := g.ci
  xc := g.xc
  xm := g.xm
  tb := g.tb
  st := g.st
  ho := g.ho
  stk := fun z => by cases z
  gd := g.gd
  lm := fun z => by cases z
end
def DTs (Γ : Gm) (N : List Str) (sc : Sco) (es : List Expr) (ts : List Te) : Prop :=
  ∀ n I W X, GX Γ n I N sc W X → PTs X es (tE X.K I W (fun env h => evalTs (callF Γ.fns n) env ts h) (fun _ a x => x = a))
theorem _root_.L2.PTs.imp {X : Cx} {e : List Expr} {t t' : TT} (h : PTs X e t) (i : ∀ σ H Q, t' σ H Q → t σ H Q) : PTs X e t' := ⟨fun pins s σ H Q I q => h.run pins s σ H Q I (i σ H Q q)⟩
section
variable {Γ : Gm} {N : List Str} {sc : Sco} {e tg ea eb ec : Expr} {a b c : E} {ta : Te} {o : O2} {pos p p2 : Pos} {es : List Expr} {as : List E} {i j : Nat} {x f : Str} {t : Tg} {src : Src}
theorem dts_nil : DTs Γ N sc [] [] := fun n I W X g => pts_nil.imp fun σ H Q ⟨env, s, eH, hr, er, _, pr⟩ => by
  subst eH
  exact pr s true (.refl s) rfl hr rfl
theorem dts_one (h : DT Γ N sc ea ta) : DTs Γ N sc [ea] [ta] := fun n I W X g => (pts_one (h n I W X g)).imp fun σ H Q ⟨env, s, eH, hr, er, _, pr⟩ => by
  refine ⟨env, s, eH, hr, er, trivial, ?_⟩
  have pr' : PR X.K I W s σ ((evalT (callF Γ.fns n) env ta s.h).bind fun k h1 => ifK (fun h2 => R.ok true h2) (fun h2 => .ok false h2) k h1) (fun _ a x => x = a) Q := pr
  show PR X.K I W s σ (evalT (callF Γ.fns n) env ta s.h) (fun _ a x => x = a) Q
  generalize evalT (callF Γ.fns n) env ta s.h = r at pr' ⊢
  cases r with
  | ok k h1 => cases k <;> exact pr'
  | exc e h1 => exact pr'
  | stuck => exact pr'
theorem wipe_in {σ : L2.St} : ∀ {vs : List Nat} {k : Nat}, k ∈ vs → k < σ.length → (wipe σ vs)[k]? = some none
  | v :: vs, k, h, l => by
    show ((wipe σ vs).set v none)[k]? = some none
    by_cases e : k = v
    · subst e
      rw [List.getElem?_set_self (by rw [wipe_length]; exact l)]
    · rw [List.getElem?_set_ne (Ne.symm e)]
      exact wipe_in (by simpa [e] using h) l
theorem wipe_eq {σ σ' : L2.St} {vs : List Nat} (hl : σ'.length = σ.length) (h : ∀ k, k ∉ vs → σ'[k]? = σ[k]?) : wipe σ' vs = wipe σ vs := by
  apply List.ext_getElem?
  intro k
  by_cases hk : k ∈ vs
  · by_cases l : k < σ.length
    · rw [wipe_in hk l, wipe_in hk (by rw [hl]; exact l)]
    · rw [List.getElem?_eq_none (by rw [wipe_length]; omega), List.getElem?_eq_none (by rw [wipe_length]; omega)]
  · rw [wipe_out hk, wipe_out hk, h k hk]
/-- a list under construction gets its next content -/
def Sx.wr (s : Sx) (D : Addr) (xs : List V) : Sx := { s with H := upd s.H D (.lst xs) }
section
variable {K : PySem.W.Frag} {CI : CInf} {s s0 : Sx} {D : Addr} {ys xs : List V}
theorem wr_keep (hr : HR K CI s) (hb : s.B D) (hD : s.H D = some (.lst ys)) : KeepF s.F s.H (s.wr D xs).F (s.wr D xs).H where
  up := fun _ h => h
  fz := fun a o f h => by
    show upd s.H D _ a = some o
    rw [upd_ne (fun e => by subst e; exact (hr.bt a hb).2.1 f)]; exact h
  tp := fun a o h => by
    show upd s.H D _ a = some _
    rw [upd_ne (fun e => by rw [e, hD] at h; cases h)]; exact h
  zz := fun a o u h => by
    show upd s.H D _ a = some _
    rw [upd_ne (fun e => by rw [e, hD] at h; cases h)]; exact h
  cd := fun a c q h => by
    show upd s.H D _ a = some _
    rw [upd_ne (fun e => by rw [e, hD] at h; exact te_lst (.inr ⟨c, q, Option.some.inj h⟩))]; exact h
theorem HR.wr (hr : HR K CI s) (hb : s.B D) (hD : s.H D = some (.lst ys)) : HR K CI (s.wr D xs) where
  ob := fun n o e => (hr.ob n o e).move (wr_keep hr hb hD) e fun j l => ⟨rfl, fun u h => by
    show upd s.H D _ (s.φ n j) = some u
    rw [upd_ne ((hr.bt D hb).1 n j l)]; exact h⟩
  inj := hr.inj
  nf := hr.nf
  bt := fun b h => by
    obtain ⟨h1, h2, u, h3⟩ := hr.bt b h
    refine ⟨h1, h2, ?_⟩
    by_cases e : b = D
    · exact ⟨.lst xs, by show upd s.H D _ b = _; rw [e]; exact upd_same⟩
    · exact ⟨u, by show upd s.H D _ b = some u; rw [upd_ne e]; exact h3⟩
  ft := fun b h => by
    obtain ⟨u, h3⟩ := hr.ft b h
    exact ⟨u, by show upd s.H D _ b = some u; rw [upd_ne (fun e => by subst e; exact (hr.bt b hb).2.1 h)]; exact h3⟩
  tb := tabs_at hr.tb hD te_lst
  tn := hr.tn
theorem wr_le (l : Le s0 s) (h0 : s0.H D = none) (hr0 : HR K CI s0) : Le s0 (s.wr D xs) where
  len := l.len
  ph := l.ph
  kf := ⟨l.kf.up, fun a o f h => by show upd s.H D _ a = some o; rw [upd_ne (ne_of_none h h0)]; exact l.kf.fz a o f h,
    fun a o h => by show upd s.H D _ a = some _; rw [upd_ne (ne_of_none h h0)]; exact l.kf.tp a o h,
    fun a o u h => by show upd s.H D _ a = some _; rw [upd_ne (ne_of_none h h0)]; exact l.kf.zz a o u h,
    fun a c q h => by show upd s.H D _ a = some _; rw [upd_ne (ne_of_none h h0)]; exact l.kf.cd a c q h⟩
  fr := fun b h => by
    obtain ⟨h1, h2⟩ := l.fr b h
    obtain ⟨_, _, u, e⟩ := hr0.bt b h
    exact ⟨h1, by show upd s.H D _ b = s0.H b; rw [upd_ne (ne_of_none e h0)]; exact h2⟩
end
/-- with D kept apart -/
def Sx.guard (s : Sx) (D : Addr) : Sx := { s.put D (.lst []) false with B := fun b => s.B b ∨ b = D }
theorem HR.guard {K : PySem.W.Frag} {CI : CInf} {s : Sx} {D : Addr} (hr : HR K CI s) (h : s.H D = none) : HR K CI (s.guard D) := by
  have r := hr.put (o := .lst []) (fz := false) h
  refine ⟨r.ob, r.inj, r.nf, fun b hb => ?_, r.ft, r.tb, fun q hq => ⟨(r.tn q hq).1, fun hb => hb.elim (r.tn q hq).2 fun z => hr.tn0 hq h z⟩⟩
  rcases hb with hb | hb
  · exact r.bt b hb
  · subst hb
    refine ⟨(hr.fresh h).2.1, fun f => ?_, _, upd_same⟩
    rcases f with f | ⟨f, _⟩
    · exact (hr.fresh h).1 f
    · cases f
theorem guard_le {K : PySem.W.Frag} {CI : CInf} {s : Sx} {D : Addr} (hr : HR K CI s) (h : s.H D = none) : Le s (s.guard D) :=
  have l := hr.put_le (o := .lst []) (fz := false) h
  ⟨l.len, l.ph, l.kf, fun b hb => ⟨.inl hb, (l.fr b hb).2⟩⟩
def Sx.unguard (s : Sx) (B : Addr → Prop) : Sx := { s with B := B }
theorem compK_inv {r : R (List PyData)} : (∃ ys h, r = .ok ys h ∧ compK r = .ok (.p (.list ys)) h) ∨ compK r = .stuck := by
  cases r with
  | ok ys h => exact .inl ⟨ys, h, rfl, rfl⟩
  | _ => exact .inr rfl
abbrev snds (own : List (Str × Nat)) : List Nat := own.map fun p => p.2
/-- what a comprehension's row asks, from what its small program does -/
theorem lc_imp {n : Nat} {I : Inf} {W : WX} {X : Cx} {conds : List Te} {own : List (Str × Nat)} (hsub : ∀ k, k ∈ tgSlots t → k ∈ snds own) {σ : L2.St} {H : Hp} {Q : VK}
    (q : tE X.K I W (fun env h => (evalE (callF Γ.fns n) env (.comp (snds own) t src conds a) h).bind unP) (RN X.K) σ H Q) :
    tLc (tE X.K I W (fun env h => evalSrc (callF Γ.fns n) env src h) (JR X.K I.ci)) (tG X.K I.ci t) (tE X.K I (fun _ _ _ _ => False) (fun env h => evalTs (callF Γ.fns n) env conds h) (fun _ a x => x = a))
      (tE X.K I (fun _ _ _ _ => False) (fun env h => (evalE (callF Γ.fns n) env a h).bind unP) (PRl X.K)) (own.map (·.2)) σ H Q := by
  have q' : tE X.K I W (fun env h => (evalSrc (callF Γ.fns n) env src h).bind fun items h1 => (compK2 (compL (fun e h => (evalE (callF Γ.fns n) e a h).bind unP) (fun e h => evalTs (callF Γ.fns n) e conds h) (fun x e => bindT t x e) (wipeE env (snds own))) items h1).bind unP) (RN X.K) σ H Q := by
    obtain ⟨env, s, eH, hr, er, _, pr⟩ := q
    refine ⟨env, s, eH, hr, er, trivial, ?_⟩
    have pr' : PR X.K I W s σ (((evalSrc (callF Γ.fns n) env src s.h).bind fun items h1 => compK2 (compL (fun e h => (evalE (callF Γ.fns n) e a h).bind unP) (fun e h => evalTs (callF Γ.fns n) e conds h) (fun x e => bindT t x e) (wipeE env (snds own))) items h1).bind unP) (RN X.K) Q := pr
    show PR X.K I W s σ ((evalSrc (callF Γ.fns n) env src s.h).bind fun items h1 => (compK2 (compL (fun e h => (evalE (callF Γ.fns n) e a h).bind unP) (fun e h => evalTs (callF Γ.fns n) e conds h) (fun x e => bindT t x e) (wipeE env (snds own))) items h1).bind unP) (RN X.K) Q
    generalize evalSrc (callF Γ.fns n) env src s.h = r at pr' ⊢
    cases r with
    | ok items h1 => exact pr'
    | exc e h1 => exact pr'
    | stuck => exact pr'
  obtain ⟨env, s, eH, hr, er, _, pr⟩ := At.bind (Rel1 := JR X.K I.ci) (ev2 := fun items env h1 => (compK2 (compL (fun e h => (evalE (callF Γ.fns n) e a h).bind unP) (fun e h => evalTs (callF Γ.fns n) e conds h) (fun x e => bindT t x e) (wipeE env (snds own))) items h1).bind unP) q'
  refine ⟨env, s, eH, hr, er, trivial, ?_⟩
  refine PR.mono pr fun J H1 ⟨items, env, s, e, hr, er, ⟨_, jr⟩, pr⟩ => ?_
  clear q' q
  intro D hD
  subst e
  replace pr : PR X.K I W s σ ((compK2 (compL (fun e h => (evalE (callF Γ.fns n) e a h).bind unP) (fun e h => evalTs (callF Γ.fns n) e conds h) (fun x e => bindT t x e) (wipeE env (snds own))) items s.h).bind unP) (RN X.K) Q := pr
  unfold compK2 at pr
  by_cases hz : items.length < sizeLine
  · rw [if_pos hz] at pr
    rcases compK_inv (r := compL (fun e h => (evalE (callF Γ.fns n) e a h).bind unP) (fun e h => evalTs (callF Γ.fns n) e conds h) (fun x e => bindT t x e) (wipeE env (snds own)) items s.h) with ⟨ys, h2, e1, e2⟩ | e2
    · rw [e2] at pr
      replace pr : PR X.K I W s σ (R.ok (PyData.list ys) h2) (RN X.K) Q := pr
      have hD0 : s.H D = none := hD
      refine ⟨fun i m H' => i ≤ items.length ∧ m = items.length - i ∧ ∃ s' acc accT rest, s'.H = H' ∧ HR X.K I.ci s' ∧ Le s s' ∧ s'.B D ∧ s'.H D = some (.lst acc) ∧ RFs X.K s'.F s'.H accT acc ∧ accT.length ≤ i ∧
        compL (fun e h => (evalE (callF Γ.fns n) e a h).bind unP) (fun e h => evalTs (callF Γ.fns n) e conds h) (fun x e => bindT t x e) (wipeE env (snds own)) (items.drop i) s'.h = .ok rest h2 ∧ accT ++ rest = ys,
        ⟨_, Nat.zero_le _, rfl, s.guard D, [], [], ys, rfl, hr.guard hD0, guard_le hr hD0, .inr rfl, upd_same, .nil, Nat.le_refl _, by rw [List.drop_zero]; exact e1, rfl⟩, ?_⟩
      rintro i m H' ⟨hi, rfl, s', acc, accT, rest, rfl, hr', l', hB, hDa, ra, hla, er1, er2⟩
      have hlen := ra.length
      by_cases hin : i = items.length
      · left
        refine ⟨(jr s' l' hr' i).2.1 hin, ?_⟩
        subst hin
        rw [List.drop_length] at er1
        cases er1
        rw [List.append_nil] at er2
        subst er2
        refine pr (s'.unguard s.B) (.ref D) ⟨l'.len, l'.ph, l'.kf, fun b hb => ⟨hb, (l'.fr b hb).2⟩⟩ rfl ⟨hr'.ob, hr'.inj, hr'.nf, fun b hb => hr'.bt b (l'.fr b hb).1, hr'.ft, hr'.tb, fun q hq => ⟨(hr'.tn q hq).1, fun hb => (hr'.tn q hq).2 (l'.fr _ hb).1⟩⟩ ?_
        exact ⟨accT, D, acc, rfl, rfl, hDa, ra, (hr'.bt D hB).2.1, (hr'.bt D hB).1, (hr.fresh hD0).2.2⟩
      · right
        have hlt : i < items.length := by omega
        refine ⟨(jr s' l' hr' i).1 hlt, fun H'' => i + 1 ≤ items.length ∧ ∃ s' acc accT rest, s'.H = H'' ∧ HR X.K I.ci s' ∧ Le s s' ∧ s'.B D ∧ s'.H D = some (.lst acc) ∧ RFs X.K s'.F s'.H accT acc ∧ accT.length ≤ i + 1 ∧
          compL (fun e h => (evalE (callF Γ.fns n) e a h).bind unP) (fun e h => evalTs (callF Γ.fns n) e conds h) (fun x e => bindT t x e) (wipeE env (snds own)) (items.drop (i + 1)) s'.h = .ok rest h2 ∧ accT ++ rest = ys,
          fun H'' ⟨h1, h3⟩ => ⟨items.length - (i + 1), by omega, h1, rfl, h3⟩, fun x H2 hy => ?_⟩
        obtain ⟨d, s2, ed, e2, l2, eh2, hr2, rd⟩ := (jr s' l' hr' i).2.2 x H2 hlt hy
        subst e2
        have edr : items.drop i = d :: items.drop (i + 1) := by
          obtain ⟨h, e⟩ := List.getElem?_eq_some_iff.mp ed
          rw [List.drop_eq_getElem_cons h, e]
        rw [edr] at er1
        unfold compL at er1
        cases eb : bindT t d (wipeE env (snds own)) with
        | none => simp only [eb] at er1; cases er1
        | some env1 =>
          simp only [eb] at er1
          refine ⟨wipeE env (snds own), s2, d, env1, rfl, hr2, ((er.le l').le l2).wipe _, rd, eb, fun σ1 er' ⟨k1, k2⟩ => ⟨?_, ?_⟩⟩
          · exact (wipe_eq (k1.trans (wipe_length _ _)) fun k hk => by rw [k2 k (fun z => hk (hsub k z)), wipe_out hk])
          · refine ⟨env1, s2, rfl, hr2, er', trivial, ?_⟩
            rw [← eh2] at er1
            show PR X.K I (fun _ _ _ _ => False) s2 σ1 (evalTs (callF Γ.fns n) env1 conds s2.h) _ _
            cases ec : evalTs (callF Γ.fns n) env1 conds s2.h with
            | exc e h => rw [ec] at er1; cases er1
            | stuck => rw [ec] at er1; cases er1
            | ok k h3 =>
              rw [ec] at er1
              rintro s3 k' l3 eh3 hr3 rfl
              subst eh3
              have l23 := l2.trans l3
              have hB3 : s3.B D ∧ s3.H D = some (.lst acc) := by
                obtain ⟨b1, b2⟩ := l23.fr D hB
                exact ⟨b1, b2.trans hDa⟩
              cases k' with
              | false =>
                simp only [R.bind_ok, Bool.false_eq_true, if_false] at er1 ⊢
                exact ⟨by omega, s3, acc, accT, rest, rfl, hr3, l'.trans l23, hB3.1, hB3.2, ra.keep l23.kf, by omega, er1, er2⟩
              | true =>
                simp only [R.bind_ok, if_true] at er1 ⊢
                refine ⟨env1, s3, rfl, hr3, er'.le l3, trivial, ?_⟩
                show PR X.K I (fun _ _ _ _ => False) s3 σ1 ((evalE (callF Γ.fns n) env1 a s3.h).bind unP) _ _
                cases ev : (evalE (callF Γ.fns n) env1 a s3.h).bind unP with
                | exc e h => rw [ev] at er1; cases er1
                | stuck => rw [ev] at er1; cases er1
                | ok y h4 =>
                  rw [ev] at er1
                  simp only [R.bind_ok] at er1
                  intro s4 z l4 eh4 hr4 rz
                  subst eh4
                  have hB4 : s4.B D ∧ s4.H D = some (.lst acc) := by
                    obtain ⟨b1, b2⟩ := l4.fr D hB3.1
                    exact ⟨b1, b2.trans hB3.2⟩
                  have l24 := l23.trans l4
                  cases er3 : compL (fun e h => (evalE (callF Γ.fns n) e a h).bind unP) (fun e h => evalTs (callF Γ.fns n) e conds h) (fun x e => bindT t x e) (wipeE env (snds own)) (items.drop (i + 1)) s4.h with
                  | exc e h => rw [er3] at er1; cases er1
                  | stuck => rw [er3] at er1; cases er1
                  | ok rest2 h5 =>
                    rw [er3] at er1
                    cases er1
                    refine ⟨acc, hB4.2, by omega, by omega, s4.wr D (acc ++ [z]), acc ++ [z], accT ++ [y], rest2, rfl, hr4.wr hB4.1 hB4.2, wr_le (l'.trans l24) hD0 hr, hB4.1, upd_same, ?_, by simp; omega, er3, by rw [List.append_assoc]; exact er2⟩
                    exact ((ra.keep l24.kf).append (.cons rz .nil)).keep (wr_keep hr4 hB4.1 hB4.2)
    · rw [e2] at pr
      exact False.elim pr
  · rw [if_neg hz] at pr
    exact False.elim pr
theorem dn_comp {iter elt : Expr} {ifs : List Expr} {scope : Scope} {own : List (Str × Nat)} {conds : List Te} (hi : DI Γ N sc tg iter src) (ok : BlkOk N sc.s scope own) (ht : DG Γ N (blkS sc scope) tg t) (hc : DTs Γ N (blkS sc scope) ifs conds) (he : DV Γ N (blkS sc scope) elt a)
    (hsub : ∀ k, k ∈ tgSlots t → k ∈ snds own) (hs : ∀ env x, foldedSetIterable iter env x = pure x := by intro _ _; rfl) : DN Γ N sc (.ListComp elt [⟨tg, iter, ifs, 0⟩] scope pos) (.comp (snds own) t src conds a) := fun n I W X g =>
  (pe_lc (own := own) (wi := tE X.K I W (fun env h => evalSrc (callF Γ.fns n) env src h) (JR X.K I.ci)) (g := tG X.K I.ci t) (tt := tE X.K I (fun _ _ _ _ => False) (fun env h => evalTs (callF Γ.fns n) env conds h) (fun _ a x => x = a))
    (te := tE X.K I (fun _ _ _ _ => False) (fun env h => (evalE (callF Γ.fns n) env a h).bind unP) (PRl X.K)) g.calm (by rw [g.hN]; exact g.nd) (hi n I W X g) (by rw [g.hN, g.sc]; exact ok)
    (fun s H C cl fp => ht n I _ _ (g.blk scope s H C cl fp)) (fun s H C cl fp => hc n I _ _ (g.blk scope s H C cl fp)) (fun s H C cl fp => he n I _ _ (g.blk scope s H C cl fp)) (hs _)).imp fun σ H Q q => lc_imp hsub q
end
end Cd
set_option Elab.async false
set_option linter.all false
set_option maxRecDepth 100000
set_option maxHeartbeats 4000000
namespace Cd
open PySem PySem.Spec PyProof.Rows L2
def PSt (K : PySem.W.Frag) (I : Inf) (W : WX) (D : Ends) (s : Sx) (r : RS) : Prop := match r with
  | .ok .nx env' h' => ∀ s' σ', Le s s' → s'.h = h' → HR K I.ci s' → ER K s' env' σ' → D.nx σ' s'.H
  | .ok .bk env' h' => ∀ s' σ', Le s s' → s'.h = h' → HR K I.ci s' → ER K s' env' σ' → D.bk σ' s'.H
  | .ok .ct env' h' => ∀ s' σ', Le s s' → s'.h = h' → HR K I.ci s' → ER K s' env' σ' → D.ct σ' s'.H
  | .ok (.rt v) _ h' => ∀ s' x, Le s s' → s'.h = h' → HR K I.ci s' → VR K s' v x → D.rt x s'.H
  | .exc e env' h' => ∀ s' σ' cls d, Le s s' → s'.h = h' → HR K I.ci s' → ER K s' env' σ' → XR K I s' e cls d → W cls d σ' s'.H
  | .stuck => False
theorem PSt.le {K : PySem.W.Frag} {I : Inf} {W : WX} {D : Ends} {s s1 : Sx} {r : RS} (h : PSt K I W D s r) (l : Le s s1) : PSt K I W D s1 r := by
  cases r with
  | ok f env h' => cases f <;> exact fun s' x l' => h s' x (l.trans l')
  | exc e env h' => exact fun s' σ' c d l' => h s' σ' c d (l.trans l')
  | stuck => exact h
def AtS (K : PySem.W.Frag) (I : Inf) (W : WX) (D : Ends) (σ : L2.St) (H : Hp) (G : Sx → Prop) (r : Ev → Hi → RS) : Prop :=
  ∃ env s, s.H = H ∧ HR K I.ci s ∧ ER K s env σ ∧ G s ∧ PSt K I W D s (r env s.h)
def tS (K : PySem.W.Frag) (I : Inf) (W : WX) (r : Ev → Hi → RS) : TS := fun D σ H => AtS K I W D σ H (fun _ => True) r
theorem AtS.bind {α β : Type} {K : PySem.W.Frag} {I : Inf} {W : WX} {D : Ends} {σ : L2.St} {H : Hp} {G G' : Sx → Prop} {ev1 : Ev → Hi → R α} {k : α → Ev → Hi → RS} {Rel1 : Sx → α → β → Prop}
    (h : AtS K I W D σ H G (fun env h => (ev1 env h).toS env fun a h1 => k a env h1)) (mono : ∀ s s', Le s s' → G s → G' s' := by intro _ _ _ g; exact g) :
    tE K I W ev1 Rel1 σ H (fun x H1 => ∃ a, AtS K I W D σ H1 (fun s => G' s ∧ Rel1 s a x) (k a)) := by
  obtain ⟨env, s, eH, hr, er, g, pr⟩ := h
  refine ⟨env, s, eH, hr, er, trivial, ?_⟩
  replace pr : PSt K I W D s ((ev1 env s.h).toS env fun a h1 => k a env h1) := pr
  generalize ev1 env s.h = r at pr ⊢
  cases r with
  | ok a h1 =>
    intro s' x l eh hr' rel
    subst eh
    exact ⟨a, env, s', rfl, hr', er.le l, ⟨mono s s' l g, rel⟩, PSt.le (r := k a env s'.h) pr l⟩
  | exc e h1 => exact fun s' cls d l eh hr' xr => pr s' σ cls d l eh hr' (er.le l) xr
  | stuck => exact pr
def DS (Γ : Gm) (N : List Str) (sc : Sco) (e : Stmt) (a : S) : Prop :=
  ∀ n I W X, GX Γ n I N sc W X → PS X e (tS X.K I W (fun env h => evalS (callF Γ.fns n) a env h))
def DSs (Γ : Gm) (N : List Str) (sc : Sco) (e : List Stmt) (a : List S) : Prop :=
  ∀ n I W X, GX Γ n I N sc W X → PSs X e (tS X.K I W (fun env h => evalSs (callF Γ.fns n) a env h))
section
variable {Γ : Gm} {N : List Str} {sc : Sco} {e tg ea eb ec : Expr} {a b c : E} {ta : Te} {o : O2} {pos p p2 : Pos} {es : List Expr} {as : List E} {i j : Nat} {x y f : Str} {t : Tg} {src : Src} {st : Stmt} {sts sus : List Stmt} {sa : S} {ss us : List S}
theorem dss_nil : DSs Γ N sc [] [] := fun n I W X g => pss_nil.imp fun D σ H ⟨env, s, eH, hr, er, _, pr⟩ => by
  subst eH
  exact pr s σ (.refl s) rfl hr er
theorem dss_cons (h : DS Γ N sc st sa) (hs : DSs Γ N sc sts ss) : DSs Γ N sc (st :: sts) (sa :: ss) := fun n I W X g => (pss_cons (h n I W X g) (hs n I W X g)).imp fun D σ H ⟨env, s, eH, hr, er, _, pr⟩ => by
  refine ⟨env, s, eH, hr, er, trivial, ?_⟩
  replace pr : PSt X.K I W D s ((evalS (callF Γ.fns n) sa env s.h).bind (evalSs (callF Γ.fns n) ss)) := pr
  show PSt X.K I W _ s (evalS (callF Γ.fns n) sa env s.h)
  generalize evalS (callF Γ.fns n) sa env s.h = r at pr ⊢
  cases r with
  | ok fl env1 h1 =>
    cases fl with
    | nx =>
      intro s' σ' l eh hr' er'
      subst eh
      exact ⟨env1, s', rfl, hr', er', trivial, PSt.le (r := evalSs (callF Γ.fns n) ss env1 s'.h) pr l⟩
    | bk => exact pr
    | ct => exact pr
    | rt v => exact pr
  | exc e env1 h1 => exact pr
  | stuck => exact pr
theorem ds_ret (ha : DE Γ N sc ea a) : DS Γ N sc (.Return (some ea) pos) (.ret a) := fun n I W X g => (ps_ret (ha n I W X g)).imp fun D σ H q => by
  obtain ⟨env, s, eH, hr, er, _, pr⟩ := AtS.bind (Rel1 := VR X.K) (k := fun v env h1 => .ok (.rt v) env h1) q
  refine ⟨env, s, eH, hr, er, trivial, PR.mono pr fun x H1 ⟨v, env, s, e, hr, er, ⟨_, r⟩, pr⟩ => ?_⟩
  subst e
  exact pr s x (.refl s) rfl hr r
theorem ds_set (v : TOk N sc i x) (ha : DE Γ N sc ea a) (hs : ∀ env, swapsWith ea (some (.Name x p)) pos.line env = pure false := by intro _; rfl) : DS Γ N sc (.Assign [.Name x p] ea pos) (.set i a) := fun n I W X g =>
  (ps_set (i := i) (by rw [g.hN]; exact g.nd) (by rw [g.hN]; exact v.hN) (by rw [g.sc]; exact v.loc) (ha n I W X g) (hs _) (by rw [g.fnc, g.sc]; exact v.fn)).imp fun D σ H q => by
    obtain ⟨env, s, eH, hr, er, _, pr⟩ := AtS.bind (Rel1 := VR X.K) (k := fun v env h1 => .ok .nx (setSlot env i (some v)) h1) q
    refine ⟨env, s, eH, hr, er, trivial, PR.mono pr fun x H1 ⟨v, env, s, e, hr, er, ⟨_, r⟩, pr⟩ => ?_⟩
    subst e
    exact pr s _ (.refl s) rfl hr (er.set r)
/-- a list of the heap that is new -/
def Sx.mkL (s : Sx) (a : Addr) (ts : List PyData) : Sx := { s with h := s.h ++ [.lst ts], φ := fun m k => if m = s.h.length then a else s.φ m k }
theorem get_app {h : Hi} {o : Ob} {m : Nat} {u : Ob} (e : (h ++ [o])[m]? = some u) : (m < h.length ∧ h[m]? = some u) ∨ (m = h.length ∧ u = o) := by
  by_cases l : m < h.length
  · rw [List.getElem?_append_left l] at e
    exact .inl ⟨l, e⟩
  · rw [List.getElem?_append_right (by omega)] at e
    have e0 : m - h.length = 0 := by
      by_cases z : m - h.length = 0
      · exact z
      · rw [List.getElem?_eq_none (by simp; omega)] at e; cases e
    rw [e0] at e
    simp at e
    exact .inr ⟨by omega, e.symm⟩
theorem live_app {h : Hi} {ts : List PyData} {m k : Nat} (l : Live (h ++ [.lst ts]) m k) : (m < h.length ∧ Live h m k) ∨ (m = h.length ∧ k = 0) := by
  cases k with
  | zero =>
    obtain ⟨o, e, nd⟩ := l
    rcases get_app e with ⟨h1, h2⟩ | ⟨h1, h2⟩
    · exact .inl ⟨h1, o, h2, nd⟩
    · exact .inr ⟨h1, rfl⟩
  | succ k =>
    rcases l with ⟨c, fs, us, e, ef⟩ | ⟨kvs, q, us, e, ef⟩
    · rcases get_app e with ⟨h1, h2⟩ | ⟨h1, h2⟩
      · exact .inl ⟨h1, .inl ⟨c, fs, us, h2, ef⟩⟩
      · cases h2
    · rcases get_app e with ⟨h1, h2⟩ | ⟨h1, h2⟩
      · exact .inl ⟨h1, .inr ⟨kvs, q, us, h2, ef⟩⟩
      · cases h2
theorem live_lt {h : Hi} {m k : Nat} (l : Live h m k) : m < h.length := by
  cases k with
  | zero => obtain ⟨o, e, _⟩ := l; exact (List.getElem?_eq_some_iff.mp e).1
  | succ k =>
    rcases l with ⟨c, fs, us, e, ef⟩ | ⟨kvs, q, us, e, ef⟩
    all_goals exact (List.getElem?_eq_some_iff.mp e).1
theorem HR.mkL {K : PySem.W.Frag} {CI : CInf} {s : Sx} {a : Addr} {ts : List PyData} {xs : List V} (hr : HR K CI s) (ha : s.H a = some (.lst xs)) (r : RFs K s.F s.H ts xs) (nf : ¬ s.F a) (nl : NotLive s a) (nb : ¬ s.B a) : HR K CI (s.mkL a ts) where
  ob := fun m u e => by
    rcases get_app e with ⟨h1, h2⟩ | ⟨h1, h2⟩
    · exact (hr.ob m u h2).move (s' := s.mkL a ts) .refl h2 fun j l => ⟨if_neg (Nat.ne_of_lt h1), fun w e => e⟩
    · subst h1; subst h2
      refine ⟨xs, ?_, r⟩
      show s.H (if s.h.length = s.h.length then a else s.φ s.h.length 0) = some (.lst xs)
      rw [if_pos rfl]; exact ha
  inj := fun m j q k l1 l2 e => by
    have e' : (if m = s.h.length then a else s.φ m j) = (if q = s.h.length then a else s.φ q k) := e
    rcases live_app l1 with ⟨h1, h2⟩ | ⟨h1, h2⟩ <;> rcases live_app l2 with ⟨h3, h4⟩ | ⟨h3, h4⟩
    · rw [if_neg (Nat.ne_of_lt h1), if_neg (Nat.ne_of_lt h3)] at e'
      exact hr.inj _ _ _ _ h2 h4 e'
    · rw [if_neg (Nat.ne_of_lt h1), if_pos h3] at e'
      exact absurd e' (nl _ _ h2)
    · rw [if_pos h1, if_neg (Nat.ne_of_lt h3)] at e'
      exact absurd e'.symm (nl _ _ h4)
    · exact ⟨h1.trans h3.symm, h2.trans h4.symm⟩
  nf := fun m j l => by
    show ¬ s.F (if m = s.h.length then a else s.φ m j)
    rcases live_app l with ⟨h1, h2⟩ | ⟨h1, h2⟩
    · rw [if_neg (Nat.ne_of_lt h1)]; exact hr.nf _ _ h2
    · rw [if_pos h1]; exact nf
  bt := fun b hb => by
    obtain ⟨h1, h2, h3⟩ := hr.bt b hb
    refine ⟨fun m j l => ?_, h2, h3⟩
    show (if m = s.h.length then a else s.φ m j) ≠ b
    rcases live_app l with ⟨k1, k2⟩ | ⟨k1, k2⟩
    · rw [if_neg (Nat.ne_of_lt k1)]; exact h1 _ _ k2
    · rw [if_pos k1]; rintro rfl; exact nb hb
  ft := hr.ft
  tb := hr.tb
  tn := hr.tn
theorem mkL_le {s : Sx} {a : Addr} {ts : List PyData} : Le s (s.mkL a ts) := ⟨by show s.h.length ≤ (s.h ++ [_]).length; simp, fun n h => if_neg (Nat.ne_of_lt h), .refl, fun _ h => ⟨h, rfl⟩⟩
/-- a new list gets a place of its own -/
theorem mk_imp {K : PySem.W.Frag} {I : Inf} {W : WX} {ev : Ev → Hi → R PyData} {σ : L2.St} {H : Hp} {Q : VK} (q : tE K I W (fun env h => (ev env h).bind mkK) (VR K) σ H Q) : tE K I W ev (RN K) σ H Q := by
  obtain ⟨env, s, eH, hr, er, _, pr⟩ := q
  refine ⟨env, s, eH, hr, er, trivial, ?_⟩
  replace pr : PR K I W s σ ((ev env s.h).bind mkK) (VR K) Q := pr
  generalize ev env s.h = r at pr ⊢
  cases r with
  | ok d h1 =>
    rintro s' x l eh hr' ⟨ts, p, xs, rfl, rfl, hp, q, nf, nl, nb⟩
    subst eh
    exact pr (s'.mkL p ts) _ (l.trans mkL_le) rfl (hr'.mkL hp q nf nl nb) ⟨by show s'.h.length < (s'.h ++ [_]).length; simp, by show _ = V.ref (if s'.h.length = s'.h.length then p else _); rw [if_pos rfl]⟩
  | exc e h1 => exact pr
  | stuck => exact pr
theorem de_mk (ha : DN Γ N sc ea a) : DE Γ N sc ea (.mk a) := fun n I W X g => (ha n I W X g).imp fun σ H Q q => mk_imp (ev := fun env h => (evalE (callF Γ.fns n) env a h).bind unP) q
/-- a name gets a comprehension's list, in one line -/
structure SwOk (N : List Str) (sc : Sco) (i : Nat) (y : Str) (scope : Scope) (pos py : Pos) (l : Nat) : Prop where
  hN : N[i]? = some y
  kind : sc.s.kind = .function
  loc : sc.s.names.lookup y = some .local
  line : (py.line == pos.line) = true
  same : l = py.line
  own : (scope.names.any fun (n, k) => n == y && (k == .local || k == .cell)) = false
section
variable {iter elt : Expr} {ifs : List Expr} {scope : Scope} {own : List (Str × Nat)} {conds : List Te} {py : Pos}
end
theorem ds_unpack (ht : DG Γ N sc tg t) (ha : DV Γ N sc ea a) (hs : ∀ env, swapsWithSole [tg] ea pos.line env = pure false := by intro _; rfl) (hw : ∀ n I W X, GX Γ n I N sc W X → swappedStores [tg] ea X.env = pure none := by intro _ _ _ _ _; rfl)
    (h1 : ∀ env, (assignEach [tg] env).map (·.2) = [assign tg env] := by intro _; rfl) : DS Γ N sc (.Assign [tg] ea pos) (.unpack t a) := fun n I W X g => (ps_asg (ha n I W X g) (ht n I W X g) (hs _) (hw n I W X g) (h1 _)).imp fun D σ H q => by
  obtain ⟨env, s, eH, hr, er, _, pr⟩ := AtS.bind (Rel1 := PRl X.K) (k := fun d env h1 => match bindT t d env with
    | some env1 => .ok .nx env1 h1
    | none => .stuck) q
  refine ⟨env, s, eH, hr, er, trivial, PR.mono pr fun x H1 ⟨d, env, s, e, hr, er, ⟨_, r⟩, pr⟩ => ?_⟩
  subst e
  replace pr : PSt X.K I W D s (match bindT t d env with
    | some env1 => .ok .nx env1 s.h
    | none => .stuck) := pr
  cases eb : bindT t d env with
  | none => rw [eb] at pr; exact False.elim pr
  | some env1 =>
    rw [eb] at pr
    exact ⟨env, s, d, env1, rfl, hr, er, r, eb, fun σ1 er1 _ => pr s σ1 (.refl s) rfl hr er1⟩
theorem ds_if (hc : DT Γ N sc ec ta) (ha : DSs Γ N sc sts ss) (hb : DSs Γ N sc sus us) : DS Γ N sc (.If ec sts sus pos) (.if_ ta ss us) := fun n I W X g => (ps_if (hc n I W X g) (ha n I W X g) (hb n I W X g)).imp fun D σ H q => by
  obtain ⟨env, s, eH, hr, er, _, pr⟩ := AtS.bind (Rel1 := fun _ (a x : Bool) => x = a) (ev1 := fun env h => evalT (callF Γ.fns n) env ta h) (k := fun (k : Bool) env h1 => if k = true then evalSs (callF Γ.fns n) ss env h1 else evalSs (callF Γ.fns n) us env h1) q
  refine ⟨env, s, eH, hr, er, trivial, PR.mono pr fun k H1 ⟨k', env, s, e, hr, er, ⟨_, r⟩, pr⟩ => ?_⟩
  subst e
  subst r
  cases k with
  | true => exact ⟨env, s, rfl, hr, er, trivial, pr⟩
  | false => exact ⟨env, s, rfl, hr, er, trivial, pr⟩
theorem ds_for (hi : DI Γ N sc tg ea src) (ht : DG Γ N sc tg t) (hb : DSs Γ N sc sts ss) (hs : ∀ env x, foldedSetIterable ea env x = pure x := by intro _ _; rfl) : DS Γ N sc (.For tg ea sts [] pos) (.for_ t src ss) := fun n I W X g =>
  (ps_for g.pass g.calm (hi n I W X g) (ht n I W X g) (hb n I W X g) (hs _)).imp fun D σ H q => by
    obtain ⟨env, s, eH, hr, er, _, pr⟩ := AtS.bind (Rel1 := JR X.K I.ci) (k := fun items env h1 => forL (evalSs (callF Γ.fns n) ss) (bindT t) items env h1) q
    refine ⟨env, s, eH, hr, er, trivial, PR.mono pr fun J H1 ⟨items, env, s, e, hr, er, ⟨_, jr⟩, pr⟩ => ?_⟩
    subst e
    refine ⟨fun i m σ' H' => i ≤ items.length ∧ m = items.length - i ∧ ∃ env' s', s'.H = H' ∧ HR X.K I.ci s' ∧ ER X.K s' env' σ' ∧ Le s s' ∧ PSt X.K I W D s' (forL (evalSs (callF Γ.fns n) ss) (bindT t) (items.drop i) env' s'.h),
      ⟨_, Nat.zero_le _, rfl, env, s, rfl, hr, er, .refl s, by rw [List.drop_zero]; exact pr⟩, ?_⟩
    rintro i m σ' H' ⟨hi, rfl, env', s', rfl, hr', er', l', pr'⟩
    by_cases hin : i = items.length
    · left
      refine ⟨(jr s' l' hr' i).2.1 hin, ?_⟩
      rw [hin, List.drop_length] at pr'
      exact pr' s' _ (.refl _) rfl hr' er'
    · right
      have hlt : i < items.length := by omega
      refine ⟨(jr s' l' hr' i).1 hlt, fun σ2 H2 => i + 1 ≤ items.length ∧ ∃ env2 s2, s2.H = H2 ∧ HR X.K I.ci s2 ∧ ER X.K s2 env2 σ2 ∧ Le s s2 ∧ PSt X.K I W D s2 (forL (evalSs (callF Γ.fns n) ss) (bindT t) (items.drop (i + 1)) env2 s2.h),
        fun σ2 H2 ⟨h1, h2⟩ => ⟨items.length - (i + 1), by omega, h1, rfl, h2⟩, fun x H2 hy => ?_⟩
      obtain ⟨d, s2, ed, e2, l2, eh2, hr2, rd⟩ := (jr s' l' hr' i).2.2 x H2 hlt hy
      subst e2
      have edr : items.drop i = d :: items.drop (i + 1) := by
        obtain ⟨h, e⟩ := List.getElem?_eq_some_iff.mp ed
        rw [List.drop_eq_getElem_cons h, e]
      rw [edr] at pr'
      unfold forL at pr'
      cases eb : bindT t d env' with
      | none => simp only [eb] at pr'; exact False.elim pr'
      | some env1 =>
        simp only [eb] at pr'
        refine ⟨env', s2, d, env1, rfl, hr2, er'.le l2, rd, eb, fun σ1 er1 _ => ⟨env1, s2, rfl, hr2, er1, trivial, ?_⟩⟩
        show PSt X.K I W _ s2 (evalSs (callF Γ.fns n) ss env1 s2.h)
        rw [← eh2] at pr'
        generalize evalSs (callF Γ.fns n) ss env1 s2.h = r at pr' ⊢
        cases r with
        | ok fl env2 h2 =>
          cases fl with
          | nx =>
            intro s3 σ3 l3 eh3 hr3 er3
            subst eh3
            exact ⟨by omega, env2, s3, rfl, hr3, er3, l'.trans (l2.trans l3), PSt.le pr' (l2.trans l3)⟩
          | ct =>
            intro s3 σ3 l3 eh3 hr3 er3
            subst eh3
            exact ⟨by omega, env2, s3, rfl, hr3, er3, l'.trans (l2.trans l3), PSt.le pr' (l2.trans l3)⟩
          | bk => exact PSt.le (r := .ok .nx env2 h2) pr' l2
          | rt v => exact PSt.le (r := .ok (.rt v) env2 h2) pr' l2
        | exc e env2 h2 => exact PSt.le (r := .exc e env2 h2) pr' l2
        | stuck => exact pr'
end
end Cd
set_option Elab.async false
set_option linter.all false
set_option maxRecDepth 100000
set_option maxHeartbeats 4000000
namespace Cd
open PySem PySem.Spec PyProof.Rows L2
section
variable {K : PySem.W.Frag} {CI : CInf} {s : Sx} {n j : Nat} {xs xs' : List V} {h' : Hi} {ob' : Ob}
theorem own_keep {H' : Hp} {a : Addr} {u : HO} (hr : HR K CI s) (hl : Live s.h n j) (ha : a = s.φ n j) (hx : s.H a = some u) (nt : ∀ ys, u ≠ .tup ys) (nz : ∀ o v, u ≠ .frz o v) (e : H' = upd s.H a ob) (nq : ¬ TEo u := by first | exact te_lst | exact te_dK | exact te_ins) : KeepF s.F s.H s.F H' := by
  subst e
  refine ⟨fun _ h => h, fun b o f e => ?_, fun b ys e => ?_, fun b o v e => ?_, fun b c q e => by
    rw [upd_ne (fun z => by rw [z, hx] at e; exact nq (.inr ⟨c, q, Option.some.inj e⟩))]; exact e⟩
  · rw [upd_ne]; exact e
    rintro rfl
    exact hr.nf n j hl (ha ▸ f)
  · rw [upd_ne]; exact e
    rintro rfl
    rw [hx] at e; cases e
    exact nt _ rfl
  · rw [upd_ne]; exact e
    rintro rfl
    rw [hx] at e; cases e
    exact nz _ _ rfl
/-- the same places, one of them written: the object n gets the form ob' -/
theorem HR.wrO {o : HO} {u : HO} (hr : HR K CI s) (hl : Live s.h n j) (hx : s.H (s.φ n j) = some u) (nt : ∀ ys, u ≠ .tup ys) (nz : ∀ o v, u ≠ .frz o v)
    (hlive : ∀ m k, Live h' m k → Live s.h m k) (hoth : ∀ m, m ≠ n → h'[m]? = s.h[m]?) (hn : ∀ w, h'[n]? = some w → w = ob') (hob : ObR K CI { s with h := h', H := upd s.H (s.φ n j) o } n ob') (nq : ¬ TEo u := by first | exact te_lst | exact te_dK | exact te_ins) : HR K CI { s with h := h', H := upd s.H (s.φ n j) o } where
  ob := fun m w e => by
    by_cases hm : m = n
    · subst hm
      rw [hn w e]; exact hob
    · have e' : s.h[m]? = some w := by rw [← hoth m hm]; exact e
      refine (hr.ob m w e').move (s' := { s with h := h', H := upd s.H (s.φ n j) o }) (own_keep hr hl rfl hx nt nz rfl nq) e' fun k l => ⟨rfl, fun v q => ?_⟩
      show upd s.H (s.φ n j) o (s.φ m k) = some v
      rw [upd_ne]; exact q
      intro z
      exact hm (hr.inj _ _ _ _ l hl z).1
  inj := fun m a q b l1 l2 e => hr.inj m a q b (hlive _ _ l1) (hlive _ _ l2) e
  nf := fun m a l => hr.nf m a (hlive _ _ l)
  bt := fun b hb => by
    obtain ⟨h1, h2, w, h3⟩ := hr.bt b hb
    exact ⟨fun m a l => h1 m a (hlive _ _ l), h2, w, by show upd s.H (s.φ n j) o b = _; rw [upd_ne (fun e => h1 n j hl e.symm)]; exact h3⟩
  ft := fun b hb => by
    obtain ⟨w, h3⟩ := hr.ft b hb
    exact ⟨w, by show upd s.H (s.φ n j) o b = _; rw [upd_ne (fun e => by subst e; exact hr.nf n j hl hb)]; exact h3⟩
  tb := tabs_at hr.tb hx nq
  tn := hr.tn
theorem wrO_le {o : HO} {u : HO} (hr : HR K CI s) (hl : Live s.h n j) (hx : s.H (s.φ n j) = some u) (nt : ∀ ys, u ≠ .tup ys) (nz : ∀ o v, u ≠ .frz o v) (hlen : h'.length = s.h.length) (nq : ¬ TEo u := by first | exact te_lst | exact te_dK | exact te_ins) : Le s { s with h := h', H := upd s.H (s.φ n j) o } :=
  ⟨by show s.h.length ≤ h'.length; omega, fun _ _ => rfl, own_keep hr hl rfl hx nt nz rfl nq, fun b hb => ⟨hb, by show upd s.H (s.φ n j) o b = _; rw [upd_ne (fun e => (hr.bt b hb).1 n j hl e.symm)]⟩⟩
theorem get_set {h : Hi} {n m : Nat} {o w : Ob} (e : (h.set n o)[m]? = some w) : (m = n ∧ w = o) ∨ (m ≠ n ∧ h[m]? = some w) := by
  by_cases hm : m = n
  · subst hm
    have hl : m < h.length := by simpa using (List.getElem?_eq_some_iff.mp e).1
    rw [List.getElem?_set_self hl] at e
    exact .inl ⟨rfl, by cases e; rfl⟩
  · rw [List.getElem?_set_ne (Ne.symm hm)] at e
    exact .inr ⟨hm, e⟩
theorem live_set {h : Hi} {n m k : Nat} {o : Ob} (l : Live (h.set n o) m k) : (m ≠ n ∧ Live h m k) ∨ (m = n ∧ Live (List.replicate n .dead ++ [o]) n k) := by
  have rep : (List.replicate n Ob.dead ++ [o])[n]? = some o := by
    rw [List.getElem?_append_right (by simp)]; simp
  cases k with
  | zero =>
    obtain ⟨w, e, nd⟩ := l
    rcases get_set e with ⟨h1, h2⟩ | ⟨h1, h2⟩
    · subst h2; exact .inr ⟨h1, _, rep, nd⟩
    · exact .inl ⟨h1, w, h2, nd⟩
  | succ k =>
    rcases l with ⟨c, fs, us, e, ef⟩ | ⟨kvs, q, us, e, ef⟩
    · rcases get_set e with ⟨h1, h2⟩ | ⟨h1, h2⟩
      · subst h2; exact .inr ⟨h1, .inl ⟨c, fs, us, rep, ef⟩⟩
      · exact .inl ⟨h1, .inl ⟨c, fs, us, h2, ef⟩⟩
    · rcases get_set e with ⟨h1, h2⟩ | ⟨h1, h2⟩
      · subst h2; exact .inr ⟨h1, .inr ⟨kvs, q, us, rep, ef⟩⟩
      · exact .inl ⟨h1, .inr ⟨kvs, q, us, h2, ef⟩⟩
theorem rep_get {n : Nat} {o w : Ob} (e : (List.replicate n Ob.dead ++ [o])[n]? = some w) : w = o := by
  rw [List.getElem?_append_right (by simp)] at e
  simpa using e.symm
/-- where the list of p is, and that it may be written -/
structure OwnL (K : PySem.W.Frag) (CI : CInf) (s : Sx) (env : Ev) (p : E) (a : Addr) (ts : List PyData) : Prop where
  ex : ∃ xs, s.H a = some (.lst xs) ∧ RFs K s.F s.H ts xs
  wr : ∀ ts' xs' h', storeL env s.h p ts' = some h' → RFs K s.F s.H ts' xs' → ∃ s', s'.H = upd s.H a (.lst xs') ∧ s'.h = h' ∧ HR K CI s' ∧ Le s s'
theorem own_var {env : Ev} {i : Nat} {ts : List PyData} (hr : HR K CI s) (e : getL env s.h (.var i) = some ts) : ∃ n, slot env i = some (.ref n) ∧ s.h[n]? = some (.lst ts) ∧ OwnL K CI s env (.var i) (s.φ n 0) ts := by
  simp only [getL, peek] at e
  cases e1 : lstOf env s.h i with
  | none => rw [e1] at e; cases e
  | some q =>
    rw [e1] at e
    simp only [Option.map_some, Option.some.injEq] at e
    obtain ⟨h1, h2⟩ := lstOf_of e1
    rw [e] at h2
    refine ⟨q.1, h1, h2, ?_, fun ts' xs' h' es r => ?_⟩
    · obtain ⟨xs, h3, h4⟩ := hr.ob _ _ h2
      exact ⟨xs, h3, h4⟩
    · obtain ⟨xs, h3, h4⟩ := hr.ob _ _ h2
      have hl : Live s.h q.1 0 := ⟨_, h2, by intro z; cases z⟩
      have es' : (slotRef env i).map (fun n => s.h.set n (.lst ts')) = some h' := es
      have e3 : slotRef env i = some q.1 := by unfold slotRef; rw [h1]
      rw [e3] at es'
      cases es'
      have kp := own_keep (ob := .lst xs') hr hl rfl h3 (by intro _ z; cases z) (by intro _ _ z; cases z) rfl
      refine ⟨{ s with h := s.h.set q.1 (.lst ts'), H := upd s.H (s.φ q.1 0) (.lst xs') }, rfl, rfl, hr.wrO hl h3 (by intro _ z; cases z) (by intro _ _ z; cases z) (fun m k l => ?_) (fun m hm => ?_) (fun w e => ?_) (ob' := .lst ts') ⟨xs', upd_same, r.keep kp⟩, wrO_le hr hl h3 (by intro _ z; cases z) (by intro _ _ z; cases z) (by simp)⟩
      · rcases live_set l with ⟨_, z⟩ | ⟨rfl, z⟩
        · exact z
        · cases k with
          | zero => exact hl
          | succ k =>
            rcases z with ⟨c, fs, us, e, ef⟩ | ⟨kvs, q, us, e, ef⟩
            all_goals cases rep_get e
      · rw [List.getElem?_set_ne (Ne.symm hm)]
      · rcases get_set e with ⟨_, z⟩ | ⟨z, _⟩
        · exact z
        · exact absurd rfl z
end
section
variable {Γ : Gm} {N : List Str} {sc : Sco} {e tg ea eb ec : Expr} {a b c : E} {ta : Te} {o : O2} {pos p p2 apos : Pos} {es : List Expr} {as : List E} {i j : Nat} {x y f : Str} {t : Tg} {src : Src} {cl : Nat} {names : List Str}
theorem ref_addr {K : PySem.W.Frag} {s : Sx} {env : Ev} {σ : L2.St} (er : ER K s env σ) {n : Nat} (e : slot env i = some (.ref n)) : σ[i]? = some (some (.ref (s.φ n 0))) ∧ n < s.h.length := by
  obtain ⟨x, h1, h2, rfl⟩ := er.at_ i _ e
  exact ⟨h1, h2⟩
/-- the form of a call of a list's method, in one line -/
structure MOk (pos apos : Pos) : Prop where
  line : (apos.endLine == pos.line) = true
abbrev Few (e : Expr) (pos : Pos) : Prop := ∀ env, ((backTo pos (starEach [e] env)).all (fun x => !x.1) && (backToKw pos (keywordEach [] env)).all (fun x => x.1.isSome)
      && decide ([e].length + ([] : List Keyword).length + (if ([] : List Keyword).isEmpty then 0 else 1) < 30)) = true
theorem ds_app {q : Pos} (v : VOk N sc i x) (ha : DV Γ N sc ea a) (m : MOk p apos) (hs : ∀ env, swapsWith (.Call (.Attribute (.Name x q) "append" apos) [ea] [] p) none pos.line env = pure false := by intro _; rfl)
    (hb : Ab x q "append" := by intro _; rfl) (hf : Few ea p := by intro _; rfl) (se : Se1 ea := by intro _; rfl) : DS Γ N sc (.Expr (.Call (.Attribute (.Name x q) "append" apos) [ea] [] p) pos) (.app (.var i) a) := fun n I W X g =>
  (ps_expr (pe_bm PySem.F.plainAttrs_list PySem.F.slot_list_append PySem.F.type_list_append mt_append (v.pe g) (pa_cons (ha n I W X g) pa_nil (se _)) (hb _) (hf _) m.line (se _) rfl) (hs _)).imp fun D σ H q => by
    obtain ⟨env, s, eH, hr, er, _, pr⟩ := q
    replace pr : PSt X.K I W D s (match getL env s.h (.var i) with
      | none => .stuck
      | some _ => ((evalE (callF Γ.fns n) env a s.h).bind unP).toS env fun d h1 => ofH env (appH env (.var i) d h1)) := pr
    cases e0 : getL env s.h (.var i) with
    | none => rw [e0] at pr; exact False.elim pr
    | some ts0 =>
      rw [e0] at pr
      obtain ⟨m0, k1, k2, k3⟩ := own_var hr e0
      obtain ⟨xs0, k4, k5⟩ := k3.ex
      obtain ⟨k6, k7⟩ := ref_addr er k1
      refine ⟨_, k6, .inl ⟨rfl, xs0, .inl (by rw [← eH]; exact Rd.of k4)⟩, ?_⟩
      have q' : AtS X.K I W D σ H (fun s' => s'.φ m0 0 = s.φ m0 0) (fun env' h => ((evalE (callF Γ.fns n) env' a h).bind unP).toS env' fun d h1 => ofH env' (appH env' (.var i) d h1)) := ⟨env, s, eH, hr, er, rfl, pr⟩
      obtain ⟨env1, s1, eH1, hr1, er1, _, pr1⟩ := AtS.bind (Rel1 := PRl X.K) (ev1 := fun env h => (evalE (callF Γ.fns n) env a h).bind unP) (G := fun s' => s'.φ m0 0 = s.φ m0 0 ∧ σ[i]? = some (some (.ref (s'.φ m0 0))) ∧ m0 < s'.h.length) (G' := fun s' => s'.φ m0 0 = s.φ m0 0 ∧ σ[i]? = some (some (.ref (s'.φ m0 0)))) (k := fun d env h1 => ofH env (appH env (.var i) d h1))
        ⟨env, s, eH, hr, er, (⟨rfl, k6, k7⟩ : s.φ m0 0 = s.φ m0 0 ∧ σ[i]? = some (some (.ref (s.φ m0 0))) ∧ m0 < s.h.length), pr⟩ (fun s' s2 l g => by
          obtain ⟨g1, g2, g3⟩ := g
          rw [l.ph m0 g3]; exact ⟨g1, g2⟩)
      refine ⟨env1, s1, eH1, hr1, er1, trivial, PR.mono pr1 fun y H1 ⟨d, env2, s2, e2, hr2, er2, ⟨⟨g1, g2⟩, r⟩, pr2⟩ => ?_⟩
      subst e2
      replace pr2 : PSt X.K I W D s2 (ofH env2 ((getL env2 s2.h (.var i)).bind fun ts => if ts.length < sizeLine then storeL env2 s2.h (.var i) (ts ++ [d]) else none)) := pr2
      cases e3 : getL env2 s2.h (.var i) with
      | none => rw [e3] at pr2; exact False.elim pr2
      | some ts =>
        rw [e3, Option.bind_some] at pr2
        split at pr2
        · rename_i hz
          cases e4 : storeL env2 s2.h (.var i) (ts ++ [d]) with
          | none => rw [e4] at pr2; exact False.elim pr2
          | some h' =>
            rw [e4] at pr2
            obtain ⟨m2, j1, j2, j3⟩ := own_var hr2 e3
            obtain ⟨xs, j4, j5⟩ := j3.ex
            obtain ⟨j6, j7⟩ := ref_addr er2 j1
            rw [g2] at j6
            have j8 : s2.φ m0 0 = s2.φ m2 0 := by simpa using j6
            obtain ⟨s3, eH3, eh3, hr3, l3⟩ := j3.wr _ (xs ++ [y]) _ e4 (j5.append (.cons r .nil))
            refine ⟨_, xs, y, by rw [← g1, j8], rfl, j4, by rw [← j5.length]; exact hz, ?_⟩
            rw [← eH3]
            exact pr2 s3 σ l3 eh3 hr3 (er2.le l3)
        · exact False.elim pr2
theorem ds_ext {q : Pos} (v : VOk N sc i x) (ha : DN Γ N sc ea a) (m : MOk p apos) (hs : ∀ env, swapsWith (.Call (.Attribute (.Name x q) "extend" apos) [ea] [] p) none pos.line env = pure false := by intro _; rfl)
    (hb : Ab x q "extend" := by intro _; rfl) (hf : Few ea p := by intro _; rfl) (se : Se1 ea := by intro _; rfl) : DS Γ N sc (.Expr (.Call (.Attribute (.Name x q) "extend" apos) [ea] [] p) pos) (.ext (.var i) a) := fun n I W X g =>
  (ps_expr (pe_bm PySem.F.plainAttrs_list PySem.F.slot_list_extend PySem.F.type_list_extend mt_extend (v.pe g) (pa_cons (ha n I W X g) pa_nil (se _)) (hb _) (hf _) m.line (se _) rfl) (hs _)).imp fun D σ H q => by
    obtain ⟨env, s, eH, hr, er, _, pr⟩ := q
    replace pr : PSt X.K I W D s (match getL env s.h (.var i) with
      | none => .stuck
      | some _ => ((evalE (callF Γ.fns n) env a s.h).bind unP).toS env fun d h1 => ofH env (extH env (.var i) d h1)) := pr
    cases e0 : getL env s.h (.var i) with
    | none => rw [e0] at pr; exact False.elim pr
    | some ts0 =>
      rw [e0] at pr
      obtain ⟨m0, k1, k2, k3⟩ := own_var hr e0
      obtain ⟨xs0, k4, k5⟩ := k3.ex
      obtain ⟨k6, k7⟩ := ref_addr er k1
      refine ⟨_, k6, .inl ⟨rfl, xs0, .inl (by rw [← eH]; exact Rd.of k4)⟩, ?_⟩
      obtain ⟨env1, s1, eH1, hr1, er1, _, pr1⟩ := AtS.bind (Rel1 := RN X.K) (ev1 := fun env h => (evalE (callF Γ.fns n) env a h).bind unP) (G := fun s' => s'.φ m0 0 = s.φ m0 0 ∧ σ[i]? = some (some (.ref (s'.φ m0 0))) ∧ m0 < s'.h.length) (G' := fun s' => s'.φ m0 0 = s.φ m0 0 ∧ σ[i]? = some (some (.ref (s'.φ m0 0)))) (k := fun d env h1 => ofH env (extH env (.var i) d h1))
        ⟨env, s, eH, hr, er, (⟨rfl, k6, k7⟩ : s.φ m0 0 = s.φ m0 0 ∧ σ[i]? = some (some (.ref (s.φ m0 0))) ∧ m0 < s.h.length), pr⟩ (fun s' s2 l g => by
          obtain ⟨g1, g2, g3⟩ := g
          rw [l.ph m0 g3]; exact ⟨g1, g2⟩)
      refine ⟨env1, s1, eH1, hr1, er1, trivial, PR.mono pr1 fun y H1 ⟨d, env2, s2, e2, hr2, er2, ⟨⟨g1, g2⟩, r⟩, pr2⟩ => ?_⟩
      subst e2
      obtain ⟨ds, p0, ys, rfl, rfl, hp0, q0, nf, nl, nb⟩ := r
      replace pr2 : PSt X.K I W D s2 (ofH env2 ((getL env2 s2.h (.var i)).bind fun ts => if ts.length + ds.length ≤ sizeLine then storeL env2 s2.h (.var i) (ts ++ ds) else none)) := pr2
      cases e3 : getL env2 s2.h (.var i) with
      | none => rw [e3] at pr2; exact False.elim pr2
      | some ts =>
        rw [e3, Option.bind_some] at pr2
        split at pr2
        · rename_i hz
          cases e4 : storeL env2 s2.h (.var i) (ts ++ ds) with
          | none => rw [e4] at pr2; exact False.elim pr2
          | some h' =>
            rw [e4] at pr2
            obtain ⟨m2, j1, j2, j3⟩ := own_var hr2 e3
            obtain ⟨xs, j4, j5⟩ := j3.ex
            obtain ⟨j6, j7⟩ := ref_addr er2 j1
            rw [g2] at j6
            have j8 : s2.φ m0 0 = s2.φ m2 0 := by simpa using j6
            obtain ⟨s3, eH3, eh3, hr3, l3⟩ := j3.wr _ (xs ++ ys) _ e4 (j5.append q0)
            refine ⟨_, p0, xs, ys, by rw [← g1, j8], rfl, j4, hp0, by rw [← j5.length, ← q0.length]; exact hz, ?_⟩
            rw [← eH3]
            exact pr2 s3 σ l3 eh3 hr3 (er2.le l3)
        · exact False.elim pr2
/-- xs.pop(k) of a list of the heap -/
theorem ixN_eq {n : Nat} {k : Int} {j : Nat} (h : ixN n k = some j) : seqIndex? k n = some j := (ixN_seq h).1
theorem pop_inv {env : Ev} {i : Nat} {d : PyData} {h : Hi} : popK env i d h = .stuck ∨ ∃ p k j x, lstOf env h i = some p ∧ d = .int k ∧ ixN p.2.length k = some j ∧ p.2[j]? = some x ∧ (-(2 ^ 63) ≤ k ∧ k < 2 ^ 63) ∧ popK env i d h = .ok (.p x) (h.set p.1 (.lst (p.2.eraseIdx j))) := by
  unfold popK
  cases e1 : lstOf env h i with
  | none => exact .inl rfl
  | some p =>
    cases d with
    | int k =>
      simp only
      cases e2 : ixN p.2.length k with
      | none => exact .inl rfl
      | some j =>
        simp only
        cases e3 : p.2[j]? with
        | none => exact .inl rfl
        | some x =>
          simp only
          split
          · rename_i hz
            exact .inr ⟨p, k, j, x, rfl, rfl, e2, e3, by omega, rfl⟩
          · exact .inl rfl
    | _ => exact .inl rfl
theorem de_pop {q : Pos} (v : VOk N sc i x) (ha : DV Γ N sc ea a) (m : MOk p apos) (hb : Ab x q "pop" := by intro _; rfl) (hf : Few ea p := by intro _; rfl) (se : Se1 ea := by intro _; rfl) : DE Γ N sc (.Call (.Attribute (.Name x q) "pop" apos) [ea] [] p) (.pop i a) := fun n I W X g =>
  (pe_bm PySem.F.plainAttrs_list PySem.F.slot_list_pop PySem.F.type_list_pop mt_popAt (v.pe g) (pa_cons (ha n I W X g) pa_nil (se _)) (hb _) (hf _) m.line (se _) rfl).imp fun σ H Q q => by
    obtain ⟨env, s, eH, hr, er, _, pr⟩ := q
    replace pr : PR X.K I W s σ (match lstOf env s.h i with
      | none => .stuck
      | some _ => ((evalE (callF Γ.fns n) env a s.h).bind unP).bind fun d h1 => popK env i d h1) (VR X.K) Q := pr
    cases e0 : lstOf env s.h i with
    | none => rw [e0] at pr; exact False.elim pr
    | some p0 =>
      rw [e0] at pr
      have e0' : getL env s.h (.var i) = some p0.2 := by simp only [getL, peek, e0, Option.map_some]
      obtain ⟨m0, k1, k2, k3⟩ := own_var hr e0'
      obtain ⟨xs0, k4, k5⟩ := k3.ex
      obtain ⟨k6, k7⟩ := ref_addr er k1
      refine ⟨_, k6, .inl ⟨rfl, xs0, .inl (by rw [← eH]; exact Rd.of k4)⟩, ?_⟩
      obtain ⟨env1, s1, eH1, hr1, er1, _, pr1⟩ := At.bind (Rel1 := PRl X.K) (ev1 := fun env h => (evalE (callF Γ.fns n) env a h).bind unP) (G := fun s' => s'.φ m0 0 = s.φ m0 0 ∧ σ[i]? = some (some (.ref (s'.φ m0 0))) ∧ m0 < s'.h.length) (G' := fun s' => s'.φ m0 0 = s.φ m0 0 ∧ σ[i]? = some (some (.ref (s'.φ m0 0)))) (ev2 := fun d env h1 => popK env i d h1)
        ⟨env, s, eH, hr, er, (⟨rfl, k6, k7⟩ : s.φ m0 0 = s.φ m0 0 ∧ σ[i]? = some (some (.ref (s.φ m0 0))) ∧ m0 < s.h.length), pr⟩ (fun s' s2 l g => by
          obtain ⟨g1, g2, g3⟩ := g
          rw [l.ph m0 g3]; exact ⟨g1, g2⟩)
      refine ⟨env1, s1, eH1, hr1, er1, trivial, PR.mono pr1 fun y H1 ⟨d, env2, s2, e2, hr2, er2, ⟨⟨g1, g2⟩, r⟩, pr2⟩ => ?_⟩
      subst e2
      replace pr2 : PR X.K I W s2 σ (popK env2 i d s2.h) (VR X.K) Q := pr2
      rcases pop_inv (env := env2) (i := i) (d := d) (h := s2.h) with e3 | ⟨p, k, j, z, e3, rfl, e4, e5, e6, e7⟩
      · rw [e3] at pr2; exact False.elim pr2
      · rw [e7] at pr2
        obtain rfl := RF.int_inv r
        have e8 : getL env2 s2.h (.var i) = some p.2 := by simp only [getL, peek, e3, Option.map_some]
        obtain ⟨m2, j1, j2, j3⟩ := own_var hr2 e8
        obtain ⟨xs, j4, j5⟩ := j3.ex
        obtain ⟨j6, j7⟩ := ref_addr er2 j1
        rw [g2] at j6
        have j8 : s2.φ m0 0 = s2.φ m2 0 := by simpa using j6
        obtain ⟨w, hw, rw'⟩ := j5.get e5
        have e9 : storeL env2 s2.h (.var i) (p.2.eraseIdx j) = some (s2.h.set p.1 (.lst (p.2.eraseIdx j))) := by
          have : slotRef env2 i = some p.1 := by unfold slotRef; rw [(lstOf_of e3).1]
          simp only [storeL, this, Option.map_some]
        obtain ⟨s3, eH3, eh3, hr3, l3⟩ := j3.wr _ (xs.eraseIdx j) _ e9 (j5.eraseIdx j)
        refine ⟨_, xs, k, j, w, by rw [← g1, j8], rfl, j4, e6.1, e6.2, by rw [← j5.length]; exact ixN_eq e4, hw, ?_⟩
        rw [← eH3]
        exact pr2 s3 w l3 eh3 hr3 (RF.keep l3.kf rw')
end
end Cd
set_option Elab.async false
set_option linter.all false
set_option maxRecDepth 100000
set_option maxHeartbeats 4000000
namespace Cd
open PySem PySem.Spec PyProof.Rows L2
theorem callF_np {fns : Nat → Option FnD} {n f : Nat} {d : FnD} {args : List Val} {h : Hi} (e : fns f = some d) : args.length = d.np ∨ callF fns n f args h = .stuck := by
  cases n with
  | zero => exact .inr rfl
  | succ n =>
    unfold callF
    rw [e]
    by_cases z : args.length = d.np
    · exact .inl z
    · refine .inr ?_
      show (if args.length = d.np then _ else R.stuck) = R.stuck
      exact if_neg z
section
variable {Γ : Gm} {N : List Str} {sc : Sco} {e tg ea eb ec : Expr} {a b c : E} {ta : Te} {o : O2} {pos p p2 apos : Pos} {es : List Expr} {as : List E} {i j fi : Nat} {x y f m : Str} {t : Tg} {src : Src} {cl : Nat} {names : List Str}
/-- what a callee is asked -/
theorem sp_of {K : PySem.W.Frag} {I : Inf} {W : WX} {s : Sx} {σ : L2.St} {fns : Nat → Option FnD} {n : Nat} {d : FnD} {args : List Val} {vs : List V} {Q : V → Hp → Prop} (e : fns fi = some d) (hr : HR K I.ci s) (rel : Paired (VR K s) args vs) (pr : PR K I W s σ (callF fns n fi args s.h) (VR K) Q) :
    spF K I fns n fi d.np vs s.H Q (WE W σ) := by
  rcases callF_np (fns := fns) (n := n) (f := fi) (args := args) (h := s.h) e with h | h
  · refine ⟨s, args, rfl, hr, rel, h, ?_⟩
    generalize callF fns n fi args s.h = r at pr ⊢
    cases r with
    | ok v h1 => exact pr
    | exc e h1 => exact pr
    | stuck => exact pr
  · rw [h] at pr; exact False.elim pr
abbrev Pl (es : List Expr) (pos : Pos) : Prop := ∀ env, (backTo pos (starEach es env)).any (·.1) = false
theorem de_call (v : GOk sc x) (hf : (x, fi) ∈ Γ.defs) (ha : DAs Γ N sc (ea :: es) as) (he : Sec ea es := by intro _; rfl) (hpl : Pl es pos := by intro _; rfl) : DE Γ N sc (.Call (.Name x p) (ea :: es) [] pos) (.call fi as) := fun n I W X g => by
  obtain ⟨a, hm, hk, hfn, fd, ps, d, e1, e2, hb, F⟩ := g.fn _ hf
  refine (pe_callS (E := WE W) F (g.room.mono (by omega)) (v.g g) hm hk hb (fun σ => passAt g.tk σ) (ha n I W X g) v.db (he _) (hpl _)).imp fun σ H Q q => ?_
  obtain ⟨env, s, eH, hr, er, _, pr⟩ := At.bind (Rel1 := fun s ds vs => Paired (VR X.K s) ds vs ∧ ds.length = as.length) (ev2 := fun vs env h1 => callF Γ.fns n fi vs h1) q
  refine ⟨env, s, eH, hr, er, trivial, PR.mono pr fun vs H1 ⟨args, env, s, eH, hr, er, ⟨_, rel⟩, pr⟩ => ?_⟩
  subst eH
  exact sp_of e1 hr rel.1 pr
end
section
variable {K : PySem.W.Frag} {CI : CInf} {s : Sx} {x dx C : Addr} {c : Nat} {names : List Str}
end
section
variable {Γ : Gm} {N : List Str} {sc : Sco} {ea : Expr} {pos p : Pos} {es : List Expr} {as : List E} {fi : Nat} {x : Str} {cl : Nat}
end
end Cd
set_option Elab.async false
set_option linter.all false
set_option maxRecDepth 100000
set_option maxHeartbeats 4000000
namespace Cd
open PySem PySem.Spec PyProof.Rows L2
section
variable {Γ : Gm} {N : List Str} {sc : Sco} {e tg ea eb ec : Expr} {a b c : E} {ta : Te} {o : O2} {pos p p2 apos : Pos} {es : List Expr} {as : List E} {i j fi : Nat} {x y f m : Str} {t : Tg} {src : Src} {cl : Nat} {names : List Str}
theorem dp_neg (ha : DP Γ N sc ea a) (np : ∀ env h, peek env h a = none := by intros; rfl) : DP Γ N sc (.UnaryOp .USub ea pos) (.op1 .neg a) where
  run := fun n I W X g => (pe_un un_neg (ha.run n I W X g)).imp fun σ H Q ⟨env, s, eH, hr, er, pr⟩ => by
    refine ⟨env, s, eH, hr, er, ?_⟩
    replace pr : (match (bor env s.h a (evalE (callF Γ.fns n) env a s.h)).bind (fun x h1 => Cd.ofO ((negS x).map Val.p) h1) with
      | .ok (.p d) h' => h' = s.h ∧ ∀ x, RF X.K s.F s.H d x → Q x H
      | _ => False) := pr
    simp only [bor, np] at pr
    show (match evalE (callF Γ.fns n) env a s.h with
    | .ok (.p d2) h' => h' = s.h ∧ ∀ y, RF X.K s.F s.H d2 y → rU (fun i => .int (-i)) y H Q
    | _ => False)
    rcases ha.pure (callF Γ.fns n) env s.h with ⟨v, e⟩ | e
    · rw [e] at pr ⊢
      cases v with
      | p d =>
        simp only [R.bind_ok, unP] at pr
        refine ⟨rfl, fun y ry => ?_⟩
        cases d with
        | int k =>
          obtain rfl := ry.int_inv
          exact ⟨k, rfl, pr.2 _ (.int _)⟩
        | _ => exact False.elim pr
      | ref m => exact False.elim pr
    · rw [e] at pr
      exact False.elim pr
  pure := fun cf env h => by
    show (∃ v, (bor env h a (evalE cf env a h)).bind (fun x h1 => Cd.ofO ((negS x).map Val.p) h1) = .ok v h) ∨ (bor env h a (evalE cf env a h)).bind (fun x h1 => Cd.ofO ((negS x).map Val.p) h1) = .stuck
    simp only [bor, np]
    rcases ha.pure cf env h with ⟨v, e⟩ | e
    · rw [e]
      cases v with
      | p d =>
        simp only [R.bind_ok, unP]
        cases negS d with
        | none => exact .inr rfl
        | some z => exact .inl ⟨_, rfl⟩
      | ref m => exact .inr rfl
    · rw [e]; exact .inr rfl
def tO (K : PySem.W.Frag) (I : Inf) (l : Bool) (r : Ev → Hi → R Val) : TO := fun σ H Q => ∃ env s, s.H = H ∧ HR K I.ci s ∧ ER K s env σ ∧ match r env s.h with
  | .ok (.p d) h' => h' = s.h ∧ ∃ o, partD l d = some o ∧ Q o H
  | _ => False
structure DO (Γ : Gm) (N : List Str) (sc : Sco) (l : Bool) (e : Option Expr) (a : E) : Prop where
  run : ∀ n I W X, GX Γ n I N sc W X → PO X e (tO X.K I l (fun env h => evalE (callF Γ.fns n) env a h))
  pure : ∀ cf env h, (∃ v, evalE cf env a h = .ok v h) ∨ evalE cf env a h = .stuck
theorem _root_.L2.PO.imp {X : Cx} {e : Option Expr} {t t' : TO} (h : PO X e t) (i : ∀ σ H Q, t' σ H Q → t σ H Q) : PO X e t' := ⟨fun pins s σ H Q I q => h.run pins s σ H Q I (i σ H Q q)⟩
theorem do_none : DO Γ N sc false none (.lit .none) where
  run := fun n I W X g => po_none.imp fun σ H Q ⟨env, s, eH, hr, er, _, o, e, q⟩ => by
    cases e
    exact q
  pure := fun cf env h => .inl ⟨_, rfl⟩
theorem do_some (ha : DP Γ N sc ea a) : DO Γ N sc true (some ea) a where
  run := fun n I W X g => (po_some (ha.run n I W X g)).imp fun σ H Q ⟨env, s, eH, hr, er, pr⟩ => by
    refine ⟨env, s, eH, hr, er, ?_⟩
    replace pr : (match evalE (callF Γ.fns n) env a s.h with
      | .ok (.p d) h' => h' = s.h ∧ ∃ o, partD true d = some o ∧ Q o H
      | _ => False) := pr
    show (match evalE (callF Γ.fns n) env a s.h with
    | .ok (.p d2) h' => h' = s.h ∧ ∀ y, RF X.K s.F s.H d2 y → ∃ i, y = .int i ∧ Q (some i) H
    | _ => False)
    generalize evalE (callF Γ.fns n) env a s.h = r at pr ⊢
    cases r with
    | ok v h1 =>
      cases v with
      | p d =>
        obtain ⟨e0, o, e1, q⟩ := pr
        refine ⟨e0, fun y ry => ?_⟩
        cases d with
        | int k =>
          obtain rfl := ry.int_inv
          cases e1
          exact ⟨k, rfl, q⟩
        | _ => cases e1
      | ref m => exact pr
    | exc e h1 => exact pr
    | stuck => exact pr
  pure := ha.pure
theorem opf3_inv {l u : Bool} {d x y z : PyData} (e : opf3 (.slice l u) d x y = some z) : ∃ ts lo hi, partD l x = some lo ∧ partD u y = some hi ∧ ((d = .list ts ∧ z = .list (cutD ts lo hi)) ∨ (d = .tuple ts ∧ z = .tuple (cutD ts lo hi))) := by
  cases d with
  | list ts =>
    have e' : ((partD l x).bind fun lo => (partD u y).map fun hi => PyData.list (cutD ts lo hi)) = some z := e
    rw [Option.bind_eq_some_iff] at e'
    obtain ⟨lo, e1, e2⟩ := e'
    rw [Option.map_eq_some_iff] at e2
    obtain ⟨hi, e2, rfl⟩ := e2
    exact ⟨ts, lo, hi, e1, e2, .inl ⟨rfl, rfl⟩⟩
  | tuple ts =>
    have e' : ((partD l x).bind fun lo => (partD u y).map fun hi => PyData.tuple (cutD ts lo hi)) = some z := e
    rw [Option.bind_eq_some_iff] at e'
    obtain ⟨lo, e1, e2⟩ := e'
    rw [Option.map_eq_some_iff] at e2
    obtain ⟨hi, e2, rfl⟩ := e2
    exact ⟨ts, lo, hi, e1, e2, .inr ⟨rfl, rfl⟩⟩
  | _ => cases e
theorem RFs.cut {K : PySem.W.Frag} {F : Addr → Prop} {H : Hp} {ts : List PyData} {xs : List V} (r : RFs K F H ts xs) (lo hi : Option Int) : RFs K F H (cutD ts lo hi) (cutV xs lo hi) := by
  unfold cutD cutV
  rw [r.length]
  exact (r.drop _).take _
theorem cutD_all {ts : List PyData} {lo hi : Option Int} (h : HT.sIx ts.length 0 lo = 0 ∧ HT.sIx ts.length ts.length hi = ts.length) : cutD ts lo hi = ts := by
  unfold cutD
  rw [h.1, h.2]
  simp
/-- t[lo:hi], what it lays known -/
def rSlTk (K : PySem.W.Frag) : V → Option Int → Option Int → Hp → VK → Prop := fun x lo hi H Q => ∃ a xs, x = .ref a ∧ SqT K H a xs ∧
  (HT.sIx xs.length 0 lo = 0 ∧ HT.sIx xs.length xs.length hi = xs.length → Q (.ref a) H) ∧ (¬ (HT.sIx xs.length 0 lo = 0 ∧ HT.sIx xs.length xs.length hi = xs.length) → ∀ p o, H p = none → TupO o → Q (.ref p) (upd H p (.frz o (.tup (cutV xs lo hi)))))
theorem sl_tupS {X : Cx} : SlR X (rSlTk X.K) := by
  intro pins s σ H x v vl vu lo hi sl Q I rx hs pl pu h
  obtain ⟨a, xs, rfl, hx, q1, q2⟩ := h
  by_cases hw : HT.sIx xs.length 0 lo = 0 ∧ HT.sIx xs.length xs.length hi = xs.length
  · exact sl_tupA pins s σ H _ v vl vu lo hi sl Q I rx hs pl pu ⟨a, xs, rfl, hx, q1, fun z => absurd hw z⟩
  · cases rx
    obtain ⟨its, r, ht, hz⟩ := I.tuple hx
    have hlen : its.toArray.size = xs.length := by rw [List.size_toArray]; exact r.length.symm
    refine ⟨"tuple", _, PyProof.Rows.slot_tuple_getitem.lookup, ht.typeIs, ?_⟩
    refine HT.getItem_tuple_cut ht hs pl pu (by rw [hlen]; exact hw) ?_ (by rw [hlen]; exact hz)
    rw [hlen]
    refine ⟨.ref s.heap.objs.size, _, I.laid (t' := s.toks) (o := .frz { cls := .type "tuple", data := .seq ((its.drop (HT.sIx xs.length 0 lo)).take (HT.sIx xs.length xs.length hi - HT.sIx xs.length 0 lo)).toArray } (.tup (cutV xs lo hi))) (fun b ob q => Heap.get?_push_of_some _ q) (Nat.le_refl _) ?_, rfl, q2 hw _ _ (I.hok.fresh (Nat.le_refl _)) ⟨rfl, rfl⟩⟩
    exact ⟨Heap.get?_push_size _ rfl, Nat.le_trans (cutV_length xs lo hi) hz, _, (r.drop (HT.sIx xs.length 0 lo)).take (HT.sIx xs.length xs.length hi - HT.sIx xs.length 0 lo), IsTup.new _ _⟩
theorem de_slice {l u : Bool} {lo hi : Option Expr} (ha : DB Γ N sc ea a) (hl : DO Γ N sc l lo b) (hu : DO Γ N sc u hi c) : DE Γ N sc (.Subscript ea (.Slice lo hi none p2) pos) (.op3b (.slice l u) a b c) := fun n I W X g =>
  (pe_slice (sl_list.or sl_tupS) (ha n I W X g) (hl.run n I W X g) (hu.run n I W X g)).imp fun σ H Q q => by
    obtain ⟨env, s, eH, hr, er, _, pr⟩ := At.bind (Rel1 := RB X.K) (ev1 := fun env h => bor env h a (evalE (callF Γ.fns n) env a h)) (ev2 := fun x env h => ((evalE (callF Γ.fns n) env b h).bind unP).bind fun y h2 => ((evalE (callF Γ.fns n) env c h2).bind unP).bind fun z h3 => ofO ((opf3 (.slice l u) x y z).map Val.p) h3) q
    refine ⟨env, s, eH, hr, er, trivial, ?_⟩
    refine PR.mono pr fun x H1 ⟨d, env, s, eH, hr, er, ⟨_, rb⟩, pr⟩ => ?_
    refine ⟨env, s, eH, hr, er, ?_⟩
    replace pr : PR X.K I W s σ (((evalE (callF Γ.fns n) env b s.h).bind unP).bind fun y h2 => ((evalE (callF Γ.fns n) env c h2).bind unP).bind fun z h3 => ofO ((opf3 (.slice l u) d y z).map Val.p) h3) (VR X.K) Q := pr
    show (match evalE (callF Γ.fns n) env b s.h with
    | .ok (.p d) h' => h' = s.h ∧ ∃ o, partD l d = some o ∧ tO X.K I u (fun env h => evalE (callF Γ.fns n) env c h) σ H1 _
    | _ => False)
    rcases hl.pure (callF Γ.fns n) env s.h with ⟨v, e⟩ | e
    · rw [e] at pr ⊢
      cases v with
      | ref m => exact False.elim pr
      | p d1 =>
        simp only [R.bind_ok, unP] at pr
        rcases hu.pure (callF Γ.fns n) env s.h with ⟨v2, e2⟩ | e2
        · rw [e2] at pr
          cases v2 with
          | ref m => exact False.elim pr
          | p d2 =>
            simp only [R.bind_ok, unP] at pr
            obtain ⟨z, e3, fin⟩ := PR.fin (o := opf3 (.slice l u) d d1 d2) pr hr
            obtain ⟨ts, lo', hi', e4, e5, ez⟩ := opf3_inv e3
            refine ⟨rfl, lo', e4, env, s, eH, hr, er, ?_⟩
            show (match evalE (callF Γ.fns n) env c s.h with
            | .ok (.p d) h' => h' = s.h ∧ ∃ o, partD u d = some o ∧ _
            | _ => False)
            rw [e2]
            refine ⟨rfl, hi', e5, ?_⟩
            subst eH
            rcases ez with ⟨rfl, rfl⟩ | ⟨rfl, rfl⟩
            · obtain ⟨p0, xs, rfl, h1, q1⟩ := rb.lst
              exact .inl ⟨p0, xs, rfl, h1, fun p' hp => fin.2 p' _ hp (lst_new hp (q1.cut lo' hi'))⟩
            · obtain ⟨p0, xs, rfl, h1, q1⟩ := rb.tupN
              refine .inr ⟨p0, xs, rfl, h1.1, fun w => ?_, fun _ p' o hp ho => fin.2 p' _ hp (tup_new hp ho (q1.cut lo' hi'))⟩
              rw [← q1.length] at w
              refine fin.1 _ ?_
              rw [cutD_all w]
              exact .tup h1 q1
        · rw [e2] at pr; exact False.elim pr
    · rw [e] at pr; exact False.elim pr
set_option maxHeartbeats 1000000 in
/-- enumerate.__new__ of whatever may be walked -/
theorem enum_new1 {v : Value} {o : Obj} {C : Heap → Prop} (B : Begins v o C) :
    Meets (Builtin.«enumerate.__new__» ⟨[.type "enumerate", v], []⟩) (fun _ R s => C s.heap ∧
      R (.ok (.ret (.ref (s.heap.push o).objs.size))) { s with heap := (s.heap.push o).push { cls := .type "enumerate", data := .fields #[.none, .bool false, .ref s.heap.objs.size, rawInt 0, .none, .none] } }) :=
  .of_wp fun prog w A R s ⟨h1, h2⟩ => by
    obtain ⟨h0, gs, dr, tk, os⟩ := s
    have sub := sub_enumerate
    have it : ∀ {A' : Around} {E : Value → Shared → Prop} {Q : Value → Shared → Prop}, Q (.ref h0.objs.size) ⟨h0.push o, gs, dr, tk, os⟩ → wpAny (model prog w) A' (pyIter v) Q E ⟨h0, gs, dr, tk, os⟩ := fun q => B.iter prog w _ _ ⟨h0, gs, dr, tk, os⟩ _ h1 q
    wp_walk using it
    refine wpAny_stack_any fun st => wpAny_pure ?_
    split
    · rename_i cc _ _ _ _ _
      cases (cc == Value.type "enumerate") <;> (wp_walk using it; exact ⟨_, rfl, h2⟩)
    · wp_walk using it
      exact ⟨_, rfl, h2⟩
def ItE (C : Hp → Prop) (xs : List V) : It :=
  ⟨fun i H => C H ∧ i < xs.length, fun i H v H' => ∃ T x, v = .ref T ∧ H T = none ∧ H' = upd H T (.tup [.int (i : Nat), x]) ∧ xs[i]? = some x, fun i H => C H ∧ i = xs.length⟩
theorem turn_enumS {P : Program} {w : World} {K : PySem.W.Frag} {elts : List Expr} {kk : Nat} {tpos : Pos} {en it : Addr} {v : Value} {xs : List V} {C : Hp → Prop} {own : List Addr} {T : Addr → Nat → Heap → Prop} (S : SeqV K v xs C own T) (n1 : en ≠ it) (n2 : en ∉ own) (n3 : it ∉ own) :
    Turn P w K (.Tuple elts kk tpos) (ItE C xs) [en, it] en (fun i h => (∃ old, IsEnum h en it (0 + (i : Int)) old) ∧ T it i h) where
  mem := by simp
  obj := fun i h ⟨⟨old, he⟩, t⟩ b hb => by
    simp only [List.mem_cons, List.not_mem_nil, or_false] at hb
    rcases hb with rfl | rfl
    · exact ⟨_, he, fun v q => nomatch q⟩
    · exact S.ob _ _ _ t
  keep := fun i h h' ⟨⟨old, he⟩, t⟩ k => ⟨⟨old, k en (by simp) _ he⟩, S.at_ _ _ _ _ t (fun o e => k it (by simp) o e)⟩
  item := by
    intro X hP hw hK hc i pins s σ H E I hf st ⟨c, hi⟩
    subst hP hw hK
    obtain ⟨⟨old, he⟩, t⟩ := st
    have hh := I.ok.hd hc
    obtain ⟨P1, Q1, p1, D1, m1⟩ := S.drw X pins σ H s X.A.in1 it rfl I c (by simp [hh]) n3
    refine (GoesN.enumFrom (elts := elts) (x1 := kk) (pos := tpos) 0 D1 en n1 (by simp [n1, n2]) (by simp)).goes i s _ E hi ⟨⟨old, he⟩, t, p1⟩ fun v h' tk hY st' hk htk => ?_
    obtain ⟨T1, tt, y, rfl, hnew, hy, hT⟩ := hY
    obtain ⟨y', ey, ry⟩ := m1 i y hy
    obtain ⟨he', t', _⟩ := st'
    have new : ObjOk X.prog X.w (upd H T1 (.tup [.int (i : Nat), y'])) h' T1 (.tup [.int (i : Nat), y']) := by
      rw [Int.zero_add] at hT
      exact ⟨by show 2 ≤ sizeLine; decide, [.int (i : Nat) tt, y], .cons ⟨_, rfl⟩ (.cons ry .nil), hT⟩
    have I1 : Inv X pins σ (upd H T1 (.tup [.int (i : Nat), y'])) { s with heap := h', toks := tk } :=
      I.turnedNew (ch := [en, it]) (fun b o hb q => hk b o hb q) hf hnew new
    refine ⟨.ref T1, _, I1, rfl, ⟨T1, y', rfl, I.hok.fresh hnew, rfl, ey⟩, ⟨he', t'⟩, fun b hb => ?_⟩
    have hlt : b < s.heap.objs.size := by
      simp only [List.mem_cons, List.not_mem_nil, or_false] at hb
      rcases hb with rfl | rfl
      · exact Heap.lt_size he
      · obtain ⟨o, ho, _⟩ := S.ob _ _ _ t
        exact Heap.lt_size ho
    rw [upd_ne (Nat.ne_of_lt (Nat.lt_of_lt_of_le hlt hnew))]
    exact (hf b hb).1
  done := by
    intro X hP hw hK hc i pins s σ H E I hf st ⟨c, hi⟩
    subst hP hw hK
    obtain ⟨he, t⟩ := st
    have hh := I.ok.hd hc
    obtain ⟨P1, Q1, p1, D1, m1⟩ := S.drw X pins σ H s X.A.in1 it rfl I c (by simp [hh]) n3
    subst hi
    refine (GoesN.enumFrom (elts := elts) (x1 := kk) (pos := tpos) 0 D1 en n1 (by simp [n1, n2]) (by simp)).stops s _ E ⟨he, t, p1⟩ fun h' tk hk htk => ?_
    exact I.turnedL (ch := [en, it]) (fun b o hb q => hk b o hb q) hf
  self := fun A i s Q E st h => by
    obtain ⟨⟨_, he⟩, _⟩ := st
    exact wpAny_pyIter_enum he h
def iEnumS (K : PySem.W.Frag) (ta : TA) : TI := fun σ H R => ta σ H fun vs H1 => ∃ k x xs, vs = [x] ∧ SqK K k x xs H1 ∧ R (ItE (SqK K k x xs) xs) H1
theorem enum_of {P : Program} {w : World} {A : Around} {E : Value → Shared → Prop} {s : Shared} {v : Value} {o : Obj} {C : Heap → Prop} {Q : Value → Shared → Prop} (B : Begins v o C) (h1 : C s.heap)
    (h : ∀ h', IsEnum h' (s.heap.objs.size + 1) s.heap.objs.size 0 .none → h'.get? s.heap.objs.size = some o → (∀ b u, s.heap.get? b = some u → h'.get? b = some u) → Q (.ref (s.heap.objs.size + 1)) { s with heap := h' }) :
    wpAny (model P w) A (call (.type "enumerate") [v]) Q E s := by
  refine callType_new F.called_enumerate (by decide) (F.typeCall_enumerate_1 _) (F.newCall_enumerate_1 _) (fun obj => F.args_object_init_2 obj _) F.entry_enumerate_new (enum_new1 B) ⟨h1, ?_⟩
  show _ ∧ _
  have en : ((s.heap.push o).push { cls := .type "enumerate", data := .fields #[.none, .bool false, .ref s.heap.objs.size, rawInt 0, .none, .none] }).get? (s.heap.objs.size + 1) = some { cls := .type "enumerate", data := .fields #[.none, .bool false, .ref s.heap.objs.size, rawInt 0, .none, .none] } := by
    have z := Heap.get?_push_size (s.heap.push o) (o := { cls := .type "enumerate", data := .fields #[.none, .bool false, .ref s.heap.objs.size, rawInt 0, .none, .none] }) rfl
    rwa [Heap.size_push] at z
  rw [Heap.size_push]
  exact ⟨⟨_, en, rfl⟩, h _ en (Heap.get?_push_of_some _ (Heap.get?_push_size _ B.free)) fun b u e => Heap.get?_push_of_some _ (Heap.get?_push_of_some _ e)⟩
theorem pi_enumS {X : Cx} {e : Expr} {ta : TA} {p pos tpos : Pos} {elts : List Expr} {kk : Nat} (hg : Gl X "enumerate") (hm : X.mg "enumerate" = none) (ha : PA X [e] ta) (hs : starEach [e] X.env = [(false, eval e X.env)]) :
    PI X (.Tuple elts kk tpos) (.Call (.Name "enumerate" p) [e] [] pos) (iEnumS X.K ta) := ⟨fun pins s σ H R I h => by
  refine Call_ (ld_blt I hg hm boot_enumerate (PyProof.Rows.callWith_type1 (thn (ha.run pos pins s σ H _ I h) fun us s1 ⟨vs, H1, I1, r1, k, x, xs, ex, hx, q⟩ => ?_) hs rfl))
  subst ex
  obtain ⟨u, rfl, rx⟩ := r1.one
  obtain ⟨own, T, S⟩ := seq_of hx rx
  obtain ⟨o, Pre, B, p1, st1, l1⟩ := S.beg X pins σ H1 s1 rfl I1 hx
  refine enum_of B p1 fun h' he hit hk => wpAny_pyIter_enum he ?_
  have I2 : Inv X pins σ H1 { s1 with heap := h' } := I1.kept (t' := s1.toks) hk
  refine ⟨s1.heap.objs.size + 1, [s1.heap.objs.size + 1, s1.heap.objs.size], _, _, H1, rfl, I2, turn_enumS S (Nat.succ_ne_self _) (fun m => Nat.lt_irrefl _ (Nat.lt_of_succ_lt (l1 _ m))) (fun m => Nat.lt_irrefl _ (l1 _ m)), ⟨⟨.none, by simpa using he⟩, st1 _ _ hit⟩, fun b hb => ?_, q⟩
  have hle : s1.heap.objs.size ≤ b := by
    simp only [List.mem_cons, List.not_mem_nil, or_false] at hb
    rcases hb with rfl | rfl
    · exact Nat.le_add_right _ _
    · exact Nat.le_refl _
  exact I1.fpOk hle (I1.hok.fresh hle)⟩
theorem enumFrom_len : ∀ (ts : List PyData) (k : Nat), (enumFrom k ts).length = ts.length
  | [], _ => rfl
  | t :: ts, k => by simp [enumFrom, enumFrom_len ts (k + 1)]
theorem enumFrom_get : ∀ {ts : List PyData} {k i : Nat} {d : PyData}, ts[i]? = some d → (enumFrom k ts)[i]? = some (.tuple [.int ((k + i : Nat) : Int), d])
  | [], _, _, _, e => by simp at e
  | t :: ts, k, 0, d, e => by simp at e; subst e; simp [enumFrom]
  | t :: ts, k, i + 1, d, e => by
    have := enumFrom_get (ts := ts) (k := k + 1) (i := i) (by simpa using e)
    rw [show k + (i + 1) = k + 1 + i by omega]
    simpa [enumFrom] using this
theorem di_enum {elts : List Expr} {kk : Nat} {tpos : Pos} (v : NB Γ sc "enumerate") (ha : DV Γ N sc ea a) (se : ∀ env, starEach [ea] env = [(false, eval ea env)] := by intro _; rfl) : DI Γ N sc (.Tuple elts kk tpos) (.Call (.Name "enumerate" p) [ea] [] pos) (.enum a) := fun n I W X g =>
  (pi_enumS (v.g.g g) (g.nob _ v.m) (pa_cons (ha n I W X g) pa_nil (se _)) (se _)).imp fun σ H R q => by
    obtain ⟨env, s, eH, hr, er, _, pr⟩ := At.bind (Rel1 := PRl X.K) (ev2 := fun d env h1 => ofO ((itemsOf d).map (enumFrom 0)) h1) q
    refine ⟨env, s, eH, hr, er, trivial, PR.mono pr fun x H1 ⟨d, env, s, e, hr, er, ⟨_, rb⟩, pr⟩ => ?_⟩
    subst e
    replace pr : PR X.K I W s σ (ofO ((itemsOf d).map (enumFrom 0)) s.h) (JR X.K I.ci) R := pr
    cases e1 : itemsOf d with
    | none => rw [e1] at pr; exact False.elim pr
    | some ts =>
      rw [e1] at pr
      obtain ⟨k, xs, h1, q1, k1⟩ := rf_seq e1 rb
      refine ⟨k, x, xs, rfl, h1, pr s _ (.refl s) rfl hr fun s' le hr' i => ?_⟩
      rw [enumFrom_len, q1.length]
      refine ⟨fun hi => ⟨k1 s' le, hi⟩, fun hi => ⟨k1 s' le, hi⟩, fun v H' hi hy => ?_⟩
      obtain ⟨T, y, rfl, hT, rfl, ey⟩ := hy
      obtain ⟨d', e2, rd⟩ := (q1.keep le.kf).get' ey
      refine ⟨_, s'.put T (.tup [.int (i : Nat), y]) false, enumFrom_get e2, rfl, hr'.put_le hT, rfl, hr'.put hT, ?_⟩
      rw [Nat.zero_add]
      exact tup_newL (K := X.K) (s := s') hT (.cons (.int _) (.cons rd .nil))
end
end Cd
set_option Elab.async false
set_option linter.all false
set_option maxRecDepth 100000
set_option maxHeartbeats 4000000
namespace Cd
open PySem PySem.Spec PyProof.Rows L2
/-- the heap back to its length -/
def Sx.cut (s : Sx) (n : Nat) : Sx := { s with h := s.h.take n }
theorem live_take {h : Hi} {n m k : Nat} (l : Live (h.take n) m k) : Live h m k := by
  have g : ∀ {m : Nat} {o : Ob}, (h.take n)[m]? = some o → h[m]? = some o := fun {m o} e => by
    rw [List.getElem?_take] at e
    split at e
    · exact e
    · cases e
  cases k with
  | zero => obtain ⟨o, e, nd⟩ := l; exact ⟨o, g e, nd⟩
  | succ k =>
    rcases l with ⟨c, fs, us, e, ef⟩ | ⟨kvs, q, us, e, ef⟩
    · exact .inl ⟨c, fs, us, g e, ef⟩
    · exact .inr ⟨kvs, q, us, g e, ef⟩
theorem HR.cut {K : PySem.W.Frag} {CI : CInf} {s : Sx} (hr : HR K CI s) (n : Nat) : HR K CI (s.cut n) where
  ob := fun m o e => by
    have e' : s.h[m]? = some o := by
      have e2 : (s.h.take n)[m]? = some o := e
      rw [List.getElem?_take] at e2
      split at e2
      · exact e2
      · cases e2
    exact (hr.ob m o e').move (s' := s.cut n) .refl e' fun j l => ⟨rfl, fun u h => h⟩
  inj := fun m j q k l1 l2 e => hr.inj m j q k (live_take l1) (live_take l2) e
  nf := fun m j l => hr.nf m j (live_take l)
  bt := fun b hb => let ⟨h1, h2, h3⟩ := hr.bt b hb; ⟨fun m j l => h1 m j (live_take l), h2, h3⟩
  ft := hr.ft
  tb := hr.tb
  tn := hr.tn
theorem cut_le {s s' : Sx} (l : Le s s') : Le s (s'.cut s.h.length) := ⟨by show s.h.length ≤ (s'.h.take s.h.length).length; rw [List.length_take]; have := l.len; omega, l.ph, l.kf, l.fr⟩
theorem slot_get : ∀ {env : Ev} {i : Nat} {v : Val}, slot env i = some v → env[i]? = some (some v)
  | [], _, _, h => by simp [slot] at h
  | x :: _, 0, v, h => by
    have e : x = some v := h
    rw [e]; rfl
  | _ :: r, i + 1, v, h => by
    have := slot_get (env := r) (i := i) (v := v) h
    simpa using this
theorem paired_get {α β : Type} {R : α → β → Prop} : ∀ {xs : List α} {ys : List β} {i : Nat} {x : α}, Paired R xs ys → xs[i]? = some x → ∃ y, ys[i]? = some y ∧ R x y
  | _, _, _, _, .nil, e => by simp at e
  | _, _, 0, _, .cons r _, e => by simp at e; subst e; exact ⟨_, rfl, r⟩
  | _, _, i + 1, x, .cons _ t, e => by
    obtain ⟨y, h1, h2⟩ := paired_get (i := i) (x := x) t (by simpa using e)
    exact ⟨y, by simpa using h1, h2⟩
theorem er_start {K : PySem.W.Frag} {s : Sx} {N : List Str} {d : FnD} {args : List Val} {vs : List V} (hN : N.length = d.ns) (r : Paired (VR K s) args vs) : ER K s (startE d args) (L2.start N vs) where
  len := by
    have := r.length
    unfold startE L2.start
    simp only [List.length_append, List.length_map, List.length_replicate]
    omega
  at_ := fun i v e => by
    have e1 := slot_get e
    have hl := r.length
    unfold startE at e1
    by_cases h : i < args.length
    · rw [List.getElem?_append_left (by simpa using h), List.getElem?_map] at e1
      cases e2 : args[i]? with
      | none => rw [e2] at e1; cases e1
      | some w =>
        rw [e2] at e1
        have e3 : w = v := by simpa using e1
        subst e3
        obtain ⟨x, h1, h2⟩ := paired_get r e2
        refine ⟨x, ?_, h2⟩
        unfold L2.start
        rw [List.getElem?_append_left (by simp; omega), List.getElem?_map, h1]
        rfl
    · rw [List.getElem?_append_right (by simp; omega), List.getElem?_replicate] at e1
      split at e1
      · cases e1
      · cases e1
/-- what the top tells, at the interpreter's fuel n -/
structure GD (P : Program) (w : World) (K : PySem.W.Frag) (mg : Str → Option Value) (base : Heap) (I : Inf) (Γ : Gm) (n : Nat) : Prop where
  fn : ∀ p ∈ Γ.defs, ∃ a, mg p.1 = some (.ref a) ∧ FAt P w K mg base I Γ.fns n p.2 a
  nob : ∀ x ∈ Γ.nobs, mg x = none
  con : ∀ p ∈ Γ.cons, ∃ u v, mg p.1 = some u ∧ RelV v u ∧ ∀ F H, RF K F H p.2 v
  cl : ∀ p ∈ Γ.cls, ∃ C names a, mg p.1 = some (.ref C) ∧ I.ci p.2.1 = some (C, names) ∧ Mk K C a ∧ FAt P w K mg base I Γ.fns n p.2.2 a
  mt : ∀ p ∈ Γ.meths, ∃ C names a, I.ci p.1 = some (C, names) ∧ Meth K C p.2.1 a ∧ p.2.1 ∉ names ∧ FAt P w K mg base I Γ.fns n p.2.2 a
  fl : ∀ p ∈ Γ.flds, ∃ C, I.ci p.1 = some (C, p.2) ∧ Cls K C ∧ p.2.Nodup ∧ p.2.length < 1000 ∧ ∀ x ∈ p.2, NoAttr K C x
  ci : ∀ c C names, I.ci c = some (C, names) → (c, names) ∈ Γ.flds
  xc : ∀ p ∈ Γ.excs, ∃ C, mg p.1 = some (.ref C) ∧ I.xi p.2 = some C ∧ XcOk K p.2 C
  xm : ∀ c C c' C', I.xi c = some C → I.xi c' = some C' → PySem.W.exmOne K (.ref C) (.ref C') = some (subC c c')
  tb : ∀ p ∈ Γ.tabs, ∃ a, mg p.1 = some (.ref a) ∧ TabK K a p.2
  st : ∀ p ∈ Γ.sts, ∃ C names a fd, I.ci p.1 = some (C, names) ∧ Meth K C p.2.1 a ∧ p.2.1 ∉ names ∧ Binds K fd ["self"] [] ∧ FnOk P w K mg base (L2.CX P w) (2 * n) a fd ["self"] (spS K I n p.1 p.2.2)
  ho : ∀ p ∈ Γ.hots, ∃ a fd x, mg p.1 = some (.ref a) ∧ PySem.W.keepIn K (.ref a) = true ∧ Binds K fd [x] [] ∧ FnE P w K mg base (L2.CX P w) 1 a fd [x] (spE K I p.2)
def fnSco (st : Stmt) : Sco := ⟨defScope st, fun _ => true, true, false, false⟩
/-- the law's own, that makes a lambda -/
def lamSco (st : Stmt) : Sco := ⟨defScope st, fun _ => true, true, false, true⟩
section
variable {P : Program} {w : World} {K : PySem.W.Frag} {mg : Str → Option Value} {base : Heap} {I : Inf} {Γ : Gm} {n fi : Nat}
theorem gx_of {N : List Str} {qual : Str} {st : Stmt} {f : Addr} {cdv : Value} {A : Around} {outer : List Env} {s : Shared} {H : Hp} {E : XK} (G : GD P w K mg base I Γ n) (nd : N.Nodup) (hr : Room (2 * n + 1) (A.deeper (envOfC qual (defScope st) s.heap.objs.size f cdv))) :
    GX Γ n I N (fnSco st) (fun cls d _ H => E cls d H) (cxOf (L2.CX P w) P w K mg base N qual (defScope st) f cdv A outer s H E) where
  hN := rfl
  nd := nd
  fnc := rfl
  sc := rfl
  calm := rfl
  tk := takes_of rfl rfl rfl rfl
  pass := passes_of rfl
  room := hr
  fn := G.fn
  nob := G.nob
  con := G.con
  cl := G.cl
  mt := G.mt
  fl := G.fl
  ci := G.ci
  xc := G.xc
  xm := G.xm
  tb := G.tb
  st := G.st
  ho := G.ho
  stk := fun _ => ⟨rfl, rfl⟩
  gd := fun z => by cases z
  lm := fun z => by cases z
/-- a def that stands at a, with its small program -/
structure FnSt (Γ : Gm) (K : PySem.W.Frag) (fi : Nat) (a : Addr) : Prop where
  kp : PySem.W.keepIn K (.ref a) = true
  isf : PySem.W.isFn K (.ref a) = true
  ex : ∃ (x qual : Str) (st : Stmt) (fd : FuncData) (N ps : List Str) (d : FnD), Fun K x qual st a fd ∧ FnScope N ps (defScope st) ∧ Binds K fd ps [] ∧ Γ.fns fi = some d ∧ ps.length = d.np ∧ N.length = d.ns ∧ DSs Γ N (fnSco st) (defBody st) d.body
theorem fn_sound {x qual : Str} {st : Stmt} {a : Addr} {fd : FuncData} {N ps : List Str} {d : FnD} (G : GD P w K mg base I Γ n) (F : Fun K x qual st a fd) (S : FnScope N ps (defScope st)) (e : Γ.fns fi = some d) (hp : ps.length = d.np) (hns : N.length = d.ns)
    (hb : DSs Γ N (fnSco st) (defBody st) d.body) : FnOk P w K mg base (L2.CX P w) (2 * (n + 1)) a fd ps (spF K I Γ.fns (n + 1) fi d.np) := by
  refine F.okX (k := 2 * n + 1) S (fun vs H Q E ⟨s, args, _, _, r, hl, _⟩ => by rw [← r.length, hl, hp]) fun cdv A outer s0 H vs Q E hr ⟨s, args, eH, hR, r, hl, h⟩ => ?_
  refine ⟨_, hb n I _ _ (gx_of G S.nd hr), startE d args, s, eH, hR, er_start hns r, trivial, ?_⟩
  have h' : (match finF s.h.length (evalSs (callF Γ.fns n) d.body (startE d args) s.h) with
    | .ok v h' => ∀ s' x, Le s s' → s'.h = h' → HR K I.ci s' → VR K s' v x → Q x s'.H
    | .exc e h' => ∀ s' cls d, Le s s' → s'.h = h' → HR K I.ci s' → XR K I s' e cls d → E cls d s'.H
    | .stuck => False) := by
    have h2 := h
    unfold callF at h2
    rw [e] at h2
    simp only [hl, if_true] at h2
    exact h2
  show PSt K I (fun cls d _ H => E cls d H) _ s (evalSs (callF Γ.fns n) d.body (startE d args) s.h)
  generalize evalSs (callF Γ.fns n) d.body (startE d args) s.h = rs at h' ⊢
  cases rs with
  | ok fl env1 h1 =>
    cases fl with
    | nx =>
      intro s' σ' l eh hr' er'
      subst eh
      exact h' (s'.cut s.h.length) .non (cut_le l) rfl (hr'.cut _) .non
    | bk => exact False.elim h'
    | ct => exact False.elim h'
    | rt v =>
      cases v with
      | p dd =>
        intro s' y l eh hr' rv
        subst eh
        exact h' (s'.cut s.h.length) y (cut_le l) rfl (hr'.cut _) rv
      | ref m =>
        intro s' y l eh hr' rv
        subst eh
        exact h' s' y l rfl hr' rv
  | exc e2 env1 h1 =>
    intro s' σ' cls dx l eh hr' er' xr
    subst eh
    exact h' (s'.cut s.h.length) cls dx (cut_le l) rfl (hr'.cut _) xr
  | stuck => exact h'
/-- a method that tells tuple(its field): its text -/
def StSt (Γ : Gm) (K : PySem.W.Frag) (c j : Nat) (a : Addr) : Prop := ∃ (x qual f : Str) (st : Stmt) (fd : FuncData) (names : List Str) (p q p2 p3 p4 : Pos), Fun K x qual st a fd ∧ FnScope ["self"] ["self"] (defScope st) ∧ Binds K fd ["self"] [] ∧ FOk Γ c names j f ∧
  NB Γ (fnSco st) "tuple" ∧ VOk ["self"] (fnSco st) 0 "self" ∧ defBody st = [.Return (some (.Call (.Name "tuple" p) [.Attribute (.Name "self" q) f p2] [] p3)) p4] ∧ Ab "self" q f
theorem call_tuple_st {X : Cx} : CallR X (.type "tuple") (fun xs H Q => ∃ p ys, xs = [.ref p] ∧ SqL X.K H p ys ∧ ∀ (l : Addr) (o : Obj), H l = none → o.cls = .type "tuple" → o.dict = none → Q (.ref l) (upd H l (.frz o (.tup ys)))) := by
  intro pins s σ H xs us Q I r h
  obtain ⟨p, ys, rfl, hq, q⟩ := h
  obtain ⟨u, rfl, rx⟩ := vals1 r
  cases rx
  obtain ⟨its, r', pl, hz⟩ := I.list hq
  have hlen := r'.length
  refine call_tuple_list pl.isList (fun h' kp => ?_) (by simp only [List.size_toArray] <;> omega)
  have I1 : Inv _ pins σ H { s with heap := h' } := I.kept (t' := s.toks) kp
  have I2 : Inv _ pins σ (upd H h'.objs.size (.frz { cls := .type "tuple", data := .seq its.toArray } (.tup ys))) { s with heap := h'.push { cls := .type "tuple", data := .seq its.toArray } } :=
    I1.laid (t' := s.toks) (fun b o e => Heap.get?_push_of_some _ e) (Nat.le_refl _) (show ObjOk _ _ _ _ _ (.frz _ (.tup ys)) from ⟨Heap.get?_push_size _ rfl, hz, its, r', IsTup.new _ _⟩)
  exact ⟨.ref h'.objs.size, _, I2, rfl, q _ _ (I1.hok.fresh (Nat.le_refl _)) rfl rfl⟩
/-- a field that is a list -/
theorem fldL_at {n : Nat} {I : Inf} {N : List Str} {sc : Sco} {W : WX} {X : Cx} {s : Sx} {k c j : Nat} {names : List Str} {f : Str} {fs : List Fld} {ts : List PyData} (g : GX Γ n I N sc W X) (hr : HR X.K I.ci s) (hf : FOk Γ c names j f) (e1 : insAt s.h k = some (c, fs)) (e2 : FldL fs[j]? ts) :
    k < s.h.length ∧ ∃ C dx es b xs, s.H (s.φ k 0) = some (.ins C dx es) ∧ Cls X.K C ∧ NoAttr X.K C f ∧ es.lookup f = some (.ref b) ∧ SqL X.K s.H b xs ∧ RFs X.K s.F s.H ts xs := by
  have lt : k < s.h.length := by
    unfold insAt at e1
    cases e : s.h[k]? with
    | none => rw [e] at e1; cases e1
    | some o => exact (List.getElem?_eq_some_iff.mp e).1
  refine ⟨lt, ?_⟩
  have er : ER X.K s [some (.ref k)] [some (.ref (s.φ k 0))] := ⟨rfl, fun i v e => by
    cases i with
    | zero => cases e; exact ⟨_, rfl, lt, rfl⟩
    | succ i => simp [slot] at e⟩
  have ei : insOf [some (.ref k)] s.h 0 = some (k, c, fs) := by
    unfold insOf
    show (insAt s.h k).map _ = _
    rw [e1]; rfl
  cases eu : fs[j]? with
  | none => rw [eu] at e2; exact False.elim e2
  | some u =>
    rw [eu] at e2
    obtain ⟨C, dx, es, y, h1, h2, h3, h4, h5, h6⟩ := fld_at g hr er hf ei eu
    cases u with
    | l us =>
      obtain rfl : us = ts := e2
      obtain ⟨rfl, xs, h7, h8⟩ := h6
      exact ⟨C, dx, es, _, xs, h2, h3, h4, h5, SqL.of h7, h8⟩
    | p d =>
      obtain rfl : d = .list ts := e2
      obtain ⟨a, xs, rfl, h7, h8⟩ := RF.lst_inv h6
      exact ⟨C, dx, es, _, xs, h2, h3, h4, h5, h7.sq, h8⟩
theorem st_body {n : Nat} {I : Inf} {sc : Sco} {W : WX} {X : Cx} {c j : Nat} {names : List Str} {f : Str} {p q p2 p3 p4 : Pos} (g : GX Γ n I ["self"] sc W X) (v : VOk ["self"] sc 0 "self") (nb : NB Γ sc "tuple") (hf : FOk Γ c names j f) (hb : Ab "self" q f) :
    PSs X [.Return (some (.Call (.Name "tuple" p) [.Attribute (.Name "self" q) f p2] [] p3)) p4] (fun D σ H => ∃ (s : Sx) (k : Nat) (fs : List Fld) (ts : List PyData), s.H = H ∧ HR X.K I.ci s ∧ σ = [some (.ref (s.φ k 0))] ∧ insAt s.h k = some (c, fs) ∧ FldL fs[j]? ts ∧
      ∀ s' x, Le s s' → s'.h = s.h → HR X.K I.ci s' → StR X.K s' ts x → D.rt x s'.H) :=
  (pss_cons (ps_ret (pe_ty1 g call_tuple_st nb (by decide +kernel) (pe_fld (v.pe g) (hb _)) (by intro _; rfl))) pss_nil).imp fun D σ H ⟨s, k, fs, ts, eH, hr, eσ, e1, e2, h⟩ => by
    subst eH eσ
    obtain ⟨lt, C, dx, es, b, xs, h1, h2, h3, h4, h5, h6⟩ := fldL_at g hr hf e1 e2
    exact ⟨_, rfl, _, C, dx, es, _, rfl, h1, h2, h3, h4, b, xs, rfl, h5, fun l o hl hc hd =>
      h (s.put l (.frz o (.tup xs)) true) (.ref l) (hr.put_le hl) rfl (hr.put hl) ⟨l, xs, o, rfl, upd_same, hc, hd, h6.keep (KeepF.put hl)⟩⟩
theorem st_sound {c j : Nat} {a : Addr} (h : StSt Γ K c j a) (G : ∀ m, n = m + 1 → GD P w K mg base I Γ m) : ∃ fd, Binds K fd ["self"] [] ∧ FnOk P w K mg base (L2.CX P w) (2 * n) a fd ["self"] (spS K I n c j) := by
  obtain ⟨x, qual, f, st, fd, names, p, q, p2, p3, p4, F, S, B, hf, nb, v, eb, hab⟩ := h
  refine ⟨fd, B, ?_⟩
  cases n with
  | zero => exact ⟨fun vs H Q E ⟨z, _⟩ => absurd z (Nat.lt_irrefl _), fun A outer s H args us vs Q E hr he hb hv ⟨z, _⟩ => absurd z (Nat.lt_irrefl _)⟩
  | succ m =>
    refine F.okX (k := 2 * m + 1) S (fun vs H Q E ⟨_, s, k, fs, ts, _, _, e, _⟩ => by rw [e]; rfl) fun cdv A outer s0 H vs Q E hr ⟨_, s, k, fs, ts, eH, hR, ev, e1, e2, h⟩ => ?_
    refine ⟨_, eb ▸ st_body (p := p) (p2 := p2) (p3 := p3) (p4 := p4) (gx_of (G m rfl) S.nd hr) v nb hf hab, s, k, fs, ts, eH, hR, ?_, e1, e2, h⟩
    subst ev
    rfl
/-- what the top has written -/
structure GS (K : PySem.W.Frag) (mg : Str → Option Value) (I : Inf) (Γ : Gm) : Prop where
  fn : ∀ p ∈ Γ.defs, ∃ a, mg p.1 = some (.ref a) ∧ FnSt Γ K p.2 a
  nob : ∀ x ∈ Γ.nobs, mg x = none
  con : ∀ p ∈ Γ.cons, ∃ u v, mg p.1 = some u ∧ RelV v u ∧ ∀ F H, RF K F H p.2 v
  cl : ∀ p ∈ Γ.cls, ∃ C names a, mg p.1 = some (.ref C) ∧ I.ci p.2.1 = some (C, names) ∧ Mk K C a ∧ FnSt Γ K p.2.2 a
  mt : ∀ p ∈ Γ.meths, ∃ C names a, I.ci p.1 = some (C, names) ∧ Meth K C p.2.1 a ∧ p.2.1 ∉ names ∧ FnSt Γ K p.2.2 a
  fl : ∀ p ∈ Γ.flds, ∃ C, I.ci p.1 = some (C, p.2) ∧ Cls K C ∧ p.2.Nodup ∧ p.2.length < 1000 ∧ ∀ x ∈ p.2, NoAttr K C x
  ci : ∀ c C names, I.ci c = some (C, names) → (c, names) ∈ Γ.flds
  xc : ∀ p ∈ Γ.excs, ∃ C, mg p.1 = some (.ref C) ∧ I.xi p.2 = some C ∧ XcOk K p.2 C
  xm : ∀ c C c' C', I.xi c = some C → I.xi c' = some C' → PySem.W.exmOne K (.ref C) (.ref C') = some (subC c c')
  tb : ∀ p ∈ Γ.tabs, ∃ a, mg p.1 = some (.ref a) ∧ TabK K a p.2
  st : ∀ p ∈ Γ.sts, ∃ C names a, I.ci p.1 = some (C, names) ∧ Meth K C p.2.1 a ∧ p.2.1 ∉ names ∧ StSt Γ K p.1 p.2.2 a
  ho : ∀ p ∈ Γ.hots, ∃ a fd x, mg p.1 = some (.ref a) ∧ PySem.W.keepIn K (.ref a) = true ∧ Binds K fd [x] [] ∧ ∀ (P : Program) (w : World) (base : Heap), FnE P w K mg base (L2.CX P w) 1 a fd [x] (spE K I p.2)
theorem fat_of {a : Addr} (h : FnSt Γ K fi a) (G : ∀ m, n = m + 1 → GD P w K mg base I Γ m) : FAt P w K mg base I Γ.fns n fi a := by
  obtain ⟨x, qual, st, fd, N, ps, d, F, S, B, e, hp, hns, hb⟩ := h.ex
  refine ⟨h.kp, h.isf, fd, ps, d, e, hp, B, ?_⟩
  cases n with
  | zero =>
    refine ⟨fun vs H Q E ⟨s, args, _, _, r, hl, h⟩ => False.elim h, fun A outer s H args us vs Q E hr he hb hv hs => ?_⟩
    obtain ⟨s, args, _, _, r, hl, h⟩ := hs
    exact False.elim h
  | succ m => exact fn_sound (G m rfl) F S e hp hns hb
theorem gd_all (g : GS K mg I Γ) : ∀ n, GD P w K mg base I Γ n := by
  intro n
  induction n with
  | zero => exact ⟨fun p hp => let ⟨a, h1, h2⟩ := g.fn p hp; ⟨a, h1, fat_of h2 fun m e => by cases e⟩, g.nob, g.con, fun p hp => let ⟨C, nm, a, h1, h2, h3, h4⟩ := g.cl p hp; ⟨C, nm, a, h1, h2, h3, fat_of h4 fun m e => by cases e⟩,
      fun p hp => let ⟨C, nm, a, h1, h2, h3, h4⟩ := g.mt p hp; ⟨C, nm, a, h1, h2, h3, fat_of h4 fun m e => by cases e⟩, g.fl, g.ci, g.xc, g.xm, g.tb, fun p hp => let ⟨C, nm, a, h1, h2, h3, h4⟩ := g.st p hp; let ⟨fd, h5, h6⟩ := st_sound h4 (fun m e => by cases e); ⟨C, nm, a, fd, h1, h2, h3, h5, h6⟩, fun p hp => let ⟨a, fd, x, h1, h2, h3, h4⟩ := g.ho p hp; ⟨a, fd, x, h1, h2, h3, h4 P w base⟩⟩
  | succ n ih => exact ⟨fun p hp => let ⟨a, h1, h2⟩ := g.fn p hp; ⟨a, h1, fat_of h2 fun m e => by cases e; exact ih⟩, g.nob, g.con, fun p hp => let ⟨C, nm, a, h1, h2, h3, h4⟩ := g.cl p hp; ⟨C, nm, a, h1, h2, h3, fat_of h4 fun m e => by cases e; exact ih⟩,
      fun p hp => let ⟨C, nm, a, h1, h2, h3, h4⟩ := g.mt p hp; ⟨C, nm, a, h1, h2, h3, fat_of h4 fun m e => by cases e; exact ih⟩, g.fl, g.ci, g.xc, g.xm, g.tb, fun p hp => let ⟨C, nm, a, h1, h2, h3, h4⟩ := g.st p hp; let ⟨fd, h5, h6⟩ := st_sound h4 (fun m e => by cases e; exact ih); ⟨C, nm, a, fd, h1, h2, h3, h5, h6⟩, fun p hp => let ⟨a, fd, x, h1, h2, h3, h4⟩ := g.ho p hp; ⟨a, fd, x, h1, h2, h3, h4 P w base⟩⟩
end
def okTrue : R Val → Bool
  | .ok (.p (.bool true)) _ => true
  | _ => false
/-- the script as data -/
abbrev scriptD (ns : List Int) : Val := .p (.list (ns.map .int))
theorem law_sp {K : PySem.W.Frag} {I : Inf} {Γ : Gm} {n fi : Nat} {H : Hp} {a : Addr} {ns : List Int} (hT : LamX.Tabs I.ci.tbs H) (hTa : ∀ q ∈ I.ci.tbs, q.1 ≠ a) (hH : SqL K H a (ns.map V.int)) (h : okTrue (callF Γ.fns n fi [scriptD ns] []) = true) :
    spF K I Γ.fns n fi 1 [.ref a] H (fun v _ => v = .bl true) fun _ _ _ => False := by
  refine ⟨⟨fun _ _ => 0, fun b => b = a ∧ ∃ o, H b = some o, [], H, fun _ => False⟩, [scriptD ns], rfl, ⟨fun n o e => by simp at e, fun n j m k l => by have := live_lt l; simp at this, fun n j l => by have := live_lt l; simp at this, fun b hb => hb.elim, fun b hb => hb.2, hT, fun q hq => ⟨fun f => hTa q hq f.1, fun z => z⟩⟩, .cons (.lst ?_ (.ofInts ns)) .nil, rfl, ?_⟩
  · rcases hH with h | h
    · exact .inl ⟨⟨rfl, h.elim (fun h => ⟨_, h⟩) fun ⟨o, h⟩ => ⟨_, h⟩⟩, h⟩
    · exact .inr h
  · show (match callF Γ.fns n fi [scriptD ns] [] with
    | .ok v h' => ∀ s' x, _ → s'.h = h' → HR K I.ci s' → VR K s' v x → x = .bl true
    | .exc e h' => ∀ s' cls d, _ → s'.h = h' → HR K I.ci s' → XR K I s' e cls d → False
    | .stuck => False)
    generalize callF Γ.fns n fi [scriptD ns] [] = r at h ⊢
    cases r with
    | ok v h1 =>
      cases v with
      | p d =>
        cases d with
        | bool b =>
          cases b with
          | true => exact fun s' x _ _ _ rv => RF.bl_inv rv
          | false => cases h
        | _ => cases h
      | ref m => cases h
    | exc e h1 => cases h
    | stuck => cases h
theorem fn_calm {P : Program} {w : World} {K : PySem.W.Frag} {mg : Str → Option Value} {base : Heap} {k : Nat} {a : Addr} {fd : FuncData} {ps : List Str} {sp : Sp} (F : FnOk P w K mg base (L2.CX P w) k a fd ps sp) : FnOk P w K mg base CX0 k a fd ps (fun vs H Q _ => sp vs H Q fun _ _ _ => False) where
  len := fun vs H Q _ h => F.len _ _ _ _ h
  run := fun A outer s H args us vs Q E hr he hb hv hs => codeAny_mono (F.run A outer s H args us vs Q _ hr he hb hv hs) fun r s' h => by
    cases r with
    | error e =>
      obtain ⟨_, _, _, _, _, _, _, _, _, _, _, _, z⟩ := h
      exact z.elim
    | ok fl => cases fl <;> exact h
end Cd
set_option Elab.async false
set_option linter.all false
set_option maxRecDepth 100000
set_option maxHeartbeats 4000000
namespace Cd
open PySem PySem.Spec PyProof.Rows L2
/-- an empty set, as it is made -/
abbrev eSet (w : World) : Obj := { cls := .type "set", dict := none, data := .set #[] 0 (.fresh 0 0 (!w.params.followText "set-order")) }
/-- a walker of a list, new -/
abbrev eIter (l : Addr) : Obj := { cls := .type "list_iterator", data := .fields #[.ref l, .int 0 0] }
section
variable {P : Program} {w : World} {A : Around} {E : Value → Shared → Prop} {s : Shared}
end
end Cd
set_option Elab.async false
set_option linter.all false
set_option maxRecDepth 100000
set_option maxHeartbeats 4000000
namespace Cd
open PySem PySem.Spec PyProof.Rows L2
section
variable {Γ : Gm} {N : List Str} {sc : Sco} {e tg ea eb ec : Expr} {a b c : E} {ta : Te} {o : O2} {pos p p2 apos : Pos} {es : List Expr} {as : List E} {i j fi : Nat} {x y f m : Str} {t : Tg} {src : Src} {cl : Nat} {names : List Str}
theorem DP.toE (h : DP Γ N sc ea a) (nr : ∀ cf env h n, evalE cf env a h ≠ .ok (.ref n) h := by intro _ _ _ _ z; cases z) : DE Γ N sc ea a := fun n I W X g => (h.run n I W X g).imp fun σ H Q q => by
  obtain ⟨env, s, eH, hr, er, _, pr⟩ := q
  refine ⟨env, s, eH, hr, er, ?_⟩
  replace pr : PR X.K I W s σ (evalE (callF Γ.fns n) env a s.h) (VR X.K) Q := pr
  show (match evalE (callF Γ.fns n) env a s.h with
    | .ok (.p d) h' => h' = s.h ∧ ∀ x, RF X.K s.F s.H d x → Q x H
    | _ => False)
  rcases h.pure (callF Γ.fns n) env s.h with ⟨v, e⟩ | e
  · have nr' := nr (callF Γ.fns n) env s.h
    rw [e] at pr nr' ⊢
    cases v with
    | p d => exact ⟨rfl, fun x rx => by rw [← eH]; exact pr s x (.refl s) rfl hr rx⟩
    | ref m => exact absurd rfl (nr' m)
  · rw [e] at pr; exact False.elim pr
/-- ends with data, where it ends well -/
def Dat (a : E) : Prop := ∀ cf env h, (∃ d h', evalE cf env a h = .ok (.p d) h') ∨ (∀ v h', evalE cf env a h ≠ .ok v h')
theorem dat_bind {α : Type} {r : R α} {k : α → Hi → R Val} (hk : ∀ x h, (∃ d h', k x h = .ok (.p d) h') ∨ (∀ v h', k x h ≠ .ok v h')) : (∃ d h', r.bind k = .ok (.p d) h') ∨ (∀ v h', r.bind k ≠ .ok v h') := by
  cases r with
  | ok a h => exact hk a h
  | exc e h => exact .inr fun v h' z => by cases z
  | stuck => exact .inr fun v h' z => by cases z
theorem dat_ofO {o : Option PyData} {h : Hi} : (∃ d h', Cd.ofO (o.map Val.p) h = .ok (.p d) h') ∨ (∀ v h', Cd.ofO (o.map Val.p) h ≠ .ok v h') := by
  cases o with
  | none => exact .inr fun v h' z => by cases z
  | some d => exact .inl ⟨d, h, rfl⟩
theorem dat_op1 {o : O1} : Dat (.op1 o a) := fun cf env h => dat_bind fun x h1 => dat_ofO
theorem dat_lst : Dat (.lst as) := fun cf env h => dat_bind fun x h1 => .inl ⟨_, _, rfl⟩
theorem dat_comp {own : List Nat} {cs : List Te} : Dat (.comp own t src cs a) := fun cf env h => dat_bind fun x h1 => by
  unfold compK2
  split
  · generalize compL _ _ _ _ _ _ = r
    cases r with
    | ok ys h => exact .inl ⟨_, _, rfl⟩
    | exc e h => exact .inr fun v h' z => by cases z
    | stuck => exact .inr fun v h' z => by cases z
  · exact .inr fun v h' z => by cases z
theorem DN.toE (h : DN Γ N sc ea a) (d : Dat a) : DE Γ N sc ea a := h.v.toE d
def e0 (sc : Scope) : Env := { scope := sc, locals := 0, globals := 0, cells := [] }
theorem par_env {ts : List Expr} {v : Expr} {env : Env} : swappedStores ts v env = swappedStores ts v (e0 env.scope) := by
  unfold swappedStores Env.blockKind Env.kindOf e0
  rfl
theorem sw_env {v : Expr} {tg : Option Expr} {l : Nat} {env : Env} : swapsWith v tg l env = swapsWith v tg l (e0 env.scope) := by
  unfold swapsWith Env.blockKind Env.kindOf e0
  rfl
structure LOk (N : List Str) (sc : Sco) (i : Nat) (x : Str) : Prop where
  hN : N[i]? = some x
  loc : sc.s.names.lookup x = some .local
theorem ds_set2 {px py pt pt2 : Pos} {kt k2 : Nat} (v1 : LOk N sc i x) (v2 : LOk N sc j y) (ne : i ≠ j) (ha : DE Γ N sc ea a) (hb : DE Γ N sc eb b) (hw : swappedStores [.Tuple [.Name x px, .Name y py] kt pt] (.Tuple [ea, eb] k2 pt2) (e0 sc.s) = pure (some [x, y]))
    (hs : ∀ env, swapsWithSole [.Tuple [.Name x px, .Name y py] kt pt] (.Tuple [ea, eb] k2 pt2) pos.line env = pure false := by intro _; rfl) (se : Sec ea [eb] := by intro _; rfl) (se1 : Sec eb [] := by intro _; rfl) :
    DS Γ N sc (.Assign [.Tuple [.Name x px, .Name y py] kt pt] (.Tuple [ea, eb] k2 pt2) pos) (.set2 i j a b) := fun n I W X g =>
  (ps_par (i := i) (j := j) g.calm (by rw [g.hN]; exact g.nd) (by rw [g.hN]; exact v1.hN) (by rw [g.hN]; exact v2.hN) ne (by rw [g.sc]; exact v1.loc) (by rw [g.sc]; exact v2.loc) (pa_cons (ha n I W X g) (pa_cons (hb n I W X g) pa_nil (se1 _)) (se _)) (by rw [par_env, g.sc]; exact hw) (hs _)).imp fun D σ H q => by
    obtain ⟨env, s, eH, hr, er, _, pr⟩ := AtS.bind (Rel1 := VR X.K) (k := fun v env h1 => (evalE (callF Γ.fns n) env b h1).toS env fun w h2 => .ok .nx (setSlot (setSlot env i (some v)) j (some w)) h2) q
    refine ⟨env, s, eH, hr, er, trivial, PR.mono pr fun u H1 ⟨v, q⟩ => ?_⟩
    obtain ⟨env, s, eH, hr, er, _, pr⟩ := AtS.bind (Rel1 := VR X.K) (G' := fun s => VR X.K s v u) (k := fun w env h2 => .ok .nx (setSlot (setSlot env i (some v)) j (some w)) h2) q (fun s s' l g => g.2.le l)
    refine ⟨env, s, eH, hr, er, trivial, PR.mono pr fun u2 H2 ⟨w, env, s, e, hr, er, ⟨r1, r2⟩, pr⟩ => ?_⟩
    subst e
    exact ⟨u, u2, rfl, pr s _ (.refl s) rfl hr ((er.set r1).set r2)⟩
theorem ds_unpackP {tgs vs : List Expr} {kt k2 : Nat} {pt pt2 : Pos} (ht : DG Γ N sc (.Tuple tgs kt pt) t) (ha : DV Γ N sc (.Tuple vs k2 pt2) a) (hw : swappedStores [.Tuple tgs kt pt] (.Tuple vs k2 pt2) (e0 sc.s) = pure none) (hs : ∀ env, swapsWithSole [.Tuple tgs kt pt] (.Tuple vs k2 pt2) pos.line env = pure false := by intro _; rfl)
    (h1 : ∀ env, (assignEach [.Tuple tgs kt pt] env).map (·.2) = [assign (.Tuple tgs kt pt) env] := by intro _; rfl) : DS Γ N sc (.Assign [.Tuple tgs kt pt] (.Tuple vs k2 pt2) pos) (.unpack t a) :=
  ds_unpack ht ha hs (fun n I W X g => by rw [par_env, g.sc]; exact hw) h1
/-- a comprehension's list for a name that others see -/
theorem ds_setC (v : TOk N sc i x) (ha : DE Γ N sc ea a) (hs : swapsWith ea (some (.Name x p)) pos.line (e0 sc.s) = pure false) : DS Γ N sc (.Assign [.Name x p] ea pos) (.set i a) := fun n I W X g =>
  (ps_set (i := i) (by rw [g.hN]; exact g.nd) (by rw [g.hN]; exact v.hN) (by rw [g.sc]; exact v.loc) (ha n I W X g) (by rw [sw_env, g.sc]; exact hs) (by rw [g.fnc, g.sc]; exact v.fn)).imp fun D σ H q => by
    obtain ⟨env, s, eH, hr, er, _, pr⟩ := AtS.bind (Rel1 := VR X.K) (k := fun v env h1 => .ok .nx (setSlot env i (some v)) h1) q
    refine ⟨env, s, eH, hr, er, trivial, PR.mono pr fun x H1 ⟨v, env, s, e, hr, er, ⟨_, r⟩, pr⟩ => ?_⟩
    subst e
    exact pr s _ (.refl s) rfl hr (er.set r)
end
def voB (N : List Str) (sc : Sco) (i : Nat) (x : Str) : Bool := N[i]? == some x && (sc.s.names.lookup x == some .local || sc.s.names.lookup x == some .cell || sc.s.names.lookup x == some .free) && !(x == ("__debug__" : Str)) && !(x == ("__classdict__" : Str))
theorem vo {N : List Str} {sc : Sco} {i : Nat} {x : Str} (h : voB N sc i x = true) : VOk N sc i x := by
  simp only [voB, Bool.and_eq_true, Bool.or_eq_true, beq_iff_eq, Bool.not_eq_true'] at h
  exact ⟨h.1.1.1, by rcases h.1.1.2 with (h | h) | h; exact .inl h; exact .inr (.inl h); exact .inr (.inr h), h.1.2, h.2⟩
def goB (sc : Sco) (x : Str) : Bool := sc.s.names.lookup x == some .globalImplicit && !(x == ("__debug__" : Str)) && !(x == ("__name__" : Str))
theorem go {sc : Sco} {x : Str} (h : goB sc x = true) : GOk sc x := by
  simp only [goB, Bool.and_eq_true, beq_iff_eq, Bool.not_eq_true'] at h
  exact ⟨h.1.1, h.1.2, by have := h.2; simpa using this⟩
theorem nb {Γ : Gm} {sc : Sco} {x : Str} (h : (goB sc x && decide (x ∈ Γ.nobs)) = true) : NB Γ sc x := by
  simp only [Bool.and_eq_true, decide_eq_true_eq] at h
  exact ⟨go h.1, h.2⟩
def toB (N : List Str) (sc : Sco) (i : Nat) (x : Str) : Bool := N[i]? == some x && ((sc.s.names.lookup x == some .local) || (sc.s.names.lookup x == some .cell && sc.fn x))
theorem to {N : List Str} {sc : Sco} {i : Nat} {x : Str} (h : toB N sc i x = true) : TOk N sc i x := by
  simp only [toB, Bool.and_eq_true, Bool.or_eq_true, beq_iff_eq] at h
  rcases h with ⟨h1, h2 | ⟨h2, h3⟩⟩
  · exact ⟨h1, .inl h2, .inr h2⟩
  · exact ⟨h1, .inr h2, .inl h3⟩
def loB (N : List Str) (sc : Sco) (i : Nat) (x : Str) : Bool := N[i]? == some x && (sc.s.names.lookup x == some .local)
theorem lo {N : List Str} {sc : Sco} {i : Nat} {x : Str} (h : loB N sc i x = true) : LOk N sc i x := by
  simp only [loB, Bool.and_eq_true, beq_iff_eq] at h
  exact ⟨h.1, h.2⟩
def blkB (N : List Str) (sc scope : Scope) (own : List (Str × Nat)) : Bool := scope.kind == .function && scope.names.all (fun y => scope.names.lookup y.1 == some y.2) && own.all (fun p => N[p.2]? == some p.1) &&
  scope.names.all (fun y => !(y.2 == .free) || (sc.names.lookup y.1 == some .cell || sc.names.lookup y.1 == some .free)) && scope.names.all (fun y => !(y.2 == .local || y.2 == .cell) || (decide (y.1 ∈ own.map (·.1)) || !decide (y.1 ∈ N)))
theorem bo {N : List Str} {sc scope : Scope} {own : List (Str × Nat)} (h : blkB N sc scope own = true) : BlkOk N sc scope own := by
  simp only [blkB, Bool.and_eq_true, List.all_eq_true, beq_iff_eq, Bool.or_eq_true, Bool.not_eq_true', decide_eq_true_eq, decide_eq_false_iff_not] at h
  obtain ⟨⟨⟨⟨h1, h2⟩, h3⟩, h4⟩, h5⟩ := h
  refine ⟨h1, h2, h3, fun y hy e => ?_, fun y hy e => ?_⟩
  · rcases h4 y hy with z | z
    · rw [e] at z; cases z
    · exact z
  · rcases h5 y hy with z | z
    · rcases e with e | e <;> (rw [e] at z; cases z)
    · exact z
def swB (N : List Str) (sc : Sco) (i : Nat) (y : Str) (scope : Scope) (pos py : Pos) (l : Nat) : Bool := N[i]? == some y && sc.s.kind == .function && sc.s.names.lookup y == some .local && py.line == pos.line && l == py.line && !(scope.names.any fun (n, k) => n == y && (k == .local || k == .cell))
theorem so {N : List Str} {sc : Sco} {i : Nat} {y : Str} {scope : Scope} {pos py : Pos} {l : Nat} (h : swB N sc i y scope pos py l = true) : SwOk N sc i y scope pos py l := by
  simp only [swB, Bool.and_eq_true, beq_iff_eq, Bool.not_eq_true'] at h
  obtain ⟨⟨⟨⟨⟨h1, h2⟩, h3⟩, h4⟩, h5⟩, h6⟩ := h
  exact ⟨h1, h2, h3, by rw [h4]; exact beq_self_eq_true _, h5, h6⟩
theorem mo {α : Type} [DecidableEq α] {x : α} {l : List α} (h : decide (x ∈ l) = true) : x ∈ l := of_decide_eq_true h
end Cd
namespace Cd
open PySem PySem.Spec PyProof.Rows L2
def fsB (N P : List Str) (sc : Scope) : Bool := sc.kind == .function && !sc.isCoroutine && !sc.isGenerator && decide N.Nodup && decide (N.take P.length = P) && P.all (fun x => sc.names.lookup x == some .local || sc.names.lookup x == some .cell) && sc.names.all fun y => !(y.2 == .free)
theorem fs {N P : List Str} {sc : Scope} (h : fsB N P sc = true) : FnScope N P sc := by
  simp only [fsB, Bool.and_eq_true, List.all_eq_true, beq_iff_eq, Bool.or_eq_true, Bool.not_eq_true', decide_eq_true_eq] at h
  obtain ⟨⟨⟨⟨⟨⟨h1, h2⟩, h3⟩, h4⟩, h5⟩, h6⟩, h7⟩ := h
  exact ⟨h1, h2, h3, h4, h5, h6, fun y hy e => by have := h7 y hy; rw [e] at this; cases this⟩
end Cd
set_option Elab.async false
set_option linter.all false
set_option maxRecDepth 100000
set_option maxHeartbeats 4000000
namespace Cd
open PySem PySem.Spec PyProof.Rows L2
section
variable {X : Cx}
end
section
variable {Γ : Gm} {N : List Str} {sc : Sco} {e tg ea eb ec : Expr} {a b c : E} {ta : Te} {o : O2} {pos p p2 apos : Pos} {es : List Expr} {as : List E} {i j : Nat} {x y f : Str} {t : Tg} {src : Src} {cl : Nat} {names : List Str}
theorem dp_len1 (v : NB Γ sc "len") (vv : VOk N sc i x) (se : ∀ q : Pos, Se1 (.Name x q) := by intro _ _; rfl) : DP Γ N sc (.Call (.Name "len" p) [.Name x p2] [] pos) (.op1 .len (.var i)) where
  run := fun n I W X g => (pe_bi1 g call_len v boot_len (vv.pe g) (se _)).imp fun σ H Q q => by
    obtain ⟨env, s, eH, hr, er, pr⟩ := q
    subst eH
    replace pr : (match (bor env s.h (.var i) (ofO (slot env i) s.h)).bind fun x h1 => ofO ((lenD x).map Val.p) h1 with
      | .ok (.p d) h' => h' = s.h ∧ ∀ x, RF X.K s.F s.H d x → Q x s.H
      | _ => False) := pr
    cases e : slot env i with
    | none =>
      simp only [bor, peek, lstOf, slotRef, e, Option.bind_none, Option.map_none, ofO_none, R.bind_stuck] at pr
    | some w =>
      obtain ⟨y, h1, h2⟩ := er.at_ i _ e
      refine ⟨y, h1, ?_⟩
      cases w with
      | p d =>
        simp only [bor, peek, lstOf, slotRef, e, Option.bind_none, Option.map_none, ofO_some, R.bind_ok, unP] at pr
        cases e1 : lenD d with
        | none => rw [e1] at pr; exact False.elim pr
        | some k =>
          rw [e1] at pr
          exact ok_len s d k y Q (.inl h2) e1 ⟨fun z r => pr.2 z r, fun p u hp r => by
            unfold lenD at e1
            split at e1
            · cases e1; cases r
            · cases e1; cases r
            · split at e1
              · cases e1; cases r
              · cases e1
            · cases e1⟩
      | ref m =>
        cases e2 : listAt s.h m with
        | none =>
          simp only [bor, peek, lstOf, slotRef, e, e2, Option.bind_some, Option.map_none, ofO_some, R.bind_ok, unP, R.bind_stuck] at pr
        | some ts =>
          simp only [bor, peek, lstOf, slotRef, e, e2, Option.bind_some, Option.map_some, R.bind_ok, lenD, ofO_some] at pr
          obtain ⟨xs, k1, k2⟩ := hr.ob _ _ (listAt_of e2)
          obtain ⟨_, rfl⟩ := h2
          exact ⟨_, _, rfl, .inl ⟨xs, .inl (Rd.of k1), rfl⟩, by rw [← k2.length]; exact pr.2 _ (.int _)⟩
  pure := fun cf env h => by
    show (∃ v, ((bor env h (.var i) (ofO (slot env i) h)).bind fun x h1 => ofO ((lenD x).map Val.p) h1) = .ok v h) ∨ ((bor env h (.var i) (ofO (slot env i) h)).bind fun x h1 => ofO ((lenD x).map Val.p) h1) = .stuck
    have key : ∀ d, (∃ v, (ofO ((lenD d).map Val.p) h) = .ok v h) ∨ (ofO ((lenD d).map Val.p) h) = .stuck := fun d => by
      cases lenD d with
      | none => exact .inr rfl
      | some k => exact .inl ⟨_, rfl⟩
    unfold bor
    cases peek env h (.var i) with
    | some d => exact key d
    | none =>
      cases slot env i with
      | none => exact .inr rfl
      | some w =>
        cases w with
        | p d => exact key d
        | ref m => exact .inr rfl
def rInA (K : PySem.W.Frag) (neg : Bool) : R2 := fun x y H Q => ∃ d ds, Dp K H x d ∧ (Dp K H y (.list ds) ∨ Dp K H y (.tuple ds)) ∧ d.plain = true ∧ PyData.plainAll ds = true ∧ d.depth ≤ 60 ∧ Q (.bl (if neg = true then !ds.any (fun z => PyData.eqv z d) else ds.any fun z => PyData.eqv z d)) H
theorem op_inA {X : Cx} (hu : X.A.units + 64 < cLine) : OpR X (compareOp .In) (rInA X.K false) := by
  intro pins s σ H x y v u Q I rx ry h
  obtain ⟨d, ds, hd, he, sd, se, hz, q⟩ := h
  obtain ⟨as, r1⟩ := Dp.reads I d x v hd rx
  rcases he with he | he
  · obtain ⟨bs, r2⟩ := Dp.reads I (.list ds) y u he ry
    exact PySem.SeqAt.in_list_data r2 r1 se sd (by omega) ⟨.bl _, H, I, rfl, q⟩
  · obtain ⟨bs, r2⟩ := Dp.reads I (.tuple ds) y u he ry
    exact PySem.SeqAt.in_tuple_data r2 r1 se sd (by omega) ⟨.bl _, H, I, rfl, q⟩
theorem op_notInA {X : Cx} (hu : X.A.units + 64 < cLine) : OpR X (compareOp .NotIn) (rInA X.K true) := by
  intro pins s σ H x y v u Q I rx ry h
  obtain ⟨d, ds, hd, he, sd, se, hz, q⟩ := h
  obtain ⟨as, r1⟩ := Dp.reads I d x v hd rx
  rcases he with he | he
  · obtain ⟨bs, r2⟩ := Dp.reads I (.list ds) y u he ry
    exact PySem.SeqAt.notIn_list_data r2 r1 se sd (by omega) ⟨.bl _, H, I, rfl, q⟩
  · obtain ⟨bs, r2⟩ := Dp.reads I (.tuple ds) y u he ry
    exact PySem.SeqAt.notIn_tuple_data r2 r1 se sd (by omega) ⟨.bl _, H, I, rfl, q⟩
theorem inD_inv {x : PyData} {ys : List PyData} {r : Bool} (h : inD x ys = some r) : x.plain = true ∧ PyData.plainAll ys = true ∧ x.depth ≤ 60 ∧ r = ys.any fun y => PyData.eqv y x := by
  unfold inD at h
  split at h
  · rename_i q
    simp only [Bool.and_eq_true, decide_eq_true_eq] at q
    cases h
    exact ⟨q.1.1, q.1.2, q.2, rfl⟩
  · cases h
theorem seqD_inv {d : PyData} {ts : List PyData} (h : seqD d = some ts) : d = .list ts ∨ d = .tuple ts := by
  cases d with
  | list us => cases h; exact .inl rfl
  | tuple us => cases h; exact .inr rfl
  | _ => cases h
theorem ok_isIn {K : PySem.W.Frag} : Op2Ok K (rInA K false) .isIn := fun s d1 d2 d x y Q r1 r2 e f => by
  replace e : (seqD d2).bind (fun ys => (inD d1 ys).map .bool) = some d := e
  rw [Option.bind_eq_some_iff] at e
  obtain ⟨ys, e1, e2⟩ := e
  rw [Option.map_eq_some_iff] at e2
  obtain ⟨r, e2, rfl⟩ := e2
  obtain ⟨h1, h2, h3, rfl⟩ := inD_inv e2
  exact ⟨d1, ys, r1.dp, (seqD_inv e1).imp (fun h => by rw [← h]; exact r2.dp) (fun h => by rw [← h]; exact r2.dp), h1, h2, h3, f.1 _ (.bl _)⟩
theorem ok_notIn {K : PySem.W.Frag} : Op2Ok K (rInA K true) .notIn := fun s d1 d2 d x y Q r1 r2 e f => by
  replace e : (seqD d2).bind (fun ys => (inD d1 ys).map fun b => .bool !b) = some d := e
  rw [Option.bind_eq_some_iff] at e
  obtain ⟨ys, e1, e2⟩ := e
  rw [Option.map_eq_some_iff] at e2
  obtain ⟨r, e2, rfl⟩ := e2
  obtain ⟨h1, h2, h3, rfl⟩ := inD_inv e2
  exact ⟨d1, ys, r1.dp, (seqD_inv e1).imp (fun h => by rw [← h]; exact r2.dp) (fun h => by rw [← h]; exact r2.dp), h1, h2, h3, f.1 _ (.bl _)⟩
theorem in_bool {x y d : PyData} {f : Bool → Bool} (e : ((seqD y).bind fun ys => (inD x ys).map fun b => PyData.bool (f b)) = some d) : ∃ b, d = .bool b := by
  rw [Option.bind_eq_some_iff] at e
  obtain ⟨ys, e1, e2⟩ := e
  rw [Option.map_eq_some_iff] at e2
  obtain ⟨r, e2, rfl⟩ := e2
  exact ⟨_, rfl⟩
theorem de_in (ha : DV Γ N sc ea a) (hb : DB Γ N sc eb b) (hm : behindInMarks .In eb = false := by with_unfolding_all rfl) : DE Γ N sc (.Compare ea [.In] [eb] pos) (.op2 .isIn a b) := de_op2 (r := fun X => rInA X.K false) (fun _ _ _ X g ta tb h1 h2 => pe_cmpR (op_inA g.hu) h1 h2 hm) (fun _ _ _ X g => ok_isIn) ha hb
theorem dt_in (ha : DV Γ N sc ea a) (hb : DB Γ N sc eb b) (hm : behindInMarks .In eb = false := by with_unfolding_all rfl) : DT Γ N sc (.Compare ea [.In] [eb] pos) (.val (.op2 .isIn a b)) := dt_op2 (r := fun X => rInA X.K false) (fun _ _ _ X g ta tb h1 h2 => pt_cmpR (op_inA g.hu) h1 h2 hm) (fun _ _ _ X g => ok_isIn) (fun _ _ _ e => in_bool (f := id) e) ha hb
theorem dt_notIn (ha : DV Γ N sc ea a) (hb : DB Γ N sc eb b) (hm : behindInMarks .NotIn eb = false := by with_unfolding_all rfl) : DT Γ N sc (.Compare ea [.NotIn] [eb] pos) (.val (.op2 .notIn a b)) := dt_op2 (r := fun X => rInA X.K true) (fun _ _ _ X g ta tb h1 h2 => pt_cmpR (op_notInA g.hu) h1 h2 hm) (fun _ _ _ X g => ok_notIn) (fun _ _ _ e => in_bool (f := not) e) ha hb
end
end Cd
set_option Elab.async false
set_option linter.all false
set_option maxRecDepth 100000
set_option maxHeartbeats 4000000
namespace Cd
open PySem PySem.Spec PyProof.Rows L2
section
variable {K : PySem.W.Frag} {CI : CInf} {s : Sx} {n j : Nat} {xs xs' : List V} {c : Nat} {fs fs' : List Fld} {names : List Str} {es : List (Str × V)} {f : Str} {y : V} {C dx : Addr}
end
section
variable {Γ : Gm} {N : List Str} {sc : Sco} {e tg ea eb ec : Expr} {a b c : E} {ta : Te} {o : O2} {pos p p2 apos : Pos} {es : List Expr} {as : List E} {i j : Nat} {x y f : Str} {t : Tg} {src : Src} {cl : Nat} {names : List Str}
/-- the same context, with other wishes about exceptions -/
theorem GX.tr {n : Nat} {I : Inf} {W W' : WX} {X : Cx} (g : GX Γ n I N sc W X) {pn : List (Addr × Obj)} {xe : Value → Shared → Prop} (tk : Takes (X.tr pn xe) W') (ps : PassesOwn (model X.prog X.w) X.A X.env xe) : GX Γ n I N sc W' (X.tr pn xe) where
  hN := g.hN
  nd := g.nd
  fnc := g.fnc
  sc := g.sc
  calm := g.calm
  tk := tk
  pass := ps
  room := g.room
  fn := g.fn
  nob := g.nob
  con := g.con
  cl := g.cl
  mt := g.mt
  fl := g.fl
  ci := g.ci
  xc := g.xc
  xm := g.xm
  tb := g.tb
  st := g.st
  ho := g.ho
  stk := g.stk
  gd := g.gd
  lm := g.lm
end
end Cd
set_option Elab.async false
set_option linter.all false
set_option maxRecDepth 100000
set_option maxHeartbeats 4000000
namespace Cd
open PySem PySem.Spec PyProof.Rows L2
section
variable {Γ : Gm} {N : List Str} {sc : Sco} {e tg ea eb ec : Expr} {a b c : E} {ta : Te} {o : O2} {pos p p2 apos : Pos} {es : List Expr} {as : List E} {i j : Nat} {x y f : Str} {t : Tg} {src : Src} {cl : Nat} {names : List Str} {sts : List Stmt} {ss : List S}
end
end Cd
set_option Elab.async false
set_option linter.all false
set_option maxRecDepth 100000
set_option maxHeartbeats 1000000
namespace Cd
open PySem PySem.Spec PyProof.Rows L2
theorem key_kV {K : PySem.W.Frag} {F : Addr → Prop} {H : Hp} {k : PyData} {v : V} {q : Key} (e : key0 k = some q) (r : RF K F H k v) : v = kV q := by
  cases k with
  | int i => cases e; cases r; rfl
  | str x => cases e; cases r; rfl
  | _ => cases e
section
variable {Γ : Gm} {N : List Str} {sc : Sco} {e tg ea eb ec : Expr} {a b c : E} {pos p p2 apos : Pos}
end
end Cd
set_option Elab.async false
set_option linter.all false
set_option maxRecDepth 100000
set_option maxHeartbeats 4000000
namespace Cd
open PySem PySem.Spec PyProof.Rows L2
section
variable {Γ : Gm} {N : List Str} {sc : Sco} {e tg ea eb ec : Expr} {a b c : E} {o : O2} {pos p p2 : Pos} {t : Tg} {src : Src} {i0 : Nat} {x : Str}
end
end Cd
set_option Elab.async false
set_option linter.all false
set_option maxRecDepth 100000
set_option maxHeartbeats 1000000
namespace Cd
open PySem PySem.Spec PyProof.Rows L2
def Sx.mkD (s : Sx) (a : Addr) : Sx := { s with h := s.h ++ [.dct []], φ := fun m k => if m = s.h.length then a else s.φ m k }
theorem live_appD {h : Hi} {m k : Nat} (l : Live (h ++ [.dct []]) m k) : (m < h.length ∧ Live h m k) ∨ (m = h.length ∧ k = 0) := by
  cases k with
  | zero =>
    obtain ⟨o, e, nd⟩ := l
    rcases get_app e with ⟨h1, h2⟩ | ⟨h1, h2⟩
    · exact .inl ⟨h1, o, h2, nd⟩
    · exact .inr ⟨h1, rfl⟩
  | succ k =>
    rcases l with ⟨c, fs, us, e, ef⟩ | ⟨kvs, q, us, e, ef⟩
    · rcases get_app e with ⟨h1, h2⟩ | ⟨h1, h2⟩
      · exact .inl ⟨h1, .inl ⟨c, fs, us, h2, ef⟩⟩
      · cases h2
    · rcases get_app e with ⟨h1, h2⟩ | ⟨h1, h2⟩
      · exact .inl ⟨h1, .inr ⟨kvs, q, us, h2, ef⟩⟩
      · cases h2
        simp at ef
theorem HR.mkD {K : PySem.W.Frag} {CI : CInf} {s : Sx} {a : Addr} (hr : HR K CI s) (ha : s.H a = some (.dK [])) (nf : ¬ s.F a) (nl : NotLive s a) (nb : ¬ s.B a) : HR K CI (s.mkD a) where
  ob := fun m u e => by
    rcases get_app e with ⟨h1, h2⟩ | ⟨h1, h2⟩
    · exact (hr.ob m u h2).move (s' := s.mkD a) .refl h2 fun j l => ⟨if_neg (Nat.ne_of_lt h1), fun w e => e⟩
    · subst h1; subst h2
      refine ⟨[], ?_, rfl, List.nodup_nil, fun j k f e => by simp at e⟩
      show s.H (if s.h.length = s.h.length then a else s.φ s.h.length 0) = some (.dK [])
      rw [if_pos rfl]; exact ha
  inj := fun m j q k l1 l2 e => by
    have e' : (if m = s.h.length then a else s.φ m j) = (if q = s.h.length then a else s.φ q k) := e
    rcases live_appD l1 with ⟨h1, h2⟩ | ⟨h1, h2⟩ <;> rcases live_appD l2 with ⟨h3, h4⟩ | ⟨h3, h4⟩
    · rw [if_neg (Nat.ne_of_lt h1), if_neg (Nat.ne_of_lt h3)] at e'
      exact hr.inj _ _ _ _ h2 h4 e'
    · rw [if_neg (Nat.ne_of_lt h1), if_pos h3] at e'
      exact absurd e' (nl _ _ h2)
    · rw [if_pos h1, if_neg (Nat.ne_of_lt h3)] at e'
      exact absurd e'.symm (nl _ _ h4)
    · exact ⟨h1.trans h3.symm, h2.trans h4.symm⟩
  nf := fun m j l => by
    show ¬ s.F (if m = s.h.length then a else s.φ m j)
    rcases live_appD l with ⟨h1, h2⟩ | ⟨h1, h2⟩
    · rw [if_neg (Nat.ne_of_lt h1)]; exact hr.nf _ _ h2
    · rw [if_pos h1]; exact nf
  bt := fun b hb => by
    obtain ⟨h1, h2, h3⟩ := hr.bt b hb
    refine ⟨fun m j l => ?_, h2, h3⟩
    show (if m = s.h.length then a else s.φ m j) ≠ b
    rcases live_appD l with ⟨k1, k2⟩ | ⟨k1, k2⟩
    · rw [if_neg (Nat.ne_of_lt k1)]; exact h1 _ _ k2
    · rw [if_pos k1]; rintro rfl; exact nb hb
  ft := hr.ft
  tb := hr.tb
  tn := hr.tn
theorem mkD_le {s : Sx} {a : Addr} : Le s (s.mkD a) := ⟨by show s.h.length ≤ (s.h ++ [_]).length; simp, fun n h => if_neg (Nat.ne_of_lt h), .refl, fun _ h => ⟨h, rfl⟩⟩
section
variable {Γ : Gm} {N : List Str} {sc : Sco} {e tg ea eb ec : Expr} {a b c : E} {pos p p2 apos : Pos} {i : Nat} {x : Str}
/-- x = {} -/
theorem ds_newD0 (v : TOk N sc i x) (hs : ∀ env, swapsWith (.Dict [] [] p2) (some (.Name x p)) pos.line env = pure false := by intro _; rfl) : DS Γ N sc (.Assign [.Name x p] (.Dict [] [] p2) pos) (.newD i []) := fun n I W X g =>
  (ps_set (i := i) (by rw [g.hN]; exact g.nd) (by rw [g.hN]; exact v.hN) (by rw [g.sc]; exact v.loc) pe_dnewK (hs _) (by rw [g.fnc, g.sc]; exact v.fn)).imp fun D σ H q => by
    obtain ⟨env, s, eH, hr, er, _, pr⟩ := q
    subst eH
    replace pr : PSt X.K I W D s (.ok .nx (setSlot env i (some (.ref s.h.length))) (s.h ++ [.dct []])) := pr
    intro p0 hp
    have hr1 := hr.put (o := .dK []) (fz := false) hp
    have fr := hr.fresh hp
    have hr2 : HR X.K I.ci ((s.put p0 (.dK []) false).mkD p0) := hr1.mkD upd_same (fun z => by
      rcases z with z | ⟨z, _⟩
      · exact fr.1 z
      · cases z) fr.2.1 fr.2.2
    have le : Le s ((s.put p0 (.dK []) false).mkD p0) := (hr.put_le hp).trans mkD_le
    exact pr ((s.put p0 (.dK []) false).mkD p0) _ le rfl hr2 ((er.le le).set ⟨by show s.h.length < (s.h ++ [_]).length; simp, by show _ = V.ref (if s.h.length = s.h.length then p0 else _); rw [if_pos rfl]⟩)
end
end Cd
set_option Elab.async false
set_option linter.all false
set_option maxRecDepth 100000
set_option maxHeartbeats 1000000
namespace Cd
open PySem PySem.Spec PyProof.Rows L2
theorem key_beq (q k : Key) : (q == k) = decide (q = k) := by
  rcases q with a | a <;> rcases k with b | b
  · show (a == b) = _
    by_cases h : a = b
    · subst h; simp
    · simp [h]
  · rfl
  · rfl
  · show (a == b) = _
    by_cases h : a = b
    · subst h; simp
    · simp [h]
theorem val_look {q : Key} : ∀ (kvs : List (Key × Fld)) (es : List (Key × V)) (R : Nat → Fld → V → Prop), es.map (·.1) = kvs.map (·.1) → (∀ j k f, kvs[j]? = some (k, f) → ∃ v, es[j]? = some (k, v) ∧ R j f v) →
    (kvs.lookup q = none ∧ valV es q = none) ∨ ∃ f v j, kvs.lookup q = some f ∧ valV es q = some v ∧ R j f v
  | [], [], R, _, _ => .inl ⟨rfl, rfl⟩
  | [], _ :: _, R, e, _ => nomatch e
  | _ :: _, [], R, e, _ => nomatch e
  | (k, f) :: r, (k', v) :: es, R, he, h => by
    have he' : k' = k ∧ es.map (·.1) = r.map (·.1) := by simpa using he
    obtain ⟨rfl, he2⟩ := he'
    obtain ⟨v0, e0, r0⟩ := h 0 k' f rfl
    have ev : v0 = v := by simpa using e0.symm
    subst ev
    by_cases c : q = k'
    · subst c
      right
      refine ⟨f, v0, 0, ?_, ?_, r0⟩
      · simp [List.lookup, key_beq]
      · simp [valV]
    · have c1 : (q == k') = false := by rw [key_beq]; exact decide_eq_false c
      have c2 : ¬ k' = q := fun z => c z.symm
      have l1 : ((k', f) :: r).lookup q = r.lookup q := by simp [List.lookup, c1]
      have l2 : valV ((k', v0) :: es) q = valV es q := by simp [valV, c2]
      rw [l1, l2]
      rcases val_look r es (fun j => R (j + 1)) he2 (fun j k g e => h (j + 1) k g e) with z | ⟨g, w, j, z1, z2, z3⟩
      · exact .inl z
      · exact .inr ⟨g, w, j + 1, z1, z2, z3⟩
section
variable {Γ : Gm} {N : List Str} {sc : Sco} {ek ed : Expr} {a b c : E} {pos p p2 apos : Pos} {i : Nat} {x : Str}
theorem de_dgetD (v : VOk N sc i x) (hk : DP Γ N sc ek a) (hd : DP Γ N sc ed b) (m : ∀ X : Cx, M2 X (.Name x p) "get" apos ek ed pos) : DE Γ N sc (.Call (.Attribute (.Name x p) "get" apos) [ek, ed] [] pos) (.dgetD i a b) := fun n I W X g =>
  (pe_dget2 (by have := g.hu; omega) (v.pe g) (hk.run n I W X g) (hd.run n I W X g) (m X)).imp fun σ H Q q => by
    obtain ⟨env, s, eH, hr, er, _, pr⟩ := q
    subst eH
    replace pr : PR X.K I W s σ (((evalE (callF Γ.fns n) env a s.h).bind unP).bind fun kd h1 => ((evalE (callF Γ.fns n) env b h1).bind unP).bind fun dd h2 => dgetDK env i kd dd h2) (VR X.K) Q := pr
    rcases hk.pure (callF Γ.fns n) env s.h with ⟨vk, e1⟩ | e1
    · cases vk with
      | ref m => rw [e1] at pr; exact False.elim pr
      | p kd =>
        rcases hd.pure (callF Γ.fns n) env s.h with ⟨vd, e2⟩ | e2
        · cases vd with
          | ref m => rw [e1] at pr; simp only [R.bind_ok, unP] at pr; rw [e2] at pr; exact False.elim pr
          | p dd =>
            rw [e1] at pr
            simp only [R.bind_ok, unP] at pr
            rw [e2] at pr
            simp only [R.bind_ok, unP] at pr
            unfold dgetDK at pr
            cases e3 : dctOf env s.h i with
            | none => rw [e3] at pr; exact False.elim pr
            | some pp =>
              cases e4 : keyOf kd with
              | none => rw [e3, e4] at pr; exact False.elim pr
              | some ky =>
                rw [e3, e4] at pr
                simp only at pr
                obtain ⟨k1, k2⟩ := dctOf_of e3
                obtain ⟨k6, k7⟩ := ref_addr er k1
                obtain ⟨es, h1, h2, h3, h4⟩ := hr.ob _ _ k2
                refine ⟨_, k6, _, rfl, .inl ⟨es, Rd.of h1⟩, env, s, rfl, hr, er, ?_⟩
                simp only [e1]
                refine ⟨trivial, fun y ry => ⟨env, s, rfl, hr, er, ?_⟩⟩
                simp only [e2]
                refine ⟨trivial, fun z rz => ?_⟩
                refine ⟨valV es ky, .inl ⟨es, ky, Rd.of h1, key_kV e4 ry, rfl⟩, ?_⟩
                rcases val_look (q := ky) pp.2 es (FlR X.K s pp.1) h2 h4 with ⟨l1, l2⟩ | ⟨f, w, j, l1, l2, l3⟩
                · rw [l1] at pr
                  rw [l2]
                  exact pr s _ (.refl s) rfl hr rz
                · rw [l1] at pr
                  rw [l2]
                  cases f with
                  | l ts => exact False.elim pr
                  | p d => exact pr s _ (.refl s) rfl hr l3
        · rw [e1] at pr; simp only [R.bind_ok, unP] at pr; rw [e2] at pr; exact False.elim pr
    · rw [e1] at pr; exact False.elim pr
end
end Cd
set_option Elab.async false
set_option linter.all false
set_option maxRecDepth 100000
set_option maxHeartbeats 1000000
namespace Cd
open PySem PySem.Spec PyProof.Rows L2
theorem putK_cons_eq {k : Key} {v v0 : V} {es : List (Key × V)} (h : k ∉ es.map (·.1)) : putK ((k, v0) :: es) k v = (k, v) :: es := by
  unfold putK
  have a : ((((k, v0) :: es).any fun kv => decide (kv.1 = k)) = true) := by simp
  rw [if_pos a, List.map_cons]
  simp only [if_true]
  congr 1
  have : ∀ kv ∈ es, (if kv.1 = k then (kv.1, v) else kv) = kv := fun kv hk => if_neg (fun z => h (List.mem_map.mpr ⟨kv, hk, z⟩))
  rw [List.map_congr_left this, List.map_id']
theorem putK_cons_ne {k k' : Key} {v v0 : V} {es : List (Key × V)} (h : k' ≠ k) : putK ((k', v0) :: es) k v = (k', v0) :: putK es k v := by
  unfold putK
  have a : (((k', v0) :: es).any fun kv => decide (kv.1 = k)) = (es.any fun kv => decide (kv.1 = k)) := by simp [h]
  rw [a]
  by_cases c : (es.any fun kv => decide (kv.1 = k)) = true
  · rw [if_pos c, if_pos c, List.map_cons, if_neg h]
  · rw [if_neg c, if_neg c]; rfl
theorem put_both {k : Key} {f : Fld} {v : V} : ∀ (kvs : List (Key × Fld)) (es : List (Key × V)), es.map (·.1) = kvs.map (·.1) → (kvs.map (·.1)).Nodup →
    (putK es k v).map (·.1) = (setKV kvs k f).map (·.1) ∧ ((setKV kvs k f).map (·.1)).Nodup ∧ (∀ x, x ∈ (setKV kvs k f).map (·.1) → x = k ∨ x ∈ kvs.map (·.1)) ∧
    ∀ (j : Nat) (q' : Key) (f' : Fld), (setKV kvs k f)[j]? = some (q', f') → (f' = f ∧ (putK es k v)[j]? = some (q', v)) ∨ (kvs[j]? = some (q', f') ∧ ∃ w : V, es[j]? = some (q', w) ∧ (putK es k v)[j]? = some (q', w))
  | [], [], _, _ => by
    refine ⟨rfl, by simp [setKV], fun x hx => by simpa [setKV] using hx, fun j q' f' e => ?_⟩
    left
    cases j with
    | zero =>
      have e' : some (k, f) = some (q', f') := e
      cases e'
      exact ⟨rfl, rfl⟩
    | succ j => simp [setKV] at e
  | [], _ :: _, e, _ => nomatch e
  | _ :: _, [], e, _ => nomatch e
  | (k1, g) :: r, (k2, w) :: es, he, nd => by
    have he' : k2 = k1 ∧ es.map (·.1) = r.map (·.1) := by simpa using he
    obtain ⟨rfl, he2⟩ := he'
    have nd' : k2 ∉ r.map (·.1) ∧ (r.map (·.1)).Nodup := List.nodup_cons.mp nd
    by_cases c : k2 = k
    · subst c
      have s1 : setKV ((k2, g) :: r) k2 f = (k2, f) :: r := by unfold setKV; rw [if_pos rfl]
      rw [s1, putK_cons_eq (by rw [he2]; exact nd'.1)]
      refine ⟨by rw [List.map_cons, List.map_cons, he2], List.nodup_cons.mpr nd', fun x hx => .inr hx, fun j q' f' e => ?_⟩
      cases j with
      | zero =>
        have e' : some (k2, f) = some (q', f') := e
        cases e'
        exact .inl ⟨rfl, rfl⟩
      | succ j =>
        right
        have e' : r[j]? = some (q', f') := e
        refine ⟨e', ?_⟩
        have h1 : (r.map (·.1))[j]? = some q' := by rw [List.getElem?_map, e']; rfl
        rw [← he2, List.getElem?_map] at h1
        obtain ⟨p, hp, hq⟩ := Option.map_eq_some_iff.mp h1
        refine ⟨p.2, ?_, ?_⟩
        · show es[j]? = _; rw [hp, ← hq]
        · show es[j]? = _; rw [hp, ← hq]
    · have s1 : setKV ((k2, g) :: r) k f = (k2, g) :: setKV r k f := by rw [setKV.eq_def]; simp only; rw [if_neg c]
      rw [s1, putK_cons_ne c]
      obtain ⟨h1, h2, h3, h4⟩ := put_both (k := k) (f := f) (v := v) r es he2 nd'.2
      refine ⟨by rw [List.map_cons, List.map_cons, h1], List.nodup_cons.mpr ⟨fun z => ?_, h2⟩, fun x hx => ?_, fun j q' f' e => ?_⟩
      · rcases h3 _ z with z | z
        · exact c z
        · exact nd'.1 z
      · rcases List.mem_cons.mp hx with hx | hx
        · exact .inr (by rw [hx]; exact List.mem_cons_self)
        · rcases h3 x hx with z | z
          · exact .inl z
          · exact .inr (List.mem_cons_of_mem _ z)
      · cases j with
        | zero =>
          have e' : some (k2, g) = some (q', f') := e
          cases e'
          exact .inr ⟨rfl, w, rfl, rfl⟩
        | succ j => exact h4 j q' f' e
end Cd
set_option Elab.async false
set_option linter.all false
set_option maxRecDepth 100000
set_option maxHeartbeats 1000000
namespace Cd
open PySem PySem.Spec PyProof.Rows L2
theorem size1000' : (1000 : Nat) < sizeLine := by decide
section
variable {K : PySem.W.Frag} {CI : CInf} {s : Sx}
theorem own_dput {n : Nat} {kvs : List (Key × Fld)} {q : Key} {d : PyData} {v : V} (hr : HR K CI s) (hn : s.h[n]? = some (.dct kvs)) (r : RF K s.F s.H d v) :
    ∃ es, s.H (s.φ n 0) = some (.dK es) ∧ es.length = kvs.length ∧ ∃ s', s'.H = upd s.H (s.φ n 0) (.dK (putK es q v)) ∧ s'.h = s.h.set n (.dct (setKV kvs q (.p d))) ∧ HR K CI s' ∧ Le s s' := by
  obtain ⟨es, h1, h2, h3, h4⟩ := hr.ob _ _ hn
  have hl : Live s.h n 0 := ⟨_, hn, by intro z; cases z⟩
  obtain ⟨p1, p2, _, p4⟩ := put_both (k := q) (f := .p d) (v := v) kvs es h2 h3
  have kp := own_keep (ob := .dK (putK es q v)) hr hl rfl h1 (by intro _ z; cases z) (by intro _ _ z; cases z) rfl
  refine ⟨es, h1, by have := congrArg List.length h2; simpa using this, { s with h := s.h.set n (.dct (setKV kvs q (.p d))), H := upd s.H (s.φ n 0) (.dK (putK es q v)) }, rfl, rfl,
    hr.wrO hl h1 (by intro _ z; cases z) (by intro _ _ z; cases z) (fun m k l => ?_) (fun m hm => ?_) (fun w e => ?_) (ob' := .dct (setKV kvs q (.p d))) ⟨putK es q v, upd_same, p1, p2, fun j k f e => ?_⟩, wrO_le hr hl h1 (by intro _ z; cases z) (by intro _ _ z; cases z) (by simp)⟩
  · rcases live_set l with ⟨_, z⟩ | ⟨rfl, z⟩
    · exact z
    · cases k with
      | zero => exact hl
      | succ k =>
        rcases z with ⟨c, fs, us, e, ef⟩ | ⟨kvs', q', us, e, ef⟩
        · cases rep_get e
        · have e2 := rep_get e
          cases e2
          rcases p4 k q' _ ef with ⟨z, _⟩ | ⟨z, _⟩
          · cases z
          · exact .inr ⟨kvs, q', us, hn, z⟩
  · rw [List.getElem?_set_ne (Ne.symm hm)]
  · rcases get_set e with ⟨_, z⟩ | ⟨z, _⟩
    · exact z
    · exact absurd rfl z
  · rcases p4 j k f e with ⟨z1, z2⟩ | ⟨z1, w, z2, z3⟩
    · subst z1
      exact ⟨v, z2, r.keep kp⟩
    · obtain ⟨v', e1, fl⟩ := h4 j k f z1
      have ew : v' = w := by rw [z2] at e1; simpa using e1.symm
      subst ew
      refine ⟨v', z3, ?_⟩
      cases f with
      | p d' => exact RF.keep kp fl
      | l ts =>
        obtain ⟨f1, xs, f2, f3⟩ := fl
        refine ⟨f1, xs, ?_, f3.keep kp⟩
        show upd s.H (s.φ n 0) (.dK (putK es q v)) (s.φ n (j + 1)) = some (.lst xs)
        rw [upd_ne]
        · exact f2
        · intro z
          have := (hr.inj n (j + 1) n 0 (.inr ⟨kvs, k, ts, hn, z1⟩) hl z).2
          omega
end
section
variable {Γ : Gm} {N : List Str} {sc : Sco} {ev ek : Expr} {a b c : E} {pos p p2 apos : Pos} {i : Nat} {x : Str}
theorem ds_setKeyD {q : Pos} (v : VOk N sc i x) (hv : DV Γ N sc ev a) (hk : DP Γ N sc ek b) (hs : ∀ env, swapsWith ev (some (.Subscript (.Name x q) ek p)) pos.line env = pure false := by intro _; rfl) : DS Γ N sc (.Assign [.Subscript (.Name x q) ek p] ev pos) (.setKeyD i b a) := fun n I W X g =>
  (ps_dput (by have := g.hu; omega) (v.pe g) (hk.run n I W X g) (hv n I W X g) (hs _)).imp fun D σ H qq => by
    obtain ⟨env, s, eH, hr, er, _, pr⟩ := AtS.bind (Rel1 := PRl X.K) (k := fun d env h1 => ((evalE (callF Γ.fns n) env b h1).bind unP).toS env fun kd h2 => ofH env ((keyOf kd).bind fun q => setKeyH env i q (.p d) h2)) qq
    refine ⟨env, s, eH, hr, er, trivial, PR.mono pr fun y H1 ⟨d, env, s, e, hr, er, ⟨_, r⟩, pr⟩ => ?_⟩
    subst e
    replace pr : PSt X.K I W D s (((evalE (callF Γ.fns n) env b s.h).bind unP).toS env fun kd h2 => ofH env ((keyOf kd).bind fun q => setKeyH env i q (.p d) h2)) := pr
    rcases hk.pure (callF Γ.fns n) env s.h with ⟨vk, e1⟩ | e1
    · cases vk with
      | ref m => rw [e1] at pr; exact False.elim pr
      | p kd =>
        rw [e1] at pr
        replace pr : PSt X.K I W D s (ofH env ((keyOf kd).bind fun q => setKeyH env i q (.p d) s.h)) := pr
        cases e4 : keyOf kd with
        | none => rw [e4] at pr; exact False.elim pr
        | some ky =>
          rw [e4, Option.bind_some] at pr
          unfold setKeyH at pr
          cases e3 : dctOf env s.h i with
          | none => rw [e3] at pr; exact False.elim pr
          | some pp =>
            rw [e3, Option.bind_some] at pr
            by_cases hz : pp.2.length < 1000
            · rw [if_pos hz] at pr
              obtain ⟨k1, k2⟩ := dctOf_of e3
              obtain ⟨k6, k7⟩ := ref_addr er k1
              obtain ⟨es, h1, h2, s', h3, h4, h5, h6⟩ := own_dput (q := ky) hr k2 r
              refine ⟨_, k6, env, s, rfl, hr, er, ?_⟩
              simp only [e1]
              refine ⟨trivial, fun z rz => ?_⟩
              refine ⟨_, upd s.H (s.φ pp.1 0) (.dK (putK es ky y)), rfl, ?_, ?_⟩
              · rw [key_kV e4 rz]
                exact DPut.k h1 (by have := size1000'; omega)
              · rw [← h3]
                exact pr s' σ h6 h4 h5 (er.le h6)
            · rw [if_neg hz] at pr; exact False.elim pr
    · rw [e1] at pr; exact False.elim pr
end
end Cd
set_option Elab.async false
set_option linter.all false
set_option maxRecDepth 100000
set_option maxHeartbeats 1000000
namespace Cd
open PySem PySem.Spec PyProof.Rows L2
section
variable {prog : Program} {w : World} {A : Around} {E : Value → Shared → Prop} {s : Shared}
/-- all items of a list or tuple, in a list that is new -/
theorem collect_at {Q : List Value → Shared → Prop} {l : Addr} {T : String} {o : Obj} {items : Array Value} {n : Nat} (hT : T = "list" ∨ T = "tuple") (ho : s.heap.get? l = some o) (hc : o.cls = .type T) (hd : o.data = .seq items n) (hz : items.size ≤ sizeLine)
    (fin : ∀ h2 : Heap, (∀ b u, s.heap.get? b = some u → h2.get? b = some u) → s.heap.objs.size ≤ h2.objs.size → Q items.toList { s with heap := h2 }) : wpAny (model prog w) A (collect (.ref l)) Q E s := by
  let S := s.heap.objs.size
  let h1 : Heap := s.heap.push { cls := .type "list", data := .seq ([] : List Value).toArray }
  let h2 : Heap := h1.update S (Obj.mapSeq (· ++ items))
  have g1 : h1.get? S = some { cls := .type "list", data := .seq #[] 0 } := Heap.get?_push_size _ rfl
  have g2 := Heap.get?_update_self (Obj.mapSeq (· ++ items)) g1 rfl
  have keep : ∀ b u, s.heap.get? b = some u → h2.get? b = some u := fun b u e =>
    (Heap.get?_update_other h1 _ (Nat.ne_of_gt (Heap.lt_size e))).trans (Heap.get?_push_of_some _ e)
  have sz : S ≤ h2.objs.size := by
    show S ≤ (h1.update S _).objs.size
    rw [Heap.size_update, size_push']
    omega
  have e0 : ((#[] : Array Value) ++ items).toList = items.toList := by simp
  have last : wpAny (model prog w) A (do
      match (← load S).data with
      | .seq xs _ => pure xs.toList
      | _ => unsupported "internal:collect") Q E { s with heap := h2 } := by
    refine wpAny_bind (wpAny_load g2 (wpAny_pure ?_))
    show Q ((#[] : Array Value) ++ items).toList _
    rw [e0]; exact fin h2 keep sz
  unfold collect
  refine wpAny_bind (wpAny_runValue (codeAny_builtin F.entry_proto_collect (by
    rw [Around.under_plainId F.plain_proto_collect _]
    show wpAny _ A.in1 (newList [] >>= fun q => again (.builtin "list.__iadd__" ⟨[q, .ref l], []⟩)) _ _ s
    refine wpAny_bind (wpAny_newObj_type (wpAny_pure ⟨plainId_quiet F.plain_list_iadd _, codeAny_builtin F.entry_list_iadd (by
      rw [Around.under_plainId F.plain_list_iadd _]
      show wpAny _ A.in1 (Builtin.List.listExtendWith (.ref S) (.ref l) (.ref S)) _ _ _
      refine wpAny_mono (wpAny_extend_seq (hsz := hz) (A := A) (R := fun r s' => r = .ok (.ret (.ref S)) ∧ s' = { s with heap := h2 }) (s := { s with heap := h1 }) _ l _ 0 hT g1 (Heap.get?_push_of_some _ ho) hc hd ⟨rfl, rfl⟩) (fun f s' hf => ?_) (fun e s' hf => absurd hf.1 (by simp))
      cases f with
      | done f =>
        obtain ⟨e, rfl⟩ := hf
        cases e
        exact last
      | again c =>
        exact ⟨hf.1, codeAny_mono hf.2 fun r s2 hr => by
          obtain ⟨rfl, rfl⟩ := hr
          exact last⟩)⟩))))) 
/-- sorted of a tuple (or list): the new list stands beyond all that was -/
theorem sorted_seqA {l : Addr} {T : String} {o : Obj} {n : Nat} {vs : List Value} {ltv : Value → Value → Bool} {Q : Value → Shared → Prop} (O : SrtO.Swo ltv) (hT : T = "list" ∨ T = "tuple") (ho : s.heap.get? l = some o) (hc : o.cls = .type T) (hd : o.data = .seq vs.toArray n) (hz : vs.length ≤ sizeLine)
    (hS : ∀ (s1 : Shared) (a : Addr), 2 ≤ vs.length → SrtO.SortableO prog w A.in1.in1 s1 a vs ltv)
    (fin : ∀ (a : Addr) (h2 : Heap) (out : List Value), SrtO.Srtd ltv out → SrtO.Stb ltv out vs → s.heap.objs.size ≤ a → (∀ b u, s.heap.get? b = some u → h2.get? b = some u) → (∃ e, h2.get? a = some (seqObj "list" out.toArray e)) → Q (.ref a) { s with heap := h2 }) :
    wpAny (model prog w) A (call (.builtin "sorted") [.ref l]) Q E s :=
  Calls.call_function_entry kind_sorted plain_sorted entry_sorted (args_sorted1 _) (by
    unfold Builtin.«sorted»
    refine wpAny_bind (m := checkCount "sorted" 1 1 _) (wpAny_pure (wpAny_bind (collect_at hT ho hc hd (by simpa using hz) fun h' k sz => wpAny_bind (wpAny_newList ?_ hz))))
    have hL : (h'.push (seqObj "list" vs.toArray 0)).get? h'.objs.size = some (seqObj "list" vs.toArray 0) := Heap.get?_push_size _ rfl
    refine wpAny_bind (wpAny_holding (wpAny_call_entry slot_list_sort ⟨_, hL, rfl⟩ entry_list_sort (SrtO.list_sort_ord O hL hz (fun two => hS _ _ two) fun out ha hb => ⟨_, rfl, wpAny_pure ⟨_, rfl, ?_⟩⟩) (args_list_sort _)))
    refine fin _ _ out ha hb sz (fun b u e => ?_) (sortedHeap_at hL)
    have e2 := k b u e
    have lt := Heap.lt_size e2
    exact (sortedHeap_old (Nat.ne_of_lt lt) (by rw [size_push']; exact Nat.lt_succ_of_lt lt)).trans (Heap.get?_push_of_some _ e2))
end
/-- sorted(a list or tuple of ints) -/
def rSortedA (K : PySem.W.Frag) : List V → Hp → VK → Prop := fun vs H Q => ∃ (a : Addr) (ns : List Int), vs = [V.ref a] ∧ (SqL K H a (ns.map V.int) ∨ SqT K H a (ns.map V.int)) ∧
  ∀ p : Addr, H p = none → Q (.ref p) (upd H p (.lst ((sortI ns).map V.int)))
theorem cr_sortedA {X : Cx} : CallR X (.builtin "sorted") (rSortedA X.K) := by
  intro pins s σ H vs us Q I r h
  obtain ⟨a, ns, rfl, hs, q⟩ := h
  obtain ⟨its, T, o, n, hT, ho, hc, hd, rv, hz⟩ : ∃ (its : List Value) (T : String) (o : Obj) (n : Nat), (T = "list" ∨ T = "tuple") ∧ s.heap.get? a = some o ∧ o.cls = .type T ∧ o.data = .seq its.toArray n ∧ Vals (ns.map V.int) its ∧ (ns.map V.int).length ≤ sizeLine := by
    rcases hs with hs | hs
    · obtain ⟨its, rv, hl, hz⟩ := I.list hs
      obtain ⟨o, ho, hc, n, hd⟩ := hl.isList
      exact ⟨its, "list", o, n, .inl rfl, ho, hc, hd, rv, hz⟩
    · obtain ⟨its, rv, ⟨o, ho, hc, n, hd⟩, hz⟩ := I.tuple hs
      exact ⟨its, "tuple", o, n, .inr rfl, ho, hc, hd, rv, hz⟩
  rw [Vals.ref1 r]
  have hi := rv.ints
  refine sorted_seqA SrtO.swo_int hT ho hc hd (by rw [← rv.length]; exact hz) (fun s1 b h2 => SrtO.ints_sortable hi h2) fun b h2 out h3 h4 hb k ⟨e, he⟩ => ?_
  obtain ⟨k1, k2, k3⟩ := SrtO.ints_out hi h3 h4
  have es : out.map SrtO.iv = sortI ns := sorted_uniq (k2.trans (sortI_perm _).symm) k3 (sortI_sorted _)
  rw [es] at k1
  have hlen : ((sortI ns).map V.int).length ≤ sizeLine := by rw [List.length_map, (sortI_perm ns).length_eq]; rw [List.length_map] at hz; exact hz
  exact ⟨.ref b, upd H b (.lst ((sortI ns).map V.int)), I.laid (t' := s.toks) k hb ⟨hlen, out, e, vals_of_ints k1, he⟩, rfl, q b (I.hok.fresh hb)⟩
theorem leP_iff {p q : Int × Int} : leP p q = true ↔ p.1 < q.1 ∨ (p.1 = q.1 ∧ p.2 ≤ q.2) := by
  unfold leP
  simp
theorem insP_perm (x : Int × Int) : ∀ l : List (Int × Int), (insP x l).Perm (x :: l)
  | [] => .refl _
  | y :: r => by
    unfold insP
    split
    · exact .refl _
    · exact ((insP_perm x r).cons y).trans (.swap _ _ _)
theorem sortP_perm : ∀ l : List (Int × Int), (sortP l).Perm l
  | [] => .refl _
  | x :: r => (insP_perm x _).trans ((sortP_perm r).cons x)
theorem insP_sorted {x : Int × Int} : ∀ {l : List (Int × Int)}, l.Pairwise (fun p q => leP p q = true) → (insP x l).Pairwise fun p q => leP p q = true
  | [], _ => List.pairwise_singleton _ _
  | y :: r, h => by
    obtain ⟨h1, h2⟩ := List.pairwise_cons.mp h
    unfold insP
    split
    · rename_i c
      refine List.pairwise_cons.mpr ⟨fun z hz => ?_, h⟩
      rcases List.mem_cons.mp hz with rfl | hz
      · exact c
      · have a := leP_iff.mp c
        have b := leP_iff.mp (h1 z hz)
        exact leP_iff.mpr (by omega)
    · rename_i c
      refine List.pairwise_cons.mpr ⟨fun z hz => ?_, insP_sorted h2⟩
      rcases List.mem_cons.mp ((insP_perm x r).mem_iff.mp hz) with rfl | hz
      · have a : ¬ (z.1 < y.1 ∨ (z.1 = y.1 ∧ z.2 ≤ y.2)) := fun t => c (leP_iff.mpr t)
        exact leP_iff.mpr (by omega)
      · exact h1 z hz
theorem sortP_sorted : ∀ l : List (Int × Int), (sortP l).Pairwise fun p q => leP p q = true
  | [] => .nil
  | _ :: r => insP_sorted (sortP_sorted r)
theorem leP_uniq {l m : List (Int × Int)} (p : l.Perm m) (h1 : l.Pairwise fun p q => leP p q = true) (h2 : m.Pairwise fun p q => leP p q = true) : l = m :=
  p.eq_of_pairwise (fun a b _ _ x y => by
    have a1 := leP_iff.mp x
    have a2 := leP_iff.mp y
    exact Prod.ext (by omega) (by omega)) h1 h2
/-- the pairs in a list -/
def Prs (K : PySem.W.Frag) (H : Hp) (ps : List (Int × Int)) (xs : List V) : Prop := ps.length = xs.length ∧ ∀ (i : Nat) p, ps[i]? = some p → ∃ t, xs[i]? = some (.ref t) ∧ SqT K H t [.int p.1, .int p.2]
theorem Prs.rf {K : PySem.W.Frag} {F : Addr → Prop} {H : Hp} : ∀ {ps : List (Int × Int)} {xs : List V}, Prs K H ps xs → RFs K F H (ps.map pairD) xs
  | [], [], _ => .nil
  | [], _ :: _, h => absurd h.1 (by simp)
  | _ :: _, [], h => absurd h.1 (by simp)
  | p :: ps, x :: xs, h => by
    obtain ⟨t, e, s⟩ := h.2 0 p rfl
    cases e
    exact .cons (.tup (.lo s rfl) (.cons (.int _) (.cons (.int _) .nil))) (Prs.rf ⟨by simpa using h.1, fun i q e => by simpa using h.2 (i + 1) q (by simpa using e)⟩)
theorem Prs.of {K : PySem.W.Frag} {F : Addr → Prop} {H : Hp} : ∀ {ts : List PyData} {xs : List V} {ps : List (Int × Int)}, RFs K F H ts xs → pairsD ts = some ps → Prs K H ps xs
  | [], _, _, .nil, e => by cases e; exact ⟨rfl, fun i p e => by simp at e⟩
  | d :: ds, _, ps, .cons (v := v) (vs := vs) r t, e => by
    have : ∃ a b, d = .tuple [.int a, .int b] := by
      cases d with
      | tuple ts => match ts, e with
        | [.int a, .int b], _ => exact ⟨a, b, rfl⟩
      | _ => cases e
    obtain ⟨a, b, rfl⟩ := this
    replace e : (pairsD ds).map ((a, b) :: ·) = some ps := e
    rw [Option.map_eq_some_iff] at e
    obtain ⟨qs, e1, rfl⟩ := e
    have ih := Prs.of t e1
    obtain ⟨p, ys, rfl, s, r2⟩ := r.tup_inv
    cases r2 with
    | cons r3 r4 =>
      cases r4 with
      | cons r5 r6 =>
        cases r6
        rw [RF.int_inv r3, RF.int_inv r5] at s
        refine ⟨by simpa using ih.1, fun i q e => ?_⟩
        cases i with
        | zero => simp at e; subst e; exact ⟨p, rfl, s⟩
        | succ i => simpa using ih.2 i q (by simpa using e)
/-- sorted(a list of pairs of ints) -/
def rSortP (K : PySem.W.Frag) : List V → Hp → VK → Prop := fun vs H Q => ∃ (a : Addr) (xs : List V) (ps : List (Int × Int)), vs = [V.ref a] ∧ SqL K H a xs ∧ Prs K H ps xs ∧ ∀ (p : Addr) zs, H p = none → Prs K H (sortP ps) zs → Q (.ref p) (upd H p (.lst zs))
theorem cr_sortP {X : Cx} : CallR X (.builtin "sorted") (rSortP X.K) := by
  intro pins s σ H vs us Q I r h
  obtain ⟨a, xs, ps, rfl, hs, hx, q⟩ := h
  obtain ⟨its, rv, hl, hz⟩ := I.list hs
  rw [Vals.ref1 r]
  let k : Value → Int × Int := fun v => open Classical in if h : ∃ p : Int × Int, Srt.IsPair s.heap v p.1 p.2 then Classical.choose h else (0, 0)
  have hk : ∀ v p, Srt.IsPair s.heap v p.1 p.2 → k v = p := fun v p h => by
    have ex : ∃ p : Int × Int, Srt.IsPair s.heap v p.1 p.2 := ⟨p, h⟩
    have e : k v = Classical.choose ex := dif_pos ex
    rw [e]
    obtain ⟨a, o, t, u, n, e1, ho, hc, hd⟩ := Classical.choose_spec ex
    obtain ⟨a', o', t', u', n', e1', ho', hc', hd'⟩ := h
    rw [e1] at e1'
    cases e1'
    rw [ho] at ho'
    cases ho'
    rw [hd] at hd'
    injection hd' with h1 _
    have h2 := congrArg Array.toList h1
    simp at h2
    exact Prod.ext h2.1.1 h2.2.1
  have hpair : ∀ (i : Nat) v, its[i]? = some v → ∃ t p, v = .ref t ∧ ps[i]? = some p ∧ SqT X.K H t [.int p.1, .int p.2] ∧ k v = p := fun i v e => by
    obtain ⟨hi, _⟩ := List.getElem?_eq_some_iff.mp e
    have hl1 := rv.length
    have hl2 := hx.1
    have hp : ps[i]? = some (ps[i]'(by omega)) := List.getElem?_eq_getElem _
    obtain ⟨t, ex, st⟩ := hx.2 i _ hp
    obtain ⟨w, ew, rw⟩ := rv.get ex
    rw [e] at ew
    cases ew
    obtain rfl : v = Value.ref t := rw
    refine ⟨t, _, rfl, hp, st, hk _ _ ?_⟩
    obtain ⟨its2, r2, ⟨o, ho, hc, n, hd⟩, _⟩ := I.tuple st
    obtain ⟨u1, u2, rfl, ri, rj⟩ := vals2 r2
    obtain ⟨t1, rfl⟩ := ri
    obtain ⟨t2, rfl⟩ := rj
    exact ⟨t, o, t1, t2, n, rfl, ho, hc, hd⟩
  have mem : ∀ v ∈ its, ∃ t, v = .ref t ∧ SqT X.K H t [.int (k v).1, .int (k v).2] ∧ Srt.IsPair s.heap v (k v).1 (k v).2 := fun v hv => by
    obtain ⟨i, hi, e⟩ := List.getElem_of_mem hv
    obtain ⟨t, p, e1, _, st, ek⟩ := hpair i v (by rw [← e]; exact List.getElem?_eq_getElem hi)
    rw [ek]
    refine ⟨t, e1, st, ?_⟩
    obtain ⟨its2, r2, ⟨o, ho, hc, n, hd⟩, _⟩ := I.tuple st
    obtain ⟨u1, u2, rfl, ri, rj⟩ := vals2 r2
    obtain ⟨t1, rfl⟩ := ri
    obtain ⟨t2, rfl⟩ := rj
    exact ⟨t, o, t1, t2, n, e1, ho, hc, hd⟩
  have emap : its.map k = ps := by
    have hl1 := rv.length
    have hl2 := hx.1
    refine List.ext_getElem? fun i => ?_
    rw [List.getElem?_map]
    cases e : its[i]? with
    | none =>
      have := List.getElem?_eq_none_iff.mp e
      rw [List.getElem?_eq_none (by omega)]; rfl
    | some v =>
      obtain ⟨t, p, _, hp, _, ek⟩ := hpair i v e
      rw [hp, Option.map_some, ek]
  refine SrtO.sorted_pairsO (k := k) hl.isList (by rw [← rv.length]; exact hz) (fun v hv => (mem v hv).choose_spec.2.2) fun h' d out h1 h2 kp hd hn => ?_
  have h3 : ∀ u ∈ out, ∃ a, u = Value.ref a := fun u hu => by
    obtain ⟨t, e, _⟩ := mem u (h2.perm.mem_iff.mp hu)
    exact ⟨t, e⟩
  obtain ⟨n, hn⟩ := hn
  have eo : out.map k = sortP ps := by
    refine leP_uniq ((h2.perm.map k).trans (by rw [emap]; exact (sortP_perm ps).symm)) ?_ (sortP_sorted ps)
    rw [List.pairwise_map]
    refine List.Pairwise.imp ?_ h1
    intro x y hxy
    have := SrtO.lexB_no.mp hxy
    exact leP_iff.mpr (by omega)
  refine ⟨.ref d, upd H d (.lst (out.map backV)), I.laid (t' := s.toks) kp hd ⟨?_, out, n, vals_back h3, hn⟩, rfl, q d _ (I.hok.fresh hd) ⟨by rw [← eo]; simp, fun i p e => ?_⟩⟩
  · rw [List.length_map, h2.len, ← rv.length]
    exact hz
  · rw [← eo, List.getElem?_map, Option.map_eq_some_iff] at e
    obtain ⟨u, eu, rfl⟩ := e
    obtain ⟨t, e1, st, _⟩ := mem u (h2.perm.mem_iff.mp (List.mem_of_getElem? eu))
    refine ⟨t, ?_, st⟩
    rw [List.getElem?_map, eu, e1]
    rfl
theorem cr_sortedB {X : Cx} : CallR X (.builtin "sorted") (fun vs H Q => rSortedA X.K vs H Q ∨ rSortP X.K vs H Q) := by
  intro pins s σ H vs us Q I r h
  rcases h with h | h
  · exact cr_sortedA pins s σ H vs us Q I r h
  · exact cr_sortP pins s σ H vs us Q I r h
section
variable {K : PySem.W.Frag} {Γ : Gm} {N : List Str} {sc : Sco} {ea : Expr} {a : E} {pos p p2 : Pos}
theorem okN_sorted : Op1N K (one fun vs H Q => rSortedA K vs H Q ∨ rSortP K vs H Q) .sorted := fun s d1 d x Q r e f => by
  replace e : sortedS d1 = some d := e
  unfold sortedS at e
  split at e
  · obtain ⟨l, xs, rfl, h1, q1⟩ := r.lst
    split at e
    · rename_i ns e1
      cases e
      obtain ⟨rfl, _⟩ := q1.ints' e1
      exact .inl ⟨l, ns, rfl, .inl h1, fun p0 h0 => f p0 _ _ rfl (.ofInts _) h0⟩
    · rw [Option.map_eq_some_iff] at e
      obtain ⟨ps, e, rfl⟩ := e
      exact .inr ⟨l, xs, ps, rfl, h1, .of q1 e, fun p0 zs h0 hz => f p0 _ _ rfl hz.rf h0⟩
  · rw [Option.map_eq_some_iff] at e
    obtain ⟨ns, e, rfl⟩ := e
    obtain ⟨l, xs, rfl, h1, q1⟩ := r.tup
    obtain ⟨rfl, _⟩ := q1.ints' e
    exact .inl ⟨l, ns, rfl, .inr h1, fun p0 h0 => f p0 _ _ rfl (.ofInts _) h0⟩
  · cases e
theorem dn_sorted (v : NB Γ sc "sorted") (ha : DB Γ N sc ea a) (se : Se1 ea := by intro _; rfl) : DN Γ N sc (.Call (.Name "sorted" p) [ea] [] pos) (.op1 .sorted a) :=
  dn_op1 (fun _ _ _ X g ta h => pe_bi1 g cr_sortedB v (by decide +kernel) h se) (fun _ _ _ X g => okN_sorted) ha
end
end Cd
set_option Elab.async false
set_option linter.all false
set_option maxRecDepth 100000
set_option maxHeartbeats 4000000
namespace Cd
open PySem PySem.Spec PyProof.Rows L2
section
variable {Γ : Gm} {N : List Str} {sc : Sco} {e tg ea eb ec ed : Expr} {a b c : E} {ta : Te} {o : O2} {pos p p2 : Pos} {i j : Nat} {x y : Str}
end
end Cd
set_option Elab.async false
set_option linter.all false
set_option maxRecDepth 100000
set_option maxHeartbeats 4000000
namespace Cd
open PySem PySem.Spec PyProof.Rows L2
theorem TabEs.all {K : PySem.W.Frag} {P : Program} {w : World} {h : Heap} (X : K.In h) : ∀ {kvs : List (List Int × Int)} {es : List DictEntry}, TabEs K kvs es →
    ∃ xs : List (List Key × Addr × Value), es = xs.map (entryOfKey (tupleKind (mixKind P w))) ∧ xs.map (·.1) = kvs.map (fun p => p.1.map Sum.inl) ∧ (∀ x ∈ xs, IsTupleKey (mixKind P w) h x.1 x.2.1) ∧
      ∀ ks i, kvs.lookup ks = some i → ∃ t tok, atKey xs (ks.map Sum.inl) = some (t, .int i tok)
  | [], [], _ => ⟨[], rfl, rfl, (fun x hx => by cases hx), (fun ks i e => by cases e)⟩
  | [], _ :: _, z => False.elim z
  | _ :: _, [], z => False.elim z
  | p :: ps, e :: es, z => by
    obtain ⟨⟨t, tok, o, items, n, e1, e2, e3, hl, hc, hd, hi⟩, z2⟩ := z
    obtain ⟨xs, h1, h2, h3, h4⟩ := TabEs.all (P := P) (w := w) X z2
    have it : ∀ {ks : List Int} {vs : List Value}, IntsAre vs ks → ItemsAre (mixKind P w) (ks.map Sum.inl) vs := fun {ks vs} h => by
      induction h with
      | nil => exact .nil
      | cons n t _ ih => exact .cons (mixKind_int P w n t) ih
    refine ⟨(p.1.map Sum.inl, t, .int p.2 tok) :: xs, ?_, by rw [List.map_cons, List.map_cons, h2], fun x hx => ?_, fun ks i e => ?_⟩
    · rw [List.map_cons, h1]
      congr 1
      obtain ⟨eh, ek, ev⟩ := e
      simp only at e1 e2 e3
      rw [e1, e2, e3 P w]
      rfl
    · rcases List.mem_cons.mp hx with rfl | hx
      · exact ⟨o, items, n, X _ _ hl, hc, hd, it hi⟩
      · exact h3 x hx
    · have inj : ∀ {a b : List Int}, a.map (Sum.inl : Int → Key) = b.map Sum.inl → a = b := fun {a b} h => (List.map_inj_right (fun x y z => by cases z; rfl)).mp h
      rw [List.lookup_cons] at e
      unfold atKey
      by_cases c : ks = p.1
      · subst c
        simp at e
        subst e
        exact ⟨t, tok, by simp⟩
      · have c2 : (ks == p.1) = false := by simpa using c
        rw [c2] at e
        obtain ⟨t2, tok2, e4⟩ := h4 ks i e
        refine ⟨t2, tok2, ?_⟩
        unfold atKey at e4
        rw [List.find?_cons_of_neg]
        · exact e4
        · simp only [decide_eq_true_eq]
          exact fun z => c (inj z.symm)
def rTab (K : PySem.W.Frag) (kvs : List (List Int × Int)) (a : Addr) : V → Hp → VK → Prop := fun y H Q => ∃ (t : Addr) (ks : List Int) (i : Int), y = .ref t ∧ SqT K H t (ks.map V.int) ∧ kvs.lookup ks = some i ∧ Q (.int i) H
theorem ix_tab {X : Cx} {kvs : List (List Int × Int)} {a : Addr} (hu : X.A.units + 64 < cLine) (tk : TabK X.K a kvs) : IxR X (fun x y H Q => x = .ref a ∧ rTab X.K kvs a y H Q) := by
  intro value slice pins s σ H x y v u Q I rx ry h hs
  obtain ⟨rfl, t, ks, i, rfl, st, e, q⟩ := h
  obtain rfl : v = Value.ref a := rx
  obtain rfl : u = Value.ref t := ry
  obtain ⟨es, m, hl, hes, nd⟩ := tk
  obtain ⟨xs, h1, h2, h3, h4⟩ := hes.all (P := X.prog) (w := X.w) I.kIn
  obtain ⟨t2, tok, e2⟩ := h4 ks i e
  have hm : s.heap.DictOfH (tupleKind (mixKind X.prog X.w)) a xs := ⟨_, es, m, I.kIn _ _ hl, ⟨rfl, rfl, rfl⟩, rfl, h1, h3, by
    rw [h2]
    refine List.Pairwise.map _ (fun p q hne z => hne ?_) (List.pairwise_map.mp nd)
    exact (List.map_inj_right (fun x y z => by cases z; rfl)).mp z⟩
  obtain ⟨its, r, ⟨o, ho, hc, n, hd⟩, hz⟩ := I.tuple st
  have it : ∀ {ks : List Int} {vs : List Value}, IntsAre vs ks → ItemsAre (mixKind X.prog X.w) (ks.map Sum.inl) vs := fun {ks vs} h => by
    induction h with
    | nil => exact .nil
    | cons n t _ ih => exact .cons (mixKind_int X.prog X.w n t) ih
  have hkey : IsTupleKey (mixKind X.prog X.w) s.heap (ks.map Sum.inl) t := ⟨o, _, n, ho, hc, hd, by simpa using it r.ints⟩
  exact tail_any hm.typeIs slot_dict_getitem.lookup (wpAny_getItem_heap (tupleKind_room_in1 (by omega)) hkey hm e2 ⟨.int i, H, I.tok _, ⟨tok, rfl⟩, q⟩) hs
section
variable {Γ : Gm} {N : List Str} {sc : Sco} {e tg ea eb ec : Expr} {a b c : E} {ta : Te} {o : O2} {pos p p2 p3 : Pos} {i j : Nat} {x y : Str}
theorem de_look {q : Pos} {kvs : List (List Int × Int)} (v : GOk sc x) (hf : (x, kvs) ∈ Γ.tabs) (hb : DB Γ N sc eb b) (hs : PlainIx eb := by intro _ _; rfl) : DE Γ N sc (.Subscript (.Name x q) eb pos) (.op1 (.look kvs) b) := fun n I W X g => by
  obtain ⟨C, hm, tk⟩ := g.tb _ hf
  have ok : Op1Ok X.K (fun y H Q => V.ref C = V.ref C ∧ rTab X.K kvs C y H Q) (.look kvs) := fun s d1 d x Q r e f => by
    replace e : lookS kvs d1 = some d := e
    unfold lookS at e
    split at e
    · rw [Option.bind_eq_some_iff] at e
      obtain ⟨ks, e1, e2⟩ := e
      rw [Option.map_eq_some_iff] at e2
      obtain ⟨i, e2, rfl⟩ := e2
      obtain ⟨t, xs, rfl, h1, q1⟩ := r.tup
      obtain ⟨rfl, _⟩ := q1.ints' e1
      exact ⟨rfl, t, ks, i, rfl, h1, e2, f.1 _ (.int i)⟩
    · cases e
  exact (pe_ix (ix_tab g.hu tk) (pe_glob (v := .ref C) (v.g g) hm rfl v.db) (hb n I W X g) hs).imp fun σ H Q q => op1_imp ok q
theorem de_freeze {q : Pos} (v : VOk N sc i x) : DE Γ N sc (.Name x q) (.freeze i) := fun n I W X g => (v.pe g).imp fun σ H Q qq => by
  obtain ⟨env, s, eH, hr, er, _, pr⟩ := qq
  subst eH
  replace pr : PR X.K I W s σ (freezeK env i s.h) (VR X.K) Q := pr
  unfold freezeK at pr
  cases e0 : lstOf env s.h i with
  | none => rw [e0] at pr; exact False.elim pr
  | some p0 =>
    rw [e0] at pr
    obtain ⟨m, ts⟩ := p0
    obtain ⟨k1, k2⟩ := lstOf_of e0
    obtain ⟨k6, k7⟩ := ref_addr er k1
    obtain ⟨xs, k3, k4⟩ := hr.ob _ _ k2
    refine ⟨_, k6, ?_⟩
    simp only at pr k2 k3 k4 k6 k7
    have lm : Live s.h m 0 := ⟨_, k2, by intro z; cases z⟩
    have kf : KeepF s.F s.H (fun b => s.F b ∨ b = s.φ m 0) s.H := ⟨fun _ f => .inl f, fun _ _ _ e => e, fun _ _ e => e, fun _ _ _ e => e, fun _ _ _ e => e⟩
    have get : ∀ n, (s.h.set m .dead)[n]? = if m = n then some .dead else s.h[n]? := fun n => by
      rw [List.getElem?_set]
      by_cases c : m = n
      · rw [if_pos c, if_pos c, if_pos k7]
      · rw [if_neg c, if_neg c]
    have live : ∀ n j, Live (s.h.set m .dead) n j → n ≠ m ∧ Live s.h n j := fun n j l => by
      have ne : n ≠ m := by
        rintro rfl
        cases j with
        | zero =>
          obtain ⟨o, e, nd⟩ := l
          rw [get, if_pos rfl] at e
          exact nd (Option.some.inj e).symm
        | succ j =>
          rcases l with ⟨c, fs, ts, e, _⟩ | ⟨kvs, k, ts, e, _⟩
          · rw [get, if_pos rfl] at e; cases e
          · rw [get, if_pos rfl] at e; cases e
      refine ⟨ne, ?_⟩
      cases j with
      | zero =>
        obtain ⟨o, e, nd⟩ := l
        rw [get, if_neg (Ne.symm ne)] at e
        exact ⟨o, e, nd⟩
      | succ j =>
        rcases l with ⟨c, fs, ts, e, ef⟩ | ⟨kvs, k, ts, e, ef⟩
        · rw [get, if_neg (Ne.symm ne)] at e
          exact .inl ⟨c, fs, ts, e, ef⟩
        · rw [get, if_neg (Ne.symm ne)] at e
          exact .inr ⟨kvs, k, ts, e, ef⟩
    let s' : Sx := { s with h := s.h.set m .dead, F := fun b => s.F b ∨ b = s.φ m 0 }
    have le : Le s s' := ⟨by show s.h.length ≤ (s.h.set m .dead).length; rw [List.length_set]; exact Nat.le_refl _, fun _ _ => rfl, kf, fun b hb => ⟨hb, rfl⟩⟩
    have hr' : HR X.K I.ci s' := by
      refine ⟨fun n o e => ?_, fun n j m2 k l1 l2 e => hr.inj n j m2 k (live _ _ l1).2 (live _ _ l2).2 e, fun n j l f => ?_, fun b hb => ?_, fun b hb => ?_, hr.tb, fun q hq => ⟨fun f => f.elim (hr.tn q hq).1 fun z => hr.tne hq k3 te_lst z, (hr.tn q hq).2⟩⟩
      · have e' : (s.h.set m .dead)[n]? = some o := e
        rw [get] at e'
        by_cases c : m = n
        · rw [if_pos c] at e'
          cases e'
          trivial
        · rw [if_neg c] at e'
          exact (hr.ob n o e').move (s' := s') kf e' fun j l => ⟨rfl, fun u e => e⟩
      · obtain ⟨ne, l'⟩ := live _ _ l
        rcases f with f | f
        · exact hr.nf n j l' f
        · exact ne (hr.inj n j m 0 l' lm f).1
      · obtain ⟨h1, h2, u, e⟩ := hr.bt b hb
        exact ⟨fun n j l => h1 n j (live _ _ l).2, fun f => f.elim h2 fun z => h1 m 0 lm z.symm, u, e⟩
      · rcases hb with hb | rfl
        · exact hr.ft b hb
        · exact ⟨_, k3⟩
    exact pr s' (.ref (s.φ m 0)) le rfl hr' (.lst (.inl ⟨.inr rfl, Rd.of k3⟩) (k4.keep kf))
theorem okN_rev {K : PySem.W.Frag} : Op1N K (fun x H Q => ∃ a xs, x = .ref a ∧ SqL K H a xs ∧ ∀ p, H p = none → Q (.ref p) (upd H p (.lst xs.reverse))) .rev := fun s d1 d x Q r e f => by
  replace e : revS d1 = some d := e
  unfold revS at e
  split at e
  · cases e
    obtain ⟨l, xs, rfl, h1, q1⟩ := r.lst
    exact ⟨l, xs, rfl, h1, fun p hp => f p _ _ rfl q1.reverse hp⟩
  · cases e
theorem dn_rev {k : Nat} {p1 p2 p3 : Pos} (ha : DB Γ N sc ea a) : DN Γ N sc (.Subscript ea (.Slice none none (some (.UnaryOp .USub (.Constant (.int 1) k p1) p2)) p3) pos) (.op1 .rev a) :=
  dn_op1 (r := fun X x H Q => ∃ a xs, x = .ref a ∧ SqL X.K H a xs ∧ ∀ p, H p = none → Q (.ref p) (upd H p (.lst xs.reverse))) (fun _ _ _ X g ta h => pe_revL h) (fun _ _ _ X g => okN_rev) ha
end
end Cd
set_option Elab.async false
set_option linter.all false
set_option maxRecDepth 100000
set_option maxHeartbeats 4000000
namespace Cd
open PySem PySem.Spec PyProof.Rows L2
/-- how many unlike ones -/
abbrev cntS (xs : List Str) : Nat := (dedup xs.reverse).length
theorem setOf_at {P : Program} {w : World} {h h' : Heap} {a : Addr} {S : Str → Bool} {n : Nat} (x : h.SetOf (strKind P w) a S n) (k : ∀ o, h.get? a = some o → h'.get? a = some o) : h'.SetOf (strKind P w) a S n := by
  obtain ⟨o, es, ep, t, ho, r⟩ := x
  exact ⟨o, es, ep, t, k o ho, r⟩
theorem cntS_snoc (xs : List Str) (x : Str) : cntS (xs ++ [x]) = if decide (x ∈ xs) = true then cntS xs else cntS xs + 1 := by
  unfold cntS
  rw [List.reverse_append]
  show (dedup (x :: xs.reverse)).length = _
  rw [dedup.eq_2]
  by_cases c : x ∈ xs
  · rw [if_pos (List.mem_reverse.mpr c), if_pos (decide_eq_true c)]
  · rw [if_neg (fun z => c (List.mem_reverse.mp z)), if_neg (by simpa using c), List.length_cons]
theorem cntS_le (xs : List Str) : cntS xs ≤ xs.length := by
  have : ∀ ys : List Str, (dedup ys).length ≤ ys.length := fun ys => by
    induction ys with
    | nil => exact Nat.le_refl _
    | cons y r ih => unfold dedup; split <;> simp <;> omega
  have := this xs.reverse
  rw [List.length_reverse] at this
  exact this
section
variable {P : Program} {w : World} {A : Around} {E : Value → Shared → Prop} {s : Shared}
/-- the loop, from the i-th on -/
theorem loop_strs {it : Addr} {fp wr : List Addr} {G : Array GenState → Array GenState → Prop} {n : Nat} {Pv : Nat → Value → Prop} {St : Nat → Shared → Prop} {R : Result → Shared → Prop} (W : WalksS P w A.in1 it fp wr G n Pv St) {D : Addr} (out : D ∉ fp) {xs : List Str} (hl : xs.length = n) (few : n + 1 < scanBound) (val : ∀ i v, Pv i v → ∃ x t, xs[i]? = some x ∧ v = .str x t) :
    ∀ (m i : Nat) (s : Shared), i + m = n → St i s → s.heap.SetOf (strKind P w) D (fun x => decide (x ∈ xs.take i)) (cntS (xs.take i)) → (∀ s', Moved (D :: wr) G s s' → s'.heap.SetOf (strKind P w) D (fun x => decide (x ∈ xs)) (cntS xs) → R (.ok (.ret .none)) s') →
      codeAny (model P w) A (.builtin "set.update.loop" ⟨[.ref D, .ref it], []⟩) R s
  | 0, i, s, e, st, hS, fin => codeAny_builtin F.entry_set_update_loop (by
      have dw : D ∉ wr := fun z => out (W.sub _ z)
      obtain rfl : i = n := by omega
      rw [List.take_of_length_le (by omega)] at hS
      rw [Around.under_plainId F.plain_set_update_loop _]
      show wpAny _ A.in1 (pyNext (.ref it) >>= _) _ _ s
      exact wpAny_bind (W.done s _ _ st fun s1 mv => wpAny_pure (fin s1 (mv.mono fun b hb => List.mem_cons_of_mem _ hb) (setOf_at hS fun o q => mv.heap D o dw q))))
  | m + 1, i, s, e, st, hS, fin => codeAny_builtin F.entry_set_update_loop (by
      have dw : D ∉ wr := fun z => out (W.sub _ z)
      rw [Around.under_plainId F.plain_set_update_loop _]
      show wpAny _ A.in1 (pyNext (.ref it) >>= _) _ _ s
      refine wpAny_bind (W.item i s _ _ (by omega) st fun v s1 hP st1 mv => ?_)
      obtain ⟨x, t, hx, rfl⟩ := val i v hP
      have hS1 := setOf_at hS fun o q => mv.heap D o dw q
      show wpAny _ A.in1 (holding [Value.str x t] (setAdd D (.str x t)) >>= _) _ _ s1
      refine wpAny_bind (wpAny_holding ?_)
      unfold setAdd
      refine wpAny_holding (wpAny_bind ((strKind P w).pyHash (k := x) (strKind_is _ _ _ _) ?_))
      have room : cntS (xs.take i) + 1 < scanBound := by
        have := cntS_le (xs.take i)
        rw [List.length_take] at this
        omega
      refine wpAny_setAddHashed_of (knd := strKind P w) (s := { s1 with toks := s1.toks + 1 }) (strKind_is _ _ _ _) rfl hS1 room fun h2 same hS2 => ?_
      have tk : xs.take (i + 1) = xs.take i ++ [x] := by rw [List.take_add_one, hx]; rfl
      have hS3 : h2.SetOf (strKind P w) D (fun y => decide (y ∈ xs.take (i + 1))) (cntS (xs.take (i + 1))) := SetOf_congr hS2 (fun y => by rw [tk]; simp [List.mem_append]) (by rw [tk, cntS_snoc])
      have ne : ∀ b, b ∈ fp → b ≠ D := fun b hb z => out (z ▸ hb)
      refine wpAny_pure ⟨plainId_quiet F.plain_set_update_loop _, loop_strs W out hl few val m (i + 1) _ (by omega) (W.frame _ s1 _ _ st1 (Nat.le_succ _) fun b hb o q => (same.2 b (ne b hb)).trans q) hS3 fun s3 mv3 hS4 => fin s3 ?_ hS4⟩
      refine Moved.trans W.gtrans ((mv.mono fun b hb => List.mem_cons_of_mem _ hb).then_heap (Nat.le_succ _) fun b o hb q => ?_) mv3
      exact (same.2 b (fun z : b = D => hb (z ▸ List.mem_cons_self))).trans q)
/-- what stands after set.__init__ -/
def SetDoneS (P : Program) (w : World) (s : Shared) (xs : List Str) (r : Value) (s2 : Shared) : Prop := r = .none ∧ ∃ h' tk, s2 = { s with heap := h', toks := tk } ∧ h'.SetOf (strKind P w) s.heap.objs.size (fun x => decide (x ∈ xs)) (cntS xs) ∧ ∀ b o, s.heap.get? b = some o → h'.get? b = some o
theorem set_fillS {B : Around} {l : Addr} {vs : Array Value} {xs : List Str} (hh : B.in1.handled = none) (hl : s.heap.IsList l vs) (iv : StrsAre vs.toList xs) (few : xs.length + 1 < scanBound) {R : Result → Shared → Prop}
    (hR : ∀ s2, SetDoneS P w s xs .none s2 → R (.ok (.ret .none)) s2) :
    codeAny (model P w) B (.builtin "set.update.loop" ⟨[.ref s.heap.objs.size, .ref (s.heap.objs.size + 1)], []⟩) R { s with heap := (s.heap.push (eSet w)).push (eIter l) } := by
  have len : xs.length = vs.size := by simpa using iv.length.symm
  have z1 : (s.heap.push (eSet w)).objs.size = s.heap.objs.size + 1 := Heap.size_push ..
  have ll : l < s.heap.objs.size := by
    obtain ⟨o, e, _⟩ := hl
    exact Heap.lt_size e
  have e1 : ((s.heap.push (eSet w)).push (eIter l)).get? s.heap.objs.size = some (eSet w) := Heap.get?_push_of_some _ (Heap.get?_push_size _ rfl)
  have e2 : ((s.heap.push (eSet w)).push (eIter l)).get? (s.heap.objs.size + 1) = some (eIter l) := by
    have q := Heap.get?_push_size (s.heap.push (eSet w)) (o := eIter l) rfl
    rwa [z1] at q
  have W := (Walks.list (prog := P) (w := w) hh (s.heap.objs.size + 1) l (Nat.ne_of_lt (Nat.lt_succ_of_lt ll)) vs).toS
  have nm : s.heap.objs.size ∉ [s.heap.objs.size + 1, l] := fun q => by
    rcases List.mem_cons.mp q with q | q
    · exact absurd q (Nat.ne_of_lt (Nat.lt_succ_self _))
    · exact absurd (List.mem_singleton.mp q).symm (Nat.ne_of_lt ll)
  have s0 : ((s.heap.push (eSet w)).push (eIter l)).SetOf (strKind P w) s.heap.objs.size (fun x => decide (x ∈ xs.take 0)) (cntS (xs.take 0)) :=
    SetOf_congr ((setObjOf_fresh (knd := strKind P w) _).setOf e1 (by unfold scanBound; omega)) (fun x => by simp) rfl
  refine loop_strs W nm len (by omega) (fun i v e => ?_) vs.size 0 _ (by omega) ⟨⟨_, e2, rfl, rfl⟩, (hl.push _).push _⟩ s0 fun s2 mv R2 => hR s2 ?_
  · have il : i < xs.length := by rw [len]; exact (Array.getElem?_eq_some_iff.mp e).1
    have e3 : vs.toList[i]? = some v := by rw [Array.getElem?_toList]; exact e
    have at_ : ∀ {us : List Value} {ys : List Str} (j : Nat), StrsAre us ys → us[j]? = some v → ∃ x t, ys[j]? = some x ∧ v = .str x t := fun {us ys} j h => by
      induction h generalizing j with
      | nil => intro e; simp at e
      | cons y t h2 ih =>
        intro e
        cases j with
        | zero => simp at e; exact ⟨y, t, rfl, e.symm⟩
        | succ j => simpa using ih j (by simpa using e)
    exact at_ i iv e3
  · obtain ⟨h2, g2, d2, t2, o2⟩ := s2
    have q1 : g2 = s.gens := mv.gens
    have q2 : d2 = s.drawn := mv.drawn
    have q3 : o2 = s.os := mv.os
    subst q1 q2 q3
    refine ⟨rfl, h2, t2, rfl, R2, fun b o e => ?_⟩
    have lb := Heap.lt_size e
    have nb : b ∉ [s.heap.objs.size, s.heap.objs.size + 1] := fun q => by
      rcases List.mem_cons.mp q with q | q
      · exact absurd q (Nat.ne_of_lt lb)
      · exact absurd (List.mem_singleton.mp q) (Nat.ne_of_lt (Nat.lt_succ_of_lt lb))
    exact mv.heap b o nb (Heap.get?_push_of_some _ (Heap.get?_push_of_some _ e))
set_option maxHeartbeats 3200000 in
theorem set_list_strs {l : Addr} {vs : Array Value} {xs : List Str} {Q : Value → Shared → Prop} (hh : A.handled = none) (hl : s.heap.IsList l vs) (iv : StrsAre vs.toList xs) (few : xs.length + 1 < scanBound)
    (hQ : ∀ s2, SetDoneS P w s xs .none s2 → Q (.ref s.heap.objs.size) s2) : wpAny (model P w) A (call (.type "set") [.ref l]) Q E s := by
  obtain ⟨c, tl, m0⟩ := F.called_set.mro
  have m1 := F.called_set.made
  have m2 := F.called_set.sub
  refine wpAny_call (codeAny_of_tree ?_)
  show wpAny _ _ (callAny (.type "set") _) _ _ _
  refine wpAny_pure ⟨Code.quiet_builtin _ (by decide +kernel), codeAny_builtin F.entry_type_call ?_⟩
  rw [Around.under_plain (weight_type_call_type "set" [.ref l] []) rfl]
  have m3 := F.called_set.notType
  have m4 := F.called_set.canCreate
  have m5 := F.typeCall_set_1 (.ref l)
  repeat (any_goals (first | assumption | wp_step))
  refine codeAny_mono (code_set_led1 (.ref l) (E := E) (Q₁ := fun u s1 => u = .ref s.heap.objs.size ∧ s1 = { s with heap := s.heap.push (eSet w) }) ⟨rfl, rfl⟩) fun r s1 hr => ?_
  match r, hr with
  | .error e, hr => exact hr
  | .ok .next, hr => exact hr.elim
  | .ok .brk, hr => exact hr.elim
  | .ok .cont, hr => exact hr.elim
  | .ok (.ret u), ⟨e1, e2⟩ =>
    subst e1 e2
    have hT : Shared.TypeIs { s with heap := s.heap.push (eSet w) } (.ref s.heap.objs.size) "set" := ⟨_, Heap.get?_push_size _ rfl, rfl⟩
    have m6 := F.called_set.init.lookup
    have m7 := F.called_set.init.bind (.ref s.heap.objs.size)
    repeat (any_goals (first | assumption | wp_step))
    refine codeAny_mono (codeAny_call_builtin (R := wants (SetDoneS P w s xs) E) F.called_set.init.plain F.entry_set_init (check_set_init_1 hT ?_)) fun r2 s2 hr2 => ?_
    · obtain ⟨⟨k1, k2, k3, k4⟩, o1, k5, k, k6⟩ := id hl
      simp only at k5 k6
      subst k5 k6
      have o2 : (s.heap.push (eSet w)).get? l = some { cls := .type "list", dict := k2, data := .seq vs k, slots := k4 } := Heap.get?_push_of_some _ o1
      have n1 := F.sub_list_set
      have n2 := F.sub_list_frozenset
      have n3 : (Value.type "list" == Value.type "dict") = false := by decide
      unfold Builtin.«set.__init__» noKeywords Builtin.Frozenset.updateFrom
      generalize hit : pyIter = it
      wp_walk
      subst hit
      refine wpAny_pyIter_list (hl.push _) (wpAny_bind (wpAny_runValue ?_))
      have z1 : (s.heap.push (eSet w)).objs.size = s.heap.objs.size + 1 := Heap.size_push ..
      rw [z1]
      refine set_fillS (by simp [hh]) hl iv few fun s2 d => ?_
      show wpAny _ _ _ _ _ _
      refine wpAny_pure ?_
      show wpAny _ _ (ret Value.none) _ _ _
      exact wpAny_pure d
    · match r2, hr2 with
      | .error e, hr2 => exact hr2
      | .ok .next, hr2 => exact hr2.elim
      | .ok .brk, hr2 => exact hr2.elim
      | .ok .cont, hr2 => exact hr2.elim
      | .ok (.ret u), d =>
        obtain ⟨rfl, d2⟩ := id d
        repeat (any_goals (first | assumption | wp_step))
        exact hQ _ d
end
/-- a set of n texts -/
def SetX (P : Program) (w : World) (a : Addr) (n : Nat) : HO := .ext fun h => ∃ S, h.SetOf (strKind P w) a S n
theorem setX_ok {P : Program} {w : World} {H : Hp} {h : Heap} {a : Addr} {S : Str → Bool} {n : Nat} (R : h.SetOf (strKind P w) a S n) : ObjOk P w H h a (SetX P w a n) :=
  ⟨⟨S, R⟩, ⟨_, R.choose_spec.choose_spec.choose_spec.choose_spec.1⟩, fun h1 h2 ⟨S, x⟩ k => ⟨S, setOf_at x k⟩⟩
def rSetX (P : Program) (K : PySem.W.Frag) (w : World) : List V → Hp → VK → Prop := fun vs H Q => ∃ (a : Addr) (xs : List Str), vs = [V.ref a] ∧ SqL K H a (xs.map V.str) ∧ xs.length < 1000 ∧ ∀ p, H p = none → Q (.ref p) (upd H p (SetX P w p (cntS xs)))
theorem cr_setX {X : Cx} (hc : X.calm = true) : CallR X (.type "set") (rSetX X.prog X.K X.w) := by
  intro pins s σ H vs us Q I r ⟨a, xs, e, h, few, q⟩
  subst e
  rw [Vals.ref1 r]
  obtain ⟨its, rv, pl, _⟩ := I.list h
  refine set_list_strs (I.ok.hd hc) pl.isList (xs := xs) (strsAre_of (by simpa using rv)) (by unfold scanBound; omega) fun s2 ⟨_, h', tk, e, R, k⟩ => ?_
  subst e
  have hn : H s.heap.objs.size = none := I.hok.fresh (Nat.le_refl _)
  refine ⟨.ref s.heap.objs.size, upd H s.heap.objs.size (SetX X.prog X.w s.heap.objs.size (cntS xs)), I.laid (t' := tk) (fun b u e => k b u e) (Nat.le_refl _) (setX_ok R), rfl, q _ hn⟩
def rLenX (P : Program) (w : World) : List V → Hp → VK → Prop := fun vs H Q => ∃ (a : Addr) (n : Nat), vs = [V.ref a] ∧ H a = some (SetX P w a n) ∧ n < 4000 ∧ Q (.int n) H
theorem call_lenX {X : Cx} : CallR X (.builtin "len") (rLenX X.prog X.w) := by
  intro pins s σ H vs us Q I r ⟨a, n, e, ha, few, q⟩
  subst e
  rw [Vals.ref1 r]
  obtain ⟨S, o, es, ep, t, ho, hex, hd, _, _, _, hf, hn⟩ := (I.hok a _ ha).1
  refine call_len_set ho hex hd hf (by rw [hn] <;> omega) ⟨.int n, H, I.tok _, ⟨_, by rw [hn]⟩, q⟩
end Cd
set_option Elab.async false
set_option linter.all false
set_option maxRecDepth 100000
set_option maxHeartbeats 4000000
namespace Cd
open PySem PySem.Spec PyProof.Rows L2
theorem strs_inv {K : PySem.W.Frag} {F : Addr → Prop} {H : Hp} : ∀ {ds : List PyData} {vs : List V} {xs : List Str}, RFs K F H ds vs → strsD ds = some xs → vs = xs.map V.str
  | _, _, _, .nil, e => by simp [strsD] at e; subst e; rfl
  | _, _, xs, .cons (d := d) (ds := ds) r t, e => by
    cases r with
    | str x =>
      simp only [strsD, Option.map_eq_some_iff] at e
      obtain ⟨ys, e1, rfl⟩ := e
      rw [strs_inv t e1]; rfl
    | _ => simp [strsD] at e
section
variable {Γ : Gm} {N : List Str} {sc : Sco} {e tg ea eb ec : Expr} {a b c : E} {ta : Te} {o : O2} {pos p p2 p3 : Pos} {i j : Nat} {x y : Str}
/-- len(set(a list of texts)) -/
theorem de_lenSet {q : Pos} (v : NB Γ sc "len") (v2 : NB Γ sc "set") (ha : DB Γ N sc ea a) (se1 : Se1 ea := by intro _; rfl) (se2 : Se1 (.Call (.Name "set" q) [ea] [] p2) := by intro _; rfl) :
    DE Γ N sc (.Call (.Name "len" p) [.Call (.Name "set" q) [ea] [] p2] [] pos) (.op1 .lenSet a) := fun n I W X g =>
  (pe_bi1 g call_lenX v boot_len (pe_ty1 g (cr_setX g.calm) v2 (by decide +kernel) (ha n I W X g) se1) se2).imp fun σ H Q q => by
    obtain ⟨env, s, eH, hr, er, _, pr⟩ := At.bind (Rel1 := RB X.K) (ev2 := fun x env h => Cd.ofO ((opf1 .lenSet x).map Val.p) h) q
    refine ⟨env, s, eH, hr, er, trivial, ?_⟩
    refine PR.mono pr fun x H1 ⟨d, env, s, e, hr, er, ⟨_, rb⟩, pr⟩ => ?_
    subst e
    replace pr : PR X.K I W s σ (Cd.ofO ((lenSetS d).map Val.p) s.h) (VR X.K) Q := pr
    cases e1 : lenSetS d with
    | none => rw [e1] at pr; exact False.elim pr
    | some d' =>
      rw [e1] at pr
      cases d with
      | list ts =>
        have e2 : ((strsD ts).bind fun xs => if xs.length < 1000 then some (PyData.int (dedup xs.reverse).length) else none) = some d' := e1
        rw [Option.bind_eq_some_iff] at e2
        obtain ⟨xs, e3, e4⟩ := e2
        split at e4
        · rename_i few
          cases e4
          obtain ⟨l, us, rfl, h1, q1⟩ := rb.lst
          rw [strs_inv q1 e3] at h1
          have cl := cntS_le xs
          refine ⟨l, xs, rfl, h1, few, fun p0 hp => ?_⟩
          refine ⟨p0, cntS xs, rfl, upd_same, by omega, ?_⟩
          have hr1 := hr.put (o := SetX X.prog X.w p0 (cntS xs)) (fz := false) hp
          exact pr (s.put p0 _ false) _ (hr.put_le hp) rfl hr1 (.int _)
        · cases e4
      | _ => cases e1
end
end Cd
set_option Elab.async false
set_option linter.all false
set_option maxRecDepth 100000
set_option maxHeartbeats 4000000
namespace Cd
open PySem PySem.Spec PyProof.Rows L2
structure KeepW (F : Addr → Prop) (H : Hp) (F' : Addr → Prop) (H' : Hp) : Prop where
  up : ∀ a, F a → F' a
  fz : ∀ a o, F a → H a = some o → H' a = some o
  tp : ∀ a xs, H a = some (.tup xs) → H' a = some (.tup xs)
  zt : ∀ a o xs, H a = some (.frz o (.tup xs)) → H' a = some (.frz o (.tup xs))
  zl : ∀ a o xs, H a = some (.frz o (.lst xs)) → H' a = some (.frz o (.lst xs))
mutual
theorem RF.keepW {K : PySem.W.Frag} {F F' : Addr → Prop} {H H' : Hp} (k : KeepW F H F' H') : ∀ {d : PyData} {v : V}, RF K F H d v → RF K F' H' d v
  | _, _, .non => .non
  | _, _, .bl b => .bl b
  | _, _, .int i => .int i
  | _, _, .str x => .str x
  | _, _, .lst s r => .lst (s.elim (fun h => .inl ⟨k.up _ h.1, h.2.elim (fun e => .inl (k.fz _ _ h.1 e)) fun ⟨o, e⟩ => .inr ⟨o, k.zl _ _ _ e⟩⟩) .inr) (RFs.keepW k r)
  | _, _, .tup s r => .tup ⟨s.1.elim (fun h => .inl (h.elim (fun e => .inl (k.tp _ _ e)) fun ⟨o, e⟩ => .inr ⟨o, k.zt _ _ _ e⟩)) .inr, fun z => (s.2 z).imp (fun ⟨o, c, e⟩ => ⟨o, c, k.zt _ _ _ e⟩) fun h => h⟩ (RFs.keepW k r)
theorem RFs.keepW {K : PySem.W.Frag} {F F' : Addr → Prop} {H H' : Hp} (k : KeepW F H F' H') : ∀ {ds : List PyData} {vs : List V}, RFs K F H ds vs → RFs K F' H' ds vs
  | _, _, .nil => .nil
  | _, _, .cons r t => .cons (RF.keepW k r) (RFs.keepW k t)
end
section
variable {K : PySem.W.Frag} {CI : CInf}
theorem FlR.moveW {s s' : Sx} {n j : Nat} {f : Fld} {v : V} (r : FlR K s n j f v) (k : KeepW s.F s.H s'.F s'.H)
    (ph : ∀ ts, f = .l ts → s'.φ n (j + 1) = s.φ n (j + 1) ∧ ∀ xs, s.H (s.φ n (j + 1)) = some (.lst xs) → s'.H (s.φ n (j + 1)) = some (.lst xs)) : FlR K s' n j f v := by
  cases f with
  | p d => exact RF.keepW k r
  | l ts =>
    obtain ⟨e, xs, hx, q⟩ := r
    obtain ⟨e1, e2⟩ := ph ts rfl
    exact ⟨by rw [e1]; exact e, xs, by rw [e1]; exact e2 xs hx, q.keepW k⟩
theorem ObR.moveW {s s' : Sx} {n : Nat} {o : Ob} (r : ObR K CI s n o) (k : KeepW s.F s.H s'.F s'.H) (hn : s.h[n]? = some o)
    (ph : ∀ j, Live s.h n j → s'.φ n j = s.φ n j ∧ ∀ u, s.H (s.φ n j) = some u → s'.H (s.φ n j) = some u) : ObR K CI s' n o := by
  cases o with
  | lst ts =>
    obtain ⟨xs, e, q⟩ := r
    obtain ⟨e1, e2⟩ := ph 0 ⟨_, hn, by intro z; cases z⟩
    exact ⟨xs, by rw [e1]; exact e2 _ e, q.keepW k⟩
  | dct kvs =>
    obtain ⟨es, e, m, nd, q⟩ := r
    obtain ⟨e1, e2⟩ := ph 0 ⟨_, hn, by intro z; cases z⟩
    refine ⟨es, by rw [e1]; exact e2 _ e, m, nd, fun j y f ef => ?_⟩
    obtain ⟨v, h1, h2⟩ := q j y f ef
    refine ⟨v, h1, h2.moveW k fun ts eq => ?_⟩
    subst eq
    obtain ⟨a, b⟩ := ph (j + 1) (.inr ⟨kvs, y, ts, hn, ef⟩)
    exact ⟨a, fun xs => b _⟩
  | ins c fs =>
    obtain ⟨C, names, dx, es, ci, e, m, l, q⟩ := r
    obtain ⟨e1, e2⟩ := ph 0 ⟨_, hn, by intro z; cases z⟩
    refine ⟨C, names, dx, es, ci, by rw [e1]; exact e2 _ e, m, l, fun j f ef => ?_⟩
    obtain ⟨x, v, h0, h1, h2⟩ := q j f ef
    refine ⟨x, v, h0, h1, h2.moveW k fun ts eq => ?_⟩
    subst eq
    obtain ⟨a, b⟩ := ph (j + 1) (.inl ⟨c, fs, ts, hn, ef⟩)
    exact ⟨a, fun xs => b _⟩
  | dead => trivial
end
theorem scal_rf {K : PySem.W.Frag} {F F' : Addr → Prop} {H H' : Hp} {d : PyData} {v : V} (h : scalD d = true) (r : RF K F H d v) : RF K F' H' d v := by
  cases r with
  | non => exact .non
  | bl b => exact .bl b
  | int i => exact .int i
  | str x => exact .str x
  | lst => cases h
  | tup => cases h
theorem key_rf {K : PySem.W.Frag} {F : Addr → Prop} {H : Hp} (k : Key) : RF K F H (keyD k) (kV k) := by
  cases k with
  | inl i => exact .int i
  | inr x => exact .str x
theorem items_at : ∀ {kvs : List (Key × Fld)} {items : List PyData}, itemsD kvs = some items → kvs.length = items.length ∧ ∀ (j : Nat) k f, kvs[j]? = some (k, f) → ∃ d, f = .p d ∧ scalD d = true ∧ items[j]? = some (.tuple [keyD k, d])
  | [], _, e => by cases e; exact ⟨rfl, fun j k f e => by simp at e⟩
  | (k0, .l ts) :: r, _, e => by cases e
  | (k0, .p d0) :: r, items, e => by
    unfold itemsD at e
    split at e
    · rename_i hs
      rw [Option.map_eq_some_iff] at e
      obtain ⟨rest, e1, rfl⟩ := e
      obtain ⟨h1, h2⟩ := items_at e1
      refine ⟨by simp [h1], fun j k f e => ?_⟩
      cases j with
      | zero => simp at e; obtain ⟨rfl, rfl⟩ := e; exact ⟨d0, rfl, hs, rfl⟩
      | succ j => simpa using h2 j k f (by simpa using e)
    · cases e
/-- the pairs of a locked dict -/
theorem jr_items {K : PySem.W.Frag} {CI : CInf} {s : Sx} {d : Addr} {od : Obj} {es : List (Key × V)} {items : List PyData} (h0 : s.H d = some (.frz od (.dK es))) (hl : es.length = items.length)
    (hv : ∀ (j : Nat) k v, es[j]? = some (k, v) → ∃ x, items[j]? = some (.tuple [keyD k, x]) ∧ ∀ F H, RF K F H x v) : JR K CI s items (Iti d od es) := fun s' l hr' i => by
  have h1 : s'.H d = some (.frz od (.dK es)) := l.kf.zz _ _ _ h0
  refine ⟨fun hi => ⟨h1, by omega⟩, fun hi => ⟨h1, by omega⟩, fun x H' hi ⟨T, k, v, e1, e2, hT, e3⟩ => ?_⟩
  subst e2 e3
  obtain ⟨y, e4, ry⟩ := hv i k v e1
  have hr2 := hr'.put (o := .tup [kV k, v]) (fz := false) hT
  refine ⟨_, s'.put T (.tup [kV k, v]) false, e4, rfl, hr'.put_le hT, rfl, hr2, ?_⟩
  exact .tup (.lo (SqT.of upd_same) (by cases k <;> rfl)) (.cons (key_rf k) (.cons (ry _ _) .nil))
section
variable {Γ : Gm} {N : List Str} {sc : Sco} {e tg ea eb ec : Expr} {a b c : E} {o : O2} {pos p p2 : Pos} {t : Tg} {src : Src} {i0 : Nat} {x : Str}
theorem lcI_imp {n : Nat} {I : Inf} {W : WX} {X : Cx} {conds : List Te} {own : List (Str × Nat)} (hsub : ∀ k, k ∈ tgSlots t → k ∈ snds own) {σ : L2.St} {H : Hp} {Q : VK}
    (q : tE X.K I W (fun env h => (evalE (callF Γ.fns n) env (.compI i0 (snds own) t conds a) h).bind unP) (RN X.K) σ H Q) :
    tLockE (tLc (iItems (tVar i0)) (tG X.K I.ci t) (tE X.K I (fun _ _ _ _ => False) (fun env h => evalTs (callF Γ.fns n) env conds h) (fun _ a x => x = a))
      (tE X.K I (fun _ _ _ _ => False) (fun env h => (evalE (callF Γ.fns n) env a h).bind unP) (PRl X.K)) (own.map (·.2))) σ H Q := by
  obtain ⟨env, s, eH, hr, er, _, pr⟩ := q
  subst eH
  let run : List PyData → Hi → R (List PyData) := compL (fun e h => (evalE (callF Γ.fns n) e a h).bind unP) (fun e h => evalTs (callF Γ.fns n) e conds h) (fun x e => bindT t x e) (wipeE env (snds own))
  replace pr : PR X.K I W s σ ((match dctOf env s.h i0 with
    | none => .stuck
    | some p => match itemsD p.2 with
      | none => .stuck
      | some items => (compK2 run items (s.h.set p.1 .dead)).bind fun v h2 => .ok v (h2.set p.1 (.dct p.2)) : R Val).bind unP) (RN X.K) Q := pr
  cases e0 : dctOf env s.h i0 with
  | none => rw [e0] at pr; exact False.elim pr
  | some p0 =>
  rw [e0] at pr
  obtain ⟨m, kvs⟩ := p0
  simp only at pr
  cases ei : itemsD kvs with
  | none => rw [ei] at pr; exact False.elim pr
  | some items =>
  rw [ei] at pr
  replace pr : PR X.K I W s σ (((compK2 run items (s.h.set m .dead)).bind fun v h2 => .ok v (h2.set m (.dct kvs))).bind unP) (RN X.K) Q := pr
  obtain ⟨k1, k2⟩ := dctOf_of e0
  obtain ⟨k6, k7⟩ := ref_addr er k1
  obtain ⟨es, k3, km, knd, kf⟩ := hr.ob _ _ k2
  obtain ⟨il, ia⟩ := items_at ei
  have el : es.length = kvs.length := by simpa using congrArg List.length km
  refine ⟨s.φ m 0, .dK es, k3, trivial, fun od => ?_⟩
  have lm : Live s.h m 0 := ⟨_, k2, by intro z; cases z⟩
  have nF : ¬ s.F (s.φ m 0) := hr.nf m 0 lm
  have get : ∀ (h : Hi) (o : Ob) n, m < h.length → (h.set m o)[n]? = if m = n then some o else h[n]? := fun h o n hm => by
    rw [List.getElem?_set]
    by_cases c : m = n
    · rw [if_pos c, if_pos c, if_pos hm]
    · rw [if_neg c, if_neg c]
  have live : ∀ (h : Hi) n j, m < h.length → Live (h.set m .dead) n j → n ≠ m ∧ Live h n j := fun h n j hm l => by
    have ne : n ≠ m := by
      rintro rfl
      cases j with
      | zero =>
        obtain ⟨o, e, nd⟩ := l
        rw [get _ _ _ hm, if_pos rfl] at e
        exact nd (Option.some.inj e).symm
      | succ j =>
        rcases l with ⟨c, fs, ts, e, _⟩ | ⟨kvs, k, ts, e, _⟩
        · rw [get _ _ _ hm, if_pos rfl] at e; cases e
        · rw [get _ _ _ hm, if_pos rfl] at e; cases e
    refine ⟨ne, ?_⟩
    cases j with
    | zero =>
      obtain ⟨o, e, nd⟩ := l
      rw [get _ _ _ hm, if_neg (Ne.symm ne)] at e
      exact ⟨o, e, nd⟩
    | succ j =>
      rcases l with ⟨c, fs, ts, e, ef⟩ | ⟨kvs, k, ts, e, ef⟩
      · rw [get _ _ _ hm, if_neg (Ne.symm ne)] at e
        exact .inl ⟨c, fs, ts, e, ef⟩
      · rw [get _ _ _ hm, if_neg (Ne.symm ne)] at e
        exact .inr ⟨kvs, k, ts, e, ef⟩
  have Bne : ∀ b, s.B b → b ≠ s.φ m 0 := fun b hb z => (hr.bt b hb).1 m 0 lm z.symm
  -- locked
  let s1 : Sx := { s with h := s.h.set m .dead, H := upd s.H (s.φ m 0) (.frz od (.dK es)), B := fun b => s.B b ∨ b = s.φ m 0 }
  have kf1 : KeepF s.F s.H s1.F s1.H := ⟨fun _ f => f, fun b o f e => by
      show upd s.H _ _ b = some o
      rw [upd_ne (fun z => nF (by rw [← z]; exact f))]; exact e, fun b xs e => by
      show upd s.H _ _ b = some _
      rw [upd_ne (fun z => by rw [z, k3] at e; cases e)]; exact e, fun b o u e => by
      show upd s.H _ _ b = some _
      rw [upd_ne (fun z => by rw [z, k3] at e; cases e)]; exact e, fun b c q e => by
      show upd s.H _ _ b = some _
      rw [upd_ne (fun z => by rw [z, k3] at e; exact te_dK (.inr ⟨c, q, Option.some.inj e⟩))]; exact e⟩
  have le1 : Le s s1 := ⟨by show s.h.length ≤ (s.h.set m .dead).length; rw [List.length_set]; exact Nat.le_refl _, fun _ _ => rfl, kf1, fun b hb => ⟨.inl hb, by
    show upd s.H _ _ b = _
    rw [upd_ne (Bne b hb)]⟩⟩
  have hr1 : HR X.K I.ci s1 := by
    refine ⟨fun n o e => ?_, fun n j m2 k l1 l2 e => hr.inj n j m2 k (live _ _ _ k7 l1).2 (live _ _ _ k7 l2).2 e, fun n j l f => hr.nf n j (live _ _ _ k7 l).2 f, fun b hb => ?_, fun b hb => ?_, tabs_at hr.tb k3 te_dK, fun q hq => ⟨(hr.tn q hq).1, fun hb => hb.elim (hr.tn q hq).2 fun z => hr.tne hq k3 te_dK z⟩⟩
    · have e' : (s.h.set m .dead)[n]? = some o := e
      rw [get _ _ _ k7] at e'
      by_cases c : m = n
      · rw [if_pos c] at e'
        cases e'
        trivial
      · rw [if_neg c] at e'
        exact (hr.ob n o e').move (s' := s1) kf1 e' fun j l => ⟨rfl, fun u e => by
          show upd s.H _ _ (s.φ n j) = some u
          rw [upd_ne (fun z => c (hr.inj n j m 0 l lm z).1.symm)]; exact e⟩
    · rcases hb with hb | hb
      · obtain ⟨h1, h2, u, e⟩ := hr.bt b hb
        exact ⟨fun n j l => h1 n j (live _ _ _ k7 l).2, h2, u, by show upd s.H _ _ b = some u; rw [upd_ne (Bne b hb)]; exact e⟩
      · subst hb
        exact ⟨fun n j l z => (live _ _ _ k7 l).1 (hr.inj n j m 0 (live _ _ _ k7 l).2 lm z).1, nF, _, upd_same⟩
    · obtain ⟨u, e⟩ := hr.ft b hb
      exact ⟨u, by show upd s.H _ _ b = some u; rw [upd_ne (fun z => nF (by rw [← z]; exact hb))]; exact e⟩
  -- the walk
  have key := lc_imp (Γ := Γ) (n := n) (I := I) (W := W) (X := X) (t := t) (src := .e (.lit (.list items))) (a := a) (conds := conds) hsub (σ := σ) (H := s1.H) (Q := fun v H' => H' (s.φ m 0) = some (.frz od (.dK es)) ∧ Q v (upd H' (s.φ m 0) (.dK es))) ⟨env, s1, rfl, hr1, er.le le1, trivial, by
    show PR X.K I W s1 σ ((compK2 run items (s.h.set m .dead)).bind unP) (RN X.K) _
    generalize compK2 run items (s.h.set m .dead) = r at pr ⊢
    cases r with
    | stuck => exact False.elim pr
    | exc e h2 => exact fun s' cls d l eh hr' xr => pr s' cls d (le1.trans l) eh hr' xr
    | ok v h2 =>
      cases v with
      | ref n => exact False.elim pr
      | p d =>
        intro s2 x l2 eh hr2 rn
        subst eh
        have hB : s2.B (s.φ m 0) ∧ s2.H (s.φ m 0) = some (.frz od (.dK es)) := by
          obtain ⟨b1, b2⟩ := l2.fr (s.φ m 0) (.inr rfl)
          exact ⟨b1, b2.trans upd_same⟩
        obtain ⟨bn, bF, _⟩ := hr2.bt _ hB.1
        have hm2 : m < s2.h.length := Nat.lt_of_lt_of_le (by show m < (s.h.set m .dead).length; rw [List.length_set]; exact k7) l2.len
        have ph2 : s2.φ m 0 = s.φ m 0 := l2.ph m (by show m < (s.h.set m .dead).length; rw [List.length_set]; exact k7)
        let s3 : Sx := { s2 with h := s2.h.set m (.dct kvs), H := upd s2.H (s.φ m 0) (.dK es), B := s.B }
        have ne2 : ∀ {b u}, s2.H b = some u → (∀ o w, u ≠ .frz o (.dK w)) → upd s2.H (s.φ m 0) (.dK es) b = some u := fun {b u} e z => by
          rw [upd_ne (fun w => by rw [w, hB.2] at e; exact z od es (Option.some.inj e).symm)]; exact e
        have kf2 : KeepW s2.F s2.H s3.F s3.H := ⟨fun _ f => f, fun b o f e => by
            show upd s2.H _ _ b = some o
            rw [upd_ne (fun z => bF (by rw [← z]; exact f))]; exact e, fun b xs e => ne2 e (fun _ _ z => by cases z), fun b o xs e => ne2 e (fun _ _ z => by cases z), fun b o xs e => ne2 e (fun _ _ z => by cases z)⟩
        have le3 : Le s s3 := by
          refine ⟨by show s.h.length ≤ (s2.h.set m _).length; rw [List.length_set]; exact Nat.le_trans le1.len l2.len, fun n hn => (l2.ph n (Nat.lt_of_lt_of_le hn le1.len)).trans (le1.ph n hn), ⟨fun b f => l2.kf.up b f, fun b o f e => ?_, fun b xs e => ?_, fun b o u e => ?_, fun b c q e => ?_⟩, fun b hb => ⟨hb, ?_⟩⟩
          · show upd s2.H _ _ b = some o
            rw [upd_ne (fun z => nF (by rw [← z]; exact f))]
            exact l2.kf.fz b o f (kf1.fz b o f e)
          · show upd s2.H _ _ b = some _
            rw [upd_ne (fun z => by rw [z, k3] at e; cases e)]
            exact l2.kf.tp b xs (kf1.tp b xs e)
          · show upd s2.H _ _ b = some _
            rw [upd_ne (fun z => by rw [z, k3] at e; cases e)]
            exact l2.kf.zz b o u (kf1.zz b o u e)
          · show upd s2.H _ _ b = some _
            rw [upd_ne (fun z => by rw [z, k3] at e; exact te_dK (.inr ⟨c, q, Option.some.inj e⟩))]
            exact l2.kf.cd b c q (kf1.cd b c q e)
          · show upd s2.H _ _ b = s.H b
            rw [upd_ne (Bne b hb), (l2.fr b (.inl hb)).2]
            show upd s.H _ _ b = _
            rw [upd_ne (Bne b hb)]
        have live3 : ∀ n j, Live s3.h n j → (n = m ∧ j = 0) ∨ (n ≠ m ∧ Live s2.h n j) := fun n j l => by
          replace l : Live (s2.h.set m (.dct kvs)) n j := l
          by_cases c : n = m
          · subst c
            left
            refine ⟨rfl, ?_⟩
            cases j with
            | zero => rfl
            | succ j =>
              exfalso
              rcases l with ⟨c, fs, ts, e, ef⟩ | ⟨kvs', k, ts, e, ef⟩
              · rw [get _ _ _ hm2, if_pos rfl] at e; cases e
              · rw [get _ _ _ hm2, if_pos rfl] at e
                cases e
                obtain ⟨d, ed, _⟩ := ia j k _ ef
                cases ed
          · refine .inr ⟨c, ?_⟩
            cases j with
            | zero =>
              obtain ⟨o, e, nd⟩ := l
              rw [get _ _ _ hm2, if_neg (Ne.symm c)] at e
              exact ⟨o, e, nd⟩
            | succ j =>
              rcases l with ⟨c2, fs, ts, e, ef⟩ | ⟨kvs', k, ts, e, ef⟩
              · rw [get _ _ _ hm2, if_neg (Ne.symm c)] at e
                exact .inl ⟨c2, fs, ts, e, ef⟩
              · rw [get _ _ _ hm2, if_neg (Ne.symm c)] at e
                exact .inr ⟨kvs', k, ts, e, ef⟩
        have hr3 : HR X.K I.ci s3 := by
          refine ⟨fun n o e => ?_, fun n j m2 k l1 l2 e => ?_, fun n j l f => ?_, fun b hb => ?_, fun b hb => ?_, tabs_at hr2.tb hB.2 te_frz, fun q hq => ⟨(hr2.tn q hq).1, fun hb => (hr2.tn q hq).2 (l2.fr _ (.inl hb)).1⟩⟩
          · have e' : (s2.h.set m (.dct kvs))[n]? = some o := e
            rw [get _ _ _ hm2] at e'
            by_cases c : m = n
            · rw [if_pos c] at e'
              cases e'
              subst c
              refine ⟨es, by show upd s2.H _ _ (s2.φ m 0) = _; rw [ph2]; exact upd_same, km, knd, fun j k f ef => ?_⟩
              obtain ⟨v, h1, h2⟩ := kf j k f ef
              obtain ⟨d, rfl, hd, _⟩ := ia j k f ef
              exact ⟨v, h1, scal_rf hd h2⟩
            · rw [if_neg c] at e'
              exact (hr2.ob n o e').moveW (s' := s3) kf2 e' fun j l => ⟨rfl, fun u e => by
                show upd s2.H _ _ (s2.φ n j) = some u
                rw [upd_ne (bn n j l)]; exact e⟩
          · rcases live3 _ _ l1 with ⟨rfl, rfl⟩ | ⟨n1, l1'⟩ <;> rcases live3 _ _ l2 with ⟨rfl, rfl⟩ | ⟨n2, l2'⟩
            · exact ⟨rfl, rfl⟩
            · exact absurd (e.symm.trans ph2) (bn _ _ l2')
            · exact absurd (e.trans ph2) (bn _ _ l1')
            · exact hr2.inj _ _ _ _ l1' l2' e
          · rcases live3 _ _ l with ⟨rfl, rfl⟩ | ⟨_, l'⟩
            · have f' : s2.F (s2.φ n 0) := f
              rw [ph2] at f'
              exact bF f'
            · exact hr2.nf _ _ l' f
          · obtain ⟨h1, h2, u, e⟩ := hr2.bt b ((l2.fr b (.inl hb)).1)
            refine ⟨fun n j l z => ?_, h2, u, by show upd s2.H _ _ b = some u; rw [upd_ne (Bne b hb)]; exact e⟩
            rcases live3 _ _ l with ⟨rfl, rfl⟩ | ⟨_, l'⟩
            · have z' : s2.φ n 0 = b := z
              rw [ph2] at z'
              exact Bne b hb z'.symm
            · exact h1 _ _ l' z
          · obtain ⟨u, e⟩ := hr2.ft b hb
            exact ⟨u, by show upd s2.H _ _ b = some u; rw [upd_ne (fun z => bF (by rw [← z]; exact hb))]; exact e⟩
        refine ⟨hB.2, pr s3 x le3 rfl hr3 ?_⟩
        obtain ⟨ts, D, acc, e1, e2, e3, e4, e5, e6, e7⟩ := rn
        have Dd : D ≠ s.φ m 0 := fun z => by rw [z, hB.2] at e3; cases e3
        refine ⟨ts, D, acc, e1, e2, ne2 e3 (fun _ _ z => by cases z), e4.keepW kf2, e5, fun n j l z => ?_, fun z => e7 ((l2.fr D (.inl z)).1)⟩
        rcases live3 _ _ l with ⟨rfl, rfl⟩ | ⟨_, l'⟩
        · have z' : s2.φ n 0 = D := z
          rw [ph2] at z'
          exact Dd z'.symm
        · exact e6 _ _ l' z⟩
  obtain ⟨env', s', eH', hr', er', _, prS⟩ := key
  replace prS : PR X.K I W s' σ (R.ok items s'.h) (JR X.K I.ci) _ := prS
  have hd' : s'.H (s.φ m 0) = some (.frz od (.dK es)) := by rw [eH']; exact upd_same
  have go := prS s' (Iti (s.φ m 0) od es) (.refl s') rfl hr' (jr_items hd' (by omega) fun j k v e => by
    have hj : j < kvs.length := by rw [← el]; exact (List.getElem?_eq_some_iff.mp e).1
    have ek : kvs[j]? = some (kvs[j].1, kvs[j].2) := List.getElem?_eq_getElem hj
    obtain ⟨v', h1, h2⟩ := kf j _ _ ek
    rw [e] at h1
    cases h1
    obtain ⟨d, e1, hd, e2⟩ := ia j _ _ ek
    rw [e1] at h2
    exact ⟨d, e2, fun F H => scal_rf hd h2⟩)
  rw [eH'] at go
  exact ⟨_, k6, s.φ m 0, od, es, rfl, upd_same, go⟩
theorem dn_compI {elt : Expr} {ifs elts : List Expr} {kk : Nat} {tpos apos cpos : Pos} {scope : Scope} {own : List (Str × Nat)} {conds : List Te} {q : Pos} (v : VOk N sc i0 x) (ok : BlkOk N sc.s scope own) (ht : DG Γ N (blkS sc scope) (.Tuple elts kk tpos) t) (hc : DTs Γ N (blkS sc scope) ifs conds) (he : DV Γ N (blkS sc scope) elt a)
    (hsub : ∀ k, k ∈ tgSlots t → k ∈ snds own) (hab : Ab x q "items" := by intro _; rfl) (hline : (apos.endLine == cpos.line) = true := by rfl) (hs : ∀ env y, foldedSetIterable (.Call (.Attribute (.Name x q) "items" apos) [] [] cpos) env y = pure y := by intro _ _; rfl) : DN Γ N sc (.ListComp elt [⟨.Tuple elts kk tpos, .Call (.Attribute (.Name x q) "items" apos) [] [] cpos, ifs, 0⟩] scope pos) (.compI i0 (snds own) t conds a) := fun n I W X g =>
  (pe_lock (pe_lc (own := own) (wi := iItems (tVar i0)) (g := tG X.K I.ci t) (tt := tE X.K I (fun _ _ _ _ => False) (fun env h => evalTs (callF Γ.fns n) env conds h) (fun _ a x => x = a))
    (te := tE X.K I (fun _ _ _ _ => False) (fun env h => (evalE (callF Γ.fns n) env a h).bind unP) (PRl X.K)) g.calm (by rw [g.hN]; exact g.nd) (pi_items (v.pe g) (hab _) hline) (by rw [g.hN, g.sc]; exact ok)
    (fun s H C cl fp => ht n I _ _ (g.blk scope s H C cl fp)) (fun s H C cl fp => hc n I _ _ (g.blk scope s H C cl fp)) (fun s H C cl fp => he n I _ _ (g.blk scope s H C cl fp)) (hs _))).imp fun σ H Q q => lcI_imp hsub q
end
end Cd
set_option Elab.async false
set_option linter.all false
set_option maxRecDepth 100000
set_option maxHeartbeats 4000000
namespace Cd
open PySem PySem.Spec PyProof.Rows L2
/-- the hash of a tuple of ints -/
def hashT (ks : List Int) : Int := reduceHash (Builtin.Tuple.tupleHashOf (ks.map hashInt))
theorem hashT_eq (P : Program) (w : World) (ks : List Int) : tupleKeyHash (mixKind P w) (ks.map Sum.inl) = hashT ks := by
  unfold tupleKeyHash hashT
  rw [List.map_map]
  rfl
section
variable {K : PySem.W.Frag} {a t : Addr} {n : Nat} {tok : Tok} {h i : Int} {ks : List Int} {its : List Value} {xs : List V} {ts : List PyData}
theorem con_tup (hl : K.lookup a = some ⟨.type "tuple", none, .seq its.toArray n, #[]⟩) (hz : its.length ≤ 1000) (r : Vals xs its) (q : ∀ F H, RFs K F H ts xs) : ∀ F H, RF K F H (.tuple ts) (.ref a) := fun F H =>
  .tup (.st (.inr ⟨_, its.toArray, n, hl, rfl, rfl, rfl, by rw [List.size_toArray]; exact Nat.le_trans hz (by decide), r⟩)) (q F H)
theorem tab_ent (hh : h = hashT ks) (hl : K.lookup t = some ⟨.type "tuple", none, .seq its.toArray n, #[]⟩) (hi : IntsAre its ks) : TabEnt K ks i ⟨h, .ref t, .int i tok⟩ :=
  ⟨t, tok, _, its.toArray, n, rfl, rfl, fun P w => by rw [hashT_eq]; exact hh, hl, rfl, rfl, hi⟩
end
end Cd
set_option Elab.async false
set_option linter.all false
set_option maxRecDepth 100000
set_option maxHeartbeats 4000000
namespace Cd
open PySem PySem.Spec PyProof.Rows L2
section
variable {Γ : Gm} {N : List Str} {sc : Sco} {e ea eb ec : Expr} {a b c : E} {o : O2} {pos p p2 p3 : Pos} {tg : Expr} {K : PySem.W.Frag}
variable {apos : Pos}
theorem ER.same {K : PySem.W.Frag} {s : Sx} {env : Ev} {σ : L2.St} (r : ER K s env σ) {i : Nat} {v : Val} {x : V} (e : σ[i]? = some (some x)) (q : VR K s v x) : ER K s (setSlot env i (some v)) σ where
  len := by rw [setSlot_length]; exact r.len
  at_ := fun j w ew => by
    by_cases c : j = i
    · subst c
      have hl : j < env.length := by rw [r.len]; exact (List.getElem?_eq_some_iff.mp e).1
      rw [slot_set_same hl] at ew
      cases ew
      exact ⟨x, e, q⟩
    · rw [slot_set_ne c] at ew
      exact r.at_ j w ew
end
end Cd
set_option Elab.async false
set_option linter.all false
set_option maxRecDepth 100000
set_option maxHeartbeats 4000000
namespace Cd
open PySem PySem.Spec PyProof.Rows L2
section
variable {prog : Program} {w : World} {A : Around} {E : Value → Shared → Prop} {s : Shared}
theorem applied_rev {sl : Addr} {vl vu vs : Value} {n : Nat} {Q : Int × Int × Nat → Shared → Prop} (hs : s.heap.IsSliceOf sl vl vu vs) (pl : IsPart vl none) (pu : IsPart vu none) (ps : IsPart vs (some (-1)))
    (h : Q ((n : Int) - 1, -1, n) s) : wpAny (model prog w) A (Builtin.Slice.sliceApplied (.ref sl) (pure (n : Int))) Q E s := by
  obtain ⟨os, hos, hcs, hds⟩ := id hs
  unfold Builtin.Slice.sliceApplied Builtin.Slice.sliceFields
  refine wpAny_bind (wpAny_bind (wpAny_field hos hds (x := vl) rfl (wpAny_bind (wpAny_field hos hds (x := vu) rfl (wpAny_bind (wpAny_field hos hds (x := vs) rfl (wpAny_pure ?_)))))))
  refine wpAny_bind (HT.slicePart_ ps ?_)
  show wpAny _ _ (if ((-1 : Int) == 0) = true then _ else _) _ _ s
  rw [if_neg (by decide)]
  refine wpAny_bind (HT.slicePart_ pl (wpAny_bind (HT.slicePart_ pu (wpAny_bind (wpAny_pure ?_)))))
  have pn : Builtin.Slice.slicePlaces ((n : Int) - 1) (-1) (-1) = n := by
    unfold Builtin.Slice.slicePlaces
    rw [if_neg (by decide)]
    by_cases c : (n : Int) - 1 > -1
    · rw [if_pos c, show (- -1 : Int) = 1 by decide, Int.ediv_one]; omega
    · rw [if_neg c]; omega
  show wpAny _ _ (pure ((n : Int) - 1, (-1 : Int), Builtin.Slice.slicePlaces ((n : Int) - 1) (-1) (-1))) _ _ s
  rw [pn]
  exact wpAny_pure h
theorem pick_rev (xs : Array Value) : ((List.range xs.size).filterMap fun (m : Nat) => xs[(((xs.size : Int) - 1) + (m : Int) * -1).toNat]?).toArray = xs.toList.reverse.toArray := by
  have e : (List.range xs.size).filterMap (fun (m : Nat) => xs[(((xs.size : Int) - 1) + (m : Int) * -1).toNat]?) = (List.range xs.size).filterMap ((fun i => xs[i]?) ∘ fun k => xs.size - 1 - k) := by
    have cg : ∀ (f g : Nat → Option Value) (l : List Nat), (∀ m ∈ l, f m = g m) → l.filterMap f = l.filterMap g := fun f g l => by
      induction l with
      | nil => intro _; rfl
      | cons a l ih => intro h; rw [List.filterMap_cons, List.filterMap_cons, h a List.mem_cons_self, ih fun m hm => h m (List.mem_cons_of_mem _ hm)]
    refine cg _ _ _ fun m hm => ?_
    have := List.mem_range.mp hm
    have : (((xs.size : Int) - 1) + (m : Int) * -1).toNat = xs.size - 1 - m := by omega
    show xs[(((xs.size : Int) - 1) + (m : Int) * -1).toNat]? = xs[xs.size - 1 - m]?
    rw [this]
  rw [e, ← List.filterMap_map, PySem.W.krv_range, List.filterMap_reverse, PySem.W.krv_all]
theorem getItem_tuple_rev {t sl : Addr} {items : Array Value} {vl vu vs : Value} {Q : Value → Shared → Prop} (ht : IsTup s.heap t items) (hs : s.heap.IsSliceOf sl vl vu vs) (pl : IsPart vl none) (pu : IsPart vu none) (ps : IsPart vs (some (-1)))
    (h : Q (.ref s.heap.objs.size) { s with heap := s.heap.push { cls := .type "tuple", data := .seq items.toList.reverse.toArray } })
    (hsz : items.size ≤ sizeLine) : wpAny (model prog w) A (getItem (.ref t) (.ref sl)) Q E s := by
  have htake : sizeOk (.seq items.toList.reverse.toArray) := by
    show items.toList.reverse.toArray.size ≤ sizeLine
    rw [List.size_toArray, List.length_reverse, Array.length_toList]
    exact hsz
  obtain ⟨os, hos, hcs, hds⟩ := id hs
  have hTs : s.TypeIs (.ref sl) "slice" := ⟨os, hos, hcs⟩
  unfold getItem
  try with_reducible refine wpAny_holding ?_
  first | refine wpAny_bind (wpAny_pure ?_) | skip
  refine wpAny_bind (wpAny_sequenceKey ht.typeIs (by decide) ?_)
  refine wpAny_bind (wpAny_callSpecial?_slot (name := Str.ofString "__getitem__") ht.typeIs PyProof.Rows.slot_tuple_getitem
    (wpAny_call_entry PyProof.Rows.slot_tuple_getitem ht.typeIs entry_tuple_getitem ?_ (args_tuple_getitem _ _)))
  show wpAny _ _ (Builtin.Tuple.tupleItemsOf (.ref t) >>= _) _ _ s
  refine wpAny_bind (tupleItemsOf_ ht ?_)
  refine wpAny_bind (wpAny_typeOf hTs ?_)
  rw [if_pos (by decide)]
  refine wpAny_bind (applied_rev hs pl pu ps ?_)
  show wpAny _ _ (if (((items.size : Int) - 1 == 0) && ((-1 : Int) == 1) && (items.size == items.size)) = true then _ else _) _ _ s
  rw [if_neg (by rw [show ((-1 : Int) == 1) = false by decide, Bool.and_false, Bool.false_and]; exact Bool.false_ne_true), pick_rev]
  first
    | exact wpAny_bind (m := Builtin.Tuple.tupleExact _) (wpAny_newObj_type (wpAny_pure ⟨_, rfl, wpAny_pure h⟩) htake)
    | exact wpAny_bind (m := Builtin.Tuple.tupleExact _) (wpAny_newObj_type (wpAny_bind (wpAny_pure (wpAny_pure ⟨_, rfl, wpAny_pure h⟩))) htake)
    | exact wpAny_bind (wpAny_bind (m := Builtin.Tuple.tupleExact _) (wpAny_newObj_type (wpAny_pure (wpAny_pure ⟨_, rfl, wpAny_pure h⟩)) htake))
    | exact wpAny_bind (wpAny_bind (m := Builtin.Tuple.tupleExact _) (wpAny_newObj_type (wpAny_pure ⟨_, rfl, wpAny_pure h⟩) htake))
end
def rRevT (K : PySem.W.Frag) : V → Hp → VK → Prop := fun x H Q => ∃ a xs, x = .ref a ∧ SqT K H a xs ∧ ∀ p o, H p = none → TupO o → Q (.ref p) (upd H p (.frz o (.tup xs.reverse)))
theorem pe_revT {X : Cx} {e : Expr} {te : TE} {k : Nat} {p1 p2 p3 pos : Pos} (he : PE X e te) : PE X (.Subscript e (.Slice none none (some (.UnaryOp .USub (.Constant (.int 1) k p1) p2)) p3) pos) (tUn (rRevT X.K) te) := by
  refine ⟨fun pins s σ H Q I h => ?_⟩
  refine Subscript_ (thn (he.run pins s σ H _ I h) fun v s1 ⟨x, H1, I1, r1, q1⟩ => ?_)
  obtain ⟨a, xs, ex, hx, q⟩ := q1
  subst ex
  cases r1
  have hst : PO X (some (.UnaryOp .USub (.Constant (.int 1) k p1) p2)) (tPart (tUn (rU fun i => .int (-i)) (tC (.int 1)))) := po_some (pe_un un_neg pe_int)
  refine wpAny_Slice (thn (po_none.run pins s1 σ H1 (fun o H2 => o = none ∧ H2 = H1) I1 ⟨rfl, rfl⟩) fun vl s2 ⟨l, H2, I2, pl, el, e2⟩ => ?_)
  subst el e2
  refine thn (po_none.run pins s2 σ H2 (fun o H3 => o = none ∧ H3 = H2) I2 ⟨rfl, rfl⟩) fun vu s3 ⟨u, H3, I3, pu, eu, e3⟩ => ?_
  subst eu e3
  refine thn (hst.run pins s3 σ H3 (fun o H4 => o = some (-1) ∧ H4 = H3) I3 ⟨1, rfl, -1, rfl, rfl, rfl⟩) fun vs s4 ⟨o, H4, I4, ps, eo, e4⟩ => ?_
  subst eo e4
  have I5 : Inv X pins σ H4 { s4 with heap := s4.heap.push { cls := .type "slice", data := .fields #[vl, vu, vs] } } := I4.kept (t' := s4.toks) fun b ob q => Heap.get?_push_of_some _ q
  obtain ⟨its, r, ht, hz⟩ := I5.tuple hx
  have hlen := r.length
  show wpAny (model X.prog X.w) X.A (subscriptTail e (.Slice none none (some (.UnaryOp .USub (.Constant (.int 1) k p1) p2)) p3) (.ref a) (.ref s4.heap.objs.size)) (EP X pins σ Q) X.xe { s4 with heap := s4.heap.push { cls := .type "slice", data := .fields #[vl, vu, vs] } }
  refine tail_any (ops := [.ref a, .ref s4.heap.objs.size]) ht.typeIs (PyProof.Rows.slot_tuple_getitem.lookup) ?_ (by with_unfolding_all rfl)
  refine getItem_tuple_rev ht (Heap.IsSliceOf.new _ vl vu vs) pl pu ps ?_ (by rw [List.size_toArray]; omega)
  refine ⟨.ref _, _, I5.laid (t' := s4.toks) (o := .frz { cls := .type "tuple", data := .seq its.reverse.toArray } (.tup xs.reverse)) (fun b ob q => Heap.get?_push_of_some _ q) (Nat.le_refl _) ?_, rfl, q _ _ (I5.hok.fresh (Nat.le_refl _)) ⟨rfl, rfl⟩⟩
  exact ⟨Heap.get?_push_size _ rfl, by rw [List.length_reverse]; exact hz, _, r.reverse, IsTup.new _ _⟩
def Tps (K : PySem.W.Frag) (H : Hp) (rs : List (List Int)) (xs : List V) : Prop := PySem.W.EachIs (fun x ns => ∃ t, x = V.ref t ∧ SqT K H t (ns.map V.int)) xs rs
theorem Tps.rf {K : PySem.W.Frag} {F : Addr → Prop} {H : Hp} {rs : List (List Int)} {xs : List V} (h : Tps K H rs xs) : RFs K F H (rs.map tupD) xs := by
  unfold Tps at h
  induction h with
  | nil => exact .nil
  | cons h _ ih =>
    obtain ⟨t, rfl, s⟩ := h
    exact .cons (.tup (.lo s (needT_ints _)) (.ofInts _)) ih
theorem Tps.of {K : PySem.W.Frag} {F : Addr → Prop} {H : Hp} : ∀ {ts : List PyData} {xs : List V} {rs : List (List Int)}, RFs K F H ts xs → tupsD ts = some rs → Tps K H rs xs ∧ ts = rs.map tupD ∧ ∀ r ∈ rs, r ≠ []
  | [], _, _, .nil, e => by cases e; exact ⟨.nil, rfl, fun r h => by cases h⟩
  | d :: ds, _, rs, .cons (v := v) (vs := vs) r t, e => by
    have : ∃ a as, d = .tuple (a :: as) := by
      cases d with
      | tuple ts => match ts, e with
        | a :: as, _ => exact ⟨a, as, rfl⟩
      | _ => cases e
    obtain ⟨a, as, rfl⟩ := this
    replace e : ((intsD (a :: as)).bind fun ns => (tupsD ds).map (ns :: ·)) = some rs := e
    rw [Option.bind_eq_some_iff] at e
    obtain ⟨ns, e1, e2⟩ := e
    rw [Option.map_eq_some_iff] at e2
    obtain ⟨qs, e2, rfl⟩ := e2
    obtain ⟨i1, i2, i3⟩ := Tps.of t e2
    obtain ⟨p, ys, rfl, s, r2⟩ := r.tup_inv
    obtain ⟨rfl, ed⟩ := r2.ints' e1
    refine ⟨.cons ⟨p, rfl, s⟩ i1, ?_, fun r h => ?_⟩
    · rw [List.map_cons, ← i2, ed]; rfl
    · rcases List.mem_cons.mp h with rfl | h
      · intro z
        rw [z] at ed
        cases ed
      · exact i3 r h
section
variable {K : PySem.W.Frag} {Γ : Gm} {N : List Str} {sc : Sco} {ea eb : Expr} {a b : E} {pos p p2 apos : Pos}
theorem ok_revT : Op1Ok K (rRevT K) .revT := fun s d1 d x Q r e f => by
  replace e : revTS d1 = some d := e
  unfold revTS at e
  split at e
  · cases e
    obtain ⟨a, xs, rfl, h1, q1⟩ := r.tup
    exact ⟨a, xs, rfl, h1, fun p o hp ho => f.2 p _ hp (tup_new hp ho q1.reverse)⟩
  · cases e
theorem de_revT {k : Nat} {p1 p2 p3 : Pos} (ha : DB Γ N sc ea a) : DE Γ N sc (.Subscript ea (.Slice none none (some (.UnaryOp .USub (.Constant (.int 1) k p1) p2)) p3) pos) (.op1 .revT a) :=
  de_op1 (r := fun X => rRevT X.K) (fun _ _ _ X g ta h => pe_revT h) (fun _ _ _ X g => ok_revT) ha
end
end Cd
set_option Elab.async false
set_option linter.all false
set_option maxRecDepth 100000
set_option maxHeartbeats 4000000
namespace Cd
open PySem PySem.Spec PyProof.Rows L2
section
variable {Γ : Gm} {N : List Str} {sc : Sco} {ea : Expr} {a : E} {pos p p2 p3 : Pos}
end
end Cd
set_option Elab.async false
set_option linter.all false
set_option maxRecDepth 100000
set_option maxHeartbeats 4000000
namespace PySem.W
open PySem PySem.SeqAt PyProof.Rows
section
variable {prog : Program} {w : World} {A : Around} {E : Value → Shared → Prop} {s : Shared}
end
end PySem.W
namespace Cd
open PySem PySem.Spec PyProof.Rows L2
section
variable {Γ : Gm} {N : List Str} {sc : Sco} {e ea eb ec : Expr} {a b c : E} {pos p p2 p3 : Pos}
def two (o : O1) (cf : Calls) (env : Ev) (h : Hi) (a b : E) : R Val := ((evalE cf env a h).bind unP).bind fun x h1 => ((evalE cf env b h1).bind unP).bind fun y h2 => ofO ((opf1 o (.tuple [x, y])).map Val.p) h2
end
end Cd
set_option Elab.async false
set_option linter.all false
set_option maxRecDepth 100000
set_option maxHeartbeats 4000000
namespace Cd
open PySem PySem.Spec PyProof.Rows L2
section
variable {Γ : Gm} {N : List Str} {sc : Sco} {e ea eb ec : Expr} {a b c : E} {o : O2} {pos p p2 p3 : Pos}
end
end Cd
set_option Elab.async false
set_option linter.all false
set_option maxRecDepth 100000
set_option maxHeartbeats 4000000
namespace Cd
open PySem PySem.Spec PyProof.Rows L2
section
variable {Γ : Gm} {N : List Str} {sc : Sco} {es : List Expr} {ea : Expr} {a b : E} {pos p2 : Pos} {ts : List Tg}
end
end Cd
set_option Elab.async false
set_option linter.all false
set_option maxRecDepth 100000
set_option maxHeartbeats 4000000
namespace Cd
open PySem PySem.Spec PyProof.Rows L2
section
variable {K : PySem.W.Frag} {Γ : Gm} {N : List Str} {sc : Sco} {ea : Expr} {a : E} {pos p : Pos}
end
end Cd
set_option Elab.async false
set_option linter.all false
set_option maxRecDepth 100000
set_option maxHeartbeats 4000000
namespace Cd
open PySem PySem.Spec PyProof.Rows L2
section
variable {Γ : Gm} {N : List Str} {sc : Sco} {ea : Expr} {a : E} {pos p p2 : Pos}
end
end Cd
set_option Elab.async false
set_option linter.all false
set_option maxRecDepth 100000
set_option maxHeartbeats 4000000
namespace Cd
open PySem PySem.Spec PyProof.Rows L2
section
variable {prog : Program} {w : World} {A : Around} {E : Value → Shared → Prop} {s : Shared} {z TI TO T i1 i2 : Addr} {fp1 fp2 : List Addr} {n1 n2 i : Nat} {P1 P2 : Nat → Value → Prop} {St1 St2 : Nat → Heap → Prop} {f : Bool} {oT : Obj}
end
section
variable {prog : Program} {w : World} {A : Around} {R : Result → Shared → Prop} {E : Value → Shared → Prop} {S I : Addr} {n : Nat} {J : Nat → Array Value → Shared → Prop} {Fi : Array Value → Shared → Prop}
end
section
variable {prog : Program} {w : World} {A : Around} {E : Value → Shared → Prop} {s : Shared} {z : Addr} {Fi : Array Value → Shared → Prop}
end
/-- H with the pairs laid at Ts, one by one -/
inductive Bt (H0 : Hp) : List (V × V) → List Addr → Hp → Prop where
  | nil : Bt H0 [] [] H0
  | snoc {its : List (V × V)} {Ts : List Addr} {H : Hp} {p : V × V} {T : Addr} : Bt H0 its Ts H → H T = none → Bt H0 (its ++ [p]) (Ts ++ [T]) (upd H T (.tup [p.1, p.2]))
theorem Bt.ext {H0 H : Hp} {its : List (V × V)} {Ts : List Addr} (b : Bt H0 its Ts H) : ∀ a o, H0 a = some o → H a = some o := by
  induction b with
  | nil => exact fun _ _ e => e
  | snoc b h ih =>
    intro a o e
    have e1 := ih a o e
    rw [upd_ne (fun q => by rw [← q, e1] at h; cases h)]
    exact e1
theorem Bt.len {H0 H : Hp} {its : List (V × V)} {Ts : List Addr} (b : Bt H0 its Ts H) : Ts.length = its.length := by
  induction b with
  | nil => rfl
  | snoc b h ih => simp [ih]
theorem SqK.ext {K : PySem.W.Frag} {k : Kd} {x : V} {xs : List V} {H H' : Hp} (h : SqK K k x xs H) (e : ∀ a o, H a = some o → H' a = some o) : SqK K k x xs H' := by
  cases k with
  | l a => exact ⟨h.1, h.2.elim (fun h => .inl (h.elim (fun h => .inl (e _ _ h)) fun ⟨o, h⟩ => .inr ⟨o, e _ _ h⟩)) fun h => .inr h⟩
  | t a => exact ⟨h.1, h.2.elim (fun h => .inl (h.elim (fun h => .inl (e _ _ h)) fun ⟨o, h⟩ => .inr ⟨o, e _ _ h⟩)) fun h => .inr h⟩
  | s y => exact h
section
variable {X : Cx} {pins : List (Addr × Obj)} {σ : L2.St} {s1 : Shared} {H1 : Hp} {z TI TO i1 i2 : Addr} {v1 v2 : Value} {xs ys : List V} {k l : Kd} {x y : V} {own1 own2 : List Addr} {T1 T2 : Addr → Nat → Heap → Prop}
end
end Cd
set_option Elab.async false
set_option linter.all false
set_option maxRecDepth 100000
set_option maxHeartbeats 4000000
namespace Cd
open PySem PySem.Spec PyProof.Rows L2
section
variable {Γ : Gm} {N : List Str} {sc : Sco} {ea eb ec : Expr} {a b c : E} {pos p p2 : Pos} {i j l : Nat} {x y z : Str}
end
section
variable {prog : Program} {w : World} {A : Around} {E : Value → Shared → Prop} {s : Shared} {κ : KeyKind}
section
variable {β : Type} {vs : List Value} {bs : List β} {enc : β → PyData} {R : Value → β → Prop}
end
end
theorem tupNe_inv {d : PyData} (h : tupNe d = true) : ∃ x r, d = .tuple (x :: r) := by
  cases d with
  | tuple ts => cases ts with
    | nil => cases h
    | cons x r => exact ⟨x, r, rfl⟩
  | _ => cases h
theorem depth_mem : ∀ {ts : List PyData} {d : PyData}, d ∈ ts → d.depth ≤ PyData.depthAll ts
  | t :: ts, d, h => by
    show d.depth ≤ max t.depth (PyData.depthAll ts)
    rcases List.mem_cons.mp h with rfl | h
    · omega
    · have := depth_mem h; omega
section
variable {K : PySem.W.Frag} {Γ : Gm} {N : List Str} {sc : Sco} {ea eb : Expr} {a b : E} {pos p p2 apos : Pos}
end
end Cd
set_option Elab.async false
set_option linter.all false
set_option maxRecDepth 100000
set_option maxHeartbeats 4000000
namespace Cd
open PySem PySem.Spec PyProof.Rows L2
section
variable {Γ : Gm} {N : List Str} {sc : Sco} {ea eb ek : Expr} {a b c : E} {pos p p2 q : Pos} {i : Nat} {x : Str}
end
section
variable {prog : Program} {w : World} {A : Around} {E : Value → Shared → Prop} {s : Shared}
end
section
variable {K : PySem.W.Frag} {Γ : Gm} {N : List Str} {sc : Sco} {ea : Expr} {a : E} {pos : Pos}
end
end Cd
set_option Elab.async false
set_option linter.all false
set_option maxRecDepth 100000
set_option maxHeartbeats 4000000
namespace Cd
open PySem PySem.Spec PyProof.Rows L2
section
variable {Γ : Gm} {N : List Str} {sc : Sco} {e ea eb : Expr} {a b : E} {pos p p2 apos : Pos} {i j : Nat} {x y z : Str}
end
end Cd
set_option Elab.async false
set_option linter.all false
set_option maxRecDepth 100000
set_option maxHeartbeats 4000000
namespace Cd
open PySem PySem.Spec PyProof.Rows L2
section
variable {Γ : Gm} {N : List Str} {sc : Sco} {e ea eb ec : Expr} {a b c : E} {pos p p2 apos : Pos} {i j : Nat} {x y z : Str}
end
end Cd
set_option Elab.async false
set_option linter.all false
set_option maxRecDepth 100000
set_option maxHeartbeats 4000000
namespace Cd
open PySem PySem.Spec PyProof.Rows L2
section
variable {Γ : Gm} {N : List Str} {sc : Sco} {e ea eb ec ek : Expr} {a b c : E} {pos p p2 apos : Pos} {i j : Nat} {x y z : Str}
/-- a display of ints and what reads nothing -/
inductive LkOk (Γ : Gm) (N : List Str) (sc : Sco) : List (Option Expr) → List Expr → List (Int × PyData) → Prop
  | nil : LkOk Γ N sc [] [] []
  | cons {k : Int} {j : Nat} {q : Pos} {v : Expr} {av : E} {d : PyData} {ks : List (Option Expr)} {vs : List Expr} {r : List (Int × PyData)} (hv : DV Γ N sc v av) (hd : ∀ cf env h, evalE cf env av h = .ok (.p d) h) (t : LkOk Γ N sc ks vs r) :
      LkOk Γ N sc (some (.Constant (.int k) j q) :: ks) (v :: vs) ((k, d) :: r)
theorem LkOk.some {ks : List (Option Expr)} {vs : List Expr} {kvs : List (Int × PyData)} (h : LkOk Γ N sc ks vs kvs) : ks.all (·.isSome) = true ∧ ks.length = vs.length ∧ ks.length = kvs.length := by
  induction h with
  | nil => exact ⟨rfl, rfl, rfl⟩
  | cons hv hd t ih => exact ⟨by simp only [List.all_cons, Option.isSome_some, Bool.true_and]; exact ih.1, by simp [ih.2.1], by rw [List.length_cons, List.length_cons, ih.2.2]⟩
section
variable {K : PySem.W.Frag} {CI : CInf} {s s0 : Sx} {D : Addr} {es xs : List (Key × V)}
end
end
end Cd
set_option Elab.async false
set_option linter.all false
set_option maxRecDepth 100000
set_option maxHeartbeats 4000000
namespace Cd
open PySem PySem.Spec PyProof.Rows L2
section
variable {Γ : Gm} {N : List Str} {sc : Sco} {es : List Expr} {ea : Expr} {a b : E} {pos p2 : Pos} {ts : List Tg}
end
end Cd
set_option Elab.async false
set_option linter.all false
set_option maxRecDepth 100000
set_option maxHeartbeats 4000000
namespace Cd
open PySem PySem.Spec PyProof.Rows L2
section
variable {Γ : Gm} {N : List Str} {sc : Sco} {e ea eb ek : Expr} {a b : E} {pos p p2 apos : Pos} {i j : Nat} {x : Str}
end
end Cd
set_option Elab.async false
set_option linter.all false
set_option maxRecDepth 100000
set_option maxHeartbeats 4000000
namespace Cd
open PySem PySem.Spec PyProof.Rows L2
section
variable {K : PySem.W.Frag} {CI : CInf} {s : Sx} {n j : Nat}
end
section
variable {Γ : Gm} {N : List Str} {sc : Sco} {e ea eb ek : Expr} {a b : E} {pos p p2 apos : Pos} {i : Nat} {x : Str} {k : Key} {d : PyData}
end
end Cd
set_option Elab.async false
set_option linter.all false
set_option maxRecDepth 100000
set_option maxHeartbeats 4000000
namespace Cd
open PySem PySem.Spec PyProof.Rows L2
section
variable {K : PySem.W.Frag} {CI : CInf} {s : Sx} {n : Nat} {kvs : List (Key × Fld)} {xs : List V} {q : Key} {ts : List PyData} {p : Addr}
end
section
variable {Γ : Gm} {N : List Str} {sc : Sco} {ev ek : Expr} {a b c : E} {pos p p2 apos : Pos} {i : Nat} {x : Str} {k : Key} {d : PyData}
end
end Cd
set_option Elab.async false
set_option linter.all false
set_option maxRecDepth 100000
set_option maxHeartbeats 4000000
namespace Cd
open PySem PySem.Spec PyProof.Rows L2
/-- the pairs of a display, as they stand while it is made; B what was kept apart before -/
inductive KR (K : PySem.W.Frag) (s : Sx) : (Addr → Prop) → List (Key × Fld) → List (Key × V) → Prop
  | nil {B} : KR K s B [] []
  | p {B k d v r es} : RF K s.F s.H d v → KR K s B r es → KR K s B ((k, .p d) :: r) ((k, v) :: es)
  | l {B k ts a xs r es} : s.H a = some (.lst xs) → RFs K s.F s.H ts xs → ¬ B a → s.B a → KR K s (fun b => B b ∨ b = a) r es → KR K s B ((k, .l ts) :: r) ((k, .ref a) :: es)
section
variable {K : PySem.W.Frag} {CI : CInf} {s s' : Sx} {B : Addr → Prop} {fl : List (Key × Fld)} {es : List (Key × V)} {a : Addr}
theorem KR.keys (h : KR K s B fl es) : es.map (·.1) = fl.map (·.1) := by
  induction h with
  | nil => rfl
  | p _ _ ih => rw [List.map_cons, List.map_cons, ih]
  | l _ _ _ _ _ ih => rw [List.map_cons, List.map_cons, ih]
end
section
variable {Γ : Gm} {N : List Str} {sc : Sco} {pos p p2 : Pos} {i : Nat} {x : Str}
/-- the pairs of a display: a key that is told, a value; or a list -/
inductive KvOk (Γ : Gm) (N : List Str) (sc : Sco) : List (Option Expr) → List Expr → List (Key × Bool × E) → Prop
  | nil : KvOk Γ N sc [] [] []
  | p {z : Str} {j : Nat} {q : Pos} {v : Expr} {av : E} {ks : List (Option Expr)} {vs : List Expr} {r : List (Key × Bool × E)} (hv : DV Γ N sc v av) (t : KvOk Γ N sc ks vs r) : KvOk Γ N sc (some (.Constant (.str z) j q) :: ks) (v :: vs) ((.inr z, false, av) :: r)
  | l {z : Str} {j : Nat} {q : Pos} {v : Expr} {av : E} {ks : List (Option Expr)} {vs : List Expr} {r : List (Key × Bool × E)} (hv : DN Γ N sc v av) (t : KvOk Γ N sc ks vs r) : KvOk Γ N sc (some (.Constant (.str z) j q) :: ks) (v :: vs) ((.inr z, true, av) :: r)
theorem KvOk.some {ks : List (Option Expr)} {vs : List Expr} {kvs : List (Key × Bool × E)} (h : KvOk Γ N sc ks vs kvs) : ks.all (·.isSome) = true ∧ ks.length = vs.length ∧ ks.length = kvs.length := by
  induction h with
  | nil => exact ⟨rfl, rfl, rfl⟩
  | p _ _ ih => exact ⟨by simp only [List.all_cons, Option.isSome_some, Bool.true_and]; exact ih.1, by simp [ih.2.1], by rw [List.length_cons, List.length_cons, ih.2.2]⟩
  | l _ _ ih => exact ⟨by simp only [List.all_cons, Option.isSome_some, Bool.true_and]; exact ih.1, by simp [ih.2.1], by rw [List.length_cons, List.length_cons, ih.2.2]⟩
end
end Cd
set_option Elab.async false
set_option linter.all false
set_option maxRecDepth 100000
set_option maxHeartbeats 4000000
namespace Cd
open PySem PySem.Spec PyProof.Rows L2
section
variable {Γ : Gm} {N : List Str} {sc : Sco} {e ea eb ek : Expr} {a b : E} {pos p p2 apos : Pos} {i : Nat} {x : Str} {k : Key} {d : PyData}
end
end Cd
set_option Elab.async false
set_option linter.all false
set_option maxRecDepth 100000
set_option maxHeartbeats 4000000
namespace Cd
open PySem PySem.Spec PyProof.Rows L2
section
variable {Γ : Gm} {N : List Str} {sc : Sco} {eb : Expr} {b : E} {pos p q apos apos2 : Pos} {i j fi fc cl : Nat} {x m : Str}
end
end Cd
set_option Elab.async false
set_option linter.all false
set_option maxRecDepth 100000
set_option maxHeartbeats 4000000
namespace Cd
open PySem PySem.Spec PyProof.Rows L2
section
variable {Γ : Gm} {N : List Str} {sc : Sco} {ea eb : Expr} {a b : E} {p apos : Pos} {i j : Nat}
end
end Cd
set_option Elab.async false
set_option linter.all false
set_option maxRecDepth 100000
set_option maxHeartbeats 4000000
namespace Cd
open PySem PySem.Spec PyProof.Rows L2
end Cd
set_option Elab.async false
set_option linter.all false
set_option maxRecDepth 100000
set_option maxHeartbeats 4000000
namespace Cd
open PySem PySem.Spec PyProof.Rows L2
section
variable {P : Program} {w : World} {K : PySem.W.Frag} {mg : Str → Option Value} {base : Heap} {I : Inf} {Γ : Gm} {n fi : Nat}
end
section
variable {P : Program} {w : World} {K : PySem.W.Frag} {mg mb : Str → Option Value}
end
end Cd
set_option Elab.async false
set_option linter.all false
set_option maxRecDepth 100000
set_option maxHeartbeats 4000000
namespace Cd
open PySem PySem.Spec PyProof.Rows L2
section
variable {Γ : Gm} {N : List Str} {sc : Sco} {e ea : Expr} {a : E} {pos p : Pos} {K : PySem.W.Frag}
end
end Cd
set_option Elab.async false
set_option linter.all false
set_option maxRecDepth 100000
set_option maxHeartbeats 4000000
namespace Cd
open PySem PySem.Spec PyProof.Rows L2
section
variable {Γ : Gm} {N : List Str} {sc : Sco} {ea eb : Expr} {a b : E} {pos : Pos} {K : PySem.W.Frag}
end
end Cd
set_option Elab.async false
set_option linter.all false
set_option maxRecDepth 100000
set_option maxHeartbeats 4000000
namespace Cd
open PySem PySem.Spec PyProof.Rows L2
section
variable {X : Cx} {a b c d : Expr} {pos : Pos} {ta tb tc td : TE} {op : CmpOp} {r : R2}
end
section
variable {Γ : Gm} {N : List Str} {sc : Sco} {ea eb ec ed : Expr} {a b c d : E} {pos p : Pos} {i : Nat} {x : Str}
theorem DP.un {e : Expr} {a : E} (h : DP Γ N sc e a) (cf : Calls) (env : Ev) (hp : Hi) : (∃ v, evalE cf env a hp = .ok (.p v) hp) ∨ (evalE cf env a hp).bind unP = .stuck := by
  rcases h.pure cf env hp with ⟨v, e⟩ | e
  · cases v with
    | p v => exact .inl ⟨v, e⟩
    | ref m => exact .inr (by rw [e]; rfl)
  · exact .inr (by rw [e]; rfl)
abbrev le3 (a b c d : E) : E := .and_ (.op2d .le a b) (.and_ (.op2d .le b c) (.op2d .le c d))
variable {n : Nat} {I : Inf} {W : WX} {X : Cx}
end
end Cd
set_option Elab.async false
set_option linter.all false
set_option maxRecDepth 100000
set_option maxHeartbeats 4000000
namespace Cd
open PySem PySem.Spec PyProof.Rows L2
section
variable {Γ : Gm} {N : List Str} {sc : Sco} {e ea : Expr} {a : E} {pos p p2 : Pos} {i : Nat} {x : Str} {K : PySem.W.Frag}
variable {eb : Expr} {b : E}
end
end Cd
set_option Elab.async false
set_option linter.all false
set_option maxRecDepth 100000
set_option maxHeartbeats 4000000
namespace PySem.W
open PySem PySem.SeqAt PyProof.Rows
section
variable {prog : Program} {w : World} {A : Around} {R : Result → Shared → Prop} {I : Addr} {fp wr : List Addr} {G : Array GenState → Array GenState → Prop} {n : Nat} {P : Nat → Value → Prop} {St : Nat → Shared → Prop}
end
section
variable {prog : Program} {w : World} {A : Around} {E : Value → Shared → Prop} {s : Shared}
end
end PySem.W
namespace Cd
open PySem PySem.Spec PyProof.Rows L2
section
variable {Γ : Gm} {N : List Str} {sc : Sco} {e ea eb : Expr} {a b : E} {pos p p2 : Pos} {K : PySem.W.Frag}
end
end Cd
set_option Elab.async false
set_option linter.all false
set_option maxRecDepth 100000
set_option maxHeartbeats 4000000
namespace PySem
open Sem (wp)
section
variable {prog : Program} {w : World} {A : Around} {E : Value → Shared → Prop} {s : Shared}
end
end PySem
namespace Cd
open PySem PySem.Spec PyProof.Rows L2
section
variable {Γ : Gm} {N : List Str} {sc : Sco} {e ea eb : Expr} {a b : E} {pos p p2 : Pos} {K : PySem.W.Frag}
end
end Cd
set_option Elab.async false
set_option linter.all false
set_option maxRecDepth 100000
set_option maxHeartbeats 4000000
namespace Cd
open PySem PySem.Spec PySem.Calls PyProof.Rows L2
section
variable {prog : Program} {w : World} {A : Around} {E : Value → Shared → Prop} {s : Shared} {K : PySem.W.Frag} {x D : Addr} {ox : Obj} {oq : Option Obj}
open PySem.W in
open PySem.W in
end
section
variable {P : Program} {w : World} {K : PySem.W.Frag} {mg : Str → Option Value} {base : Heap} {CX : CXT}
end
section
variable {X : Cx} {CX : CXT} {k : Nat} {f a : Addr} {oe : Obj} {fd : FuncData} {ps : List Str} {sp : Addr → Value → Option Addr → Sp} {E : L2.St → XK} {x : Str} {q pos : Pos} {e : Expr} {es : List Expr} {t : TA}
end
section
variable {Γ : Gm} {N : List Str} {sc : Sco} {pos : Pos} {j : Nat} {x : Str}
end
end Cd
set_option Elab.async false
set_option linter.all false
set_option maxRecDepth 100000
set_option maxHeartbeats 4000000
namespace Cd
open PySem PySem.Spec PyProof.Rows L2
section
variable {Γ : Gm} {N : List Str} {sc : Sco} {e1 ea eb : Expr} {es : List Expr} {a b : E} {as : List E} {pos apos p p2 : Pos} {cl fi : Nat} {m z : Str}
end
section
variable {X : Cx} {a D : Addr} {oe : Obj} {i : Nat} {ev y : Str} {p1 p2 p3 p4 : Pos}
end
end Cd
set_option Elab.async false
set_option linter.all false
set_option maxRecDepth 100000
set_option maxHeartbeats 4000000
namespace Cd
open PySem PySem.Spec PyProof.Rows L2
section
variable {Γ : Gm} {N : List Str} {sc : Sco} {pos : Pos} {j : Nat} {x : Str}
end
section
variable {X : Cx} {a : Addr} {i : Nat} {c : Expr} {p1 p2 : Pos} {b : Bool} {d : Option Addr}
end
end Cd
set_option Elab.async false
set_option linter.all false
set_option maxRecDepth 100000
set_option maxHeartbeats 4000000
namespace Cd.Tp
open PySem PySem.Spec PyProof.Rows L2
section
variable {P : Program} {w : World} {κ : Type} [DecidableEq κ] {knd : KeyKind P w κ} {A : Around} {E : Value → Shared → Prop} {s : Shared}
/-- values of the kind are of no class statement, hashed by value -/
structure PlainK (knd : KeyKind P w κ) : Prop where
  cl : ∀ k v, knd.is k v = true → ∀ n, ofAClassStatement n v = pure false
  hv : ∀ k v, knd.is k v = true → ∀ n, ∃ b, hashByValue n v = pure b
theorem items_of {ks : List κ} {vs : List Value} (h : ItemsAre knd ks vs) : ∀ v ∈ vs, ∃ k, knd.is k v = true := by
  induction h with
  | nil => exact fun v hv => by cases hv
  | cons h1 _ ih =>
    intro v hv
    cases hv with
    | head => exact ⟨_, h1⟩
    | tail _ hv => exact ih v hv
/-- a walk over the items that ends where each lets it on -/
theorem walk_on {β : Type} {vs : Array Value} {f : Value → Option β × PUnit → Sem (ForInStep (Option β × PUnit))} {r0 : Option β × PUnit} {Q : Option β × PUnit → Shared → Prop} (hr : r0.1 = none)
    (hf : ∀ v ∈ vs.toList, ∀ r : Option β × PUnit, r.1 = none → ∀ Q' : ForInStep (Option β × PUnit) → Shared → Prop, (∀ r' : Option β × PUnit, r'.1 = none → Q' (.yield r') s) → wpAny (model P w) A (f v r) Q' E s) (h : ∀ r : Option β × PUnit, r.1 = none → Q r s) :
    wpAny (model P w) A (forIn vs r0 f) Q E s := by
  rw [← Array.forIn_toList]
  refine wpAny_forIn_list _ (fun rest r s' => r.1 = none ∧ s' = s ∧ ∀ v ∈ rest, v ∈ vs.toList) _ ?_ ?_ _ _ ⟨hr, rfl, fun v h => h⟩
  · rintro v rest r s' ⟨hr, rfl, hall⟩
    exact hf v (hall v List.mem_cons_self) r hr _ fun r' hr' => ⟨hr', rfl, fun u hu => hall u (List.mem_cons_of_mem _ hu)⟩
  · rintro r s' ⟨hr, rfl, _⟩
    exact h r hr
theorem tup_noClass (pk : PlainK knd) {k : List κ} {b : Addr} {Q : Bool → Shared → Prop} (hk : IsTupleKey knd s.heap k b) (h : Q false s) : wpAny (model P w) A (ofAClassStatement 8 (.ref b)) Q E s := by
  have hT := hk.typeIs
  obtain ⟨o, items, n, ho, _, hd, hi⟩ := hk
  unfold ofAClassStatement
  refine wpAny_bind (wpAny_typeOf hT ?_)
  have e : (("tuple" : String) == "tuple") = true := by decide
  simp only [e, if_true, Bool.not_true, Bool.false_eq_true, if_false]
  try refine wpAny_bind (wpAny_pure ?_)
  show wpAny _ _ (seqItems? (.ref b) >>= _) _ _ s
  refine wpAny_bind (wpAny_seqItems ho hd ?_)
  dsimp only
  refine wpAny_bind ?_
  show wpAny _ _ (forIn items _ _) _ _ s
  refine walk_on rfl (fun v hv r hr Q' q => ?_) fun r hr => ?_
  · obtain ⟨k0, hk0⟩ := items_of hi v hv
    rw [pk.cl k0 v hk0]
    refine wpAny_bind (wpAny_pure ?_)
    simp only [Bool.false_eq_true, if_false]
    exact wpAny_pure (q _ rfl)
  · obtain ⟨r1, r2⟩ := r
    simp only at hr
    subst hr
    exact wpAny_pure h
theorem tup_byValue (pk : PlainK knd) {k : List κ} {b : Addr} {Q : Bool → Shared → Prop} (hk : IsTupleKey knd s.heap k b) (h : ∀ c, Q c s) : wpAny (model P w) A (hashByValue 8 (.ref b)) Q E s := by
  have hT := hk.typeIs
  obtain ⟨o, items, n, ho, _, hd, hi⟩ := hk
  unfold hashByValue
  refine wpAny_bind (wpAny_specialOf hT F.slot_tuple_hash.lookup ?_)
  show wpAny _ _ (seqItems? (.ref b) >>= _) _ _ s
  refine wpAny_bind (wpAny_seqItems ho hd ?_)
  refine wpAny_bind ?_
  show wpAny _ _ (forIn items _ _) _ _ s
  rw [← Array.forIn_toList]
  refine wpAny_forIn_list _ (fun rest r s' => s' = s ∧ ∀ v ∈ rest, v ∈ items.toList) _ ?_ ?_ _ _ ⟨rfl, fun v h => h⟩
  · rintro v rest r s' ⟨rfl, hall⟩
    obtain ⟨k0, hk0⟩ := items_of hi v (hall v List.mem_cons_self)
    obtain ⟨c, hc⟩ := pk.hv k0 v hk0 7
    rw [hc]
    refine wpAny_bind (wpAny_pure ?_)
    cases c with
    | true =>
      simp only [Bool.not_true, Bool.false_eq_true, if_false]
      exact wpAny_pure ⟨rfl, fun u hu => hall u (List.mem_cons_of_mem _ hu)⟩
    | false =>
      simp only [Bool.not_false, if_true]
      exact wpAny_pure (wpAny_pure (h false))
  · rintro ⟨r1, r2⟩ s' ⟨rfl, _⟩
    cases r1 with
    | none => exact wpAny_pure (h true)
    | some c => exact wpAny_pure (h c)
/-- a search among tuples shows nothing -/
theorem search_quiet (pk : PlainK knd) {k : List κ} {b : Addr} {Q : Bool → Shared → Prop} (hk : IsTupleKey knd s.heap k b) : ∀ {ys : List Value}, (∀ y ∈ ys, ∃ k' c, y = Value.ref c ∧ IsTupleKey knd s.heap k' c) → Q false s → wpAny (model P w) A (searchCouldBeSeen (.ref b) ys) Q E s := by
  intro ys hy h
  unfold searchCouldBeSeen
  refine wpAny_bind ?_
  refine wpAny_forIn_list _ (fun rest r s' => r.1 = none ∧ s' = s ∧ ∀ y ∈ rest, y ∈ ys) _ ?_ ?_ _ _ ⟨rfl, rfl, fun y h => h⟩
  · rintro v rest r s' ⟨hr, rfl, hall⟩
    obtain ⟨k', c, rfl, hc⟩ := hy v (hall v List.mem_cons_self)
    have on : ∀ y ∈ rest, y ∈ ys := fun u hu => hall u (List.mem_cons_of_mem _ hu)
    dsimp only
    by_cases hv : (b == c || (carriedByValue (.ref b) && carriedByValue (.ref c))) = true
    · exact wp_if_pos hv (wpAny_pure ⟨rfl, rfl, on⟩)
    · refine wp_if_neg hv (wpAny_bind (wpAny_eqIsQuiet_tuple hk ?_))
      simp only [Bool.not_true, Bool.false_eq_true, if_false]
      refine wpAny_bind (wpAny_eqIsQuiet_tuple hc ?_)
      simp only [Bool.not_true, Bool.false_eq_true, if_false]
      refine wpAny_bind (tup_noClass pk hk ?_)
      simp only [Bool.false_eq_true, if_false]
      refine wpAny_bind (tup_noClass pk hc ?_)
      simp only [Bool.false_eq_true, if_false]
      exact wpAny_pure ⟨rfl, rfl, on⟩
  · rintro ⟨r1, r2⟩ s' ⟨hr, rfl, _⟩
    simp only at hr
    subst hr
    exact wpAny_pure h
end
section
variable {P : Program} {w : World} {κ : Type} [DecidableEq κ]
def rws (knd : KeyKind P w κ) (L : List (Addr × List κ)) : List (Int × Value) := L.map fun p => (tupleKeyHash knd p.2, Value.ref p.1)
def hss (knd : KeyKind P w κ) (L : List (Addr × List κ)) : List Int := L.map fun p => tupleKeyHash knd p.2
theorem rws_at {knd : KeyKind P w κ} {L : List (Addr × List κ)} {es : Array (Int × Value)} (h : es.toList = rws knd L) {i : Nat} {p : Addr × List κ} (e : L[i]? = some p) : es[i]? = some (tupleKeyHash knd p.2, Value.ref p.1) := by
  rw [← Array.getElem?_toList, h]
  unfold rws
  rw [List.getElem?_map, e]; rfl
theorem rws_size {knd : KeyKind P w κ} {L : List (Addr × List κ)} {es : Array (Int × Value)} (h : es.toList = rws knd L) : es.size = L.length := by
  rw [← Array.length_toList, h]
  exact List.length_map _
/-- the set at a holds the tuples L, unlike as keys -/
structure TSet (knd : KeyKind P w κ) (h : Heap) (a : Addr) (L : List (Addr × List κ)) (es : Array (Int × Value)) (ep : Nat) (t : SetTable) : Prop where
  ob : ∃ o, h.get? a = some o ∧ o.ExactSet ∧ o.data = .set es ep t
  rows : es.toList = rws knd L
  tab : TabOk t (hss knd L)
  nd : (L.map (·.2)).Nodup
  tup : ∀ p ∈ L, IsTupleKey knd h p.2 p.1
  led : w.params.followText "set-order" = true ∨ t.led = true
  room : L.length * 5 < t.mask * 3
variable {knd : KeyKind P w κ} {A : Around} {E : Value → Shared → Prop} {s : Shared} {a : Addr} {L : List (Addr × List κ)} {es : Array (Int × Value)} {ep : Nat} {t : SetTable}
theorem tab_fits {hs : List Int} (T : TabOk t hs) (hl : hs.length ≤ t.mask) : t.fits hs.length = true := by
  unfold SetTable.fits SetTable.fill
  rw [T.dm, Bool.and_eq_true, beq_iff_eq, decide_eq_true_eq]
  exact ⟨T.sz, by show t.place.size + 0 ≤ t.mask; rw [T.sz]; omega⟩
theorem TSet.len (R : TSet knd s.heap a L es ep t) : L.length ≤ t.mask := by have := R.room; omega
theorem TSet.state (R : TSet knd s.heap a L es ep t) {Q : Array (Int × Value) × Nat × SetTable → Shared → Prop} (h : Q (es, ep, t) s) : wpAny (model P w) A (setState a) Q E s := by
  obtain ⟨o, ho, _, hd⟩ := R.ob
  have f := tab_fits R.tab (by unfold hss; rw [List.length_map]; exact R.len)
  unfold hss at f
  rw [List.length_map, ← rws_size R.rows] at f
  exact wpAny_setState_of ho hd f h
/-- the way of a hash through the table -/
abbrev wayP (m : Nat) (H : Int) (c : Nat) : SetTable.Probe := nth m (runAt m (SetTable.bits H % (m + 1)) (SetTable.bits H)) c
theorem wayP_plain (m : Nat) : ∀ (c : Nat) (p : SetTable.Probe), p.dummy = none → (nth m p c).dummy = none
  | 0, _, h => h
  | c + 1, p, h => wayP_plain m c (adv m p) (by unfold adv; split <;> exact h)
theorem TSet.no_gw (R : TSet knd s.heap a L es ep t) : ¬ t.gaveWay = true := by
  unfold SetTable.gaveWay
  rw [mask_odd R.tab.mok]
  decide
/-- what stands at the place of the entry i -/
theorem TSet.slot (R : TSet knd s.heap a L es ep t) {i j : Nat} (h : t.place.toList[i]? = some j) : ∃ p, L[i]? = some p ∧ p ∈ L ∧ es[i]? = some (tupleKeyHash knd p.2, Value.ref p.1) ∧ t.slot j = .live i := by
  have hl : i < L.length := by
    have h1 := (List.getElem?_eq_some_iff.mp h).1
    rw [Array.length_toList, R.tab.sz] at h1
    unfold hss at h1
    rwa [List.length_map] at h1
  have e := List.getElem?_eq_getElem hl
  exact ⟨_, e, List.mem_of_getElem? e, rws_at R.rows e, slot_live R.tab.ris h⟩
theorem TSet.search (pk : PlainK knd) (R : TSet knd s.heap a L es ep t) {x : Addr} {k : List κ} (hx : IsTupleKey knd s.heap k x) (hu : A.units < cLine) {K : Nat} (hKf : K < 10 * SetTable.turns t.mask)
    (hK : way t.mask (tupleKeyHash knd k) K ∉ t.place.toList) (hKb : ∀ c, c < K → way t.mask (tupleKeyHash knd k) c ∈ t.place.toList) {Q : SetFound → Shared → Prop}
    (yes : k ∈ L.map (·.2) → Q (.there none) s) (no : k ∉ L.map (·.2) → Q (.free (way t.mask (tupleKeyHash knd k) K) false) s) :
    ∀ (f c : Nat) (stand : Option SetTable.Probe), stand.getD (t.probeStart (tupleKeyHash knd k)) = wayP t.mask (tupleKeyHash knd k) c → c ≤ K → K - c < f →
      (∀ (i : Nat) p, L[i]? = some p → p.2 = k → ∃ c', c ≤ c' ∧ c' < K ∧ t.place.toList[i]? = some (way t.mask (tupleKeyHash knd k) c')) →
      wpAny (model P w) A (setSearchFrom a (.ref x) (tupleKeyHash knd k) true f stand) Q E s := by
  intro f
  induction f with
  | zero => exact fun c stand _ _ hf _ => absurd hf (Nat.not_lt_zero _)
  | succ f ih =>
    intro c stand hst hc hf ahead
    generalize hH : tupleKeyHash knd k = H at *
    have cK : c + (K - c) = K := Nat.add_sub_cancel' hc
    have on : ∀ q, nth t.mask (wayP t.mask H c) q = wayP t.mask H (c + q) := fun q => (nth_add t.mask c _ q).symm
    have hAt : ∀ (i : Nat) p, L[i]? = some p → (fun i => (es[i]?.map (·.1)).getD 0) i = tupleKeyHash knd p.2 := fun i p hp => by
      show (es[i]?.map (·.1)).getD 0 = _
      rw [rws_at R.rows hp]; rfl
    have spec := go_spec t R.tab.ris R.tab.dm (fun i => (es[i]?.map (·.1)).getD 0) H (10 * SetTable.turns t.mask) (K - c) (wayP t.mask H c) (wayP_plain t.mask c _ rfl) (by omega)
      (fun q hq => by rw [on]; exact hKb (c + q) (by omega)) (by rw [on, cK]; exact hK)
    simp only [on] at spec
    rw [cK] at spec
    rw [setSearchFrom_succ]
    refine wpAny_bind (R.state ?_)
    dsimp only
    refine wp_if_neg R.no_gw ?_
    try refine wpAny_bind (wpAny_pure ?_)
    rw [hst]
    rcases spec with ⟨q, i, hq, hi, hh, hno, hpr⟩ | ⟨hno, hpr⟩
    · have hpr' : t.probe (fun i => (es[i]?.map (·.1)).getD 0) H (wayP t.mask H c) = some (.candidate (wayP t.mask H (c + q)).j i (wayP t.mask H (c + (q + 1)))) := hpr
      rw [hpr']
      dsimp only
      obtain ⟨p, hp, hmem, he, hsl⟩ := R.slot hi
      have rest : wpAny (model P w) A (searchRest a (.ref x) H true f es t (wayP t.mask H (c + q)).j i (wayP t.mask H (c + (q + 1)))) Q E s := by
        unfold searchRest
        rw [he]
        dsimp only
        refine wpAny_bind (wpAny_holding (wpAny_eqBool_tuple hu (R.tup p hmem) hx ?_))
        refine wpAny_bind (R.state ?_)
        dsimp only
        by_cases hkk : p.2 = k
        · exact wp_if_pos (by simp [hkk]) (wpAny_pure (yes (List.mem_map.mpr ⟨p, hmem, hkk⟩)))
        · refine wp_if_neg (by simp [hkk]) ?_
          try refine wpAny_bind (wpAny_pure ?_)
          rw [sameMem]
          dsimp only
          simp only [if_true, hsl, he]
          refine wpAny_bind (wpAny_isSame_ref_self (wpAny_bind (wpAny_pure ?_)))
          simp only [if_true]
          refine wp_if_neg (by simp [hkk]) ?_
          refine ih (c + (q + 1)) (some (wayP t.mask H (c + (q + 1)))) rfl (by omega) (by omega) fun i0 p0 h0 hk0 => ?_
          obtain ⟨c', a1, a2, a3⟩ := ahead i0 p0 h0 hk0
          refine ⟨c', ?_, a2, a3⟩
          have e0 : (fun i => (es[i]?.map (·.1)).getD 0) i0 = H := (hAt i0 p0 h0).trans (by rw [hk0, hH])
          rcases Nat.lt_trichotomy c' (c + q) with z | z | z
          · exact absurd e0 (hno (c' - c) i0 (by omega) (by rw [show c + (c' - c) = c' by omega]; exact a3))
          · rw [z] at a3
            have s0 := slot_live R.tab.ris a3
            have : t.slot (wayP t.mask H (c + q)).j = .live i0 := s0
            rw [hsl] at this
            injection this with this
            rw [← this, hp] at h0
            exact absurd ((congrArg Prod.snd (Option.some.inj h0)).trans hk0) hkk
          · omega
      by_cases hl : t.led = true
      · refine wp_if_neg (by simp [hl]) ?_
        try refine wpAny_bind (wpAny_pure ?_)
        exact rest
      · refine wp_if_pos (by simp [hl]) ?_
        refine wpAny_bind (search_quiet pk hx (fun y hy => ?_) ?_)
        · obtain ⟨e, he', ee⟩ := List.mem_map.mp hy
          have he2 : e ∈ es.toList := by
            have : e ∈ es ∧ e.1 = H := by simpa using he'
            simpa using this.1
          rw [R.rows] at he2
          obtain ⟨p2, hp2, e2⟩ := List.mem_map.mp he2
          exact ⟨p2.2, p2.1, by rw [← ee, ← e2], R.tup p2 hp2⟩
        · refine wp_if_neg (by decide) ?_
          try refine wpAny_bind (wpAny_pure ?_)
          exact rest
    · have hpr' : t.probe (fun i => (es[i]?.map (·.1)).getD 0) H (wayP t.mask H c) = some (.empty (wayP t.mask H K).j none) := hpr
      rw [hpr']
      dsimp only
      refine wpAny_pure (no fun hm => ?_)
      obtain ⟨p0, h0, hk0⟩ := List.mem_map.mp hm
      obtain ⟨i0, hi0, e0⟩ := List.getElem_of_mem h0
      have h00 : L[i0]? = some p0 := by rw [List.getElem?_eq_getElem hi0, e0]
      obtain ⟨c', a1, a2, a3⟩ := ahead i0 p0 h00 hk0
      exact hno (c' - c) i0 (by omega) (by rw [show c + (c' - c) = c' by omega]; exact a3) ((hAt i0 p0 h00).trans (by rw [hk0, hH]))
/-- the search, as adding asks for it -/
theorem TSet.find (pk : PlainK knd) (R : TSet knd s.heap a L es ep t) {x : Addr} {k : List κ} (hx : IsTupleKey knd s.heap k x) (hu : A.units < cLine) {Q : SetFound → Shared → Prop} (yes : k ∈ L.map (·.2) → Q (.there none) s)
    (no : ∀ K, k ∉ L.map (·.2) → way t.mask (tupleKeyHash knd k) K ∉ t.place.toList → (∀ c, c < K → way t.mask (tupleKeyHash knd k) c ∈ t.place.toList) → Q (.free (way t.mask (tupleKeyHash knd k) K) false) s) :
    wpAny (model P w) A (setSearch a (.ref x) (tupleKeyHash knd k) true) Q E s := by
  obtain ⟨K, hKf, hK, hKb⟩ := R.tab.first (by unfold hss; rw [List.length_map]; exact R.len) (tupleKeyHash knd k)
  have few : SetTable.turns t.mask ≤ 142 := by
    unfold SetTable.turns
    rcases R.tab.mok with e | e | e <;> omega
  unfold setSearch
  refine R.search pk hx hu hKf hK hKb yes (fun hn => no K hn hK hKb) 100000 0 none rfl (Nat.zero_le _) (by omega) fun i p hp hk => ?_
  have hi : (hss knd L)[i]? = some (tupleKeyHash knd k) := by
    unfold hss
    rw [List.getElem?_map, hp, ← hk]; rfl
  have hil : i < t.place.toList.length := by
    rw [Array.length_toList, R.tab.sz]
    exact (List.getElem?_eq_some_iff.mp hi).1
  have hj := List.getElem?_eq_getElem hil
  obtain ⟨c, hc, e⟩ := R.tab.before hK hi hj
  exact ⟨c, Nat.zero_le _, hc, by rw [hj, e]⟩
theorem filterMap_some {α β : Type} {f : α → Option β} {g : α → β} : ∀ {l : List α}, (∀ i ∈ l, f i = some (g i)) → l.filterMap f = l.map g
  | [], _ => rfl
  | x :: r, h => by rw [List.filterMap_cons_some (h x List.mem_cons_self), filterMap_some fun i hi => h i (List.mem_cons_of_mem _ hi), List.map_cons]
theorem range_all {α : Type} (d : α) (l : List α) : (List.range l.length).map (fun i => l.getD i d) = l := by
  apply List.ext_getElem
  · simp
  · intro i h1 h2
    simp [h2]
theorem tup_stays {h h' : Heap} {k : List κ} {b : Addr} {o : Obj} (hb : IsTupleKey knd h k b) (ho : h.get? a = some o) (hd : o.data = .set es ep t) (hs : Heap.SameBut a h h') : IsTupleKey knd h' k b := by
  obtain ⟨o', items, n, ho', hc, hd', hi⟩ := hb
  refine ⟨o', items, n, (hs.2 b fun e => ?_).trans ho', hc, hd', hi⟩
  subst e
  rw [ho] at ho'
  cases ho'
  rw [hd] at hd'
  cases hd'
/-- the entries in another order -/
theorem entries_in (L : List (Addr × List κ)) {order : Array Nat} (hr : es.toList = rws knd L) (hp : order.toList.Perm (List.range L.length)) :
    ∃ L2, (order.filterMap (es[·]?)).toList = rws knd L2 ∧ L2.Perm L ∧ hss knd L2 = order.toList.map fun i => (es.map (·.1)).getD i 0 := by
  have lt : ∀ i ∈ order.toList, i < L.length := fun i hi => List.mem_range.mp (hp.mem_iff.mp hi)
  have at_ : ∀ i ∈ order.toList, L[i]? = some (L.getD i (0, [])) := fun i hi => by
    rw [List.getD_eq_getElem?_getD, List.getElem?_eq_getElem (lt i hi)]; rfl
  refine ⟨order.toList.map fun i => L.getD i (0, []), ?_, ?_, ?_⟩
  · have e : (order.filterMap (es[·]?)).toList = order.toList.filterMap (es[·]?) := by first | exact Array.toList_filterMap | simp
    rw [e, filterMap_some (g := fun i => (tupleKeyHash knd (L.getD i (0, [])).2, Value.ref (L.getD i (0, [])).1)) fun i hi => rws_at hr (at_ i hi)]
    unfold rws
    rw [List.map_map]; rfl
  · have := hp.map fun i => L.getD i (0, [])
    rwa [range_all] at this
  · unfold hss
    rw [List.map_map]
    refine List.map_congr_left fun i hi => ?_
    show tupleKeyHash knd (L.getD i (0, [])).2 = _
    have e := rws_at hr (at_ i hi)
    simp [Array.getD_eq_getD_getElem?, e]
theorem lay_anew {o : Obj} (ho : s.heap.get? a = some o) (hex : o.ExactSet) (hd : o.data = .set es ep t) (rows : es.toList = rws knd L) (T : TabOk t (hss knd L)) (fl : L.length ≤ t.mask) (nd : (L.map (·.2)).Nodup) (tup : ∀ p ∈ L, IsTupleKey knd s.heap p.2 p.1) 
    (ld : w.params.followText "set-order" = true ∨ t.led = true) {wanted M : Nat} (hw : SetTable.sizeAbove wanted - 1 = M) (hM : MaskOk M) (hw2 : SetTable.sizeAbove wanted ≤ 128) (hn : L.length * 5 < M * 3) {Q : Unit → Shared → Prop}
    (q : ∀ h' L' es' ep' t', Heap.SameBut a s.heap h' → TSet knd h' a L' es' ep' t' → L'.Perm L → Q () { s with heap := h' }) : wpAny (model P w) A (setRelay a wanted) Q E s := by
  have sz := rws_size rows
  have hl : (hss knd L).length = L.length := List.length_map _
  obtain ⟨t', order, e, hp, T', em, el, ep', ed⟩ := relaid_ok t (hs := es.map (·.1)) (wanted := wanted) hw hM (by rw [Array.size_map, sz]; omega)
  rw [Array.size_map, sz] at hp
  obtain ⟨L2, r1, r2, r3⟩ := entries_in L rows hp
  rw [← r3] at T'
  have s2 : (order.filterMap (es[·]?)).size = es.size := by rw [rws_size r1, r2.length_eq, sz]
  have fits : t.fits es.size = true := by
    have := tab_fits T (by rw [hl]; exact fl)
    rwa [hl, ← sz] at this
  rw [setRelay_eq]
  refine wpAny_bind (wpAny_setState_of ho hd fits ?_)
  dsimp only
  refine wp_if_neg (by rw [sizeLine_eq]; omega) ?_
  try refine wpAny_bind (wpAny_pure ?_)
  rw [e]
  dsimp only
  refine wpAny_bind ?_
  refine wp_if_neg (by rw [s2]; simp) ?_
  try refine wpAny_bind (wpAny_pure ?_)
  refine wpAny_pure ?_
  dsimp only
  have mb : M ≤ 127 := by rcases hM with z | z | z <;> omega
  refine wpAny_storeSet_of ho hd ?_ (by rw [s2, sz, sizeLine_eq]; omega)
  have sb : Heap.SameBut a s.heap (s.heap.update a (Obj.putSet (order.filterMap (es[·]?)) t')) := Heap.SameBut.update ..
  refine q _ L2 (order.filterMap (es[·]?)) (ep + 1) t' sb ⟨⟨_, store_at ho hd, ⟨hex.1, hex.2.1, hex.2.2⟩, rfl⟩, r1, T', (r2.map (·.2)).nodup_iff.mpr nd, fun p hpm => tup_stays (tup p (r2.mem_iff.mp hpm)) ho hd sb, by rw [el]; exact ld, ?_⟩ r2
  rw [r2.length_eq, em]
  exact hn
theorem put_perm' {α : Type} (L : List α) (p : Nat) (x : α) : (L.take p ++ x :: L.drop p).Perm (x :: L) := by
  have h : (L.take p ++ x :: L.drop p).Perm (x :: (L.take p ++ L.drop p)) := List.perm_middle
  rwa [List.take_append_drop] at h
/-- one tuple more, of few -/
theorem TSet.add (pk : PlainK knd) (R : TSet knd s.heap a L es ep t) {x : Addr} {k : List κ} (hx : IsTupleKey knd s.heap k x) (hu : A.units < cLine) (few : L.length < 8) {Q : Bool → Shared → Prop}
    (q : ∀ b h' L' es' ep' t', Heap.SameBut a s.heap h' → TSet knd h' a L' es' ep' t' → (k ∈ L.map (·.2) → L' = L) → (k ∉ L.map (·.2) → L'.Perm ((x, k) :: L)) → Q b { s with heap := h' }) :
    wpAny (model P w) A (setAddHashed a (.ref x) (tupleKeyHash knd k)) Q E s := by
  obtain ⟨o, ho, hex, hd⟩ := R.ob
  have room := R.room
  have sz := rws_size R.rows
  unfold setAddHashed
  refine wpAny_holding ?_
  rw [show (100000 : Nat) = 99999 + 1 from rfl, setAddHashedIn_succ]
  refine wpAny_bind (R.state ?_)
  dsimp only
  refine wp_if_neg (by simp [byScan, Value.scannable]) ?_
  try refine wpAny_bind (wpAny_pure ?_)
  refine wpAny_bind (R.find pk hx hu (fun hm => ?_) fun K hm hK hb => ?_)
  · dsimp only
    exact wpAny_pure (q false s.heap L es ep t (Heap.SameBut.refl a s.heap) R (fun _ => rfl) fun z => absurd hm z)
  · dsimp only
    refine wpAny_bind (R.state ?_)
    dsimp only
    obtain ⟨q1, q2, q3, q4, q5, q6, _, _, q9⟩ := R.tab.put hK hb
    generalize t.put (way t.mask (tupleKeyHash knd k) K) = pt at q1 q3 q4 q5 q6 q9 ⊢
    obtain ⟨t1, at_⟩ := pt
    dsimp only at q1 q3 q4 q5 q6 q9 ⊢
    subst q1
    generalize SetTable.below t.place (way t.mask (tupleKeyHash knd k) K) = i at q2 q3 ⊢
    suffices main : ∀ t2 : SetTable, (∃ b, t2 = { t1 with plain := b }) → wpAny (model P w) A (do
        storeSet a (SetTable.insertAt es i (tupleKeyHash knd k, Value.ref x)) t2
        if !false && t2.tooFull then setRelay a (SetTable.grown (es.size + 1))
        return true) Q E s by
      by_cases c1 : t1.plain = true
      · refine wp_if_pos c1 (wpAny_bind (tup_byValue pk hx fun c => ?_))
        exact main (if c = true then t1 else { t1 with plain := false }) (by split <;> exact ⟨_, rfl⟩)
      · refine wp_if_neg c1 ?_
        first
          | exact main (if true = true then t1 else { t1 with plain := false }) ⟨t1.plain, rfl⟩
          | (refine wpAny_bind (wpAny_pure ?_); exact main (if true = true then t1 else { t1 with plain := false }) ⟨t1.plain, rfl⟩)
    intro t2 like
    have q3 : TabOk t2 ((hss knd L).take i ++ tupleKeyHash knd k :: (hss knd L).drop i) := by
      obtain ⟨b, rfl⟩ := like
      exact ⟨q3.ris, q3.dm, q3.sz, q3.mok, q3.bd, q3.reach⟩
    have q4 : t2.mask = t.mask := by obtain ⟨b, rfl⟩ := like; exact q4
    have q5 : t2.led = t.led := by obtain ⟨b, rfl⟩ := like; exact q5
    have q9 : t2.fill = (hss knd L).length + 1 := by obtain ⟨b, rfl⟩ := like; exact q9
    clear like
    have rows1 : (SetTable.insertAt es i (tupleKeyHash knd k, Value.ref x)).toList = rws knd (L.take i ++ (x, k) :: L.drop i) := by
      rw [SetTable.toList_insertAt, R.rows]
      unfold rws
      rw [List.map_append, List.map_cons, List.map_take, List.map_drop]
    have pm := put_perm' L i (x, k)
    have len1 := pm.length_eq
    rw [List.length_cons] at len1
    have T1 : TabOk t2 (hss knd (L.take i ++ (x, k) :: L.drop i)) := by
      have : hss knd (L.take i ++ (x, k) :: L.drop i) = (hss knd L).take i ++ tupleKeyHash knd k :: (hss knd L).drop i := by
        unfold hss
        rw [List.map_append, List.map_cons, List.map_take, List.map_drop]
      rw [this]
      exact q3
    have nd1 : ((L.take i ++ (x, k) :: L.drop i).map (·.2)).Nodup := (pm.map (·.2)).nodup_iff.mpr (List.nodup_cons.mpr ⟨hm, R.nd⟩)
    have sz1 := rws_size rows1
    rw [len1] at sz1
    have fl1 : t2.fill = L.length + 1 := by rw [q9]; unfold hss; rw [List.length_map]
    generalize SetTable.insertAt es i (tupleKeyHash knd k, Value.ref x) = es1 at rows1 sz1 ⊢
    generalize L.take i ++ (x, k) :: L.drop i = L1 at pm len1 T1 nd1 rows1
    refine wpAny_bind (wpAny_storeSet_of ho hd ?_ (by rw [sz1, sizeLine_eq]; omega))
    have sb : Heap.SameBut a s.heap (s.heap.update a (Obj.putSet es1 t2)) := Heap.SameBut.update ..
    have ho1 := store_at (es' := es1) (t' := t2) ho hd
    generalize s.heap.update a (Obj.putSet es1 t2) = h1 at sb ho1 ⊢
    have tup1 : ∀ p ∈ L1, IsTupleKey knd h1 p.2 p.1 := fun p hp => by
      rcases List.mem_cons.mp (pm.mem_iff.mp hp) with e | hp
      · rw [e]; exact tup_stays hx ho hd sb
      · exact tup_stays (R.tup p hp) ho hd sb
    have ld1 : w.params.followText "set-order" = true ∨ t2.led = true := by rw [q5]; exact R.led
    by_cases hf : t2.tooFull = true
    · first
        | (refine wpAny_bind ?_; refine wp_if_pos (by simp [hf]) ?_)
        | (refine wp_if_pos (by simp [hf]) ?_; refine wpAny_bind ?_)
      have full : (L.length + 1) * 5 ≥ t2.mask * 3 := by
        unfold SetTable.tooFull at hf
        rwa [decide_eq_true_eq, fl1] at hf
      rw [q4] at full
      have m7 : t.mask = 7 ∧ L.length = 4 := by
        rcases R.tab.mok with e | e | e <;> rw [e] at full room <;> first | exact ⟨e, by omega⟩ | (exfalso; omega)
      rw [sz, m7.2]
      refine lay_anew (s := { s with heap := h1 }) (L := L1) (M := 31) ho1 ⟨hex.1, hex.2.1, hex.2.2⟩ rfl rows1 T1 (by rw [len1, q4, m7.1, m7.2]; decide) nd1 tup1 ld1 (by show SetTable.sizeAbove (SetTable.grown 5) - 1 = 31; rw [size_20]) (.inr (.inl rfl)) (by show SetTable.sizeAbove (SetTable.grown 5) ≤ 128; rw [size_20]; decide) (by rw [len1, m7.2]; decide) ?_
      intro h2 L2 es2 ep2 t3 sb2 R2 pm2
      exact wpAny_pure (q true h2 L2 es2 ep2 t3 (sb.trans sb2) R2 (fun z => absurd z hm) fun _ => pm2.trans pm)
    · first
        | refine wp_if_neg (by simp [hf]) ?_
        | (refine wpAny_bind ?_; refine wp_if_neg (by simp [hf]) ?_; refine wpAny_pure ?_)
      refine wpAny_pure (q true h1 L1 es1 (ep + 1) t2 sb ⟨⟨_, ho1, ⟨hex.1, hex.2.1, hex.2.2⟩, rfl⟩, rows1, T1, nd1, tup1, ld1, ?_⟩ (fun z => absurd z hm) fun _ => pm)
      unfold SetTable.tooFull at hf
      rw [decide_eq_true_eq, fl1] at hf
      rw [len1]
      omega
end
end Cd.Tp
set_option Elab.async false
set_option linter.all false
set_option maxRecDepth 100000
set_option maxHeartbeats 4000000
namespace Cd.Tp
open PySem PySem.Spec PyProof.Rows L2
section
variable {κ : Type}
/-- what a set has met of the first i -/
structure Met (ks : List (Addr × List κ)) (i : Nat) (L : List (Addr × List κ)) : Prop where
  sub : ∀ p ∈ L, p ∈ ks
  keys : ∀ k, k ∈ L.map (·.2) ↔ k ∈ (ks.take i).map (·.2)
  len : L.length ≤ i
theorem Met.nil (ks : List (Addr × List κ)) : Met ks 0 [] := ⟨fun p h => (by cases h), fun k => (by simp), Nat.le_refl _⟩
theorem Met.next {ks L L' : List (Addr × List κ)} {i : Nat} {x : Addr × List κ} (g : Met ks i L) (h : ks[i]? = some x) (same : x.2 ∈ L.map (·.2) → L' = L) (more : x.2 ∉ L.map (·.2) → L'.Perm (x :: L)) : Met ks (i + 1) L' := by
  have tk : ks.take (i + 1) = ks.take i ++ [x] := by rw [List.take_succ, h]; rfl
  by_cases hm : x.2 ∈ L.map (·.2)
  · rw [same hm]
    refine ⟨g.sub, fun k => ?_, Nat.le_succ_of_le g.len⟩
    rw [tk, List.map_append, List.mem_append, g.keys k]
    refine ⟨.inl, fun z => z.elim id fun z => ?_⟩
    obtain rfl : k = x.2 := by simpa using z
    exact (g.keys _).mp hm
  · have pm := more hm
    refine ⟨fun p hp => ?_, fun k => ?_, by rw [pm.length_eq]; exact Nat.succ_le_succ g.len⟩
    · rcases List.mem_cons.mp (pm.mem_iff.mp hp) with rfl | z
      · exact List.mem_of_getElem? h
      · exact g.sub p z
    · rw [(pm.map (·.2)).mem_iff, List.map_cons, List.mem_cons, tk, List.map_append, List.mem_append, g.keys k]
      simp only [List.map_cons, List.map_nil, List.mem_cons, List.not_mem_nil, or_false]
      exact Or.comm
end
section
variable {P : Program} {w : World} {κ : Type} [DecidableEq κ] {knd : KeyKind P w κ} {A : Around} {E : Value → Shared → Prop} {s : Shared}
theorem TSet.at {h h' : Heap} {a : Addr} {L : List (Addr × List κ)} {es : Array (Int × Value)} {ep : Nat} {t : SetTable} (R : TSet knd h a L es ep t) (ha : ∀ o, h.get? a = some o → h'.get? a = some o) (ht : ∀ p ∈ L, IsTupleKey knd h' p.2 p.1) : TSet knd h' a L es ep t := by
  obtain ⟨o, ho, r⟩ := R.ob
  exact ⟨⟨o, ha o ho, r⟩, R.rows, R.tab, R.nd, ht, R.led, R.room⟩
end
end Cd.Tp
set_option Elab.async false
set_option linter.all false
set_option maxRecDepth 100000
set_option maxHeartbeats 4000000
namespace Cd.Tp
open PySem PySem.Spec PyProof.Rows L2
section
variable {P : Program} {w : World} {κ : Type} [DecidableEq κ] {knd : KeyKind P w κ} {A : Around} {E : Value → Shared → Prop} {s : Shared}
end
end Cd.Tp
set_option Elab.async false
set_option linter.all false
set_option maxRecDepth 100000
set_option maxHeartbeats 4000000
namespace Cd
open PySem PySem.Spec PyProof.Rows L2 Tp
end Cd
set_option Elab.async false
set_option linter.all false
set_option maxRecDepth 100000
set_option maxHeartbeats 4000000
namespace Cd
open PySem PySem.Spec PyProof.Rows L2 Tp
section
variable {Γ : Gm} {N : List Str} {sc : Sco} {ea : Expr} {a : E} {pos p p2 p3 : Pos} {K : PySem.W.Frag}
end
end Cd
set_option Elab.async false
set_option linter.all false
set_option maxRecDepth 100000
set_option maxHeartbeats 4000000
namespace Cd
open PySem PySem.Spec PyProof.Rows L2
section
variable {Γ : Gm} {N : List Str} {sc : Sco} {ea : Expr} {a : E} {pos p : Pos} {K : PySem.W.Frag}
end
end Cd
set_option Elab.async false
set_option linter.all false
set_option maxRecDepth 100000
set_option maxHeartbeats 4000000
namespace Cd
open PySem PySem.Spec PyProof.Rows L2 NdefX
/-- the lambda's words as a function's (its statements do not matter) -/
abbrev lamF (X : Cx) (params : Arguments) (scope : Scope) (c' : Addr) : NF := ⟨"<lambda>", X.env.qual ++ "<lambda>", params, [], scope, cloFrom X.env.cells scope.names [], c'⟩
/-- where its body runs -/
abbrev lamX (X : Cx) (A : Around) (N' : List Str) (params : Arguments) (scope : Scope) (f c' : Addr) (s : Shared) (H : Hp) : Cx :=
  ncx (L2.CX X.prog X.w) X.prog X.w X.K X.mg X.base N' (lamF X params scope c') f A X.stack s H (fun _ _ _ => False)
abbrev lamO (X : Cx) (params : Arguments) (body : Expr) (scope : Scope) (pm ctv : Value) (c' : Addr) : Obj := PySem.W.kla_obj "<lambda>" (X.env.qual ++ "<lambda>") params body scope (cloFrom X.env.cells scope.names []) pm c' ctv
section
variable {X : Cx} {pins : List (Addr × Obj)} {σ : L2.St} {H : Hp} {s : Shared} {A : Around} {N' fr : List Str} {js : List Nat} {a : Str} {params : Arguments} {body : Expr} {scope : Scope} {pm ctv : Value} {f c' : Addr}
theorem lam_run {v : V} {u : Value} {Q : VK} {tb : TE} (I : Inv X pins σ H s) (hA : A.frames = X.A.frames) (hd : A.handled = none) (hdep : A.depth < recursionLimit) (S : NScope N' [a] fr scope) (C : Caps X (cloFrom X.env.cells scope.names []) fr js)
    (hf : s.heap.get? f = some (lamO X params body scope pm ctv c')) (hc : H c' = some (LamX.CodeO c' (X.env.qual ++ "<lambda>")))
    (hbind : ∀ u, bindArgs (PySem.W.kla_fn "<lambda>" (X.env.qual ++ "<lambda>") params body scope (cloFrom X.env.cells scope.names []) pm (.ref c') ctv) ⟨[u], []⟩ = pure [(a, u)])
    (r : L2.RelV v u) (hb : PE (lamX X A N' params scope f c' s H) body tb) (ht : tb (startF N' [v] (js.map (slotAt σ))) H Q) :
    wpAny (model X.prog X.w) A (call (.ref f) [u]) (EP X pins σ Q) (fun _ _ => False) s := by
  have e := I.env0
  have e0 : Env0 X.prog X.w X.K X.mg X.base A X.stack s H := ⟨hA.trans e.frames, e.mod, e.bs, e.bsz, e.funs, e.frf, e.hok, e.bare⟩
  have cells : CellsAt (lamF X params scope c').cl fr (js.map (slotAt σ)) s.heap H := cells_of I C
  have lim := I.nolimit
  have go : codeAny (model X.prog X.w) A (.call (.ref f) ⟨[u], []⟩) (CR (L2.CX X.prog X.w) X.stack X.prog X.w H s Q (fun _ _ _ => False)) s := by
    refine PySem.W.kla_callFunE hdep hf rfl S.co S.gen rfl (codeO_at e0.hok hc) ?_
    rw [hbind]
    refine wpAny_pure (wpAny_newFunctionEnv S.nocell (fun y hy => ?par) (fun h1 hns hsb => ⟨lim.fresh _ hsb, ?run⟩) S.kind)
    case par =>
      rw [List.mem_singleton.mp hy]
      exact S.par a List.mem_cons_self
    case run =>
      have old : ∀ b o, s.heap.get? b = some o → h1.get? b = some o := fun b o q => hsb.extBut b o (Nat.ne_of_lt (Heap.lt_size q)) (Heap.get?_push_of_some _ q)
      have J := inv_startN (CX := L2.CX X.prog X.w) (E := fun _ _ _ => False) (F := lamF X params scope c') (f := f) (vs := [v]) (us := [u]) (tk := s.toks + [(a, u)].length) S hd e0 rfl (.cons r .nil) cells hns old
      show codeAny _ _ (.expr body (envF (lamF X params scope c') f s.heap.objs.size)) _ _
      refine PySem.W.kla_codeExpr (wpAny_mono (hb.run [] _ _ H Q J ht) (fun z s2 hq => ?_) fun _ _ hq => hq)
      obtain ⟨w2, H2, J2, rv, q⟩ := hq
      exact ⟨w2, H2, J2.os, J2.bare, J2.base, J2.hok, rv, q⟩
  refine wpAny_call (codeAny_mono go fun res s2 hq => ?_)
  cases res with
  | error x =>
    obtain ⟨_, _, _, _, _, _, _, _, _, _, _, _, z⟩ := hq
    exact z.elim
  | ok fl =>
    cases fl with
    | ret _ => exact I.after hq
    | _ => exact False.elim hq
/-- an untracked, pinned thing of ours is written -/
theorem inv_repin {it : Addr} {o o2 : Obj} {h2 : Heap} {t2 : Nat} (I : Inv X ((it, o) :: pins) σ H s) (sb : Heap.SameBut it s.heap h2) (e2 : h2.get? it = some o2) (hn : X.s_0.heap.objs.size ≤ it) (np : ∀ p ∈ X.pn ++ pins, p.1 ≠ it) (nc : ∀ v, o2.data ≠ .cell v) :
    Inv X ((it, o2) :: pins) σ H { s with heap := h2, toks := t2 } := by
  have at0 := I.pin (it, o) (List.mem_append_right _ (.head _))
  have I0 : Inv X pins σ H s := I.pins_of fun p hp => I.pin p (List.mem_append_right _ (.tail _ hp))
  have I1 : Inv X pins σ H { s with heap := h2, toks := t2 } := I0.turned (fun b q hb e => (sb.2 b hb).trans e) at0.2.1 at0.2.2.1 (.inr hn) (fun x c hx z => by
    obtain ⟨v, q, hq, hd⟩ := I.cell x c hx
    rw [z, at0.1] at hq
    cases hq
    exact at0.2.2.2.2 v hd) np
  refine I1.pins_of fun p hp => ?_
  rcases List.mem_cons.mp hp with rfl | hp
  · exact ⟨e2, at0.2.1, at0.2.2.1, at0.2.2.2.1, nc⟩
  · exact I1.pin p (List.mem_append_right _ hp)
theorem seq_nc {c : String} {vs : Array Value} {n : Nat} : ∀ v, (seqObj c vs n).data ≠ .cell v := fun v z => by
  have z' : Data.seq vs n = Data.cell v := z
  cases z'
end
section
variable {X : Cx} {pins : List (Addr × Obj)} {σ : L2.St} {A : Around} {E : Value → Shared → Prop} {P : PySem.Fin → Shared → Prop} {f D kS : Addr} {fo : Obj} {e1 : Nat}
theorem keys_loop (G : Nat → List V → Hp → Prop) {us : List Value} {H : Hp} {s : Shared} (hz : us.length ≤ sizeLine) (hk : X.s_0.heap.objs.size ≤ kS) (np : ∀ p ∈ X.pn ++ ((D, seqObj "list" #[] e1) :: (f, fo) :: pins), p.1 ≠ kS)
    (I : Inv X ((kS, seqObj "list" #[] 0) :: (D, seqObj "list" #[] e1) :: (f, fo) :: pins) σ H s) (g0 : G 0 [] H)
    (turn : ∀ (j : Nat) (u : Value) (ys : List V) (H2 : Hp) (s2 : Shared) (ps : List (Addr × Obj)), us[j]? = some u → G j ys H2 → Inv X ps σ H2 s2 → s2.heap.get? f = some fo → wpAny (model X.prog X.w) A (call (.ref f) [u]) (EP X ps σ fun y H3 => G (j + 1) (ys ++ [y]) H3) (fun _ _ => False) s2)
    (done : ∀ (ys : List V) (kA : Array Value) (e : Nat) (H2 : Hp) (s2 : Shared), G us.length ys H2 → Inv X ((kS, seqObj "list" kA e) :: (D, seqObj "list" #[] e1) :: (f, fo) :: pins) σ H2 s2 → Vals ys kA.toList → kA.size = us.length → wpAny (model X.prog X.w) A (ksk_end D false us.toArray e1 (.ref kS) kA) P E s2) :
    wpAny (model X.prog X.w) A (ksk_rest D (.ref f) false us.toArray e1 (.ref kS)) P E s := by
  unfold ksk_rest
  refine wpAny_bind (wpAny_rule ?_)
  rw [List.forIn_toArray]
  refine wpAny_bind (ksk_fold (fun i s2 => ∃ (ys : List V) (kA : Array Value) (e : Nat) (H2 : Hp), G i ys H2 ∧ Inv X ((kS, seqObj "list" kA e) :: (D, seqObj "list" #[] e1) :: (f, fo) :: pins) σ H2 s2 ∧ Vals ys kA.toList ∧ kA.size = i) us 0 s ⟨[], #[], 0, H, g0, I, .nil, rfl⟩ ?step ?fin)
  case step =>
    rintro j u s2 hu ⟨ys, kA, e, H2, g, I2, rv, sz⟩
    rw [Nat.zero_add] at g sz ⊢
    have hj : j < us.length := (List.getElem?_eq_some_iff.mp hu).1
    have hfp := I2.pin (f, fo) (List.mem_append_right _ (.tail _ (.tail _ (.head _))))
    refine wpAny_bind (wpAny_attempt (wpAny_mono (turn j u ys H2 s2 _ hu g I2 hfp.1) (fun k s3 hq => ?_) fun _ _ z => z.elim))
    obtain ⟨y, H3, I3, ry, g3⟩ := hq
    have hkp := (I3.pin (kS, seqObj "list" kA e) (List.mem_append_right _ (.head _))).1
    have sb := Heap.SameBut.update s3.heap kS (Obj.mapSeq (·.push k))
    obtain ⟨n3, hn3⟩ : ∃ n3, (s3.heap.update kS (Obj.mapSeq (·.push k))).get? kS = some (seqObj "list" (kA.push k) n3) := ⟨_, get?_update_seq hkp (·.push k)⟩
    dsimp only
    refine wpAny_bind (listUpdate_at hkp rfl ?_ (by omega) (by rw [Array.size_push]; omega))
    refine wpAny_pure ⟨rfl, ys ++ [y], kA.push k, n3, H3, g3, inv_repin I3 sb hn3 hk np seq_nc, ?_, by rw [Array.size_push, sz]⟩
    rw [Array.toList_push]
    exact rv.append (.cons ry .nil)
  case fin =>
    rintro s2 ⟨ys, kA, e, H2, g, I2, rv, sz⟩
    rw [Nat.zero_add] at g sz
    have hkp := (I2.pin (kS, seqObj "list" kA e) (List.mem_append_right _ (.head _))).1
    refine wpAny_bind (listItems_at hkp rfl ?_)
    exact done ys kA e H2 s2 g I2 rv sz
end
section
variable {X : Cx} {pins : List (Addr × Obj)} {σ : L2.St} {A : Around} {E : Value → Shared → Prop} {f D kS : Addr} {fo : Obj} {e1 : Nat}
theorem inv_sorted {H : Hp} {s : Shared} {o1 o2 : Obj} {h2 : Heap} {t2 c : Nat} {out : List Value} {zs : List V} (I : Inv X ((kS, o1) :: (D, o2) :: pins) σ H s) (old : ∀ b o, b ≠ kS → b ≠ D → s.heap.get? b = some o → h2.get? b = some o) (nk : X.s_0.heap.objs.size ≤ kS) (nD : X.s_0.heap.objs.size ≤ D)
    (npk : ∀ p ∈ X.pn ++ pins, p.1 ≠ kS) (npD : ∀ p ∈ X.pn ++ pins, p.1 ≠ D) (hD : h2.get? D = some (seqObj "list" out.toArray c)) (rv : Vals zs out) (hz : zs.length ≤ sizeLine) :
    Inv X pins σ (upd H D (.lst zs)) { s with heap := h2, toks := t2 } := by
  have pk := I.pin (kS, o1) (List.mem_append_right _ (.head _))
  have pD := I.pin (D, o2) (List.mem_append_right _ (.tail _ (.head _)))
  have I0 : Inv X pins σ H s := I.pins_of fun p hp => I.pin p (List.mem_append_right _ (.tail _ (.tail _ hp)))
  have nocell : ∀ (q : Addr) (oq : Obj), s.heap.get? q = some oq → (∀ v, oq.data ≠ .cell v) → ∀ x c, X.env.cells.lookup x = some c → c ≠ q := fun q oq hq hn x c hx z => by
    obtain ⟨v, o, ho, hd⟩ := I.cell x c hx
    rw [z, hq] at ho
    cases ho
    exact hn v hd
  have nD' : ∀ {b : Addr} {u : HO}, H b = some u → b ≠ D := fun {b u} e z => by
    rw [z, pD.2.1] at e
    cases e
  have nk' : ∀ {b : Addr} {u : HO}, H b = some u → b ≠ kS := fun {b u} e z => by
    rw [z, pk.2.1] at e
    cases e
  have out2 : ∀ {b : Addr}, b ∉ [kS, D] → b ≠ kS ∧ b ≠ D := fun {b} h => ⟨fun z => h (by rw [z]; exact .head _), fun z => h (by rw [z]; exact .tail _ (.head _))⟩
  refine I0.step (g' := s.gens) (d' := s.drawn) (ch := [kS, D]) (fun b hb => ?_) (fun b o _ _ hc e _ => old b o (out2 hc).1 (out2 hc).2 e) (fun b o _ _ hc e _ => ⟨o.slots, old b o (out2 hc).1 (out2 hc).2 e⟩) (fun b o hc _ n => ?_)
    (fun b o hc e => ⟨o, old b o (out2 hc).1 (out2 hc).2 e⟩) (fun b xs e => (upd_ne (nD' e)).trans e) (fun b o u e => (upd_ne (nD' e)).trans e) (fun b ps e => ⟨#[], by rw [upd_ne (nD' e), e]; simp⟩) (fun m hm => ?_) (fun b u e => ?_) I0.bare
  · simp only [List.mem_cons, List.not_mem_nil, or_false] at hb
    rcases hb with rfl | rfl
    · exact ⟨.inr nk, pk.2.2.1, nocell _ _ pk.1 pk.2.2.2.2, npk⟩
    · exact ⟨.inr nD, pD.2.2.1, nocell _ _ pD.1 pD.2.2.2.2, npD⟩
  · rw [upd_ne (out2 hc).2]
    exact n
  · obtain ⟨o, es, ep, ho, r⟩ := hm
    exact ⟨o, es, ep, old _ o (Ne.symm pk.2.2.1) (Ne.symm pD.2.2.1) ho, r⟩
  · by_cases hb : b = D
    · subst hb
      rw [upd_same] at e
      cases e
      exact ⟨hz, out, c, rv, hD⟩
    · rw [upd_ne hb] at e
      refine (I0.hok b u e).stay (fun q v hq z => old q v ?_ ?_ z) (fun q z => (upd_ne (nD' z)).trans z) fun q xs z => (upd_ne (nD' z)).trans z
      · rcases hq with w | w
        · rw [w]; exact nk' e
        · exact nk' w
      · rcases hq with w | w
        · rw [w]; exact hb
        · exact nD' w
theorem reads_keys {H : Hp} {s : Shared} (I : Inv X pins σ H s) : ∀ {kz : List PyData} {ys : List V} {us : List Value}, DpAll X.K H ys kz → Vals ys us → PySem.W.EachIs (fun v k => ∃ as, Reads s.heap v k as) us kz
  | _, _, _, .nil, .nil => .nil
  | _, _, _, .cons d ds, .cons r rs => .cons (Dp.reads I _ _ _ d r) (reads_keys I ds rs)
theorem sort_tree (G : Nat → List V → Hp → Prop) {Q0 : VK} {us : List Value} {H : Hp} {s : Shared} {n : Nat} (hz : us.length ≤ sizeLine) (I : Inv X ((f, fo) :: pins) σ H s) (ho : s.heap.get? D = some (seqObj "list" us.toArray n)) (hD : H D = none) (nD : X.s_0.heap.objs.size ≤ D) (nL : D ≠ X.env.locals) (nF : D ∉ X.fs)
    (np : ∀ p ∈ X.pn ++ ((f, fo) :: pins), p.1 ≠ D) (g0 : G 0 [] H)
    (turn : ∀ (j : Nat) (u : Value) (ys : List V) (H2 : Hp) (s2 : Shared) (ps : List (Addr × Obj)), us[j]? = some u → G j ys H2 → Inv X ps σ H2 s2 → s2.heap.get? f = some fo → wpAny (model X.prog X.w) A (call (.ref f) [u]) (EP X ps σ fun y H3 => G (j + 1) (ys ++ [y]) H3) (fun _ _ => False) s2)
    (fin : ∀ (ys : List V) (H2 : Hp), G us.length ys H2 → H2 D = none → ∃ kz : List PyData, DpAll X.K H2 ys kz ∧ PySem.W.AllAlike kz ∧ PySem.W.Sortable kz ∧ (∀ d, d ∈ kz → A.units + d.depth < cLine) ∧ ∀ out : List Value, PySem.W.KeyedOut false kz us out → out.length = us.length → ∃ zs, Vals zs out ∧ Q0 (.ref D) (upd H2 D (.lst zs))) :
    wpAny (model X.prog X.w) A (ksk_tree D (.ref f) false) (fun r s' => r = .done (.ret .none) ∧ EP X pins σ Q0 (.ref D) s') E s := by
  have hlt : D < s.heap.objs.size := Heap.lt_size ho
  obtain ⟨e1, h1⟩ : ∃ e1, (s.heap.update D (Obj.mapSeq fun _ => (#[] : Array Value))).get? D = some (seqObj "list" #[] e1) := ⟨_, get?_update_seq ho fun _ => #[]⟩
  unfold ksk_tree
  refine wpAny_bind (listItems_at ho rfl ?_)
  refine wpAny_bind (listUpdate_at ho rfl ?_ (by rw [List.size_toArray]; exact hz) (Nat.zero_le _))
  refine wpAny_bind (seqEpoch_at h1 rfl ?_)
  refine wpAny_bind (wpAny_newTuple ?_ (by show us.length ≤ _; exact hz))
  refine wpAny_bind (wpAny_newList ?_ (Nat.zero_le _))
  refine wpAny_holding ?_
  obtain ⟨kS, hkS⟩ : ∃ kS, kS = ((s.heap.update D (Obj.mapSeq fun _ => (#[] : Array Value))).push (seqObj "tuple" us.toArray 0)).objs.size := ⟨_, rfl⟩
  have kSz : kS = s.heap.objs.size + 1 := by rw [hkS, size_push', Heap.size_update]
  show wpAny _ _ (ksk_rest D (.ref f) false us.toArray e1 (.ref ((s.heap.update D (Obj.mapSeq fun _ => (#[] : Array Value))).push (seqObj "tuple" us.toArray 0)).objs.size)) _ _ { s with heap := PySem.W.sortingHeap s.heap D us }
  rw [← hkS]
  have atD : (PySem.W.sortingHeap s.heap D us).get? D = some (seqObj "list" #[] e1) := Heap.get?_push_of_some _ (Heap.get?_push_of_some _ h1)
  have atK : (PySem.W.sortingHeap s.heap D us).get? kS = some (seqObj "list" #[] 0) := by
    rw [hkS]
    exact Heap.get?_push_size _ rfl
  have noc : ∀ x c, X.env.cells.lookup x = some c → c ≠ D := fun x c hx z => by
    obtain ⟨v, o, hc, hd⟩ := I.cell x c hx
    rw [z, ho] at hc
    cases hc
    exact seq_nc v hd
  have J0 : Inv X ((f, fo) :: pins) σ H { s with heap := PySem.W.sortingHeap s.heap D us, toks := s.toks } := I.turned (fun b o hb e => PySem.W.sortingHeap_old hb e) hD nL (.inr nD) noc np
  have kfresh : s.heap.objs.size ≤ kS := by rw [kSz]; exact Nat.le_succ _
  have nS : ∀ {b : Addr} {o : Obj}, s.heap.get? b = some o → b ≠ kS := fun {b o} e z => Nat.lt_irrefl _ (Nat.lt_of_lt_of_le (Heap.lt_size e) (by rw [z]; exact kfresh))
  have J : Inv X ((kS, seqObj "list" #[] 0) :: (D, seqObj "list" #[] e1) :: (f, fo) :: pins) σ H { s with heap := PySem.W.sortingHeap s.heap D us, toks := s.toks } := by
    refine J0.pins_of fun p hp => ?_
    rcases List.mem_cons.mp hp with rfl | hp
    · exact ⟨atK, I.hok.fresh kfresh, fun z => by have := I.lt; rw [← z] at this; exact Nat.lt_irrefl _ (Nat.lt_of_lt_of_le this kfresh), I.nofs kfresh, seq_nc⟩
    · rcases List.mem_cons.mp hp with rfl | hp
      · exact ⟨atD, hD, nL, nF, seq_nc⟩
      · exact J0.pin p (List.mem_append_right _ hp)
  have k0 : X.s_0.heap.objs.size ≤ kS := Nat.le_trans I.sz kfresh
  have npk : ∀ p ∈ X.pn ++ ((D, seqObj "list" #[] e1) :: (f, fo) :: pins), p.1 ≠ kS := fun p hp => by
    rcases List.mem_append.mp hp with hp | hp
    · exact nS (I.pin p (List.mem_append_left _ hp)).1
    · rcases List.mem_cons.mp hp with rfl | hp
      · exact nS ho
      · exact nS (I.pin p (List.mem_append_right _ hp)).1
  refine keys_loop G (s := { s with heap := PySem.W.sortingHeap s.heap D us, toks := s.toks }) hz k0 npk J g0 turn fun ys kA e H2 s2 g J2 rv sz => ?_
  have pk := J2.pin (kS, seqObj "list" kA e) (List.mem_append_right _ (.head _))
  have pD := J2.pin (D, seqObj "list" #[] e1) (List.mem_append_right _ (.tail _ (.head _)))
  obtain ⟨kz, dp, al, so, hu, q⟩ := fin ys H2 g pD.2.1
  have rd : PySem.W.EachIs (fun v k => ∃ as, Reads s2.heap v k as) kA.toList kz := reads_keys J2 dp rv
  obtain ⟨hid, hh⟩ : ∃ hid, hid = hidT s2.heap (upd (fun _ => none) kS (.lst [])) := ⟨_, rfl⟩
  have gone : hid.get? kS = none := by
    cases z : hid.get? kS with
    | none => rfl
    | some o =>
      rw [hh] at z
      have := (of_hidT z).2
      rw [upd_same] at this
      cases this
  have keep : PySem.W.KeepsBut D hid s2.heap := fun b o _ z => by
    rw [hh] at z
    exact (of_hidT z).1
  have stays : ∀ b o, b ≠ kS → s2.heap.get? b = some o → hid.get? b = some o := fun b o hb z => by
    rw [hh]
    exact hidT_get z (upd_ne hb)
  have hka : kS ≠ D := Ne.symm (nS ho)
  refine PySem.W.keyH_end (κ := PySem.W.dataKind s2.heap kz) (h₁ := hid) keep gone pk.1 pD.1 hka (PySem.W.SortsAt.data rd al so hu) sz hz fun h' tk c kb hat => ⟨rfl, ?_⟩
  have ol : (PySem.W.sortVals (PySem.W.dataKind s2.heap kz) false kA.toList us).length = us.length := PySem.W.sortVals_length false (by rw [Array.length_toList]; exact sz)
  obtain ⟨zs, rz, qq⟩ := q _ ⟨s2.heap, kA.toList, al, rfl, rd⟩ ol
  have npp : ∀ p ∈ X.pn ++ pins, p.1 ≠ kS ∧ p.1 ≠ D := fun p hp => by
    rcases List.mem_append.mp hp with hp | hp
    · exact ⟨npk p (List.mem_append_left _ hp), np p (List.mem_append_left _ hp)⟩
    · exact ⟨npk p (List.mem_append_right _ (.tail _ (.tail _ hp))), np p (List.mem_append_right _ (.tail _ hp))⟩
  have J3 : Inv X ((kS, seqObj "list" kA e) :: (D, seqObj "list" #[] e1) :: pins) σ H2 s2 := J2.pins_of fun p hp => by
    rcases List.mem_cons.mp hp with rfl | hp
    · exact pk
    · rcases List.mem_cons.mp hp with rfl | hp
      · exact pD
      · exact J2.pin p (List.mem_append_right _ (.tail _ (.tail _ (.tail _ hp))))
  exact ⟨.ref D, upd H2 D (.lst zs), inv_sorted (t2 := tk) J3 (fun b o h1 h2 z => kb b o h2 (stays b o h1 z)) k0 nD (fun p hp => (npp p hp).1) (fun p hp => (npp p hp).2) hat rz (by rw [rz.length, ol]; exact hz), rfl, qq⟩
end
section
variable {X : Cx} {pins : List (Addr × Obj)} {σ : L2.St} {H : Hp} {s : Shared} {params : Arguments} {body : Expr} {scope : Scope} {c P : Addr}
theorem lam_made {pos : Pos} {E : Value → Shared → Prop} {Q : Value → Shared → Prop} (I : Inv X pins σ H s) (TB : LamX.TabB X.base X.mg c P) (hcode : X.env.code = .ref c) (hT : LamX.TabS H P (X.env.qual ++ "<lambda>")) (hdef : defaultsOf params X.env = ([], []))
    (hfree : ∀ y ∈ scope.names, y.2 = .free → ∃ d, X.env.cells.lookup y.1 = some d)
    (k : ∀ (f c' : Addr) (pm ctv : Value) (H1 : Hp) (s1 : Shared), Inv X pins σ H1 s1 → (∀ b o, b ≠ P → H b = some o → H1 b = some o) → (∀ b, H1 b = none → H b = none) → LamX.TabS H1 P (X.env.qual ++ "<lambda>") → s1.heap.get? f = some (lamO X params body scope pm ctv c') →
      H1 f = none → s.heap.objs.size ≤ f → H1 c' = some (LamX.CodeO c' (X.env.qual ++ "<lambda>")) → Q (.ref f) s1) :
    wpAny (model X.prog X.w) X.A (eval (.Lambda params body scope pos) X.env) Q E s := by
  obtain ⟨ps, eP, tr, told⟩ := hT
  have inP : s.heap.get? P = some { cls := .none, data := .fields ps } := I.hok P _ eP
  have gl := I.mod.glob.keeps I.bk
  have cl := closure_ok hfree
  have cb := TB.code.keeps I.bk
  have bm := TB.bm.keeps I.bk
  refine PySem.W.kla_eval hdef ?_
  cases z : codeAmong pos ps.toList with
  | some cv =>
    obtain ⟨c', rfl, hco⟩ := told pos cv z
    refine PySem.W.kla_makeFunctionHit cl I.ok.glob gl hcode cb inP tr z bm fun ctv h1 tk old big => ?_
    exact k h1.objs.size c' _ ctv H _ (I.kept (t' := tk) fun b o e => Heap.get?_push_of_some _ (old b o e)) (fun _ _ _ e => e) (fun _ e => e) ⟨ps, eP, tr, told⟩ (Heap.get?_push_size _ rfl) (I.hok.fresh big) big hco
  | none =>
    refine PySem.W.kla_makeFunction cl I.ok.glob gl hcode cb inP tr z TB.gP bm fun c' ctv h1 tk old ge lt rec tab => ?_
    obtain ⟨c2, oc, vs, t, e2, hoc, hd, hv⟩ := rec
    cases e2
    have big : s.heap.objs.size ≤ h1.objs.size := Nat.le_trans ge (Nat.le_of_lt lt)
    have nC : H c' = none := I.hok.fresh ge
    have nPc : P ≠ c' := ne_of_none eP nC
    obtain ⟨pm, hpm⟩ : ∃ pm, pm = (X.mg "__name__").getD Value.none := ⟨_, rfl⟩
    rw [← hpm]
    obtain ⟨more, hmore⟩ : ∃ more, more = #[rawInt pos.line, rawInt pos.col, Value.ref c'] := ⟨_, rfl⟩
    have tab' : h1.get? P = some { cls := .none, data := .fields (ps ++ more) } := by rw [hmore]; exact tab
    have J := LamX.inv_table (t' := tk) (more := more) (q := X.env.qual ++ "<lambda>") (h' := h1.push (lamO X params body scope pm ctv c')) I eP (fun b o hb e => Heap.get?_push_of_some _ (old b o hb e)) (Heap.get?_push_of_some _ tab') ge ⟨oc, vs, t, Heap.get?_push_of_some _ hoc, hd, hv⟩
    have keep : ∀ b o, b ≠ P → H b = some o → upd (upd H P (.tbl (ps ++ more))) c' (LamX.CodeO c' (X.env.qual ++ "<lambda>")) b = some o := fun b o hb e => by
      rw [upd_ne (ne_of_none e nC), upd_ne hb]
      exact e
    refine k h1.objs.size c' pm ctv _ _ J keep (fun b e => ?_) ⟨ps ++ more, by rw [upd_ne nPc, upd_same], ?_, fun p2 cv hcv => ?_⟩ (Heap.get?_push_size _ rfl) ?_ big upd_same
    · exact upd_none (upd_none e)
    · have : (ps ++ more).toList = ps.toList ++ [rawInt pos.line, rawInt pos.col, Value.ref c'] := by rw [hmore]; simp
      rw [this]
      exact PySem.TriplesOk_snoc _ _ _ _ tr
    · have : (ps ++ more).toList = ps.toList ++ [rawInt pos.line, rawInt pos.col, Value.ref c'] := by rw [hmore]; simp
      rw [this] at hcv
      rcases LamX.among_app _ tr hcv with w | w
      · obtain ⟨c0, e1, e2⟩ := told p2 cv w
        exact ⟨c0, e1, keep _ _ (fun y => by rw [y, eP] at e2; exact LamX.codeO_ne _ (Option.some.inj e2).symm) e2⟩
      · exact ⟨c', w, upd_same⟩
    · rw [upd_ne (Nat.ne_of_gt lt), upd_ne (Nat.ne_of_gt (Nat.lt_of_lt_of_le (Heap.lt_size inP) big))]
      exact I.hok.fresh big
theorem valsL_at : ∀ {xs : List V} {us : List Value} {j : Nat} {u : Value}, Vals xs us → us[j]? = some u → ∃ x, xs[j]? = some x ∧ L2.RelV x u
  | _, _, _, _, .nil, e => by simp at e
  | _, _, 0, _, .cons r _, e => by simp at e; subst e; exact ⟨_, rfl, r⟩
  | _, _, j + 1, _, .cons _ rs, e => valsL_at (j := j) rs (by simpa using e)
theorem _root_.L2.Room.lam {k : Nat} {A : Around} (r : L2.Room (k + 1) A) (env : Env) : L2.Room k (A.in1.in1.deeper env) := ⟨r.hd, by have := r.dp; show A.depth + 1 + 3 * k + 5 < _; omega, by have := r.un; show A.units + 1 + 1 + 3 + 16 * k + 200 < _; omega⟩
/-- what sorted(x) collects of x, in a new list -/
def SrtSrc (X : Cx) (R : V → List V → Hp → Prop) : Prop := ∀ (pins : List (Addr × Obj)) (σ : L2.St) (H : Hp) (s : Shared) (x : V) (xs : List V) (u v : Value), Inv X pins σ H s → L2.RelV x u → R x xs H →
  ∃ (us : List Value) (h1 : Heap) (D : Addr) (n : Nat), Vals xs us ∧ us.length ≤ sizeLine ∧ (∀ b o, s.heap.get? b = some o → h1.get? b = some o) ∧ s.heap.objs.size ≤ D ∧ h1.get? D = some (seqObj "list" us.toArray n) ∧ ∀ (Q E : Value → Shared → Prop),
    (∀ (E' : Value → Shared → Prop), wpAny (model X.prog X.w) X.A.in1.in1 (Builtin.«list.sort» ⟨[.ref D], [(Str.ofString "key", v)]⟩) (fun r s' => r = .done (.ret .none) ∧ Q (.ref D) s') E' { s with heap := h1 }) → wpAny (model X.prog X.w) X.A (call (.builtin "sorted") [u] [(Str.ofString "key", v)]) Q E s
theorem src_list : SrtSrc X (fun x xs H => ∃ l, x = .ref l ∧ SqL X.K H l xs) := by
  rintro pins σ H s x xs u v I rv ⟨l, rfl, hl⟩
  obtain rfl : u = Value.ref l := rv
  obtain ⟨its, r, pl, hz⟩ := I.list hl
  have len := r.length
  exact ⟨its, PySem.W.copyHeap s.heap its, s.heap.objs.size + 1, 0, r, by omega, fun b o e => PySem.W.copyHeap_old e, Nat.le_succ _, PySem.W.copyHeap_at s.heap its, fun Q E h => PySem.W.sorted_of_sort pl.isList (by omega) (ksk_s1 _ _) (fun _ => ksk_l1 _ _) h⟩
/-- behind the source: the lambda is made, the keys are told one by one, the list is sorted -/
def LamGo (X : Cx) (P : Addr) (R : V → List V → Hp → Prop) (N' : List Str) (js : List Nat) (tb : TE) (σ : L2.St) (Q : VK) (x : V) (H1 : Hp) : Prop := LamX.TabS H1 P (X.env.qual ++ "<lambda>") ∧ ∃ xs, R x xs H1 ∧
  ∀ (c' : Addr) (H2 : Hp), (∀ b o, b ≠ P → H1 b = some o → H2 b = some o) → (∀ b, H2 b = none → H1 b = none) → LamX.TabS H2 P (X.env.qual ++ "<lambda>") → H2 c' = some (LamX.CodeO c' (X.env.qual ++ "<lambda>")) → R x xs H2 ∧
    ∃ G : Nat → List V → Hp → Prop, G 0 [] H2 ∧ (∀ j x ys H3, xs[j]? = some x → G j ys H3 → H3 c' = some (LamX.CodeO c' (X.env.qual ++ "<lambda>")) ∧ tb (startF N' [x] (js.map (slotAt σ))) H3 fun y H4 => G (j + 1) (ys ++ [y]) H4) ∧
    ∀ ys H3 D, G xs.length ys H3 → H3 D = none → ∃ kz : List PyData, DpAll X.K H3 ys kz ∧ PySem.W.AllAlike kz ∧ PySem.W.Sortable kz ∧ (∀ d, d ∈ kz → d.depth ≤ 60) ∧
      ∀ us out : List Value, Vals xs us → PySem.W.KeyedOut false kz us out → out.length = us.length → ∃ zs, Vals zs out ∧ Q (.ref D) (upd H3 D (.lst zs))
def only1 (g : V → Hp → Prop) : List V → Hp → Prop
  | [x], H => g x H
  | _, _ => False
/-- sorted(src, key=lambda a: body) -/
def tSL (X : Cx) (P : Addr) (R : V → List V → Hp → Prop) (N' : List Str) (js : List Nat) (tb : TE) (ts : TE) : TE := fun σ H Q => ts σ H (LamGo X P R N' js tb σ Q)
theorem pe_sortLam {a : Str} {N' fr : List Str} {js : List Nat} {src : Expr} {ts tb : TE} {R : V → List V → Hp → Prop} {k : Nat} {p lpos kpos pos : Pos} (hg : Gl X "sorted") (hm : X.mg "sorted" = none) (TB : LamX.TabB X.base X.mg c P) (hcode : X.env.code = .ref c) (hr : Room (k + 1) X.A)
    (S : NScope N' [a] fr scope) (hfr : ∀ y ∈ scope.names, y.2 = .free → X.env.scope.names.lookup y.1 = some .cell ∨ X.env.scope.names.lookup y.1 = some .free) (hin : ∀ y ∈ fr, (y, NameKind.free) ∈ scope.names) (hjs : js.map (fun j => X.N[j]?) = fr.map some)
    (hdef : defaultsOf params X.env = ([], [])) (hbind : ∀ (q : Str) (cl : List (Str × Addr)) (pm cv ctv u : Value), bindArgs (PySem.W.kla_fn "<lambda>" q params body scope cl pm cv ctv) ⟨[u], []⟩ = pure [(a, u)])
    (hsrc : SrtSrc X R) (hs : PE X src ts) (hbody : ∀ (f c' : Addr) (s : Shared) (H : Hp), Room k (X.A.in1.in1.deeper (envF (lamF X params scope c') f s.heap.objs.size)) → PE (lamX X X.A.in1.in1 N' params scope f c' s H) body tb)
    (hst : starEach [src] X.env = (false, eval src X.env) :: starEach [] X.env := by rfl) (he : backTo pos (starEach [src] X.env) = (false, eval src X.env) :: backTo pos (starEach [] X.env) := by rfl) (hpl : (backTo pos (starEach [src] X.env)).any (·.1) = false := by rfl) :
    PE X (.Call (.Name "sorted" p) [src] [⟨some "key", .Lambda params body scope lpos, kpos⟩] pos) (tSL X P R N' js tb ts) := by
  refine ⟨fun pins s σ H Q I h => ?_⟩
  refine wpAny_Call_Name_kw (ld_blt I hg hm (show bootBuiltins "sorted" = some (.builtin "sorted") by decide +kernel) ?_ (by decide) (by decide))
  refine PyProof.Rows.callWith_kw (thn ((pa_cons hs pa_nil hst).run pos pins s σ H (only1 (LamGo X P R N' js tb σ Q)) I h) fun us s1 ⟨vs, H1, I1, r1, q1⟩ => ?_) he hpl rfl rfl
  obtain ⟨x, u, rfl, rfl, rx, hT, xs, hR, q2⟩ : ∃ x u, vs = [x] ∧ us = [u] ∧ L2.RelV x u ∧ LamGo X P R N' js tb σ Q x H1 := by
    cases r1 with
    | nil => exact False.elim q1
    | cons r rs =>
      cases rs with
      | nil => exact ⟨_, _, rfl, rfl, r, q1⟩
      | cons _ _ => exact False.elim q1
  have hfree : ∀ y ∈ scope.names, y.2 = .free → ∃ d, X.env.cells.lookup y.1 = some d := fun y hy e => (hfr y hy e).elim (fun z => I.ok.has _ (.inl z)) fun z => I.ok.has _ (.inr z)
  show wpAny _ _ (evalAll [do let v ← eval (.Lambda params body scope lpos) X.env; standAt pos; pure v]) _ _ s1
  refine wpAny_evalAll_cons (wpAny_bind (lam_made I1 TB hcode hT hdef hfree fun f c' pm ctv H2 s2 I2 keep nn hT2 hf hfn fge hc => wpAny_bind (wpAny_standAt (wpAny_pure (wpAny_evalAll_nil ?_)))))
  obtain ⟨hR2, G, g0, gt, gf⟩ := q2 c' H2 keep nn hT2 hc
  obtain ⟨us, h1, D, n, rv, hz, old, ge, hat, hcall⟩ := hsrc pins σ H2 s2 x xs u (.ref f) I2 rx hR2
  show wpAny _ _ (call (.builtin "sorted") [u] [(Str.ofString "key", .ref f)]) _ _ s2
  refine hcall _ _ fun E' => ?_
  rw [ksk_t1]
  have lt1 := I1.lt
  have I3 : Inv X ((f, lamO X params body scope pm ctv c') :: pins) σ H2 { s2 with heap := h1, toks := s2.toks } := by
    have K := I2.kept (t' := s2.toks) old
    refine K.pins_of fun p hp => ?_
    rcases List.mem_cons.mp hp with rfl | hp
    · refine ⟨old _ _ hf, hfn, fun z => Nat.lt_irrefl _ (Nat.lt_of_lt_of_le lt1 (by rw [← z]; exact fge)), I1.nofs fge, fun v z => ?_⟩
      have z' : Data.func _ = Data.cell v := z
      cases z'
    · exact K.pin p (List.mem_append_right _ hp)
  have caps := Caps.made (fr := fr) (js := js) I.ok hfr hin hjs
  have gone : ∀ {b : Addr} {o : Obj}, s2.heap.get? b = some o → b ≠ D := fun {b o} e z => Nat.lt_irrefl _ (Nat.lt_of_lt_of_le (Heap.lt_size e) (by rw [z]; exact ge))
  have lt2 := I2.lt
  have len := rv.length
  refine sort_tree (fo := lamO X params body scope pm ctv c') (s := { s2 with heap := h1, toks := s2.toks }) G hz I3 hat (I2.hok.fresh ge) (Nat.le_trans I2.sz ge) (fun z => Nat.lt_irrefl _ (Nat.lt_of_lt_of_le lt2 (by rw [← z]; exact ge))) (I2.nofs ge) (fun p hp => ?_) g0 (fun j w ys H3 s3 ps hw hg3 I4 hf4 => ?_) fun ys H3 hg3 hD3 => ?_
  · rcases List.mem_append.mp hp with hp | hp
    · exact gone (I2.pin p (List.mem_append_left _ hp)).1
    · rcases List.mem_cons.mp hp with rfl | hp
      · exact gone hf
      · exact gone (I2.pin p (List.mem_append_right _ hp)).1
  · obtain ⟨y, hy, ry⟩ := valsL_at rv hw
    obtain ⟨hc3, ht3⟩ := gt j y ys H3 hy hg3
    exact lam_run I4 rfl hr.hd (by have := hr.dp; show X.A.depth < _; omega) S caps hf4 hc3 (fun u => hbind _ _ _ _ _ u) ry (hbody f c' s3 H3 (hr.lam _)) ht3
  · rw [← len] at hg3
    obtain ⟨kz, a1, a2, a3, a4, a5⟩ := gf ys H3 D hg3 hD3
    exact ⟨kz, a1, a2, a3, fun d hd => by have := a4 d hd; have := hr.un; show X.A.units + 2 + d.depth < _; omega, fun out ko lo => a5 us out rv ko lo⟩
end
end Cd
set_option Elab.async false
set_option linter.all false
set_option maxRecDepth 100000
set_option maxHeartbeats 4000000
namespace Cd
open PySem PySem.Spec PyProof.Rows L2 NdefX
/-- the lambda's own names -/
def lbSco (scope : Scope) : Sco := ⟨scope, fun _ => false, true, false, false⟩
section
variable {Γ : Gm} {N : List Str} {sc : Sco} {n m : Nat} {I : Inf} {W : WX} {X : Cx} {A : Around} {N' : List Str} {params : Arguments} {scope : Scope} {f c' : Addr} {s : Shared} {H : Hp}
theorem gx_lam (g : GX Γ n I N sc W X) (hl : sc.lm = true) (nd : N'.Nodup) (hr : Room (2 * m + 1) (A.deeper (envF (lamF X params scope c') f s.heap.objs.size))) : GX Γ m I N' (lbSco scope) (fun _ _ _ _ => False) (lamX X A N' params scope f c' s H) where
  stk := fun _ => ⟨rfl, rfl⟩
  gd := fun z => by cases z
  lm := fun z => by cases z
  hN := rfl
  nd := nd
  fnc := rfl
  sc := rfl
  calm := rfl
  tk := takes_of (E := fun _ _ _ => False) rfl rfl rfl rfl
  pass := passes_of rfl
  room := hr
  fn := (g.lm hl).2.2 m
  nob := g.nob
  con := g.con
  cl := fun p hp => by rw [(g.lm hl).1.1] at hp; cases hp
  mt := fun p hp => by rw [(g.lm hl).1.2.1] at hp; cases hp
  fl := g.fl
  ci := g.ci
  xc := g.xc
  xm := g.xm
  tb := g.tb
  st := fun p hp => by rw [(g.lm hl).1.2.2.1] at hp; cases hp
  ho := fun p hp => by rw [(g.lm hl).1.2.2.2] at hp; cases hp
end
section
variable {K : PySem.W.Frag} {CI : CInf} {s : Sx} {H2 : Hp} {P : Addr} {q : Str}
theorem HR.live_no (h : HR K CI s) {n j : Nat} (l : Live s.h n j) : ∃ o, s.H (s.φ n j) = some o ∧ ¬ TEo o := by
  cases j with
  | zero =>
    obtain ⟨o, e, nd⟩ := l
    have z := h.ob n o e
    cases o with
    | lst ts => obtain ⟨xs, e, _⟩ := z; exact ⟨_, e, te_lst⟩
    | dct kvs => obtain ⟨es, e, _⟩ := z; exact ⟨_, e, te_dK⟩
    | ins c fs => obtain ⟨C, names, dx, es, _, e, _⟩ := z; exact ⟨_, e, te_ins⟩
    | dead => exact absurd rfl nd
  | succ j =>
    rcases l with ⟨c, fs, ts, e, ef⟩ | ⟨kvs, k, ts, e, ef⟩
    · obtain ⟨C, names, dx, es, _, _, _, _, z⟩ := h.ob n _ e
      obtain ⟨x, v, _, _, _, xs, e2, _⟩ := z j _ ef
      exact ⟨_, e2, te_lst⟩
    · obtain ⟨es, _, _, _, z⟩ := h.ob n _ e
      obtain ⟨v, _, _, xs, e2, _⟩ := z j _ _ ef
      exact ⟨_, e2, te_lst⟩
/-- the state, the table at P written -/
def Sx.tabd (s : Sx) (H2 : Hp) : Sx := { s with H := H2 }
theorem tabd_keep (h : HR K CI s) (hq : (P, q) ∈ CI.tbs) (k : ∀ b o, b ≠ P → s.H b = some o → H2 b = some o) : KeepF s.F s.H (s.tabd H2).F (s.tabd H2).H := by
  obtain ⟨ps, eP, _⟩ := h.tb _ hq
  have ne : ∀ {b : Addr} {o : HO}, s.H b = some o → (∀ ps, o ≠ .tbl ps) → b ≠ P := fun {b o} e z w => by
    rw [w, eP] at e
    exact z ps (Option.some.inj e).symm
  exact ⟨fun _ z => z, fun a o z e => k a o (fun w => (h.tn _ hq).1 (by rw [← w]; exact z)) e, fun a xs e => k _ _ (ne e fun _ z => by cases z) e, fun a o u e => k _ _ (ne e fun _ z => by cases z) e, fun a c d e => k _ _ (ne e fun _ z => LamX.codeO_ne _ z) e⟩
theorem tabd_le (h : HR K CI s) (hq : (P, q) ∈ CI.tbs) (k : ∀ b o, b ≠ P → s.H b = some o → H2 b = some o) : Le s (s.tabd H2) := ⟨Nat.le_refl _, fun _ _ => rfl, tabd_keep h hq k, fun b hb => ⟨hb, by
  obtain ⟨_, _, u, e⟩ := h.bt b hb
  exact (k b u (fun w => (h.tn _ hq).2 (by rw [← w]; exact hb)) e).trans e.symm⟩⟩
theorem HR.tabd (h : HR K CI s) (ht : CI.tbs = [(P, q)]) (k : ∀ b o, b ≠ P → s.H b = some o → H2 b = some o) (hT : LamX.TabS H2 P q) : HR K CI (s.tabd H2) := by
  have hq : (P, q) ∈ CI.tbs := by rw [ht]; exact .head _
  have lv : ∀ {n j}, Live s.h n j → ∀ u, s.H (s.φ n j) = some u → H2 (s.φ n j) = some u := fun {n j} l u e => by
    obtain ⟨o, e2, no⟩ := h.live_no l
    rw [e] at e2
    cases e2
    exact k _ _ (Ne.symm (h.tne hq e no)) e
  refine ⟨fun n o e => (h.ob n o e).move (s' := s.tabd H2) (tabd_keep h hq k) e fun j l => ⟨rfl, lv l⟩, h.inj, h.nf, fun b hb => ?_, fun b hb => ?_, fun p hp => ?_, h.tn⟩
  · obtain ⟨h1, h2, u, e⟩ := h.bt b hb
    exact ⟨h1, h2, u, k b u (fun w => (h.tn _ hq).2 (by rw [← w]; exact hb)) e⟩
  · obtain ⟨u, e⟩ := h.ft b hb
    exact ⟨u, k b u (fun w => (h.tn _ hq).1 (by rw [← w]; exact hb)) e⟩
  · rw [ht] at hp
    rw [List.mem_singleton.mp hp]
    exact hT
end
structure LamOk (Γ : Gm) (N : List Str) (sc : Sco) (params : Arguments) (body : Expr) (scope : Scope) (a : Str) (fr : List Str) (js : List Nat) (fi : Nat) : Prop where
  S : NScope (a :: fr) [a] fr scope
  hfr : ∀ y ∈ scope.names, y.2 = .free → sc.s.names.lookup y.1 = some .cell ∨ sc.s.names.lookup y.1 = some .free
  hin : ∀ y ∈ fr, (y, NameKind.free) ∈ scope.names
  hjs : js.map (fun j => N[j]?) = fr.map some
  hdef : ∀ env, defaultsOf params env = ([], [])
  hbind : ∀ (q : Str) (cl : List (Str × Addr)) (pm cv ctv u : Value), bindArgs (PySem.W.kla_fn "<lambda>" q params body scope cl pm cv ctv) ⟨[u], []⟩ = pure [(a, u)]
  ex : ∃ (d : FnD) (e : E), Γ.fns fi = some d ∧ d.np = 1 + fr.length ∧ d.ns = 1 + fr.length ∧ d.body = [.ret e] ∧ DE Γ (a :: fr) (lbSco scope) body e
/-- stays, where all but tables stay -/
def RSt (R : V → List V → Hp → Prop) : Prop := ∀ (x : V) (xs : List V) (H H2 : Hp), (∀ b o, H b = some o → (∀ ps, o ≠ .tbl ps) → H2 b = some o) → R x xs H → R x xs H2
def lstK (d : PyData) (h : Hi) : R PyData := match d with
  | .list ts => .ok (.list ts) h
  | _ => .stuck
/-- the source of a sorted -/
def SRel (K : PySem.W.Frag) (R : V → List V → Hp → Prop) (s : Sx) (d : PyData) (x : V) : Prop := ∃ ts xs, d = .list ts ∧ R x xs s.H ∧ RFs K s.F s.H ts xs
theorem capsD_at : ∀ {env : Ev} {js : List Nat} {vs : List Val}, capsD env js = some vs → vs.length = js.length ∧ ∀ (i : Nat) (v : Val), vs[i]? = some v → ∃ j d, js[i]? = some j ∧ slot env j = some (.p d) ∧ v = .p d
  | _, [], _, e => by cases e; exact ⟨rfl, fun i v z => by simp at z⟩
  | env, j :: js, vs, e => by
    unfold capsD at e
    cases e1 : slot env j with
    | none => rw [e1] at e; cases e
    | some w =>
      cases w with
      | ref _ => rw [e1] at e; cases e
      | p d =>
        rw [e1] at e
        have e' : (capsD env js).map (Val.p d :: ·) = some vs := e
        rw [Option.map_eq_some_iff] at e'
        obtain ⟨ws, h1, rfl⟩ := e'
        obtain ⟨h2, h3⟩ := capsD_at h1
        refine ⟨by simp [h2], fun i v z => ?_⟩
        cases i with
        | zero =>
          have z' : Val.p d = v := by simpa using z
          exact ⟨j, d, rfl, e1, z'.symm⟩
        | succ i => exact h3 i v (by simpa using z)
theorem keysK_noX {cf : Calls} {f : Nat} {vs : List Val} : ∀ {ts : List PyData} {h : Hi} {x : Ex} {h2 : Hi}, keysK cf f vs ts h = .exc x h2 → False
  | [], _, _, _, e => by cases e
  | t :: ts, h, x, h2, e => by
    unfold keysK at e
    cases e1 : (cf f (.p t :: vs) h).bind unP with
    | stuck => rw [e1] at e; cases e
    | exc _ _ => rw [e1] at e; cases e
    | ok k h3 =>
      rw [e1] at e
      have e' : (keysK cf f vs ts h3).bind (fun ks h2 => R.ok (k :: ks) h2) = .exc x h2 := e
      cases e2 : keysK cf f vs ts h3 with
      | stuck => rw [e2] at e'; cases e'
      | ok _ _ => rw [e2] at e'; cases e'
      | exc _ _ => exact keysK_noX e2
theorem each_zs {K : PySem.W.Frag} {F : Addr → Prop} {H : Hp} : ∀ {us : List Value} {bs : List (PyData × PyData)}, PySem.W.EachIs (fun u (b : PyData × PyData) => ∃ x, L2.RelV x u ∧ RF K F H b.1 x) us bs → ∃ zs, Vals zs us ∧ RFs K F H (bs.map Prod.fst) zs
  | _, _, .nil => ⟨[], .nil, .nil⟩
  | _, _, .cons ⟨x, r, h⟩ t => by
    obtain ⟨zs, r2, h2⟩ := each_zs t
    exact ⟨x :: zs, .cons r r2, .cons h h2⟩
theorem each_bs {K : PySem.W.Frag} {F : Addr → Prop} {H : Hp} {us : List Value} {xs : List V} (rv : Vals xs us) : ∀ {ts ks : List PyData}, RFs K F H ts xs → ks.length = ts.length → PySem.W.EachIs (fun u (b : PyData × PyData) => ∃ x, L2.RelV x u ∧ RF K F H b.1 x) us (ts.zip ks) := by
  induction rv with
  | nil =>
    intro ts ks h e
    cases h
    cases ks with
    | nil => exact .nil
    | cons _ _ => cases e
  | cons r rs ih =>
    intro ts ks h e
    cases h with
    | cons h hs =>
      cases ks with
      | nil => cases e
      | cons k ks => exact .cons ⟨_, r, h⟩ (ih hs (by simpa using e))
theorem zip_snd : ∀ {ts ks : List PyData}, ks.length = ts.length → (ts.zip ks).map Prod.snd = ks
  | [], [], _ => rfl
  | [], _ :: _, e => by cases e
  | _ :: _, [], e => by cases e
  | _ :: ts, k :: ks, e => by
    rw [List.zip_cons_cons, List.map_cons, zip_snd (by simpa using e)]
theorem startF_eq {a : Str} {fr : List Str} {v : V} {ws : List (Option V)} (e : ws.length = fr.length) : startF (a :: fr) [v] ws = some v :: ws := by
  unfold startF
  have : (a :: fr).length - [v].length - ws.length = 0 := by simp [e]
  rw [this]
  simp
section
variable {Γ : Gm} {N : List Str} {sc : Sco} {src body : Expr} {ea : E} {params : Arguments} {scope : Scope} {a : Str} {fr : List Str} {js : List Nat} {fi : Nat} {p lpos kpos pos : Pos}
theorem de_sortR {Rr : Cx → V → List V → Hp → Prop} (hl : sc.lm = true) (v : NB Γ sc "sorted") (L : LamOk Γ N sc params body scope a fr js fi) (hR : ∀ X, X.calm = true → X.A.handled = none → SrtSrc X (Rr X)) (hSt : ∀ X, RSt (Rr X))
    (hs : ∀ n I W X, GX Γ n I N sc W X → PE X src (tE X.K I W (fun env h => ((evalE (callF Γ.fns n) env ea h).bind unP).bind lstK) (SRel X.K (Rr X)))) (se : Se1 src := by intro _; rfl) (hpl : ∀ env, (backTo pos (starEach [src] env)).any (·.1) = false := by intro _; rfl) (hbt : ∀ env, backTo pos (starEach [src] env) = (false, eval src env) :: backTo pos (starEach [] env) := by intro _; rfl) :
    DE Γ N sc (.Call (.Name "sorted" p) [src] [⟨some "key", .Lambda params body scope lpos, kpos⟩] pos) (.sortK fi js ea) := fun n I W X g => by
  obtain ⟨c, P, hcode, TB, ht⟩ := (g.lm hl).2.1
  obtain ⟨d, e, hd, hnp, hns, hbd, hde⟩ := L.ex
  have nd : (a :: fr).Nodup := L.S.nd
  have room := g.room
  let tb : TE := match n with
    | 0 => fun _ _ _ => False
    | m + 1 => tE X.K I (fun _ _ _ _ => False) (fun env h => evalE (callF Γ.fns m) env e h) (VR X.K)
  have hbody : ∀ (f c' : Addr) (s : Shared) (H : Hp), Room (2 * n) (X.A.in1.in1.deeper (envF (lamF X params scope c') f s.heap.objs.size)) → PE (lamX X X.A.in1.in1 (a :: fr) params scope f c' s H) body tb := fun f c' s H hr => by
    cases n with
    | zero => exact ⟨fun _ _ _ _ _ _ z => z.elim⟩
    | succ m => exact hde m I _ _ (gx_lam g hl nd (hr.mono (by omega)))
  refine (pe_sortLam (k := 2 * n) (N' := a :: fr) (fr := fr) (js := js) (v.g.g g) (g.nob _ v.m) TB hcode room L.S (by rw [g.sc]; exact L.hfr) L.hin (by rw [g.hN]; exact L.hjs) (L.hdef _) L.hbind (hR X g.calm room.hd) (hs n I W X g) hbody (se _) (hbt _) (hpl _)).imp fun σ H Q q => ?_
  have eqv : (fun (env : Ev) (h : Hi) => evalE (callF Γ.fns n) env (.sortK fi js ea) h) = fun env h => (((evalE (callF Γ.fns n) env ea h).bind unP).bind lstK).bind fun d h1 => sortKK (callF Γ.fns n) fi (capsD env js) d h1 := by
    funext env h
    show ((evalE (callF Γ.fns n) env ea h).bind unP).bind (fun d h1 => sortKK (callF Γ.fns n) fi (capsD env js) d h1) = _
    cases (evalE (callF Γ.fns n) env ea h).bind unP with
    | stuck => rfl
    | exc _ _ => rfl
    | ok d h1 =>
      cases d with
      | list ts => rfl
      | _ =>
        show sortKK (callF Γ.fns n) fi (capsD env js) _ h1 = .stuck
        unfold sortKK
        cases capsD env js <;> rfl
  rw [eqv] at q
  obtain ⟨env, s, eH, hr, er, _, pr⟩ := At.bind (Rel1 := SRel X.K (Rr X)) (ev2 := fun d env h1 => sortKK (callF Γ.fns n) fi (capsD env js) d h1) q
  refine ⟨env, s, eH, hr, er, trivial, PR.mono pr fun x H1 ⟨dt, env, s, eH, hr, er, ⟨_, ts, xs, hdt, hx, rfs⟩, pr⟩ => ?_⟩
  subst eH; subst hdt
  have hq : (P, X.env.qual ++ "<lambda>") ∈ I.ci.tbs := by rw [ht]; exact .head _
  replace pr : PR X.K I W s σ (sortKK (callF Γ.fns n) fi (capsD env js) (.list ts) s.h) (VR X.K) Q := pr
  cases hcap : capsD env js with
  | none => rw [hcap] at pr; exact False.elim pr
  | some vs =>
    rw [hcap] at pr
    obtain ⟨vl, vat⟩ := capsD_at hcap
    unfold sortKK at pr
    simp only at pr
    split at pr
    case isFalse => exact False.elim pr
    case isTrue hlen =>
      cases hk : keysK (callF Γ.fns n) fi vs ts s.h with
      | stuck => rw [hk] at pr; exact False.elim pr
      | exc x2 h2 =>
        exfalso
        exact keysK_noX hk
      | ok all hE =>
        rw [hk] at pr
        simp only [R.bind_ok] at pr
        split at pr
        case isFalse => exact False.elim pr
        case isTrue hok =>
          replace pr : ∀ s' x, Le s s' → s'.h = hE → HR X.K I.ci s' → VR X.K s' (.p (.list (sortBy ts all))) x → Q x s'.H := pr
          refine ⟨hr.tb _ hq, xs, hx, fun c' H2 keep nn hT2 hc => ?_⟩
          have le2 := tabd_le hr hq keep
          have hr2 := hr.tabd ht keep hT2
          have hne : ∀ b o, s.H b = some o → (∀ ps, o ≠ .tbl ps) → H2 b = some o := fun b o e1 no => by
            obtain ⟨ps, eP, _⟩ := hr.tb _ hq
            refine keep b o (fun w => ?_) e1
            rw [w, eP] at e1
            exact no ps (Option.some.inj e1).symm
          refine ⟨hSt X x xs s.H H2 hne hx, fun j ys H3 => ∃ (s3 : Sx) (ks rest : List PyData), s3.H = H3 ∧ HR X.K I.ci s3 ∧ Le (s.tabd H2) s3 ∧ RFs X.K s3.F s3.H ks ys ∧ ks.length = j ∧ all = ks ++ rest ∧ keysK (callF Γ.fns n) fi vs (ts.drop j) s3.h = .ok rest hE, ?_, ?_, ?_⟩
          · exact ⟨s.tabd H2, [], all, rfl, hr2, .refl _, .nil, rfl, rfl, hk⟩
          · rintro j xj ys H3 hxj ⟨s3, ks, rest, rfl, hr3, le3, rk, kl, hall, hke⟩
            have leA := le2.trans le3
            refine ⟨le3.kf.cd c' _ _ hc, ?_⟩
            obtain ⟨t, htj, rt⟩ := rfs.get' hxj
            have hj : j < ts.length := (List.getElem?_eq_some_iff.mp htj).1
            have hdr : ts.drop j = t :: ts.drop (j + 1) := by
              rw [List.drop_eq_getElem_cons hj]
              congr 1
              have := List.getElem?_eq_getElem hj
              rw [htj] at this
              exact (Option.some.inj this).symm
            rw [hdr] at hke
            unfold keysK at hke
            cases n with
            | zero =>
              exfalso
              have z : callF Γ.fns 0 fi (.p t :: vs) s3.h = .stuck := rfl
              rw [z] at hke
              cases hke
            | succ m =>
              show tE X.K I (fun _ _ _ _ => False) (fun env h => evalE (callF Γ.fns m) env e h) (VR X.K) (startF (a :: fr) [xj] (js.map (slotAt σ))) s3.H _
              have jl : js.length = fr.length := by
                have := congrArg List.length L.hjs
                simpa using this
              have hcall : callF Γ.fns (m + 1) fi (.p t :: vs) s3.h = finF s3.h.length (evalSs (callF Γ.fns m) [.ret e] (startE d (.p t :: vs)) s3.h) := by
                show (match Γ.fns fi with
                  | none => R.stuck
                  | some d => if (Val.p t :: vs).length = d.np then finF s3.h.length (evalSs (callF Γ.fns m) d.body (startE d (.p t :: vs)) s3.h) else .stuck) = _
                rw [hd]
                simp only
                rw [if_pos (by rw [hnp, List.length_cons, vl, jl]; omega), hbd]
              have hse : startE d (.p t :: vs) = some (.p t) :: vs.map some := by
                unfold startE
                rw [hns]
                have : 1 + fr.length - (Val.p t :: vs).length = 0 := by rw [List.length_cons, vl, jl]; omega
                rw [this]
                simp
              rw [hse] at hcall
              refine ⟨some (.p t) :: vs.map some, s3, rfl, hr3, ?_, trivial, ?_⟩
              · rw [startF_eq (by rw [List.length_map]; exact jl)]
                refine ⟨by simp [vl], fun i w ew => ?_⟩
                cases i with
                | zero =>
                  have : Val.p t = w := by simpa [slot] using ew
                  subst this
                  exact ⟨xj, rfl, RF.keep leA.kf rt⟩
                | succ i =>
                  have e1 := slot_get (env := vs.map some) (i := i) ew
                  rw [List.getElem?_map] at e1
                  cases e2 : vs[i]? with
                  | none => rw [e2] at e1; cases e1
                  | some w2 =>
                    rw [e2] at e1
                    have : w2 = w := by simpa using e1
                    subst this
                    obtain ⟨jj, dd, h1, h2, rfl⟩ := vat i w2 e2
                    obtain ⟨y, h3, h4⟩ := er.at_ jj _ h2
                    refine ⟨y, ?_, VR.le leA h4⟩
                    rw [List.getElem?_cons_succ, List.getElem?_map, h1]
                    show some (slotAt σ jj) = _
                    rw [slotAt_of h3]
              · rw [hcall] at hke
                show PR X.K I _ s3 _ (evalE (callF Γ.fns m) (some (.p t) :: vs.map some) e s3.h) (VR X.K) _
                cases hev : evalE (callF Γ.fns m) (some (.p t) :: vs.map some) e s3.h with
                | stuck =>
                  exfalso
                  have z : evalSs (callF Γ.fns m) [.ret e] (some (.p t) :: vs.map some) s3.h = .stuck := by
                    show ((evalE (callF Γ.fns m) (some (.p t) :: vs.map some) e s3.h).toS _ _).bind _ = _
                    rw [hev]; rfl
                  rw [z] at hke
                  cases hke
                | exc x5 h5 =>
                  exfalso
                  have z : evalSs (callF Γ.fns m) [.ret e] (some (.p t) :: vs.map some) s3.h = .exc x5 (some (.p t) :: vs.map some) h5 := by
                    show ((evalE (callF Γ.fns m) (some (.p t) :: vs.map some) e s3.h).toS _ _).bind _ = _
                    rw [hev]; rfl
                  rw [z] at hke
                  cases hke
                | ok w h5 =>
                  have z : evalSs (callF Γ.fns m) [.ret e] (some (.p t) :: vs.map some) s3.h = .ok (.rt w) (some (.p t) :: vs.map some) h5 := by
                    show ((evalE (callF Γ.fns m) (some (.p t) :: vs.map some) e s3.h).toS _ _).bind _ = _
                    rw [hev]; rfl
                  rw [z] at hke
                  cases w with
                  | ref _ => cases hke
                  | p kd =>
                    have hke' : (keysK (callF Γ.fns (m + 1)) fi vs (ts.drop (j + 1)) (h5.take s3.h.length)).bind (fun ks h2 => R.ok (kd :: ks) h2) = .ok rest hE := hke
                    cases hrest : keysK (callF Γ.fns (m + 1)) fi vs (ts.drop (j + 1)) (h5.take s3.h.length) with
                    | stuck => rw [hrest] at hke'; cases hke'
                    | exc _ _ => rw [hrest] at hke'; cases hke'
                    | ok rest2 hE2 =>
                      rw [hrest] at hke'
                      have e3 : R.ok (kd :: rest2) hE2 = R.ok rest hE := hke'
                      cases e3
                      intro s4 y le4 eh hr4 ry
                      refine ⟨s4.cut s3.h.length, ks ++ [kd], rest2, rfl, hr4.cut _, le3.trans (cut_le le4), ?_, by simp [kl], by rw [hall, List.append_assoc]; rfl, ?_⟩
                      · have rk4 : RFs X.K s4.F s4.H ks ys := rk.keep le4.kf
                        exact rk4.append (.cons ry .nil)
                      · show keysK (callF Γ.fns (m + 1)) fi vs (ts.drop (j + 1)) (s4.h.take s3.h.length) = _
                        rw [eh]
                        exact hrest
          · rintro ys H3 D ⟨s3, ks, rest, rfl, hr3, le3, rk, kl, hall, hke⟩ hD
            have tl : ts.length = xs.length := rfs.length
            rw [← tl, List.drop_length] at hke
            have e4 : R.ok ([] : List PyData) s3.h = R.ok rest hE := hke
            cases e4
            rw [List.append_nil] at hall
            subst hall
            have leA := le2.trans le3
            unfold keysOk at hok
            simp only [Bool.and_eq_true, decide_eq_true_eq] at hok
            obtain ⟨⟨k1, k2⟩, k3⟩ := hok
            refine ⟨all, rk.dp, fun d1 h1 d2 h2 => List.all_eq_true.mp (List.all_eq_true.mp k1 d1 h1) d2 h2, ?_, fun d1 h1 => Nat.le_trans (depth_mem h1) k3, fun us out rv ko lo => ?_⟩
            · rw [Bool.or_eq_true] at k2
              rcases k2 with k2 | k2
              · exact .inl fun d1 h1 => tupNe_inv (List.all_eq_true.mp k2 d1 h1)
              · refine .inr fun d1 h1 => ?_
                have := List.all_eq_true.mp k2 d1 h1
                cases d1 with
                | int _ => exact ⟨fun z => (nomatch z), fun _ z => (nomatch z)⟩
                | _ => cases this
            · have rt3 : RFs X.K s3.F s3.H ts xs := rfs.keep leA.kf
              have kl' : all.length = ts.length := by rw [kl, tl]
              have eb := each_bs (ks := all) rv rt3 kl'
              have ko' : PySem.W.KeyedOut false ((ts.zip all).map Prod.snd) us out := by rw [zip_snd kl']; exact ko
              have eo := PySem.W.keyedOut_each Prod.snd ko' eb
              obtain ⟨zs, rz, rzs⟩ := each_zs eo
              have ez : ((ts.zip all).mergeSort (PySem.W.dataLe false Prod.snd)).map Prod.fst = sortBy ts all := by
                rw [PySem.W.dataLe_eq]; rfl
              rw [ez] at rzs
              refine ⟨zs, rz, ?_⟩
              exact pr (s3.put D (.lst zs) true) (.ref D) (leA.trans (hr3.put_le hD)) rfl (hr3.put hD) (lst_new hD rzs)
/-- of a list -/
theorem de_sortL (hl : sc.lm = true) (v : NB Γ sc "sorted") (L : LamOk Γ N sc params body scope a fr js fi) (hs : DV Γ N sc src ea) (se : Se1 src := by intro _; rfl) (hpl : ∀ env, (backTo pos (starEach [src] env)).any (·.1) = false := by intro _; rfl) (hbt : ∀ env, backTo pos (starEach [src] env) = (false, eval src env) :: backTo pos (starEach [] env) := by intro _; rfl) :
    DE Γ N sc (.Call (.Name "sorted" p) [src] [⟨some "key", .Lambda params body scope lpos, kpos⟩] pos) (.sortK fi js ea) :=
  de_sortR (Rr := fun X x xs H => ∃ l, x = .ref l ∧ SqL X.K H l xs) hl v L (fun X _ _ => src_list) (fun X x xs H H2 k ⟨l, e, h⟩ => ⟨l, e, h.imp (fun h => h.imp (fun h => k _ _ h fun _ z => by cases z) fun ⟨o, h⟩ => ⟨o, k _ _ h fun _ z => by cases z⟩) id⟩)
    (fun n I W X g => (hs n I W X g).imp fun σ H Q q => by
      obtain ⟨env, s, eH, hr, er, _, pr⟩ := q
      refine ⟨env, s, eH, hr, er, trivial, ?_⟩
      replace pr : PR X.K I W s σ (((evalE (callF Γ.fns n) env ea s.h).bind unP).bind lstK) (SRel X.K fun x xs H => ∃ l, x = .ref l ∧ SqL X.K H l xs) Q := pr
      show PR X.K I W s σ ((evalE (callF Γ.fns n) env ea s.h).bind unP) (PRl X.K) Q
      generalize (evalE (callF Γ.fns n) env ea s.h).bind unP = r at pr ⊢
      cases r with
      | stuck => exact pr
      | exc _ _ => exact pr
      | ok d h1 =>
        cases d with
        | list ts =>
          intro s' x l eh hr' rel
          obtain ⟨b, xs, rfl, q1, q2⟩ := RF.lst_inv rel
          exact pr s' _ l eh hr' ⟨ts, xs, rfl, ⟨b, rfl, q1.sq⟩, q2⟩
        | _ => exact False.elim pr) se hpl hbt
end
end Cd
set_option Elab.async false
set_option linter.all false
set_option maxRecDepth 100000
set_option maxHeartbeats 4000000
namespace Cd
open PySem PySem.Spec PyProof.Rows L2
/-- the code object, its table (no part of the written heap) -/
def codeFlds (vs : Array Value) : Option Addr := match vs.getD 11 Value.none, vs.getD 18 Value.none, vs.getD 7 Value.none, vs.getD 9 Value.none, vs.getD 10 Value.none with
  | Value.ref P, Value.str _ _, Value.int _ _, Value.bool _, Value.int _ _ => some P
  | _, _, _, _, _ => none
theorem codeFlds_inv {vs : Array Value} {P : Addr} (e : codeFlds vs = some P) : vs.getD 11 .none = .ref P ∧ (∃ a b, vs.getD 18 .none = .str a b) ∧ (∃ a b, vs.getD 7 .none = .int a b) ∧ (∃ a, vs.getD 9 .none = .bool a) ∧ ∃ a b, vs.getD 10 .none = .int a b := by
  unfold codeFlds at e
  split at e
  · rename_i h1 h2 h3 h4 h5
    cases e
    exact ⟨h1, ⟨_, _, h2⟩, ⟨_, _, h3⟩, ⟨_, h4⟩, _, _, h5⟩
  · cases e
def codeTab (K : PySem.W.Frag) (cd : Value) : Option (Addr × Addr) := match cd with
  | .ref c => (match K.lookup c with
    | some ⟨.type t, _, .fields vs, _⟩ => (match codeFlds vs with
      | some P => if t == "code" && (K.lookup P).isNone && !(c == P) then some (c, P) else none
      | none => none)
    | _ => none)
  | _ => none
theorem codeTab_inv {K : PySem.W.Frag} {cd : Value} {c P : Addr} (e : codeTab K cd = some (c, P)) : cd = .ref c ∧ K.lookup P = none ∧ ∃ (dd : Option Addr) (vs : Array Value) (sl : Array (Option Value)), K.lookup c = some ⟨.type "code", dd, .fields vs, sl⟩ ∧ vs[11]? = some (.ref P) ∧ ∀ h : Heap, K.In h → PySem.W.CodeHd h c P := by
  unfold codeTab at e
  split at e
  · rename_i c0
    split at e
    · rename_i t dd vs sl hl
      split at e
      · rename_i P0 hf
        split at e
        · rename_i hc
          simp only [Bool.and_eq_true, beq_iff_eq, Option.isNone_iff_eq_none, Bool.not_eq_true'] at hc
          obtain ⟨⟨rfl, hn⟩, hne⟩ := hc
          cases e
          obtain ⟨e11, ⟨a18, b18, e18⟩, ⟨a7, b7, e7⟩, ⟨a9, e9⟩, a10, b10, e10⟩ := codeFlds_inv hf
          have at11 : vs[11]? = some (.ref P) := by
            rw [Array.getD_eq_getD_getElem?] at e11
            cases z : vs[11]? with
            | none => rw [z] at e11; cases e11
            | some u =>
              rw [z] at e11
              have : u = Value.ref P := e11
              rw [this]
          exact ⟨rfl, hn, dd, vs, sl, hl, at11, fun h KX => ⟨_, vs, _, _, _, _, _, _, _, KX _ _ hl, rfl, rfl, at11, e11, e18, e7, e9, e10, by simpa using hne⟩⟩
        · cases e
      · cases e
    · cases e
  · cases e
section
variable {P : Program} {w : World} {K : PySem.W.Frag} {mg : Str → Option Value} {base : Heap} {I : Inf} {Γ : Gm} {n fi : Nat}
theorem gx_ofM {N : List Str} {qual : Str} {st : Stmt} {f : Addr} {cdv : Value} {A : Around} {outer : List Env} {s : Shared} {H : Hp} {E : XK} (hlm : LmAt Γ I (cxOf (L2.CX P w) P w K mg base N qual (defScope st) f cdv A outer s H E)) (G : GD P w K mg base I Γ n) (nd : N.Nodup) (hr : Room (2 * n + 1) (A.deeper (envOfC qual (defScope st) s.heap.objs.size f cdv))) :
    GX Γ n I N (lamSco st) (fun cls d _ H => E cls d H) (cxOf (L2.CX P w) P w K mg base N qual (defScope st) f cdv A outer s H E) where
  hN := rfl
  nd := nd
  fnc := rfl
  sc := rfl
  calm := rfl
  tk := takes_of rfl rfl rfl rfl
  pass := passes_of rfl
  room := hr
  fn := G.fn
  nob := G.nob
  con := G.con
  cl := G.cl
  mt := G.mt
  fl := G.fl
  ci := G.ci
  xc := G.xc
  xm := G.xm
  tb := G.tb
  st := G.st
  ho := G.ho
  stk := fun _ => ⟨rfl, rfl⟩
  gd := fun z => by cases z
  lm := fun _ => hlm
theorem call_oneC {x qual : Str} {st : Stmt} {f : Addr} {fd : FuncData} {N ps : List Str} {k : Nat} {A : Around} {outer : List Env} {s : Shared} {H : Hp} {args : Args} {us : List Value} {vs : List V} {Q : VK} {E : XK}
    (F : Fun K x qual st f fd) (S : FnScope N ps (defScope st)) (hr : Room (k + 1) A) (e0 : Env0 P w K mg base A outer s H) (hb : BindsTo s fd args (ps.zip us)) (rv : Vals vs us) (hl : vs.length = ps.length)
    (hbody : ∀ cdv : Value, fd.code = cdv → ∃ t, PSs (cxOf (L2.CX P w) P w K mg base N qual (defScope st) f cdv A outer s H E) (defBody st) t ∧ t { nx := fun _ H' => Q .non H', rt := Q } (start N vs) H) :
    codeAny (model P w) A (.call (.ref f) args) (CR (L2.CX P w) outer P w H s Q E) s := by
  obtain ⟨oc, od, kV, doc, pm, an, cdv, ct, osl, rfl, lk, hcd⟩ := F.ex
  have KX : K.In s.heap := e0.mod.kin.keeps fun b o e => (e0.bs b o e).1
  refine codeAny_call_function hr.depth (KX _ _ lk) rfl S.co S.gen rfl (PySem.W.codeRec_of KX hcd) (hb _ _ _ _ (wpAny_newFunctionEnv_cells S.kind (fun y hy => ?_) fun env he s1 x => ?_))
  · have hy' := (List.of_mem_zip (show (y.1, y.2) ∈ ps.zip us from hy)).1
    exact (S.par y.1 hy').imp_right fun q => ⟨q, PySem.W.cellsFrom_some _ _ _ (.inl q)⟩
  · subst he
    obtain ⟨t, ht, hq⟩ := hbody cdv rfl
    refine ⟨(e0.mod.nolimit.keeps fun b o e => (e0.bs b o e).1).keeps x.toInCall.keep, codeAny_func (wpAny_mono (ht.run [] s1 _ H _ (inv_start S hr.hd e0 hl rv x) hq) (fun fl s' hs => ?_) fun e s' hs => hs)⟩
    cases fl with
    | next =>
      obtain ⟨σ', H', J, q⟩ := hs
      exact ⟨.non, H', J.os, J.bare, J.base, J.hok, rfl, q⟩
    | ret u =>
      obtain ⟨v, σ', H', J, r, q⟩ := hs
      exact ⟨v, H', J.os, J.bare, J.base, J.hok, r, q⟩
    | _ => exact hs.elim (fun _ h => h.elim fun _ h => h.elim fun _ h => False.elim h)
theorem law_soundM {x qual : Str} {st : Stmt} {a c T : Addr} {fd : FuncData} {N ps : List Str} {d : FnD} (hΓ : Γ.cls = [] ∧ Γ.meths = [] ∧ Γ.sts = [] ∧ Γ.hots = []) (hcode : fd.code = .ref c) (TB : LamX.TabB base mg c T) (ht : I.ci.tbs = [(T, qual ++ ".<locals>." ++ "<lambda>")])
    (g : GS K mg I Γ) (F : Fun K x qual st a fd) (S : FnScope N ps (defScope st)) (e : Γ.fns fi = some d) (hp : ps.length = d.np) (hns : N.length = d.ns) (hb : DSs Γ N (lamSco st) (defBody st) d.body) : FnOk P w K mg base (L2.CX P w) (2 * (n + 1)) a fd ps (spF K I Γ.fns (n + 1) fi d.np) where
  len := fun vs H Q E ⟨s, args, _, _, r, hl, _⟩ => by rw [← r.length, hl, hp]
  run := fun A outer s0 H args' us vs Q E hr e0 hbi rv ⟨s, args, eH, hR, r, hl, h⟩ => by
    refine call_oneC (k := 2 * n + 1) F S hr e0 hbi rv (by rw [← r.length, hl, hp]) fun cdv hcd => ?_
    have lm : LmAt Γ I (cxOf (L2.CX P w) P w K mg base N qual (defScope st) a cdv A outer s0 H E) := ⟨hΓ, ⟨c, T, by show cdv = _; rw [← hcd]; exact hcode, TB, ht⟩, fun m => (gd_all g m).fn⟩
    refine ⟨_, hb n I _ _ (gx_ofM lm (gd_all g n) S.nd (hr.deeper _)), startE d args, s, eH, hR, er_start hns r, trivial, ?_⟩
    have h' : (match finF s.h.length (evalSs (callF Γ.fns n) d.body (startE d args) s.h) with
      | .ok v h' => ∀ s' x, Le s s' → s'.h = h' → HR K I.ci s' → VR K s' v x → Q x s'.H
      | .exc e h' => ∀ s' cls d, Le s s' → s'.h = h' → HR K I.ci s' → XR K I s' e cls d → E cls d s'.H
      | .stuck => False) := by
      have h2 := h
      unfold callF at h2
      rw [e] at h2
      simp only [hl, if_true] at h2
      exact h2
    show PSt K I (fun cls d _ H => E cls d H) _ s (evalSs (callF Γ.fns n) d.body (startE d args) s.h)
    generalize evalSs (callF Γ.fns n) d.body (startE d args) s.h = rs at h' ⊢
    cases rs with
    | ok fl env1 h1 =>
      cases fl with
      | nx =>
        intro s' σ' l eh hr' er'
        subst eh
        exact h' (s'.cut s.h.length) .non (cut_le l) rfl (hr'.cut _) .non
      | bk => exact False.elim h'
      | ct => exact False.elim h'
      | rt v =>
        cases v with
        | p dd =>
          intro s' y l eh hr' rv
          subst eh
          exact h' (s'.cut s.h.length) y (cut_le l) rfl (hr'.cut _) rv
        | ref m =>
          intro s' y l eh hr' rv
          subst eh
          exact h' s' y l rfl hr' rv
    | exc e2 env1 h1 =>
      intro s' σ' cls dx l eh hr' er' xr
      subst eh
      exact h' (s'.cut s.h.length) cls dx (cut_le l) rfl (hr'.cut _) xr
    | stuck => exact h'
end
/-- THE END, for a law whose own def makes a lambda -/
theorem walk_endT {l : PySem.W.OpenLaw} {m : Nat} {q : Program} {loose : List Str} {XP : (Str → Option Value) → Heap → Prop} {YP : World → Heap → Prop} {d : DefRec} {Γ : Gm} {fi n : Nat} {K : Params → PySem.W.Frag} (x : Str)
    (hn : l.most = some m) (hn2 : m ≤ sizeLine) (hdf : d.params.defaults = []) (hr : Room (2 * (n + 1)) callerA) (hm : ∀ ns : List Int, ns.length ≤ m → okTrue (callF Γ.fns (n + 1) fi [scriptD ns] []) = true) (hrec : ((recsOf q).any fun e => e.name == d.name) = true) (hΓ : Γ.cls = [] ∧ Γ.meths = [] ∧ Γ.sts = [] ∧ Γ.hots = []) (hY : ∀ (w : World) (h : Heap), YP w h → (K w.params).In h)
    (F : ∀ (w : World) (mg : Str → Option Value) (fa : Addr) (h : Heap), (K w.params).In h → h.Ns mainGlobals mg → mg d.name = some (.ref fa) →
      ∃ (I : Inf) (fd : FuncData) (c T : Addr) (qual : Str), (∀ (s : Shared) (u : Value), BindsTo s fd ⟨[u], []⟩ [(x, u)]) ∧ GS (K w.params) mg I Γ ∧ codeTab (K w.params) fd.code = some (c, T) ∧ I.ci.tbs = [(T, qual ++ ".<locals>." ++ "<lambda>")] ∧
        ∃ (x' : Str) (st : Stmt) (N : List Str) (dd : FnD), Fun (K w.params) x' qual st fa fd ∧ FnScope N [x] (defScope st) ∧ Γ.fns fi = some dd ∧ dd.np = 1 ∧ N.length = dd.ns ∧ DSs Γ N (lamSco st) (defBody st) dd.body) :
    PySem.W.WalkO q loose XP YP l.row.toRowW d [] (fun f vs => PySem.call f vs) := by
  refine LamX.walk_ofOwn (n := m) (k := 2 * (n + 1)) (x := x) (CX := fun _ => CX0) hn hn2 hdf hr hrec hY (fun w mg fa h Y KX G hmg own => ?_) fun _ _ _ _ _ z => z
  obtain ⟨I, fd, c, T, qual, hb, g, hct, htb, x', st, N, dd, hF, S, e, hp, hns, ds⟩ := F w mg fa h KX G hmg
  obtain ⟨ec, hnT, d2, vs, sl, hlc, h11, hhd⟩ := codeTab_inv hct
  have hTab : h.get? T = some { cls := .none, data := .fields #[] } := by
    obtain ⟨oc, od, kV, doc, pm, an, cdv, ct, osl, rfl, lk, hcd⟩ := hF.ex
    exact own c T _ _ _ _ vs sl lk rfl ec hlc h11
  have one : ∀ {p : Addr × Addr}, p ∈ [(c, T)] → p = (c, T) := fun hp => List.mem_singleton.mp hp
  refine ⟨fd, [(c, T)], _, fun p hp => by rw [one hp]; exact hTab, fun p hp => by rw [one hp]; exact hnT, fun p hp => by rw [one hp]; exact hhd h KX, hb, fun H a ns hl _ hH hS => ?_, fun base _ _ hTB => fn_calm (law_soundM (n := n) (I := I) hΓ ec (hTB _ (.head _)) htb g hF S e (by rw [hp]; rfl) hns ds)⟩
  have eT : H T = some (.tbl #[]) := hH (c, T) (.head _)
  rw [hp]
  refine law_sp (fun p hp => ?_) (fun p hp z => ?_) hS (hm ns hl)
  · rw [htb] at hp
    rw [List.mem_singleton.mp hp]
    exact LamX.TabS.nil eT
  · rw [htb] at hp
    rw [List.mem_singleton.mp hp] at z
    have z : T = a := z
    rw [← z] at hS
    rcases hS with (hS | ⟨o, hS⟩) | ⟨o, its, k, hk, _⟩
    · rw [eT] at hS; cases hS
    · rw [eT] at hS; cases hS
    · rw [hnT] at hk; cases hk
end Cd
set_option Elab.async false
set_option linter.all false
set_option maxRecDepth 100000
set_option maxHeartbeats 4000000
namespace Cd
open PySem L2
/-- Round.__init__: 0 self, 1 chips, 2 forced, 3 first, 4 many, 5 bet -/
def b0 : List S := [.newFld 0 0 (.comp [4, 5] (.tup [(.name 4), (.name 5)]) (.zip (.var 1) (.var 2)) [] (.op2d .sub (.var 4) (.var 5))), .newFld 0 1 (.op1 .list (.var 2)), .newFld 0 2 (.op2b .rep (.lst [(.lit (.bool false))]) (.op1 .len (.var 1))), .newFld 0 3 (.op2b .rep (.lst [(.lit (.bool false))]) (.op1 .len (.var 1))), .setFld 0 4 (.op1 .max (.var 2)), .setFld 0 5 (.op2 .max2 (.op1 .max (.var 2)) (.lit (.int 1))), .setFld 0 6 (.var 3), .expr (.meth 0 2 0 [])]
def d0 : FnD := ⟨4, 6, b0⟩
/-- Round.must_act: 0 self, 1 seat -/
def b1 : List S := [.if_ (.or_ (.val (.op2b .ix (.fld 0 2) (.var 1))) (.val (.op2 .eq (.op2b .ix (.fld 0 0) (.var 1)) (.lit (.int 0))))) [.ret (.lit (.bool false))] [], .ret (.or_ (.not_ (.op2b .ix (.fld 0 3) (.var 1))) (.op2 .lt (.op2b .ix (.fld 0 1) (.var 1)) (.fld 0 4)))]
def d1 : FnD := ⟨2, 2, b1⟩
/-- Round.find_turn: 0 self, 1 many, 2 here, 3 seats, 4 asked, 5 seat -/
def b2 : List S := [.set 1 (.op1 .len (.fld 0 1)), .set 2 (.fld 0 6), .setFld 0 6 (.lit .none), .if_ (.val (.op2 .gt (.op2b .count (.fld 0 2) (.lit (.bool false))) (.lit (.int 1)))) [.set 3 (.op2d .add (.op2d .from_ (.var 2) (.var 1)) (.op1 .range (.var 2))), .set 4 (.comp [5] (.name 5) (.e (.var 3)) [(.val (.meth 0 1 0 [(.var 5)]))] (.var 5)), .if_ (.val (.var 4)) [.setFld 0 6 (.op2b .ix (.var 4) (.lit (.int 0)))] []] []]
def d2 : FnD := ⟨1, 6, b2⟩
/-- Round.turn: 0 self -/
def b3 : List S := [.ret (.fld 0 6)]
/-- Round.seat_now: 0 self -/
def b4 : List S := [.if_ (.val (.op1 .isNone (.fld 0 6))) [.raise_ 4 []] [], .ret (.fld 0 6)]
/-- Round.end_turn: 0 self, 1 seat -/
def b5 : List S := [.setIx (.fld 0 3) (.var 1) (.lit (.bool true)), .setFld 0 6 (.op2d .add (.var 1) (.lit (.int 1))), .if_ (.val (.op2 .eq (.fld 0 6) (.op1 .len (.fld 0 1)))) [.setFld 0 6 (.lit (.int 0))] [], .expr (.meth 0 2 0 [])]
/-- Round.lay: 0 self, 1 seat, 2 many -/
def b6 : List S := [.setIx (.fld 0 0) (.var 1) (.op2d .sub (.op2b .ix (.fld 0 0) (.var 1)) (.var 2)), .setIx (.fld 0 1) (.var 1) (.op2d .add (.op2b .ix (.fld 0 1) (.var 1)) (.var 2))]
/-- Round.fold: 0 self, 1 seat -/
def b7 : List S := [.set 1 (.meth 0 4 0 []), .setIx (.fld 0 2) (.var 1) (.lit (.bool true)), .expr (.meth 0 5 0 [(.var 1)])]
/-- Round.call: 0 self, 1 seat -/
def b8 : List S := [.set 1 (.meth 0 4 0 []), .expr (.meth 0 6 0 [(.var 1), (.op2 .min2 (.op2d .sub (.fld 0 4) (.op2b .ix (.fld 0 1) (.var 1))) (.op2b .ix (.fld 0 0) (.var 1)))]), .expr (.meth 0 5 0 [(.var 1)])]
/-- Round.raise_to: 0 self, 1 bet, 2 seat, 3 more -/
def b9 : List S := [.set 2 (.meth 0 4 0 []), .set 3 (.op2d .sub (.var 1) (.op2b .ix (.fld 0 1) (.var 2))), .if_ (.or_ (.val (.op2 .le (.var 1) (.fld 0 4))) (.val (.op2 .gt (.var 3) (.op2b .ix (.fld 0 0) (.var 2))))) [.raise_ 3 []] [], .if_ (.and_ (.val (.op2 .lt (.var 1) (.op2d .add (.fld 0 4) (.fld 0 5)))) (.val (.op2 .lt (.var 3) (.op2b .ix (.fld 0 0) (.var 2))))) [.raise_ 3 []] [], .setFld 0 5 (.op2 .max2 (.fld 0 5) (.op2d .sub (.var 1) (.fld 0 4))), .setFld 0 4 (.var 1), .expr (.meth 0 6 0 [(.var 2), (.var 3)]), .newFld 0 3 (.op2b .rep (.lst [(.lit (.bool false))]) (.op1 .len (.fld 0 1))), .expr (.meth 0 5 0 [(.var 2)])]
/-- Round.bets: 0 self -/
def b10 : List S := [.ret (.op1 .tuple (.fld 0 1))]
/-- Round.chips: 0 self -/
def b11 : List S := [.ret (.op1 .tuple (.fld 0 0))]
/-- Round.folded: 0 self -/
def b12 : List S := [.ret (.op1 .tuple (.fld 0 2))]
/-- _law_draw: 0 _law_script, 1 _law_town, 2 _law_many, 3 _law_k, 4 _law_cell, 5 _law_number, 6 _law_more -/
def b13 : List S := [.app (.var 1) (.lit (.int 0)), .set 3 (.op1 .len (.var 1)), .set 4 (.lit (.int 0)), .if_ (.val (.var 0)) [.set 4 (.op2b .ix (.var 0) (.op2d .mod (.var 3) (.op1 .len (.var 0))))] [], .set 5 (.op2d .mod (.op2d .add (.var 4) (.op2d .mul (.lit (.int 104729)) (.var 3))) (.lit (.int 4294967291))), .set 5 (.op2d .mod (.op2d .mul (.op2d .mod (.op2d .mul (.var 5) (.var 5)) (.lit (.int 4294967279))) (.lit (.int 48271))) (.lit (.int 4294967291))), .set 6 (.op2d .mod (.op2d .mul (.op2d .mod (.op2d .mul (.var 5) (.var 5)) (.lit (.int 4294967279))) (.lit (.int 69621))) (.lit (.int 4294967291))), .ret (.op2d .mod (.op2d .add (.op2d .mul (.op2d .fdiv (.var 5) (.lit (.int 64))) (.lit (.int 67108864))) (.op2d .fdiv (.var 6) (.lit (.int 64)))) (.var 2))]
def d13 : FnD := ⟨3, 7, b13⟩
/-- _law_pick: 0 _law_script, 1 _law_town, 2 _law_some -/
def b14 : List S := [.ret (.op2 .ix (.var 2) (.call 13 [(.var 0), (.var 1), (.op1 .len (.var 2))]))]
def d14 : FnD := ⟨3, 3, b14⟩
/-- _law_state: 0 _law_table -/
def b18 : List S := [.ret (.tup [(.meth 0 3 0 []), (.meth 0 10 0 []), (.meth 0 11 0 []), (.meth 0 12 0 [])])]
/-- row_top: 0 ranks, 1 k -/
def b48 : List S := [.if_ (.val (.op2 .eq (.var 0) (.lit (.tuple [(.int 14), (.int 5), (.int 4), (.int 3), (.int 2)])))) [.ret (.lit (.int 5))] [], .if_ (.val (.op2 .eq (.var 0) (.op1 .tuple (.comp [1] (.name 1) (.rng1 (.lit (.int 5))) [] (.op2d .sub (.op2b .ix (.var 0) (.lit (.int 0))) (.var 1)))))) [.ret (.op2b .ix (.var 0) (.lit (.int 0)))] [], .ret (.lit (.int 0))]
def d48 : FnD := ⟨1, 2, b48⟩
/-- grouped: 0 five, 1 often, 2 rank, 3 suit, 4 rows, 5 many -/
def b49 : List S := [.newD 1 [], .for_ (.tup [(.name 2), (.name 3)]) (.e (.var 0)) [.setKeyD 1 (.var 2) (.op2d .add (.dgetD 1 (.var 2) (.lit (.int 0))) (.lit (.int 1)))], .set 4 (.op1 .rev (.op1 .sorted (.compI 1 [2, 5] (.tup [(.name 2), (.name 5)]) [] (.tup [(.var 5), (.var 2)])))), .ret (.tup [(.op1 .tuple (.comp [5, 2] (.tup [(.name 5), (.name 2)]) (.e (.var 4)) [] (.var 2))), (.op1 .tuple (.comp [5, 2] (.tup [(.name 5), (.name 2)]) (.e (.var 4)) [] (.var 5)))])]
def d49 : FnD := ⟨1, 6, b49⟩
/-- rank_of: 0 five, 1 ranks, 2 shape, 3 top, 4 alike, 5 rank, 6 suit -/
def b50 : List S := [.unpack (.tup [(.name 1), (.name 2)]) (.call 49 [(.var 0)]), .if_ (.val (.op2 .lt (.op1 .len (.var 1)) (.lit (.int 5)))) [.ret (.tup [(.op1 (.look [([2, 1, 1, 1], 1), ([2, 2, 1], 2), ([3, 1, 1], 3), ([3, 2], 6), ([4, 1], 7)]) (.var 2)), (.var 1)])] [], .set 3 (.call 48 [(.var 1)]), .set 4 (.op2 .eq (.op1 .lenSet (.comp [5, 6] (.tup [(.name 5), (.name 6)]) (.e (.var 0)) [] (.var 6))) (.lit (.int 1))), .if_ (.and_ (.val (.op2 .gt (.var 3) (.lit (.int 0)))) (.val (.var 4))) [.ret (.tup [(.lit (.int 8)), (.tup [(.var 3)])])] [], .if_ (.val (.var 4)) [.ret (.tup [(.lit (.int 5)), (.var 1)])] [], .if_ (.val (.op2 .gt (.var 3) (.lit (.int 0)))) [.ret (.tup [(.lit (.int 4)), (.tup [(.var 3)])])] [], .ret (.tup [(.lit (.int 0)), (.var 1)])]
def d50 : FnD := ⟨1, 7, b50⟩
/-- _law_cards: 0 _law_script, 1 _law_town, 2 _law_many, 3 _law_every, 4 _law_ranks_here, 5 _law_left, 6 _law_got, 7 _law_rank, 8 _law_k, 9 _law_suit -/
def b51 : List S := [.set 3 (.tup [(.lit (.int 2)), (.lit (.int 3)), (.lit (.int 4)), (.lit (.int 5)), (.lit (.int 6)), (.lit (.int 7)), (.lit (.int 8)), (.lit (.int 9)), (.lit (.int 10)), (.lit (.int 11)), (.lit (.int 12)), (.lit (.int 13)), (.lit (.int 14))]), .set 4 (.call 14 [(.var 0), (.var 1), (.lst [(.var 3), (.var 3), (.tup [(.lit (.int 2)), (.lit (.int 3)), (.lit (.int 4)), (.lit (.int 5)), (.lit (.int 14))]), (.tup [(.lit (.int 9)), (.lit (.int 10)), (.lit (.int 11)), (.lit (.int 12)), (.lit (.int 13))]), (.tup [(.lit (.int 6)), (.lit (.int 7)), (.lit (.int 8)), (.lit (.int 9))])])]), .set2 5 6 (.mk (.lst [])) (.tup []), .for_ (.name 7) (.e (.var 4)) [.ext (.var 5) (.comp [9] (.name 9) (.e (.lit (.str ("cdhs" : Str)))) [] (.tup [(.var 7), (.var 9)]))], .for_ (.name 8) (.rng1 (.var 2)) [.set 6 (.op2d .add (.var 6) (.tup [(.pop 5 (.call 13 [(.var 0), (.var 1), (.op1 .len (.var 5))]))]))], .ret (.var 6)]
def d51 : FnD := ⟨3, 10, b51⟩
/-- choices: 0 cards, 1 many, 2 found, 3 at, 4 more -/
def b55 : List S := [.if_ (.val (.op2 .eq (.var 1) (.lit (.int 0)))) [.ret (.lst [(.tup [])])] [], .set 2 (.mk (.lst [])), .for_ (.name 3) (.rng1 (.op2d .add (.op2d .sub (.op1 .len (.var 0)) (.var 1)) (.lit (.int 1)))) [.for_ (.name 4) (.e (.call 55 [(.op3b (.slice true false) (.var 0) (.op2d .addI (.var 3) (.lit (.int 1))) (.lit .none)), (.op2d .sub (.var 1) (.lit (.int 1)))])) [.app (.var 2) (.op2d .add (.tup [(.op2b .ix (.var 0) (.var 3))]) (.var 4))]], .ret (.freeze 2)]
def d55 : FnD := ⟨2, 5, b55⟩
/-- best_rank: 0 cards, 1 five -/
def b56 : List S := [.ret (.op1 .max (.comp [1] (.name 1) (.e (.call 55 [(.var 0), (.lit (.int 5))])) [] (.call 50 [(.var 1)])))]
def d56 : FnD := ⟨1, 2, b56⟩
/-- winners: 0 holes, 1 board, 2 ranks, 3 hole, 4 seat, 5 rank -/
def b57 : List S := [.set 2 (.comp [3] (.name 3) (.e (.var 0)) [] (.call 56 [(.op2d .add (.var 3) (.var 1))])), .ret (.op1 .tuple (.comp [4, 5] (.tup [(.name 4), (.name 5)]) (.enum (.var 2)) [(.val (.op2 .eq (.var 5) (.op1 .max (.var 2))))] (.var 4)))]
def d57 : FnD := ⟨2, 6, b57⟩
/-- beaten_by: 0 hole, 1 board, 2 stub, 3 own, 4 two -/
def b58 : List S := [.set 3 (.call 56 [(.op2d .add (.var 0) (.var 1))]), .ret (.op1 .tuple (.comp [4] (.name 4) (.e (.call 55 [(.var 2), (.lit (.int 2))])) [(.val (.op2 .gt (.call 56 [(.op2d .add (.var 4) (.var 1))]) (.var 3)))] (.var 4)))]
def d58 : FnD := ⟨3, 5, b58⟩
/-- _law_twos: 0 _law_cards_here, 1 _law_found, 2 _law_at, 3 _law_later -/
def b62 : List S := [.set 1 (.mk (.lst [])), .for_ (.name 2) (.rng1 (.op1 .len (.var 0))) [.ext (.var 1) (.comp [3] (.name 3) (.e (.op3b (.slice true false) (.var 0) (.op2d .addI (.var 2) (.lit (.int 1))) (.lit .none))) [] (.tup [(.op2b .ix (.var 0) (.var 2)), (.var 3)]))], .ret (.freeze 1)]
def d62 : FnD := ⟨1, 4, b62⟩
/-- outs: 0 holes, 1 board, 2 stub, 3 seat, 4 card -/
def b67 : List S := [.ret (.op1 .tuple (.comp [4] (.name 4) (.e (.var 2)) [(.val (.op2 .eq (.call 57 [(.var 0), (.op2d .add (.var 1) (.tup [(.var 4)]))]) (.tup [(.var 3)])))] (.var 4)))]
def d67 : FnD := ⟨4, 5, b67⟩
/-- _law_outs_hold: 0 _law_holes, 1 _law_board, 2 _law_stub, 3 _law_seen_cards, 4 _law_seat, 5 _law_some, 6 _law_card -/
def b186 : List S := [.set 3 (.mk (.lst [])), .for_ (.name 4) (.rng1 (.op1 .len (.var 0))) [.set 5 (.call 67 [(.var 0), (.var 1), (.var 2), (.var 4)]), .if_ (.val (.op2 .ne (.op1 .list (.var 5)) (.comp [6] (.name 6) (.e (.var 2)) [(.val (.op2 .eq (.call 57 [(.var 0), (.op2d .add (.var 1) (.tup [(.var 6)]))]) (.tup [(.var 4)])))] (.var 6)))) [.ret (.lit (.bool false))] [], .if_ (.val (.op2 .ne (.call 67 [(.var 0), (.var 1), (.op1 .revT (.var 2)), (.var 4)]) (.op1 .revT (.var 5)))) [.ret (.lit (.bool false))] [], .if_ (.val (.op2 .ne (.op2d .add (.call 67 [(.var 0), (.var 1), (.op3b (.slice false true) (.var 2) (.lit .none) (.lit (.int 2))), (.var 4)]) (.call 67 [(.var 0), (.var 1), (.op3b (.slice true false) (.var 2) (.lit (.int 2)) (.lit .none)), (.var 4)])) (.var 5))) [.ret (.lit (.bool false))] [], .if_ (.val (.op1 .any (.comp [6] (.name 6) (.e (.var 5)) [] (.op2 .isIn (.var 6) (.var 3))))) [.ret (.lit (.bool false))] [], .ext (.var 3) (.op1 .list (.var 5))], .ret (.lit (.bool true))]
def d186 : FnD := ⟨3, 7, b186⟩
/-- law: 0 _law_script, 1 _law_town, 2 _law_k, 3 _law_seats, 4 _law_cards_here, 5 _law_holes, 6 _law_board, 7 _law_stub, 8 _law_full, 9 _law_rest, 10 _law_some, 11 _law_own, 12 _law_less, 13 _law_rows, 14 _law_top, 15 _law_at, 16 _law_two, 17 _law_rank -/
def b187 : List S := [.set 1 (.mk (.lst [])), .for_ (.name 2) (.rng1 (.lit (.int 2))) [.set 3 (.op2d .add (.lit (.int 2)) (.call 13 [(.var 0), (.var 1), (.lit (.int 2))])), .set 4 (.call 51 [(.var 0), (.var 1), (.op2d .add (.op2d .mul (.lit (.int 2)) (.var 3)) (.lit (.int 8)))]), .set 5 (.op1 .tuple (.comp [15] (.name 15) (.rng1 (.var 3)) [] (.op3b (.slice true true) (.var 4) (.op2d .mul (.lit (.int 2)) (.var 15)) (.op2d .addI (.op2d .mul (.lit (.int 2)) (.var 15)) (.lit (.int 2)))))), .set2 6 7 (.op3b (.slice true true) (.var 4) (.op2d .mul (.lit (.int 2)) (.var 3)) (.op2d .addI (.op2d .mul (.lit (.int 2)) (.var 3)) (.lit (.int 4)))) (.op3b (.slice true false) (.var 4) (.op2d .addI (.op2d .mul (.lit (.int 2)) (.var 3)) (.lit (.int 4))) (.lit .none)), .if_ (.not_ (.val (.call 186 [(.var 5), (.var 6), (.var 7)]))) [.ret (.lit (.bool false))] [], .unpack (.tup [(.name 8), (.name 9)]) (.tup [(.op2d .add (.var 6) (.op3b (.slice false true) (.var 7) (.lit .none) (.lit (.int 1)))), (.op2d .add (.op3b (.slice true false) (.var 7) (.lit (.int 1)) (.lit .none)) (.op2b .ix (.var 5) (.lit (.int 1))))]), .set 10 (.call 58 [(.op2b .ix (.var 5) (.lit (.int 0))), (.var 8), (.var 9)]), .set 11 (.call 56 [(.op2d .add (.op2b .ix (.var 5) (.lit (.int 0))) (.var 8))]), .if_ (.val (.op2 .ne (.op1 .list (.var 10)) (.comp [16] (.name 16) (.e (.call 62 [(.var 9)])) [(.val (.op2 .gt (.call 56 [(.op2d .add (.var 16) (.var 8))]) (.var 11)))] (.var 16)))) [.ret (.lit (.bool false))] [], .set 12 (.call 58 [(.op2b .ix (.var 5) (.lit (.int 0))), (.var 8), (.op3b (.slice true false) (.var 9) (.lit (.int 1)) (.lit .none))]), .if_ (.val (.op2 .ne (.comp [16] (.name 16) (.e (.var 10)) [(.val (.op2 .notIn (.op2b .ix (.var 9) (.lit (.int 0))) (.var 16)))] (.var 16)) (.op1 .list (.var 12)))) [.ret (.lit (.bool false))] [], .set 13 (.sortK 188 [8] (.call 62 [(.var 9)])), .if_ (.and_ (.val (.op2 .isIn (.op2b .ix (.var 13) (.op1 .neg (.lit (.int 1)))) (.var 10))) (.val (.op2 .ge (.var 11) (.call 56 [(.op2d .add (.op2b .ix (.var 13) (.op1 .neg (.lit (.int 1)))) (.var 8))])))) [.ret (.lit (.bool false))] [], .if_ (.val (.op2 .ne (.op2 .eq (.var 10) (.tup [])) (.op2 .ge (.var 11) (.call 56 [(.op2d .add (.op2b .ix (.var 13) (.op1 .neg (.lit (.int 1)))) (.var 8))])))) [.ret (.lit (.bool false))] [], .set 14 (.op2d .add (.op1 .tuple (.comp [17] (.name 17) (.e (.tup [(.lit (.int 10)), (.lit (.int 11)), (.lit (.int 12))])) [] (.tup [(.var 17), (.lit (.str ("s" : Str)))]))) (.tup [(.tup [(.lit (.int 2)), (.lit (.str ("c" : Str)))]), (.tup [(.lit (.int 2)), (.lit (.str ("d" : Str)))])])), .if_ (.val (.op2 .ne (.call 58 [(.tup [(.tup [(.lit (.int 13)), (.lit (.str ("s" : Str)))]), (.tup [(.lit (.int 14)), (.lit (.str ("s" : Str)))])]), (.var 14), (.tup [(.tup [(.lit (.int 2)), (.lit (.str ("h" : Str)))]), (.tup [(.lit (.int 2)), (.lit (.str ("s" : Str)))]), (.tup [(.lit (.int 9)), (.lit (.str ("s" : Str)))])])]) (.tup []))) [.ret (.lit (.bool false))] []], .ret (.lit (.bool true))]
def d187 : FnD := ⟨1, 18, b187⟩
/-- _lam_k30: 0 _law_two, 1 _law_full -/
def b188 : List S := [.ret (.call 56 [(.op2d .add (.var 0) (.var 1))])]
def d188 : FnD := ⟨2, 2, b188⟩
end Cd
set_option Elab.async false
set_option linter.all false
set_option maxRecDepth 100000
set_option maxHeartbeats 4000000
namespace Cd
def fns : Nat → Option FnD
  | 55 => some d55
  | 48 => some d48
  | 49 => some d49
  | 50 => some d50
  | 56 => some d56
  | 57 => some d57
  | 67 => some d67
  | 58 => some d58
  | 13 => some d13
  | 14 => some d14
  | 51 => some d51
  | 62 => some d62
  | 186 => some d186
  | 187 => some d187
  | 188 => some d188
  | _ => none
end Cd
set_option Elab.async false
set_option linter.all false
set_option maxRecDepth 100000
set_option maxHeartbeats 4000000
namespace Cd
open PySem PySem.Spec PyProof.Rows L2
def top (i : Nat) : Stmt := PySem.Challenge.pw_cardhands_k30_whole_outs_of_boards.main.body.getD i (.Pass ⟨0, 0, 0, 0⟩)
abbrev s55 : Stmt := top 1
abbrev N55 : List Str := [("cards" : Str), ("many" : Str), ("found" : Str), ("at" : Str), ("more" : Str)]
abbrev s48 : Stmt := top 5
abbrev N48 : List Str := [("ranks" : Str), ("k" : Str)]
abbrev s49 : Stmt := top 6
abbrev N49 : List Str := [("five" : Str), ("often" : Str), ("rank" : Str), ("suit" : Str), ("rows" : Str), ("many" : Str)]
abbrev s50 : Stmt := top 7
abbrev N50 : List Str := [("five" : Str), ("ranks" : Str), ("shape" : Str), ("top" : Str), ("alike" : Str), ("rank" : Str), ("suit" : Str)]
abbrev s56 : Stmt := top 8
abbrev N56 : List Str := [("cards" : Str), ("five" : Str)]
abbrev s57 : Stmt := top 10
abbrev N57 : List Str := [("holes" : Str), ("board" : Str), ("ranks" : Str), ("hole" : Str), ("seat" : Str), ("rank" : Str)]
abbrev s67 : Stmt := top 11
abbrev N67 : List Str := [("holes" : Str), ("board" : Str), ("stub" : Str), ("seat" : Str), ("card" : Str)]
abbrev s58 : Stmt := top 12
abbrev N58 : List Str := [("hole" : Str), ("board" : Str), ("stub" : Str), ("own" : Str), ("two" : Str)]
abbrev s13 : Stmt := top 14
abbrev N13 : List Str := [("_law_script" : Str), ("_law_town" : Str), ("_law_many" : Str), ("_law_k" : Str), ("_law_cell" : Str), ("_law_number" : Str), ("_law_more" : Str)]
abbrev s14 : Stmt := top 15
abbrev N14 : List Str := [("_law_script" : Str), ("_law_town" : Str), ("_law_some" : Str)]
abbrev s51 : Stmt := top 16
abbrev N51 : List Str := [("_law_script" : Str), ("_law_town" : Str), ("_law_many" : Str), ("_law_every" : Str), ("_law_ranks" : Str), ("_law_left" : Str), ("_law_got" : Str), ("_law_rank" : Str), ("_law_k" : Str), ("_law_suit" : Str)]
abbrev s62 : Stmt := top 17
abbrev N62 : List Str := [("_law_cards_here" : Str), ("_law_found" : Str), ("_law_at" : Str), ("_law_later" : Str)]
abbrev s186 : Stmt := top 18
abbrev N186 : List Str := [("_law_holes" : Str), ("_law_board" : Str), ("_law_stub" : Str), ("_law_seen_cards" : Str), ("_law_seat" : Str), ("_law_some" : Str), ("_law_card" : Str)]
abbrev s187 : Stmt := top 19
abbrev N187 : List Str := [("_law_script" : Str), ("_law_town" : Str), ("_law_k" : Str), ("_law_seats" : Str), ("_law_cards_here" : Str), ("_law_holes" : Str), ("_law_board" : Str), ("_law_stub" : Str), ("_law_full" : Str), ("_law_rest" : Str), ("_law_some" : Str), ("_law_own" : Str), ("_law_less" : Str), ("_law_rows" : Str), ("_law_top" : Str), ("_law_at" : Str), ("_law_two" : Str), ("_law_rank" : Str)]
def Γ0 : Gm where
  fns := fns
  defs := [(("choices" : Str), 55), (("row_top" : Str), 48), (("grouped" : Str), 49), (("rank_of" : Str), 50), (("best_rank" : Str), 56), (("winners" : Str), 57), (("outs" : Str), 67), (("beaten_by" : Str), 58), (("_law_draw" : Str), 13), (("_law_pick" : Str), 14), (("_law_cards" : Str), 51), (("_law_twos" : Str), 62), (("_law_outs_hold" : Str), 186)]
  nobs := [("any" : Str), ("enumerate" : Str), ("len" : Str), ("list" : Str), ("max" : Str), ("range" : Str), ("set" : Str), ("sorted" : Str), ("tuple" : Str)]
  cons := [(("LOW_ROW" : Str), (.tuple [(.int 14), (.int 5), (.int 4), (.int 3), (.int 2)]))]
  cls := []
  meths := []
  flds := []
  excs := []
  tabs := [(("SHAPES" : Str), [([2, 1, 1, 1], 1), ([2, 2, 1], 2), ([3, 1, 1], 3), ([3, 2], 6), ([4, 1], 7)])]
theorem ds55 : DSs Γ0 N55 (fnSco s55) (defBody s55) b55 := by exact
  (dss_cons (ds_if (dt_eq (DE.v (de_var (vo (by decide +kernel)))) (DV.b (DP.v dp_int))) (dss_cons (ds_ret (DN.toE (dn_lst (dps_cons (DE.v (de_tup dps_nil)) dps_nil)) dat_lst))
  dss_nil) dss_nil)
  (dss_cons (ds_set (to (by decide +kernel)) (de_mk (dn_lst dps_nil)))
  (dss_cons (ds_for (di_rng1 (nb (by decide +kernel)) (DE.v (de_addD (DE.v (de_subD (DE.v (de_len (nb (by decide +kernel)) (db_var (vo (by decide +kernel))))) (DE.v (de_var (vo (by decide +kernel)))))) (DP.v dp_int)))) (dg_name (to (by decide +kernel))) (dss_cons (ds_for (di_e (DE.v (de_call (go (by decide +kernel)) (mo (by decide +kernel)) (das_cons (de_slice (db_var (vo (by decide +kernel))) (do_some (dp_add (dp_var (vo (by decide +kernel))) dp_int)) do_none) (das_cons (de_subD (DE.v (de_var (vo (by decide +kernel)))) (DP.v dp_int)) das_nil))))) (dg_name (to (by decide +kernel))) (dss_cons (ds_app (vo (by decide +kernel)) (DE.v (de_addD (DE.v (de_tup (dps_cons (DE.v (de_ixB (db_var (vo (by decide +kernel))) (dp_var (vo (by decide +kernel))))) dps_nil))) (DE.v (de_var (vo (by decide +kernel)))))) ⟨rfl⟩)
  dss_nil))
  dss_nil))
  (dss_cons (ds_ret (de_freeze (vo (by decide +kernel))))
  dss_nil))))
theorem ds48 : DSs Γ0 N48 (fnSco s48) (defBody s48) b48 := by exact
  (dss_cons (ds_if (dt_eq (DE.v (de_var (vo (by decide +kernel)))) (DV.b (DP.v (dp_con (go (by decide +kernel)) (.head _))))) (dss_cons (ds_ret (DP.toE dp_int))
  dss_nil) dss_nil)
  (dss_cons (ds_if (dt_eq (DE.v (de_var (vo (by decide +kernel)))) (DV.b (DE.v (de_tuple (nb (by decide +kernel)) (DV.b (DN.v (dn_comp (own := [(("k" : Str), 1)]) (di_rng1 (nb (by decide +kernel)) (DP.v dp_int)) (bo (by decide +kernel)) (dg_name (to (by decide +kernel))) dts_nil (DE.v (de_subD (DE.v (de_ixB (db_var (vo (by decide +kernel))) dp_int)) (DE.v (de_var (vo (by decide +kernel)))))) (by decide +kernel)))))))) (dss_cons (ds_ret (de_ixB (db_var (vo (by decide +kernel))) dp_int))
  dss_nil) dss_nil)
  (dss_cons (ds_ret (DP.toE dp_int))
  dss_nil)))
theorem ds49 : DSs Γ0 N49 (fnSco s49) (defBody s49) b49 := by exact
  (dss_cons (ds_newD0 (to (by decide +kernel)))
  (dss_cons (ds_for (di_e (DE.v (de_var (vo (by decide +kernel))))) (dg_tup (dgs_cons (dg_name (to (by decide +kernel))) (dgs_cons (dg_name (to (by decide +kernel))) dgs_nil))) (dss_cons (ds_setKeyD (vo (by decide +kernel)) (DE.v (de_addD (DE.v (de_dgetD (vo (by decide +kernel)) (dp_var (vo (by decide +kernel))) dp_int (fun X => ⟨rfl, rfl, rfl, rfl⟩))) (DP.v dp_int))) (dp_var (vo (by decide +kernel))))
  dss_nil))
  (dss_cons (ds_set (to (by decide +kernel)) (DN.toE (dn_rev (DV.b (DN.v (dn_sorted (nb (by decide +kernel)) (DV.b (DN.v (dn_compI (own := [(("rank" : Str), 2), (("many" : Str), 5)]) (vo (by decide +kernel)) (bo (by decide +kernel)) (dg_tup (dgs_cons (dg_name (to (by decide +kernel))) (dgs_cons (dg_name (to (by decide +kernel))) dgs_nil))) dts_nil (DE.v (de_tup (dps_cons (DE.v (de_var (vo (by decide +kernel)))) (dps_cons (DE.v (de_var (vo (by decide +kernel)))) dps_nil)))) (by decide +kernel)))))))) dat_op1))
  (dss_cons (ds_ret (de_tup (dps_cons (DE.v (de_tuple (nb (by decide +kernel)) (DV.b (DN.v (dn_comp (own := [(("many" : Str), 5), (("rank" : Str), 2)]) (di_e (DE.v (de_var (vo (by decide +kernel))))) (bo (by decide +kernel)) (dg_tup (dgs_cons (dg_name (to (by decide +kernel))) (dgs_cons (dg_name (to (by decide +kernel))) dgs_nil))) dts_nil (DE.v (de_var (vo (by decide +kernel)))) (by decide +kernel)))))) (dps_cons (DE.v (de_tuple (nb (by decide +kernel)) (DV.b (DN.v (dn_comp (own := [(("many" : Str), 5), (("rank" : Str), 2)]) (di_e (DE.v (de_var (vo (by decide +kernel))))) (bo (by decide +kernel)) (dg_tup (dgs_cons (dg_name (to (by decide +kernel))) (dgs_cons (dg_name (to (by decide +kernel))) dgs_nil))) dts_nil (DE.v (de_var (vo (by decide +kernel)))) (by decide +kernel)))))) dps_nil))))
  dss_nil))))
theorem ds50 : DSs Γ0 N50 (fnSco s50) (defBody s50) b50 := by exact
  (dss_cons (ds_unpack (dg_tup (dgs_cons (dg_name (to (by decide +kernel))) (dgs_cons (dg_name (to (by decide +kernel))) dgs_nil))) (DE.v (de_call (go (by decide +kernel)) (mo (by decide +kernel)) (das_cons (de_var (vo (by decide +kernel))) das_nil))))
  (dss_cons (ds_if (dt_lt (DE.v (de_len (nb (by decide +kernel)) (db_var (vo (by decide +kernel))))) (DV.b (DP.v dp_int))) (dss_cons (ds_ret (de_tup (dps_cons (DE.v (de_look (go (by decide +kernel)) (by decide) (db_var (vo (by decide +kernel))))) (dps_cons (DE.v (de_var (vo (by decide +kernel)))) dps_nil))))
  dss_nil) dss_nil)
  (dss_cons (ds_set (to (by decide +kernel)) (de_call (go (by decide +kernel)) (mo (by decide +kernel)) (das_cons (de_var (vo (by decide +kernel))) das_nil)))
  (dss_cons (ds_set (to (by decide +kernel)) (de_eq (DE.v (de_lenSet (nb (by decide +kernel)) (nb (by decide +kernel)) (DV.b (DN.v (dn_comp (own := [(("rank" : Str), 5), (("suit" : Str), 6)]) (di_e (DE.v (de_var (vo (by decide +kernel))))) (bo (by decide +kernel)) (dg_tup (dgs_cons (dg_name (to (by decide +kernel))) (dgs_cons (dg_name (to (by decide +kernel))) dgs_nil))) dts_nil (DE.v (de_var (vo (by decide +kernel)))) (by decide +kernel)))))) (DV.b (DP.v dp_int))))
  (dss_cons (ds_if (DW.t (dw_and (dt_gt (DE.v (de_var (vo (by decide +kernel)))) (DV.b (DP.v dp_int))) (dw_and1 (dt_val (db_var (vo (by decide +kernel))))))) (dss_cons (ds_ret (de_tup (dps_cons (DP.v dp_int) (dps_cons (DE.v (de_tup (dps_cons (DE.v (de_var (vo (by decide +kernel)))) dps_nil))) dps_nil))))
  dss_nil) dss_nil)
  (dss_cons (ds_if (dt_val (db_var (vo (by decide +kernel)))) (dss_cons (ds_ret (de_tup (dps_cons (DP.v dp_int) (dps_cons (DE.v (de_var (vo (by decide +kernel)))) dps_nil))))
  dss_nil) dss_nil)
  (dss_cons (ds_if (dt_gt (DE.v (de_var (vo (by decide +kernel)))) (DV.b (DP.v dp_int))) (dss_cons (ds_ret (de_tup (dps_cons (DP.v dp_int) (dps_cons (DE.v (de_tup (dps_cons (DE.v (de_var (vo (by decide +kernel)))) dps_nil))) dps_nil))))
  dss_nil) dss_nil)
  (dss_cons (ds_ret (de_tup (dps_cons (DP.v dp_int) (dps_cons (DE.v (de_var (vo (by decide +kernel)))) dps_nil))))
  dss_nil))))))))
theorem ds56 : DSs Γ0 N56 (fnSco s56) (defBody s56) b56 := by exact
  (dss_cons (ds_ret (de_max (nb (by decide +kernel)) (DV.b (DN.v (dn_comp (own := [(("five" : Str), 1)]) (di_e (DE.v (de_call (go (by decide +kernel)) (mo (by decide +kernel)) (das_cons (de_var (vo (by decide +kernel))) (das_cons (DP.toE dp_int) das_nil))))) (bo (by decide +kernel)) (dg_name (to (by decide +kernel))) dts_nil (DE.v (de_call (go (by decide +kernel)) (mo (by decide +kernel)) (das_cons (de_var (vo (by decide +kernel))) das_nil))) (by decide +kernel))))))
  dss_nil)
theorem ds57 : DSs Γ0 N57 (fnSco s57) (defBody s57) b57 := by exact
  (dss_cons (ds_setC (to (by decide +kernel)) (DN.toE (dn_comp (own := [(("hole" : Str), 3)]) (di_e (DE.v (de_var (vo (by decide +kernel))))) (bo (by decide +kernel)) (dg_name (to (by decide +kernel))) dts_nil (DE.v (de_call (go (by decide +kernel)) (mo (by decide +kernel)) (das_cons (de_addD (DE.v (de_var (vo (by decide +kernel)))) (DE.v (de_var (vo (by decide +kernel))))) das_nil))) (by decide +kernel)) dat_comp) (by rfl))
  (dss_cons (ds_ret (de_tuple (nb (by decide +kernel)) (DV.b (DN.v (dn_comp (own := [(("seat" : Str), 4), (("rank" : Str), 5)]) (di_enum (nb (by decide +kernel)) (DE.v (de_var (vo (by decide +kernel))))) (bo (by decide +kernel)) (dg_tup (dgs_cons (dg_name (to (by decide +kernel))) (dgs_cons (dg_name (to (by decide +kernel))) dgs_nil))) (dts_one (dt_eq (DE.v (de_var (vo (by decide +kernel)))) (DV.b (DE.v (de_max (nb (by decide +kernel)) (db_var (vo (by decide +kernel)))))))) (DE.v (de_var (vo (by decide +kernel)))) (by decide +kernel))))))
  dss_nil))
theorem ds67 : DSs Γ0 N67 (fnSco s67) (defBody s67) b67 := by exact
  (dss_cons (ds_ret (de_tuple (nb (by decide +kernel)) (DV.b (DN.v (dn_comp (own := [(("card" : Str), 4)]) (di_e (DE.v (de_var (vo (by decide +kernel))))) (bo (by decide +kernel)) (dg_name (to (by decide +kernel))) (dts_one (dt_eq (DE.v (de_call (go (by decide +kernel)) (mo (by decide +kernel)) (das_cons (de_var (vo (by decide +kernel))) (das_cons (de_addD (DE.v (de_var (vo (by decide +kernel)))) (DE.v (de_tup (dps_cons (DE.v (de_var (vo (by decide +kernel)))) dps_nil)))) das_nil)))) (DV.b (DE.v (de_tup (dps_cons (DE.v (de_var (vo (by decide +kernel)))) dps_nil)))))) (DE.v (de_var (vo (by decide +kernel)))) (by decide +kernel))))))
  dss_nil)
theorem ds58 : DSs Γ0 N58 (fnSco s58) (defBody s58) b58 := by exact
  (dss_cons (ds_set (to (by decide +kernel)) (de_call (go (by decide +kernel)) (mo (by decide +kernel)) (das_cons (de_addD (DE.v (de_var (vo (by decide +kernel)))) (DE.v (de_var (vo (by decide +kernel))))) das_nil)))
  (dss_cons (ds_ret (de_tuple (nb (by decide +kernel)) (DV.b (DN.v (dn_comp (own := [(("two" : Str), 4)]) (di_e (DE.v (de_call (go (by decide +kernel)) (mo (by decide +kernel)) (das_cons (de_var (vo (by decide +kernel))) (das_cons (DP.toE dp_int) das_nil))))) (bo (by decide +kernel)) (dg_name (to (by decide +kernel))) (dts_one (dt_gt (DE.v (de_call (go (by decide +kernel)) (mo (by decide +kernel)) (das_cons (de_addD (DE.v (de_var (vo (by decide +kernel)))) (DE.v (de_var (vo (by decide +kernel))))) das_nil))) (db_var (vo (by decide +kernel))))) (DE.v (de_var (vo (by decide +kernel)))) (by decide +kernel))))))
  dss_nil))
theorem ds13 : DSs Γ0 N13 (fnSco s13) (defBody s13) b13 := by exact
  (dss_cons (ds_app (vo (by decide +kernel)) (DP.v dp_int) ⟨rfl⟩)
  (dss_cons (ds_set (to (by decide +kernel)) (de_len (nb (by decide +kernel)) (db_var (vo (by decide +kernel)))))
  (dss_cons (ds_set (to (by decide +kernel)) (DP.toE dp_int))
  (dss_cons (ds_if (dt_val (db_var (vo (by decide +kernel)))) (dss_cons (ds_set (to (by decide +kernel)) (de_ixB (db_var (vo (by decide +kernel))) (dp_mod (dp_var (vo (by decide +kernel))) (dp_len1 (nb (by decide +kernel)) (vo (by decide +kernel))))))
  dss_nil) dss_nil)
  (dss_cons (ds_set (to (by decide +kernel)) (de_modD (DE.v (de_addD (DE.v (de_var (vo (by decide +kernel)))) (DE.v (de_mulD (DP.v dp_int) (DE.v (de_var (vo (by decide +kernel)))))))) (DP.v dp_int)))
  (dss_cons (ds_set (to (by decide +kernel)) (de_modD (DE.v (de_mulD (DE.v (de_modD (DE.v (de_mulD (DE.v (de_var (vo (by decide +kernel)))) (DE.v (de_var (vo (by decide +kernel)))))) (DP.v dp_int))) (DP.v dp_int))) (DP.v dp_int)))
  (dss_cons (ds_set (to (by decide +kernel)) (de_modD (DE.v (de_mulD (DE.v (de_modD (DE.v (de_mulD (DE.v (de_var (vo (by decide +kernel)))) (DE.v (de_var (vo (by decide +kernel)))))) (DP.v dp_int))) (DP.v dp_int))) (DP.v dp_int)))
  (dss_cons (ds_ret (de_modD (DE.v (de_addD (DE.v (de_mulD (DE.v (de_divD (DE.v (de_var (vo (by decide +kernel)))) (DP.v dp_int))) (DP.v dp_int))) (DE.v (de_divD (DE.v (de_var (vo (by decide +kernel)))) (DP.v dp_int))))) (DE.v (de_var (vo (by decide +kernel))))))
  dss_nil))))))))
theorem ds14 : DSs Γ0 N14 (fnSco s14) (defBody s14) b14 := by exact
  (dss_cons (ds_ret (de_ix (DE.v (de_var (vo (by decide +kernel)))) (DV.b (DE.v (de_call (go (by decide +kernel)) (mo (by decide +kernel)) (das_cons (de_var (vo (by decide +kernel))) (das_cons (de_var (vo (by decide +kernel))) (das_cons (de_len (nb (by decide +kernel)) (db_var (vo (by decide +kernel)))) das_nil))))))))
  dss_nil)
theorem ds51 : DSs Γ0 N51 (fnSco s51) (defBody s51) b51 := by exact
  (dss_cons (ds_set (to (by decide +kernel)) (de_tup (dps_cons (DP.v dp_int) (dps_cons (DP.v dp_int) (dps_cons (DP.v dp_int) (dps_cons (DP.v dp_int) (dps_cons (DP.v dp_int) (dps_cons (DP.v dp_int) (dps_cons (DP.v dp_int) (dps_cons (DP.v dp_int) (dps_cons (DP.v dp_int) (dps_cons (DP.v dp_int) (dps_cons (DP.v dp_int) (dps_cons (DP.v dp_int) (dps_cons (DP.v dp_int) dps_nil)))))))))))))))
  (dss_cons (ds_set (to (by decide +kernel)) (de_call (go (by decide +kernel)) (mo (by decide +kernel)) (das_cons (de_var (vo (by decide +kernel))) (das_cons (de_var (vo (by decide +kernel))) (das_cons (DN.toE (dn_lst (dps_cons (DE.v (de_var (vo (by decide +kernel)))) (dps_cons (DE.v (de_var (vo (by decide +kernel)))) (dps_cons (DE.v (de_tup (dps_cons (DP.v dp_int) (dps_cons (DP.v dp_int) (dps_cons (DP.v dp_int) (dps_cons (DP.v dp_int) (dps_cons (DP.v dp_int) dps_nil))))))) (dps_cons (DE.v (de_tup (dps_cons (DP.v dp_int) (dps_cons (DP.v dp_int) (dps_cons (DP.v dp_int) (dps_cons (DP.v dp_int) (dps_cons (DP.v dp_int) dps_nil))))))) (dps_cons (DE.v (de_tup (dps_cons (DP.v dp_int) (dps_cons (DP.v dp_int) (dps_cons (DP.v dp_int) (dps_cons (DP.v dp_int) dps_nil)))))) dps_nil)))))) dat_lst) das_nil)))))
  (dss_cons (ds_set2 (lo (by decide +kernel)) (lo (by decide +kernel)) (by decide) (de_mk (dn_lst dps_nil)) (de_tup dps_nil) (by rfl))
  (dss_cons (ds_for (di_e (DE.v (de_var (vo (by decide +kernel))))) (dg_name (to (by decide +kernel))) (dss_cons (ds_ext (vo (by decide +kernel)) (dn_comp (own := [(("_law_suit" : Str), 9)]) (di_e (DP.v dp_str)) (bo (by decide +kernel)) (dg_name (to (by decide +kernel))) dts_nil (DE.v (de_tup (dps_cons (DE.v (de_var (vo (by decide +kernel)))) (dps_cons (DE.v (de_var (vo (by decide +kernel)))) dps_nil)))) (by decide +kernel)) ⟨rfl⟩)
  dss_nil))
  (dss_cons (ds_for (di_rng1 (nb (by decide +kernel)) (DE.v (de_var (vo (by decide +kernel))))) (dg_name (to (by decide +kernel))) (dss_cons (ds_set (to (by decide +kernel)) (de_addD (DE.v (de_var (vo (by decide +kernel)))) (DE.v (de_tup (dps_cons (DE.v (de_pop (vo (by decide +kernel)) (DE.v (de_call (go (by decide +kernel)) (mo (by decide +kernel)) (das_cons (de_var (vo (by decide +kernel))) (das_cons (de_var (vo (by decide +kernel))) (das_cons (de_len (nb (by decide +kernel)) (db_var (vo (by decide +kernel)))) das_nil))))) ⟨rfl⟩)) dps_nil)))))
  dss_nil))
  (dss_cons (ds_ret (de_var (vo (by decide +kernel))))
  dss_nil))))))
theorem ds62 : DSs Γ0 N62 (fnSco s62) (defBody s62) b62 := by exact
  (dss_cons (ds_set (to (by decide +kernel)) (de_mk (dn_lst dps_nil)))
  (dss_cons (ds_for (di_rng1 (nb (by decide +kernel)) (DE.v (de_len (nb (by decide +kernel)) (db_var (vo (by decide +kernel)))))) (dg_name (to (by decide +kernel))) (dss_cons (ds_ext (vo (by decide +kernel)) (dn_comp (own := [(("_law_later" : Str), 3)]) (di_e (DE.v (de_slice (db_var (vo (by decide +kernel))) (do_some (dp_add (dp_var (vo (by decide +kernel))) dp_int)) do_none))) (bo (by decide +kernel)) (dg_name (to (by decide +kernel))) dts_nil (DE.v (de_tup (dps_cons (DE.v (de_ixB (db_var (vo (by decide +kernel))) (dp_var (vo (by decide +kernel))))) (dps_cons (DE.v (de_var (vo (by decide +kernel)))) dps_nil)))) (by decide +kernel)) ⟨rfl⟩)
  dss_nil))
  (dss_cons (ds_ret (de_freeze (vo (by decide +kernel))))
  dss_nil)))
theorem ds186 : DSs Γ0 N186 (fnSco s186) (defBody s186) b186 := by exact
  (dss_cons (ds_set (to (by decide +kernel)) (de_mk (dn_lst dps_nil)))
  (dss_cons (ds_for (di_rng1 (nb (by decide +kernel)) (DE.v (de_len (nb (by decide +kernel)) (db_var (vo (by decide +kernel)))))) (dg_name (to (by decide +kernel))) (dss_cons (ds_set (to (by decide +kernel)) (de_call (go (by decide +kernel)) (mo (by decide +kernel)) (das_cons (de_var (vo (by decide +kernel))) (das_cons (de_var (vo (by decide +kernel))) (das_cons (de_var (vo (by decide +kernel))) (das_cons (de_var (vo (by decide +kernel))) das_nil))))))
  (dss_cons (ds_if (dt_ne (DN.v (dn_list (nb (by decide +kernel)) (db_var (vo (by decide +kernel))))) (DV.b (DN.v (dn_comp (own := [(("_law_card" : Str), 6)]) (di_e (DE.v (de_var (vo (by decide +kernel))))) (bo (by decide +kernel)) (dg_name (to (by decide +kernel))) (dts_one (dt_eq (DE.v (de_call (go (by decide +kernel)) (mo (by decide +kernel)) (das_cons (de_var (vo (by decide +kernel))) (das_cons (de_addD (DE.v (de_var (vo (by decide +kernel)))) (DE.v (de_tup (dps_cons (DE.v (de_var (vo (by decide +kernel)))) dps_nil)))) das_nil)))) (DV.b (DE.v (de_tup (dps_cons (DE.v (de_var (vo (by decide +kernel)))) dps_nil)))))) (DE.v (de_var (vo (by decide +kernel)))) (by decide +kernel))))) (dss_cons (ds_ret (DP.toE dp_bool))
  dss_nil) dss_nil)
  (dss_cons (ds_if (dt_ne (DE.v (de_call (go (by decide +kernel)) (mo (by decide +kernel)) (das_cons (de_var (vo (by decide +kernel))) (das_cons (de_var (vo (by decide +kernel))) (das_cons (de_revT (db_var (vo (by decide +kernel)))) (das_cons (de_var (vo (by decide +kernel))) das_nil)))))) (DV.b (DE.v (de_revT (db_var (vo (by decide +kernel))))))) (dss_cons (ds_ret (DP.toE dp_bool))
  dss_nil) dss_nil)
  (dss_cons (ds_if (dt_ne (DE.v (de_addD (DE.v (de_call (go (by decide +kernel)) (mo (by decide +kernel)) (das_cons (de_var (vo (by decide +kernel))) (das_cons (de_var (vo (by decide +kernel))) (das_cons (de_slice (db_var (vo (by decide +kernel))) do_none (do_some dp_int)) (das_cons (de_var (vo (by decide +kernel))) das_nil)))))) (DE.v (de_call (go (by decide +kernel)) (mo (by decide +kernel)) (das_cons (de_var (vo (by decide +kernel))) (das_cons (de_var (vo (by decide +kernel))) (das_cons (de_slice (db_var (vo (by decide +kernel))) (do_some dp_int) do_none) (das_cons (de_var (vo (by decide +kernel))) das_nil)))))))) (db_var (vo (by decide +kernel)))) (dss_cons (ds_ret (DP.toE dp_bool))
  dss_nil) dss_nil)
  (dss_cons (ds_if (dt_val (DV.b (DE.v (de_any (nb (by decide +kernel)) (DV.b (DN.v (dn_comp (own := [(("_law_card" : Str), 6)]) (di_e (DE.v (de_var (vo (by decide +kernel))))) (bo (by decide +kernel)) (dg_name (to (by decide +kernel))) dts_nil (DE.v (de_in (DE.v (de_var (vo (by decide +kernel)))) (db_var (vo (by decide +kernel))))) (by decide +kernel)))))))) (dss_cons (ds_ret (DP.toE dp_bool))
  dss_nil) dss_nil)
  (dss_cons (ds_ext (vo (by decide +kernel)) (dn_list (nb (by decide +kernel)) (db_var (vo (by decide +kernel)))) ⟨rfl⟩)
  dss_nil)))))))
  (dss_cons (ds_ret (DP.toE dp_bool))
  dss_nil)))
theorem ds187 : DSs Γ0 N187 (lamSco s187) (defBody s187) b187 := by exact
  (dss_cons (ds_set (to (by decide +kernel)) (de_mk (dn_lst dps_nil)))
  (dss_cons (ds_for (di_rng1 (nb (by decide +kernel)) (DP.v dp_int)) (dg_name (to (by decide +kernel))) (dss_cons (ds_set (to (by decide +kernel)) (de_addD (DP.v dp_int) (DE.v (de_call (go (by decide +kernel)) (mo (by decide +kernel)) (das_cons (de_var (vo (by decide +kernel))) (das_cons (de_var (vo (by decide +kernel))) (das_cons (DP.toE dp_int) das_nil)))))))
  (dss_cons (ds_set (to (by decide +kernel)) (de_call (go (by decide +kernel)) (mo (by decide +kernel)) (das_cons (de_var (vo (by decide +kernel))) (das_cons (de_var (vo (by decide +kernel))) (das_cons (de_addD (DE.v (de_mulD (DP.v dp_int) (DE.v (de_var (vo (by decide +kernel)))))) (DP.v dp_int)) das_nil)))))
  (dss_cons (ds_set (to (by decide +kernel)) (de_tuple (nb (by decide +kernel)) (DV.b (DN.v (dn_comp (own := [(("_law_at" : Str), 15)]) (di_rng1 (nb (by decide +kernel)) (DE.v (de_var (vo (by decide +kernel))))) (bo (by decide +kernel)) (dg_name (to (by decide +kernel))) dts_nil (DE.v (de_slice (db_var (vo (by decide +kernel))) (do_some (dp_mul dp_int (dp_var (vo (by decide +kernel))))) (do_some (dp_add (dp_mul dp_int (dp_var (vo (by decide +kernel)))) dp_int)))) (by decide +kernel))))))
  (dss_cons (ds_set2 (lo (by decide +kernel)) (lo (by decide +kernel)) (by decide) (de_slice (db_var (vo (by decide +kernel))) (do_some (dp_mul dp_int (dp_var (vo (by decide +kernel))))) (do_some (dp_add (dp_mul dp_int (dp_var (vo (by decide +kernel)))) dp_int))) (de_slice (db_var (vo (by decide +kernel))) (do_some (dp_add (dp_mul dp_int (dp_var (vo (by decide +kernel)))) dp_int)) do_none) (by rfl))
  (dss_cons (ds_if (dt_not (dt_val (DV.b (DE.v (de_call (go (by decide +kernel)) (mo (by decide +kernel)) (das_cons (de_var (vo (by decide +kernel))) (das_cons (de_var (vo (by decide +kernel))) (das_cons (de_var (vo (by decide +kernel))) das_nil)))))))) (dss_cons (ds_ret (DP.toE dp_bool))
  dss_nil) dss_nil)
  (dss_cons (ds_unpackP (dg_tup (dgs_cons (dg_name (to (by decide +kernel))) (dgs_cons (dg_name (to (by decide +kernel))) dgs_nil))) (DE.v (de_tup (dps_cons (DE.v (de_addD (DE.v (de_var (vo (by decide +kernel)))) (DE.v (de_slice (db_var (vo (by decide +kernel))) do_none (do_some dp_int))))) (dps_cons (DE.v (de_addD (DE.v (de_slice (db_var (vo (by decide +kernel))) (do_some dp_int) do_none)) (DE.v (de_ixB (db_var (vo (by decide +kernel))) dp_int)))) dps_nil)))) (by rfl))
  (dss_cons (ds_set (to (by decide +kernel)) (de_call (go (by decide +kernel)) (mo (by decide +kernel)) (das_cons (de_ixB (db_var (vo (by decide +kernel))) dp_int) (das_cons (de_var (vo (by decide +kernel))) (das_cons (de_var (vo (by decide +kernel))) das_nil)))))
  (dss_cons (ds_set (to (by decide +kernel)) (de_call (go (by decide +kernel)) (mo (by decide +kernel)) (das_cons (de_addD (DE.v (de_ixB (db_var (vo (by decide +kernel))) dp_int)) (DE.v (de_var (vo (by decide +kernel))))) das_nil)))
  (dss_cons (ds_if (dt_ne (DN.v (dn_list (nb (by decide +kernel)) (db_var (vo (by decide +kernel))))) (DV.b (DN.v (dn_comp (own := [(("_law_two" : Str), 16)]) (di_e (DE.v (de_call (go (by decide +kernel)) (mo (by decide +kernel)) (das_cons (de_var (vo (by decide +kernel))) das_nil)))) (bo (by decide +kernel)) (dg_name (to (by decide +kernel))) (dts_one (dt_gt (DE.v (de_call (go (by decide +kernel)) (mo (by decide +kernel)) (das_cons (de_addD (DE.v (de_var (vo (by decide +kernel)))) (DE.v (de_var (vo (by decide +kernel))))) das_nil))) (db_var (vo (by decide +kernel))))) (DE.v (de_var (vo (by decide +kernel)))) (by decide +kernel))))) (dss_cons (ds_ret (DP.toE dp_bool))
  dss_nil) dss_nil)
  (dss_cons (ds_set (to (by decide +kernel)) (de_call (go (by decide +kernel)) (mo (by decide +kernel)) (das_cons (de_ixB (db_var (vo (by decide +kernel))) dp_int) (das_cons (de_var (vo (by decide +kernel))) (das_cons (de_slice (db_var (vo (by decide +kernel))) (do_some dp_int) do_none) das_nil)))))
  (dss_cons (ds_if (dt_ne (DN.v (dn_comp (own := [(("_law_two" : Str), 16)]) (di_e (DE.v (de_var (vo (by decide +kernel))))) (bo (by decide +kernel)) (dg_name (to (by decide +kernel))) (dts_one (dt_notIn (DE.v (de_ixB (db_var (vo (by decide +kernel))) dp_int)) (db_var (vo (by decide +kernel))))) (DE.v (de_var (vo (by decide +kernel)))) (by decide +kernel))) (DV.b (DN.v (dn_list (nb (by decide +kernel)) (db_var (vo (by decide +kernel))))))) (dss_cons (ds_ret (DP.toE dp_bool))
  dss_nil) dss_nil)
  (dss_cons (ds_set (to (by decide +kernel)) (de_sortL (a := ("_law_two" : Str)) (fr := [("_law_full" : Str)]) (js := [8]) (fi := 188) rfl (nb (by decide +kernel)) ⟨NdefX.nscope_by (by decide +kernel), (by decide +kernel), (by decide +kernel), rfl, fun _ => rfl, fun _ _ _ _ _ _ => rfl, ⟨d188, _, rfl, rfl, rfl, rfl, (de_call (go (by decide +kernel)) (mo (by decide +kernel)) (das_cons (de_addD (DE.v (de_var (vo (by decide +kernel)))) (DE.v (de_var (vo (by decide +kernel))))) das_nil))⟩⟩ (DE.v (de_call (go (by decide +kernel)) (mo (by decide +kernel)) (das_cons (de_var (vo (by decide +kernel))) das_nil)))))
  (dss_cons (ds_if (DW.t (dw_and (dt_in (DE.v (de_ixB (db_var (vo (by decide +kernel))) (dp_neg dp_int))) (db_var (vo (by decide +kernel)))) (dw_and1 (dt_ge (DE.v (de_var (vo (by decide +kernel)))) (DV.b (DE.v (de_call (go (by decide +kernel)) (mo (by decide +kernel)) (das_cons (de_addD (DE.v (de_ixB (db_var (vo (by decide +kernel))) (dp_neg dp_int))) (DE.v (de_var (vo (by decide +kernel))))) das_nil)))))))) (dss_cons (ds_ret (DP.toE dp_bool))
  dss_nil) dss_nil)
  (dss_cons (ds_if (dt_ne (DE.v (de_eq (DE.v (de_var (vo (by decide +kernel)))) (DV.b (DE.v (de_tup dps_nil))))) (DV.b (DE.v (de_ge (DE.v (de_var (vo (by decide +kernel)))) (DV.b (DE.v (de_call (go (by decide +kernel)) (mo (by decide +kernel)) (das_cons (de_addD (DE.v (de_ixB (db_var (vo (by decide +kernel))) (dp_neg dp_int))) (DE.v (de_var (vo (by decide +kernel))))) das_nil)))))))) (dss_cons (ds_ret (DP.toE dp_bool))
  dss_nil) dss_nil)
  (dss_cons (ds_set (to (by decide +kernel)) (de_addD (DE.v (de_tuple (nb (by decide +kernel)) (DV.b (DN.v (dn_comp (own := [(("_law_rank" : Str), 17)]) (di_e (DE.v (de_tup (dps_cons (DP.v dp_int) (dps_cons (DP.v dp_int) (dps_cons (DP.v dp_int) dps_nil)))))) (bo (by decide +kernel)) (dg_name (to (by decide +kernel))) dts_nil (DE.v (de_tup (dps_cons (DE.v (de_var (vo (by decide +kernel)))) (dps_cons (DP.v dp_str) dps_nil)))) (by decide +kernel)))))) (DE.v (de_tup (dps_cons (DE.v (de_tup (dps_cons (DP.v dp_int) (dps_cons (DP.v dp_str) dps_nil)))) (dps_cons (DE.v (de_tup (dps_cons (DP.v dp_int) (dps_cons (DP.v dp_str) dps_nil)))) dps_nil))))))
  (dss_cons (ds_if (dt_ne (DE.v (de_call (go (by decide +kernel)) (mo (by decide +kernel)) (das_cons (de_tup (dps_cons (DE.v (de_tup (dps_cons (DP.v dp_int) (dps_cons (DP.v dp_str) dps_nil)))) (dps_cons (DE.v (de_tup (dps_cons (DP.v dp_int) (dps_cons (DP.v dp_str) dps_nil)))) dps_nil))) (das_cons (de_var (vo (by decide +kernel))) (das_cons (de_tup (dps_cons (DE.v (de_tup (dps_cons (DP.v dp_int) (dps_cons (DP.v dp_str) dps_nil)))) (dps_cons (DE.v (de_tup (dps_cons (DP.v dp_int) (dps_cons (DP.v dp_str) dps_nil)))) (dps_cons (DE.v (de_tup (dps_cons (DP.v dp_int) (dps_cons (DP.v dp_str) dps_nil)))) dps_nil)))) das_nil))))) (DV.b (DE.v (de_tup dps_nil)))) (dss_cons (ds_ret (DP.toE dp_bool))
  dss_nil) dss_nil)
  dss_nil)))))))))))))))))
  (dss_cons (ds_ret (DP.toE dp_bool))
  dss_nil)))
theorem all_mk {K : PySem.W.Frag} {h : Heap} {mg : Str → Option Value} {fa f55 f48 f49 f50 f56 f57 f67 f58 f13 f14 f51 f62 f186 f187 : Addr} (X : K.In h) (G : h.Ns mainGlobals mg) (hfa : mg "law" = some (.ref fa))
    {tT0_0_0 : Tok} {tT0_0_1 : Tok} {tT0_0_2 : Tok} {tT0_0_3 : Tok} {tA0_0 : Addr} {tN0_0 : Nat} {tH0_0 : Int} {tV0_0 : Tok} {tT0_1_0 : Tok} {tT0_1_1 : Tok} {tT0_1_2 : Tok} {tA0_1 : Addr} {tN0_1 : Nat} {tH0_1 : Int} {tV0_1 : Tok} {tT0_2_0 : Tok} {tT0_2_1 : Tok} {tT0_2_2 : Tok} {tA0_2 : Addr} {tN0_2 : Nat} {tH0_2 : Int} {tV0_2 : Tok} {tT0_3_0 : Tok} {tT0_3_1 : Tok} {tA0_3 : Addr} {tN0_3 : Nat} {tH0_3 : Int} {tV0_3 : Tok} {tT0_4_0 : Tok} {tT0_4_1 : Tok} {tA0_4 : Addr} {tN0_4 : Nat} {tH0_4 : Int} {tV0_4 : Tok} {tB0 : Addr} {tM0 : Nat} {cT0_0 : Tok} {cT0_1 : Tok} {cT0_2 : Tok} {cT0_3 : Tok} {cT0_4 : Tok} {cA0 : Addr} {cN0 : Nat} {c0 : Addr} {T0 : Addr}
    {od55 an55 od48 an48 od49 an49 od50 an50 od56 an56 od57 an57 od67 an67 od58 an58 od13 an13 od14 an14 od51 an51 od62 an62 od186 an186 od187 an187 : Option Addr} {sl55 sl48 sl49 sl50 sl56 sl57 sl67 sl58 sl13 sl14 sl51 sl62 sl186 sl187 : Array (Option Value)} {oc55 kV55 dc55 pm55 cd55 ct55 oc48 kV48 dc48 pm48 cd48 ct48 oc49 kV49 dc49 pm49 cd49 ct49 oc50 kV50 dc50 pm50 cd50 ct50 oc56 kV56 dc56 pm56 cd56 ct56 oc57 kV57 dc57 pm57 cd57 ct57 oc67 kV67 dc67 pm67 cd67 ct67 oc58 kV58 dc58 pm58 cd58 ct58 oc13 kV13 dc13 pm13 cd13 ct13 oc14 kV14 dc14 pm14 cd14 ct14 oc51 kV51 dc51 pm51 cd51 ct51 oc62 kV62 dc62 pm62 cd62 ct62 oc186 kV186 dc186 pm186 cd186 ct186 oc187 kV187 dc187 pm187 cd187 ct187 : Value}
    (tn0 : PySem.W.nsIn K mainGlobals "SHAPES" = some (some (.ref tB0)))
    (tb0 : K.lookup tB0 = some ⟨.type "dict", none, .dict [⟨tH0_0, .ref tA0_0, .int 1 tV0_0⟩, ⟨tH0_1, .ref tA0_1, .int 2 tV0_1⟩, ⟨tH0_2, .ref tA0_2, .int 3 tV0_2⟩, ⟨tH0_3, .ref tA0_3, .int 6 tV0_3⟩, ⟨tH0_4, .ref tA0_4, .int 7 tV0_4⟩].toArray tM0, #[]⟩)
    (a55 : PySem.W.nsIn K mainGlobals "choices" = some (some (.ref f55)))
    (i55 : PySem.W.isFn K (.ref f55) = true)
    (l55 : K.lookup f55 = some ⟨oc55, od55, .func (PySem.W.fnOf "choices" "choices" (defArgs s55) (defBody s55) (defScope s55) .none kV55 dc55 pm55 an55 cd55 ct55), sl55⟩)
    (c55 : PySem.W.codeIn K cd55 "choices" = true)
    (k55 : PySem.W.keepIn K (.ref f55) = true)
    (a48 : PySem.W.nsIn K mainGlobals "row_top" = some (some (.ref f48)))
    (i48 : PySem.W.isFn K (.ref f48) = true)
    (l48 : K.lookup f48 = some ⟨oc48, od48, .func (PySem.W.fnOf "row_top" "row_top" (defArgs s48) (defBody s48) (defScope s48) .none kV48 dc48 pm48 an48 cd48 ct48), sl48⟩)
    (c48 : PySem.W.codeIn K cd48 "row_top" = true)
    (k48 : PySem.W.keepIn K (.ref f48) = true)
    (a49 : PySem.W.nsIn K mainGlobals "grouped" = some (some (.ref f49)))
    (i49 : PySem.W.isFn K (.ref f49) = true)
    (l49 : K.lookup f49 = some ⟨oc49, od49, .func (PySem.W.fnOf "grouped" "grouped" (defArgs s49) (defBody s49) (defScope s49) .none kV49 dc49 pm49 an49 cd49 ct49), sl49⟩)
    (c49 : PySem.W.codeIn K cd49 "grouped" = true)
    (k49 : PySem.W.keepIn K (.ref f49) = true)
    (a50 : PySem.W.nsIn K mainGlobals "rank_of" = some (some (.ref f50)))
    (i50 : PySem.W.isFn K (.ref f50) = true)
    (l50 : K.lookup f50 = some ⟨oc50, od50, .func (PySem.W.fnOf "rank_of" "rank_of" (defArgs s50) (defBody s50) (defScope s50) .none kV50 dc50 pm50 an50 cd50 ct50), sl50⟩)
    (c50 : PySem.W.codeIn K cd50 "rank_of" = true)
    (k50 : PySem.W.keepIn K (.ref f50) = true)
    (a56 : PySem.W.nsIn K mainGlobals "best_rank" = some (some (.ref f56)))
    (i56 : PySem.W.isFn K (.ref f56) = true)
    (l56 : K.lookup f56 = some ⟨oc56, od56, .func (PySem.W.fnOf "best_rank" "best_rank" (defArgs s56) (defBody s56) (defScope s56) .none kV56 dc56 pm56 an56 cd56 ct56), sl56⟩)
    (c56 : PySem.W.codeIn K cd56 "best_rank" = true)
    (k56 : PySem.W.keepIn K (.ref f56) = true)
    (a57 : PySem.W.nsIn K mainGlobals "winners" = some (some (.ref f57)))
    (i57 : PySem.W.isFn K (.ref f57) = true)
    (l57 : K.lookup f57 = some ⟨oc57, od57, .func (PySem.W.fnOf "winners" "winners" (defArgs s57) (defBody s57) (defScope s57) .none kV57 dc57 pm57 an57 cd57 ct57), sl57⟩)
    (c57 : PySem.W.codeIn K cd57 "winners" = true)
    (k57 : PySem.W.keepIn K (.ref f57) = true)
    (a67 : PySem.W.nsIn K mainGlobals "outs" = some (some (.ref f67)))
    (i67 : PySem.W.isFn K (.ref f67) = true)
    (l67 : K.lookup f67 = some ⟨oc67, od67, .func (PySem.W.fnOf "outs" "outs" (defArgs s67) (defBody s67) (defScope s67) .none kV67 dc67 pm67 an67 cd67 ct67), sl67⟩)
    (c67 : PySem.W.codeIn K cd67 "outs" = true)
    (k67 : PySem.W.keepIn K (.ref f67) = true)
    (a58 : PySem.W.nsIn K mainGlobals "beaten_by" = some (some (.ref f58)))
    (i58 : PySem.W.isFn K (.ref f58) = true)
    (l58 : K.lookup f58 = some ⟨oc58, od58, .func (PySem.W.fnOf "beaten_by" "beaten_by" (defArgs s58) (defBody s58) (defScope s58) .none kV58 dc58 pm58 an58 cd58 ct58), sl58⟩)
    (c58 : PySem.W.codeIn K cd58 "beaten_by" = true)
    (k58 : PySem.W.keepIn K (.ref f58) = true)
    (a13 : PySem.W.nsIn K mainGlobals "_law_draw" = some (some (.ref f13)))
    (i13 : PySem.W.isFn K (.ref f13) = true)
    (l13 : K.lookup f13 = some ⟨oc13, od13, .func (PySem.W.fnOf "_law_draw" "_law_draw" (defArgs s13) (defBody s13) (defScope s13) .none kV13 dc13 pm13 an13 cd13 ct13), sl13⟩)
    (c13 : PySem.W.codeIn K cd13 "_law_draw" = true)
    (k13 : PySem.W.keepIn K (.ref f13) = true)
    (a14 : PySem.W.nsIn K mainGlobals "_law_pick" = some (some (.ref f14)))
    (i14 : PySem.W.isFn K (.ref f14) = true)
    (l14 : K.lookup f14 = some ⟨oc14, od14, .func (PySem.W.fnOf "_law_pick" "_law_pick" (defArgs s14) (defBody s14) (defScope s14) .none kV14 dc14 pm14 an14 cd14 ct14), sl14⟩)
    (c14 : PySem.W.codeIn K cd14 "_law_pick" = true)
    (k14 : PySem.W.keepIn K (.ref f14) = true)
    (a51 : PySem.W.nsIn K mainGlobals "_law_cards" = some (some (.ref f51)))
    (i51 : PySem.W.isFn K (.ref f51) = true)
    (l51 : K.lookup f51 = some ⟨oc51, od51, .func (PySem.W.fnOf "_law_cards" "_law_cards" (defArgs s51) (defBody s51) (defScope s51) .none kV51 dc51 pm51 an51 cd51 ct51), sl51⟩)
    (c51 : PySem.W.codeIn K cd51 "_law_cards" = true)
    (k51 : PySem.W.keepIn K (.ref f51) = true)
    (a62 : PySem.W.nsIn K mainGlobals "_law_twos" = some (some (.ref f62)))
    (i62 : PySem.W.isFn K (.ref f62) = true)
    (l62 : K.lookup f62 = some ⟨oc62, od62, .func (PySem.W.fnOf "_law_twos" "_law_twos" (defArgs s62) (defBody s62) (defScope s62) .none kV62 dc62 pm62 an62 cd62 ct62), sl62⟩)
    (c62 : PySem.W.codeIn K cd62 "_law_twos" = true)
    (k62 : PySem.W.keepIn K (.ref f62) = true)
    (a186 : PySem.W.nsIn K mainGlobals "_law_outs_hold" = some (some (.ref f186)))
    (i186 : PySem.W.isFn K (.ref f186) = true)
    (l186 : K.lookup f186 = some ⟨oc186, od186, .func (PySem.W.fnOf "_law_outs_hold" "_law_outs_hold" (defArgs s186) (defBody s186) (defScope s186) .none kV186 dc186 pm186 an186 cd186 ct186), sl186⟩)
    (c186 : PySem.W.codeIn K cd186 "_law_outs_hold" = true)
    (k186 : PySem.W.keepIn K (.ref f186) = true)
    (a187 : PySem.W.nsIn K mainGlobals "law" = some (some (.ref f187)))
    (i187 : PySem.W.isFn K (.ref f187) = true)
    (l187 : K.lookup f187 = some ⟨oc187, od187, .func (PySem.W.fnOf "law" "law" (defArgs s187) (defBody s187) (defScope s187) .none kV187 dc187 pm187 an187 cd187 ct187), sl187⟩)
    (c187 : PySem.W.codeIn K cd187 "law" = true)
    (k187 : PySem.W.keepIn K (.ref f187) = true)
    (z0 : PySem.W.nsIn K mainGlobals "any" = some none)
    (z1 : PySem.W.nsIn K mainGlobals "enumerate" = some none)
    (z2 : PySem.W.nsIn K mainGlobals "len" = some none)
    (z3 : PySem.W.nsIn K mainGlobals "list" = some none)
    (z4 : PySem.W.nsIn K mainGlobals "max" = some none)
    (z5 : PySem.W.nsIn K mainGlobals "range" = some none)
    (z6 : PySem.W.nsIn K mainGlobals "set" = some none)
    (z7 : PySem.W.nsIn K mainGlobals "sorted" = some none)
    (z8 : PySem.W.nsIn K mainGlobals "tuple" = some none)
    (tk0_0 : K.lookup tA0_0 = some ⟨.type "tuple", none, .seq [.int 2 tT0_0_0, .int 1 tT0_0_1, .int 1 tT0_0_2, .int 1 tT0_0_3].toArray tN0_0, #[]⟩)
    (th0_0 : tH0_0 = hashT [2, 1, 1, 1])
    (tk0_1 : K.lookup tA0_1 = some ⟨.type "tuple", none, .seq [.int 2 tT0_1_0, .int 2 tT0_1_1, .int 1 tT0_1_2].toArray tN0_1, #[]⟩)
    (th0_1 : tH0_1 = hashT [2, 2, 1])
    (tk0_2 : K.lookup tA0_2 = some ⟨.type "tuple", none, .seq [.int 3 tT0_2_0, .int 1 tT0_2_1, .int 1 tT0_2_2].toArray tN0_2, #[]⟩)
    (th0_2 : tH0_2 = hashT [3, 1, 1])
    (tk0_3 : K.lookup tA0_3 = some ⟨.type "tuple", none, .seq [.int 3 tT0_3_0, .int 2 tT0_3_1].toArray tN0_3, #[]⟩)
    (th0_3 : tH0_3 = hashT [3, 2])
    (tk0_4 : K.lookup tA0_4 = some ⟨.type "tuple", none, .seq [.int 4 tT0_4_0, .int 1 tT0_4_1].toArray tN0_4, #[]⟩)
    (th0_4 : tH0_4 = hashT [4, 1])
    (cn0 : PySem.W.nsIn K mainGlobals "LOW_ROW" = some (some (.ref cA0)))
    (ct0 : K.lookup cA0 = some ⟨.type "tuple", none, .seq [.int 14 cT0_0, .int 5 cT0_1, .int 4 cT0_2, .int 3 cT0_3, .int 2 cT0_4].toArray cN0, #[]⟩)
    (ctb : codeTab K cd187 = some (c0, T0))
    : ∃ (I : Inf) (fd : FuncData) (c T : Addr) (qual : Str), (∀ (s : Shared) (u : Value), BindsTo s fd ⟨[u], []⟩ [(("_law_script" : Str), u)]) ∧ GS K mg I Γ0 ∧ codeTab K fd.code = some (c, T) ∧ I.ci.tbs = [(T, qual ++ ".<locals>." ++ "<lambda>")] ∧ ∃ (x : Str) (st : Stmt) (N : List Str) (dd : FnD), Fun K x qual st fa fd ∧ FnScope N [("_law_script" : Str)] (defScope st) ∧ Γ0.fns 187 = some dd ∧ dd.np = 1 ∧ N.length = dd.ns ∧ DSs Γ0 N (lamSco st) (defBody st) dd.body := by
  have e := hfa.symm.trans (PySem.W.mg_of X G a187)
  cases e
  have F55 := fun_mk (st := s55) l55 c55 k55
  have B55 := F55.binds (ps := [("cards" : Str), ("many" : Str)]) fun _ _ _ _ _ _ us hl => match us, hl with | [_, _], _ => rfl
  have S55 : FnScope N55 [("cards" : Str), ("many" : Str)] (defScope s55) := fs (by decide +kernel)
  have g55 : FnSt Γ0 K 55 _ := ⟨k55, i55, _, _, s55, _, N55, _, _, F55, S55, B55, rfl, rfl, rfl, ds55⟩
  have F48 := fun_mk (st := s48) l48 c48 k48
  have B48 := F48.binds (ps := [("ranks" : Str)]) fun _ _ _ _ _ _ us hl => match us, hl with | [_], _ => rfl
  have S48 : FnScope N48 [("ranks" : Str)] (defScope s48) := fs (by decide +kernel)
  have g48 : FnSt Γ0 K 48 _ := ⟨k48, i48, _, _, s48, _, N48, _, _, F48, S48, B48, rfl, rfl, rfl, ds48⟩
  have F49 := fun_mk (st := s49) l49 c49 k49
  have B49 := F49.binds (ps := [("five" : Str)]) fun _ _ _ _ _ _ us hl => match us, hl with | [_], _ => rfl
  have S49 : FnScope N49 [("five" : Str)] (defScope s49) := fs (by decide +kernel)
  have g49 : FnSt Γ0 K 49 _ := ⟨k49, i49, _, _, s49, _, N49, _, _, F49, S49, B49, rfl, rfl, rfl, ds49⟩
  have F50 := fun_mk (st := s50) l50 c50 k50
  have B50 := F50.binds (ps := [("five" : Str)]) fun _ _ _ _ _ _ us hl => match us, hl with | [_], _ => rfl
  have S50 : FnScope N50 [("five" : Str)] (defScope s50) := fs (by decide +kernel)
  have g50 : FnSt Γ0 K 50 _ := ⟨k50, i50, _, _, s50, _, N50, _, _, F50, S50, B50, rfl, rfl, rfl, ds50⟩
  have F56 := fun_mk (st := s56) l56 c56 k56
  have B56 := F56.binds (ps := [("cards" : Str)]) fun _ _ _ _ _ _ us hl => match us, hl with | [_], _ => rfl
  have S56 : FnScope N56 [("cards" : Str)] (defScope s56) := fs (by decide +kernel)
  have g56 : FnSt Γ0 K 56 _ := ⟨k56, i56, _, _, s56, _, N56, _, _, F56, S56, B56, rfl, rfl, rfl, ds56⟩
  have F57 := fun_mk (st := s57) l57 c57 k57
  have B57 := F57.binds (ps := [("holes" : Str), ("board" : Str)]) fun _ _ _ _ _ _ us hl => match us, hl with | [_, _], _ => rfl
  have S57 : FnScope N57 [("holes" : Str), ("board" : Str)] (defScope s57) := fs (by decide +kernel)
  have g57 : FnSt Γ0 K 57 _ := ⟨k57, i57, _, _, s57, _, N57, _, _, F57, S57, B57, rfl, rfl, rfl, ds57⟩
  have F67 := fun_mk (st := s67) l67 c67 k67
  have B67 := F67.binds (ps := [("holes" : Str), ("board" : Str), ("stub" : Str), ("seat" : Str)]) fun _ _ _ _ _ _ us hl => match us, hl with | [_, _, _, _], _ => rfl
  have S67 : FnScope N67 [("holes" : Str), ("board" : Str), ("stub" : Str), ("seat" : Str)] (defScope s67) := fs (by decide +kernel)
  have g67 : FnSt Γ0 K 67 _ := ⟨k67, i67, _, _, s67, _, N67, _, _, F67, S67, B67, rfl, rfl, rfl, ds67⟩
  have F58 := fun_mk (st := s58) l58 c58 k58
  have B58 := F58.binds (ps := [("hole" : Str), ("board" : Str), ("stub" : Str)]) fun _ _ _ _ _ _ us hl => match us, hl with | [_, _, _], _ => rfl
  have S58 : FnScope N58 [("hole" : Str), ("board" : Str), ("stub" : Str)] (defScope s58) := fs (by decide +kernel)
  have g58 : FnSt Γ0 K 58 _ := ⟨k58, i58, _, _, s58, _, N58, _, _, F58, S58, B58, rfl, rfl, rfl, ds58⟩
  have F13 := fun_mk (st := s13) l13 c13 k13
  have B13 := F13.binds (ps := [("_law_script" : Str), ("_law_town" : Str), ("_law_many" : Str)]) fun _ _ _ _ _ _ us hl => match us, hl with | [_, _, _], _ => rfl
  have S13 : FnScope N13 [("_law_script" : Str), ("_law_town" : Str), ("_law_many" : Str)] (defScope s13) := fs (by decide +kernel)
  have g13 : FnSt Γ0 K 13 _ := ⟨k13, i13, _, _, s13, _, N13, _, _, F13, S13, B13, rfl, rfl, rfl, ds13⟩
  have F14 := fun_mk (st := s14) l14 c14 k14
  have B14 := F14.binds (ps := [("_law_script" : Str), ("_law_town" : Str), ("_law_some" : Str)]) fun _ _ _ _ _ _ us hl => match us, hl with | [_, _, _], _ => rfl
  have S14 : FnScope N14 [("_law_script" : Str), ("_law_town" : Str), ("_law_some" : Str)] (defScope s14) := fs (by decide +kernel)
  have g14 : FnSt Γ0 K 14 _ := ⟨k14, i14, _, _, s14, _, N14, _, _, F14, S14, B14, rfl, rfl, rfl, ds14⟩
  have F51 := fun_mk (st := s51) l51 c51 k51
  have B51 := F51.binds (ps := [("_law_script" : Str), ("_law_town" : Str), ("_law_many" : Str)]) fun _ _ _ _ _ _ us hl => match us, hl with | [_, _, _], _ => rfl
  have S51 : FnScope N51 [("_law_script" : Str), ("_law_town" : Str), ("_law_many" : Str)] (defScope s51) := fs (by decide +kernel)
  have g51 : FnSt Γ0 K 51 _ := ⟨k51, i51, _, _, s51, _, N51, _, _, F51, S51, B51, rfl, rfl, rfl, ds51⟩
  have F62 := fun_mk (st := s62) l62 c62 k62
  have B62 := F62.binds (ps := [("_law_cards_here" : Str)]) fun _ _ _ _ _ _ us hl => match us, hl with | [_], _ => rfl
  have S62 : FnScope N62 [("_law_cards_here" : Str)] (defScope s62) := fs (by decide +kernel)
  have g62 : FnSt Γ0 K 62 _ := ⟨k62, i62, _, _, s62, _, N62, _, _, F62, S62, B62, rfl, rfl, rfl, ds62⟩
  have F186 := fun_mk (st := s186) l186 c186 k186
  have B186 := F186.binds (ps := [("_law_holes" : Str), ("_law_board" : Str), ("_law_stub" : Str)]) fun _ _ _ _ _ _ us hl => match us, hl with | [_, _, _], _ => rfl
  have S186 : FnScope N186 [("_law_holes" : Str), ("_law_board" : Str), ("_law_stub" : Str)] (defScope s186) := fs (by decide +kernel)
  have g186 : FnSt Γ0 K 186 _ := ⟨k186, i186, _, _, s186, _, N186, _, _, F186, S186, B186, rfl, rfl, rfl, ds186⟩
  have F187 := fun_mk (st := s187) l187 c187 k187
  have B187 := F187.binds (ps := [("_law_script" : Str)]) fun _ _ _ _ _ _ us hl => match us, hl with | [_], _ => rfl
  have S187 : FnScope N187 [("_law_script" : Str)] (defScope s187) := fs (by decide +kernel)
  refine ⟨⟨⟨fun c => none, [(T0, "law" ++ ".<locals>." ++ "<lambda>")]⟩, fun c => none⟩, _, c0, T0, "law", fun s v => .of_eq rfl, ⟨(List.forall_mem_cons.mpr ⟨⟨_, PySem.W.mg_of X G a55, g55⟩, (List.forall_mem_cons.mpr ⟨⟨_, PySem.W.mg_of X G a48, g48⟩, (List.forall_mem_cons.mpr ⟨⟨_, PySem.W.mg_of X G a49, g49⟩, (List.forall_mem_cons.mpr ⟨⟨_, PySem.W.mg_of X G a50, g50⟩, (List.forall_mem_cons.mpr ⟨⟨_, PySem.W.mg_of X G a56, g56⟩, (List.forall_mem_cons.mpr ⟨⟨_, PySem.W.mg_of X G a57, g57⟩, (List.forall_mem_cons.mpr ⟨⟨_, PySem.W.mg_of X G a67, g67⟩, (List.forall_mem_cons.mpr ⟨⟨_, PySem.W.mg_of X G a58, g58⟩, (List.forall_mem_cons.mpr ⟨⟨_, PySem.W.mg_of X G a13, g13⟩, (List.forall_mem_cons.mpr ⟨⟨_, PySem.W.mg_of X G a14, g14⟩, (List.forall_mem_cons.mpr ⟨⟨_, PySem.W.mg_of X G a51, g51⟩, (List.forall_mem_cons.mpr ⟨⟨_, PySem.W.mg_of X G a62, g62⟩, (List.forall_mem_cons.mpr ⟨⟨_, PySem.W.mg_of X G a186, g186⟩, (List.forall_mem_nil _)⟩)⟩)⟩)⟩)⟩)⟩)⟩)⟩)⟩)⟩)⟩)⟩)⟩), (List.forall_mem_cons.mpr ⟨(PySem.W.mg_none_of X G z0), (List.forall_mem_cons.mpr ⟨(PySem.W.mg_none_of X G z1), (List.forall_mem_cons.mpr ⟨(PySem.W.mg_none_of X G z2), (List.forall_mem_cons.mpr ⟨(PySem.W.mg_none_of X G z3), (List.forall_mem_cons.mpr ⟨(PySem.W.mg_none_of X G z4), (List.forall_mem_cons.mpr ⟨(PySem.W.mg_none_of X G z5), (List.forall_mem_cons.mpr ⟨(PySem.W.mg_none_of X G z6), (List.forall_mem_cons.mpr ⟨(PySem.W.mg_none_of X G z7), (List.forall_mem_cons.mpr ⟨(PySem.W.mg_none_of X G z8), (List.forall_mem_nil _)⟩)⟩)⟩)⟩)⟩)⟩)⟩)⟩)⟩), ?con, ?cl, ?mt, ?fl, ?ci, ?xc, ?xm, ?tb, ?st, ?ho⟩, ctb, rfl, _, s187, N187, _, F187, S187, rfl, rfl, rfl, ds187⟩
  case con => exact (List.forall_mem_cons.mpr ⟨⟨_, .ref cA0, PySem.W.mg_of X G cn0, rfl, (con_tup ct0 (by show 5 ≤ 1000; decide) (.cons (show RelV (.int 14) _ from ⟨_, rfl⟩) (.cons (show RelV (.int 5) _ from ⟨_, rfl⟩) (.cons (show RelV (.int 4) _ from ⟨_, rfl⟩) (.cons (show RelV (.int 3) _ from ⟨_, rfl⟩) (.cons (show RelV (.int 2) _ from ⟨_, rfl⟩) .nil))))) fun F H => (.cons (.int _) (.cons (.int _) (.cons (.int _) (.cons (.int _) (.cons (.int _) .nil))))))⟩, (List.forall_mem_nil _)⟩)
  case ho => exact List.forall_mem_nil _
  case tb => exact (List.forall_mem_cons.mpr ⟨⟨tB0, PySem.W.mg_of X G tn0, _, _, tb0, ⟨tab_ent th0_0 tk0_0 (.cons _ _ (.cons _ _ (.cons _ _ (.cons _ _ .nil)))), ⟨tab_ent th0_1 tk0_1 (.cons _ _ (.cons _ _ (.cons _ _ .nil))), ⟨tab_ent th0_2 tk0_2 (.cons _ _ (.cons _ _ (.cons _ _ .nil))), ⟨tab_ent th0_3 tk0_3 (.cons _ _ (.cons _ _ .nil)), ⟨tab_ent th0_4 tk0_4 (.cons _ _ (.cons _ _ .nil)), trivial⟩⟩⟩⟩⟩, by decide⟩, (List.forall_mem_nil _)⟩)
  case st => exact (List.forall_mem_nil _)
  case cl => exact List.forall_mem_nil _
  case mt => exact List.forall_mem_nil _
  case fl => exact List.forall_mem_nil _
  case ci => exact fun c D nm h => by cases h
  case xc => exact (List.forall_mem_nil _)
  case xm => exact fun c D c2 D2 h1 _ => by cases h1
end Cd
set_option Elab.async false
set_option linter.all false
set_option maxRecDepth 100000
set_option maxHeartbeats 4000000
namespace Cd
open PySem L2
theorem call_eq {fns : Nat → Option FnD} {n f : Nat} {args : List Val} {h : Hi} {d : FnD} (e : fns f = some d) (hl : args.length = d.np) : callF fns (n + 1) f args h = finF h.length (evalSs (callF fns n) d.body (startE d args) h) := by
  show (match fns f with
    | none => R.stuck
    | some d => if args.length = d.np then finF h.length (evalSs (callF fns n) d.body (startE d args) h) else .stuck) = _
  rw [e]
  exact if_pos hl
section
variable {cf : Calls} {env : Ev} {h : Hi} {a b c e : E} {i j : Nat} {d : PyData}
@[simp] theorem ev_var : evalE cf env (.var i) h = ofO (slot env i) h := id rfl
@[simp] theorem ev_lit : evalE cf env (.lit d) h = .ok (.p d) h := id rfl
@[simp] theorem ev_fld : evalE cf env (.fld i j) h = ofO ((insOf env h i).bind fun p => fldK p.2.2[j]?) h := id rfl
@[simp] theorem ev_op1 {o : O1} : evalE cf env (.op1 o a) h = (bor env h a (evalE cf env a h)).bind fun x h1 => ofO ((opf1 o x).map .p) h1 := id rfl
@[simp] theorem ev_op2 {o : O2} : evalE cf env (.op2 o a b) h = ((evalE cf env a h).bind unP).bind fun x h1 => (bor env h1 b (evalE cf env b h1)).bind fun y h2 => ofO ((opf2 o x y).map .p) h2 := id rfl
@[simp] theorem ev_op2b {o : O2} : evalE cf env (.op2b o a b) h = (bor env h a (evalE cf env a h)).bind fun x h1 => ((evalE cf env b h1).bind unP).bind fun y h2 => ofO ((opf2 o x y).map .p) h2 := id rfl
@[simp] theorem ev_op2d {o : O2} : evalE cf env (.op2d o a b) h = ((evalE cf env a h).bind unP).bind fun x h1 => ((evalE cf env b h1).bind unP).bind fun y h2 => ofO ((opf2 o x y).map .p) h2 := id rfl
@[simp] theorem ev_op3b {o : O3} : evalE cf env (.op3b o a b c) h = (bor env h a (evalE cf env a h)).bind fun x h1 => ((evalE cf env b h1).bind unP).bind fun y h2 => ((evalE cf env c h2).bind unP).bind fun z h3 => ofO ((opf3 o x y z).map .p) h3 := id rfl
@[simp] theorem ev_and : evalE cf env (.and_ a b) h = (evalE cf env a h).bind fun v h1 => andK (fun h2 => evalE cf env b h2) v h1 := id rfl
@[simp] theorem ev_or : evalE cf env (.or_ a b) h = (evalE cf env a h).bind fun v h1 => orK (fun h2 => evalE cf env b h2) v h1 := id rfl
@[simp] theorem ev_not : evalE cf env (.not_ a) h = (evalE cf env a h).bind notK := id rfl
@[simp] theorem ev_ite {t : Te} : evalE cf env (.ite t a b) h = (evalT cf env t h).bind fun k h1 => ifK (fun h2 => evalE cf env a h2) (fun h2 => evalE cf env b h2) k h1 := id rfl
@[simp] theorem ev_tup {es : List E} : evalE cf env (.tup es) h = (evalPs cf env es h).bind fun ds h1 => .ok (.p (.tuple ds)) h1 := id rfl
@[simp] theorem ev_lst {es : List E} : evalE cf env (.lst es) h = (evalPs cf env es h).bind fun ds h1 => .ok (.p (.list ds)) h1 := id rfl
@[simp] theorem ev_call {f : Nat} {es : List E} : evalE cf env (.call f es) h = (evalEs cf env es h).bind fun vs h1 => cf f vs h1 := id rfl
@[simp] theorem ev_meth {k f : Nat} {es : List E} : evalE cf env (.meth k f i es) h = match methOk env h k i with
    | none => .stuck
    | some n => (evalEs cf env es h).bind fun vs h1 => cf f (.ref n :: vs) h1 := id rfl
@[simp] theorem ev_new {k f : Nat} {es : List E} : evalE cf env (.new k f es) h = (evalEs cf env es h).bind fun vs h1 => (noX (cf f (.ref h1.length :: vs) (h1 ++ [.ins k []]))).bind fun v h2 => newK h1.length v h2 := id rfl
theorem ev_comp {own : List Nat} {t : Tg} {src : Src} {cond : List Te} {elt : E} : evalE cf env (.comp own t src cond elt) h = (evalSrc cf env src h).bind fun items h1 =>
    compK2 (compL (fun e h => (evalE cf e elt h).bind unP) (fun e h => evalTs cf e cond h) (fun x e => bindT t x e) (wipeE env own)) items h1 := id rfl
@[simp] theorem ev_isi {t : Ty} : evalE cf env (.isi a t) h = ((evalE cf env a h).bind unP).bind fun d h1 => .ok (.p (.bool (isTy t d))) h1 := id rfl
@[simp] theorem ev_pop : evalE cf env (.pop i a) h = match lstOf env h i with
    | none => .stuck
    | some _ => ((evalE cf env a h).bind unP).bind fun d h1 => popK env i d h1 := id rfl
@[simp] theorem ev_mk : evalE cf env (.mk a) h = ((evalE cf env a h).bind unP).bind mkK := id rfl
@[simp] theorem et_and {s t : Te} : evalT cf env (.and_ s t) h = (evalT cf env s h).bind fun k h1 => ifK (fun h2 => evalT cf env t h2) (fun h2 => .ok false h2) k h1 := id rfl
@[simp] theorem et_or {s t : Te} : evalT cf env (.or_ s t) h = (evalT cf env s h).bind fun k h1 => ifK (fun h2 => .ok true h2) (fun h2 => evalT cf env t h2) k h1 := id rfl
@[simp] theorem et_not {s : Te} : evalT cf env (.not_ s) h = (evalT cf env s h).bind fun k h1 => .ok (!k) h1 := id rfl
@[simp] theorem et_val : evalT cf env (.val e) h = (bor env h e (evalE cf env e h)).bind fun d h1 => ofO (truthD d) h1 := id rfl
@[simp] theorem ets_nil : evalTs cf env [] h = .ok true h := id rfl
@[simp] theorem ets_cons {t : Te} {ts : List Te} : evalTs cf env (t :: ts) h = (evalT cf env t h).bind fun k h1 => ifK (fun h2 => evalTs cf env ts h2) (fun h2 => .ok false h2) k h1 := id rfl
@[simp high] theorem ets_one {t : Te} : evalTs cf env [t] h = evalT cf env t h := by
  show ((evalT cf env t h).bind fun k h1 => ifK (fun h2 => R.ok true h2) (fun h2 => .ok false h2) k h1) = _
  cases evalT cf env t h with
  | ok k h1 => cases k <;> rfl
  | exc e h1 => rfl
  | stuck => rfl
@[simp] theorem ees_nil : evalEs cf env [] h = .ok [] h := id rfl
@[simp] theorem ees_cons {es : List E} : evalEs cf env (e :: es) h = (evalE cf env e h).bind fun v h1 => (evalEs cf env es h1).bind fun vs h2 => .ok (v :: vs) h2 := id rfl
@[simp] theorem eps_nil : evalPs cf env [] h = .ok [] h := id rfl
@[simp] theorem eps_cons {es : List E} : evalPs cf env (e :: es) h = ((evalE cf env e h).bind unP).bind fun v h1 => (evalPs cf env es h1).bind fun vs h2 => .ok (v :: vs) h2 := id rfl
@[simp] theorem es_e : evalSrc cf env (.e a) h = ((evalE cf env a h).bind unP).bind fun d h1 => ofO (itemsOf d) h1 := id rfl
@[simp] theorem es_rng1 : evalSrc cf env (.rng1 a) h = ((evalE cf env a h).bind unP).bind rng1K := id rfl
@[simp] theorem es_rng2 : evalSrc cf env (.rng2 a b) h = ((evalE cf env a h).bind unP).bind fun d h1 => ((evalE cf env b h1).bind unP).bind fun e h2 => rng2K d e h2 := id rfl
@[simp] theorem es_enum : evalSrc cf env (.enum a) h = ((evalE cf env a h).bind unP).bind fun d h1 => ofO ((itemsOf d).map (enumFrom 0)) h1 := id rfl
@[simp] theorem es_zip : evalSrc cf env (.zip a b) h = ((evalE cf env a h).bind unP).bind fun d h1 => ((evalE cf env b h1).bind unP).bind fun e h2 => ofO ((itemsOf d).bind fun xs => (itemsOf e).map fun ys => zipD xs ys) h2 := id rfl
@[simp] theorem ss_nil : evalSs cf [] env h = .ok .nx env h := id rfl
@[simp] theorem ss_cons {s : S} {r : List S} : evalSs cf (s :: r) env h = (evalS cf s env h).bind (evalSs cf r) := id rfl
@[simp] theorem st_set : evalS cf (.set i e) env h = (evalE cf env e h).toS env fun v h1 => .ok .nx (setSlot env i (some v)) h1 := id rfl
@[simp] theorem st_set2 : evalS cf (.set2 i j a b) env h = (evalE cf env a h).toS env fun v h1 => (evalE cf env b h1).toS env fun w h2 => .ok .nx (setSlot (setSlot env i (some v)) j (some w)) h2 := id rfl
@[simp] theorem st_set3 {l : Nat} : evalS cf (.set3 i j l a b c) env h = (evalE cf env a h).toS env fun u h1 => (evalE cf env b h1).toS env fun v h2 => (evalE cf env c h2).toS env fun w h3 => .ok .nx (setSlot (setSlot (setSlot env i (some u)) j (some v)) l (some w)) h3 := id rfl
@[simp] theorem st_unpack {t : Tg} : evalS cf (.unpack t e) env h = ((evalE cf env e h).bind unP).toS env fun d h1 => match bindT t d env with
    | some env1 => .ok .nx env1 h1
    | none => .stuck := id rfl
@[simp] theorem st_setFld : evalS cf (.setFld i j e) env h = ((evalE cf env e h).bind unP).toS env fun d h1 => ofH env (setFldH env i j (.p d) h1) := id rfl
@[simp] theorem st_newFld : evalS cf (.newFld i j e) env h = ((evalE cf env e h).bind unP).toS env fun d h1 => ofH env ((listD d).bind fun ts => setFldH env i j (.l ts) h1) := id rfl
@[simp] theorem st_setIx {p q : E} : evalS cf (.setIx p q e) env h = ((evalE cf env e h).bind unP).toS env fun d h1 => match getL env h1 p with
    | none => .stuck
    | some _ => ((evalE cf env q h1).bind unP).toS env fun k h2 => ofH env (setIxH env p k d h2) := id rfl
@[simp] theorem st_app {p : E} : evalS cf (.app p e) env h = match getL env h p with
    | none => .stuck
    | some _ => ((evalE cf env e h).bind unP).toS env fun d h1 => ofH env (appH env p d h1) := id rfl
@[simp] theorem st_ext {p : E} : evalS cf (.ext p e) env h = match getL env h p with
    | none => .stuck
    | some _ => ((evalE cf env e h).bind unP).toS env fun d h1 => ofH env (extH env p d h1) := id rfl
@[simp] theorem st_expr : evalS cf (.expr e) env h = (evalE cf env e h).toS env fun _ h1 => .ok .nx env h1 := id rfl
@[simp] theorem st_if {t : Te} {x y : List S} : evalS cf (.if_ t x y) env h = (evalT cf env t h).toS env fun k h1 => if k then evalSs cf x env h1 else evalSs cf y env h1 := id rfl
@[simp] theorem st_for {t : Tg} {src : Src} {body : List S} : evalS cf (.for_ t src body) env h = (evalSrc cf env src h).toS env fun items h1 => forL (evalSs cf body) (bindT t) items env h1 := id rfl
@[simp] theorem st_ret : evalS cf (.ret e) env h = (evalE cf env e h).toS env fun v h1 => .ok (.rt v) env h1 := id rfl
@[simp] theorem st_raise {k : Nat} {es : List E} : evalS cf (.raise_ k es) env h = (evalPs cf env es h).toS env fun ds h1 => .exc ⟨k, ds⟩ env h1 := id rfl
@[simp] theorem st_pass : evalS cf .pass env h = .ok .nx env h := id rfl
@[simp] theorem st_brk : evalS cf .brk env h = .ok .bk env h := id rfl
@[simp] theorem st_cont : evalS cf .cont env h = .ok .ct env h := id rfl
end
@[simp] theorem unP_p {d : PyData} {h : Hi} : unP (.p d) h = .ok d h := id rfl
@[simp] theorem slot_0 {v : Option Val} {r : Ev} : slot (v :: r) 0 = v := id rfl
@[simp] theorem slot_s {v : Option Val} {r : Ev} {i : Nat} : slot (v :: r) (i + 1) = slot r i := id rfl
@[simp] theorem setSlot_0 {v w : Option Val} {r : Ev} : setSlot (v :: r) 0 w = w :: r := id rfl
@[simp] theorem setSlot_s {v w : Option Val} {r : Ev} {i : Nat} : setSlot (v :: r) (i + 1) w = v :: setSlot r i w := id rfl
@[simp] theorem startE_eq {np ns : Nat} {b : List S} {args : List Val} : startE ⟨np, ns, b⟩ args = args.map some ++ List.replicate (ns - args.length) none := id rfl
@[simp] theorem fin_rp {n : Nat} {d : PyData} {env : Ev} {h : Hi} : finF n (.ok (.rt (.p d)) env h) = .ok (.p d) (h.take n) := id rfl
@[simp] theorem fin_rr {n m : Nat} {env : Ev} {h : Hi} : finF n (.ok (.rt (.ref m)) env h) = .ok (.ref m) h := id rfl
@[simp] theorem fin_nx {n : Nat} {env : Ev} {h : Hi} : finF n (.ok .nx env h) = .ok (.p .none) (h.take n) := id rfl
@[simp] theorem fin_exc {n : Nat} {e : Ex} {env : Ev} {h : Hi} : finF n (.exc e env h) = .exc e (h.take n) := id rfl
@[simp] theorem ifK_eq {α : Type} {a b : Hi → R α} {k : Bool} {h : Hi} : ifK a b k h = if k = true then a h else b h := id rfl
@[simp] theorem andK_t {f : Hi → R Val} {h : Hi} {b : Bool} : andK f (.p (.bool b)) h = if b = true then f h else .ok (.p (.bool false)) h := by cases b <;> rfl
@[simp] theorem orK_t {f : Hi → R Val} {h : Hi} {b : Bool} : orK f (.p (.bool b)) h = if b = true then .ok (.p (.bool true)) h else f h := by cases b <;> rfl
@[simp] theorem notK_t {h : Hi} {b : Bool} : notK (.p (.bool b)) h = .ok (.p (.bool !b)) h := id rfl
@[simp] theorem truth_b {b : Bool} : truthD (.bool b) = some b := id rfl
@[simp] theorem truth_i {i : Int} : truthD (.int i) = some (i != 0) := id rfl
@[simp] theorem truth_l {ts : List PyData} : truthD (.list ts) = some (!ts.isEmpty) := id rfl
@[simp] theorem truth_t {ts : List PyData} : truthD (.tuple ts) = some (!ts.isEmpty) := id rfl
@[simp] theorem o_add {i j : Int} : opf2 .add (.int i) (.int j) = some (.int (i + j)) := id rfl
@[simp] theorem o_addI {i j : Int} : opf2 .addI (.int i) (.int j) = some (.int (i + j)) := id rfl
@[simp] theorem o_addT {xs ys : List PyData} : opf2 .add (.tuple xs) (.tuple ys) = if xs.length + ys.length ≤ sizeLine then some (.tuple (xs ++ ys)) else none := id rfl
@[simp] theorem o_sub {i j : Int} : opf2 .sub (.int i) (.int j) = some (.int (i - j)) := id rfl
theorem o_mul {i j : Int} (h : small64 i = true ∨ small64 j = true) : opf2 .mul (.int i) (.int j) = some (.int (i * j)) := by
  show (if small64 i || small64 j then some (PyData.int (i * j)) else none) = _
  rw [if_pos (by simpa using h)]
theorem o_mod {i j : Int} (h : j ≠ 0) : opf2 .mod (.int i) (.int j) = some (.int (i.fmod j)) := if_neg h
theorem o_div {i j : Int} (h : j ≠ 0) (h2 : j.natAbs < 1073741824) : opf2 .fdiv (.int i) (.int j) = some (.int (i.fdiv j)) := if_pos (by simp [h, h2])
@[simp] theorem o_lt {i j : Int} : opf2 .lt (.int i) (.int j) = some (.bool (decide (i < j))) := id rfl
@[simp] theorem o_le {i j : Int} : opf2 .le (.int i) (.int j) = some (.bool (decide (i ≤ j))) := id rfl
@[simp] theorem o_gt {i j : Int} : opf2 .gt (.int i) (.int j) = some (.bool (decide (j < i))) := id rfl
@[simp] theorem o_ge {i j : Int} : opf2 .ge (.int i) (.int j) = some (.bool (decide (j ≤ i))) := id rfl
@[simp] theorem o_max2 {i j : Int} : opf2 .max2 (.int i) (.int j) = some (.int (if j > i then j else i)) := id rfl
@[simp] theorem o_min2 {i j : Int} : opf2 .min2 (.int i) (.int j) = some (.int (if j < i then j else i)) := id rfl
@[simp] theorem o_ixL {xs : List PyData} {i : Int} : opf2 .ix (.list xs) (.int i) = atI xs i := id rfl
@[simp] theorem o_ixT {xs : List PyData} {i : Int} : opf2 .ix (.tuple xs) (.int i) = atI xs i := id rfl
@[simp] theorem o_neg {i : Int} : opf1 .neg (.int i) = some (.int (-i)) := id rfl
@[simp] theorem o_lenL {xs : List PyData} : opf1 .len (.list xs) = some (.int xs.length) := id rfl
@[simp] theorem o_lenT {xs : List PyData} : opf1 .len (.tuple xs) = some (.int xs.length) := id rfl
@[simp] theorem o_tupL {xs : List PyData} : opf1 .tuple (.list xs) = some (.tuple xs) := id rfl
@[simp] theorem o_tupT {xs : List PyData} : opf1 .tuple (.tuple xs) = some (.tuple xs) := id rfl
@[simp] theorem o_lstL {xs : List PyData} : opf1 .list (.list xs) = some (.list xs) := id rfl
@[simp] theorem o_lstT {xs : List PyData} : opf1 .list (.tuple xs) = some (.list xs) := id rfl
@[simp] theorem o_isNone {d : PyData} : opf1 .isNone d = some (.bool (isNoneD d)) := id rfl
@[simp] theorem o_notNone {d : PyData} : opf1 .notNone d = some (.bool (!isNoneD d)) := id rfl
@[simp] theorem intsD_map (ns : List Int) : intsD (ns.map .int) = some ns := by
  induction ns with
  | nil => rfl
  | cons n r ih => simp only [List.map_cons, intsD, ih, Option.map_some]
@[simp] theorem boolsD_map (ns : List Bool) : boolsD (ns.map .bool) = some ns := by
  induction ns with
  | nil => rfl
  | cons n r ih => simp only [List.map_cons, boolsD, ih, Option.map_some]
@[simp] theorem o_sumL {ns : List Int} : opf1 .sum (.list (ns.map .int)) = some (.int ns.sum) := by show (intsD _).map _ = _; rw [intsD_map]; rfl
@[simp] theorem o_sumT {ns : List Int} : opf1 .sum (.tuple (ns.map .int)) = some (.int ns.sum) := by show (intsD _).map _ = _; rw [intsD_map]; rfl
@[simp] theorem o_allL {ns : List Bool} : opf1 .all (.list (ns.map .bool)) = some (.bool (ns.all id)) := by show (boolsD _).map _ = _; rw [boolsD_map]; rfl
@[simp] theorem o_anyL {ns : List Bool} : opf1 .any (.list (ns.map .bool)) = some (.bool (ns.any id)) := by show (boolsD _).map _ = _; rw [boolsD_map]; rfl
@[simp] theorem items_L {xs : List PyData} : itemsOf (.list xs) = some xs := id rfl
@[simp] theorem items_T {xs : List PyData} : itemsOf (.tuple xs) = some xs := id rfl
@[simp] theorem bt_name {i : Nat} {d : PyData} {env : Ev} : bindT (.name i) d env = some (setSlot env i (some (.p d))) := id rfl
@[simp] theorem bt_tup {ts : List Tg} {ds : List PyData} {env : Ev} : bindT (.tup ts) (.tuple ds) env = bindTs ts ds env := id rfl
@[simp] theorem bts_nil {env : Ev} : bindTs [] [] env = some env := id rfl
@[simp] theorem bts_cons {t : Tg} {ts : List Tg} {d : PyData} {ds : List PyData} {env : Ev} : bindTs (t :: ts) (d :: ds) env = (bindT t d env).bind (bindTs ts ds) := id rfl
@[simp] theorem wipe_nil {env : Ev} : wipeE env [] = env := id rfl
@[simp] theorem wipe_cons {env : Ev} {v : Nat} {vs : List Nat} : wipeE env (v :: vs) = setSlot (wipeE env vs) v none := id rfl
section
variable {env : Ev} {h : Hi} {i : Nat} {r : R Val}
@[simp] theorem bor_op1 {o : O1} {a : E} : bor env h (.op1 o a) r = r.bind unP := id rfl
@[simp] theorem bor_op2 {o : O2} {a b : E} : bor env h (.op2 o a b) r = r.bind unP := id rfl
@[simp] theorem bor_op2b {o : O2} {a b : E} : bor env h (.op2b o a b) r = r.bind unP := id rfl
@[simp] theorem bor_op2d {o : O2} {a b : E} : bor env h (.op2d o a b) r = r.bind unP := id rfl
@[simp] theorem bor_op3b {o : O3} {a b c : E} : bor env h (.op3b o a b c) r = r.bind unP := id rfl
@[simp] theorem bor_lit {d : PyData} : bor env h (.lit d) r = r.bind unP := id rfl
@[simp] theorem bor_and {a b : E} : bor env h (.and_ a b) r = r.bind unP := id rfl
@[simp] theorem bor_or {a b : E} : bor env h (.or_ a b) r = r.bind unP := id rfl
@[simp] theorem bor_not {a : E} : bor env h (.not_ a) r = r.bind unP := id rfl
@[simp] theorem bor_ite {t : Te} {a b : E} : bor env h (.ite t a b) r = r.bind unP := id rfl
@[simp] theorem bor_tup {es : List E} : bor env h (.tup es) r = r.bind unP := id rfl
@[simp] theorem bor_lst {es : List E} : bor env h (.lst es) r = r.bind unP := id rfl
@[simp] theorem bor_call {f : Nat} {es : List E} : bor env h (.call f es) r = r.bind unP := id rfl
@[simp] theorem bor_meth {c f i : Nat} {es : List E} : bor env h (.meth c f i es) r = r.bind unP := id rfl
@[simp] theorem bor_comp {own : List Nat} {t : Tg} {src : Src} {cond : List Te} {elt : E} : bor env h (.comp own t src cond elt) r = r.bind unP := id rfl
@[simp] theorem bor_compB {j : Nat} {own : List Nat} {t : Tg} {cond : List Te} {elt : E} : bor env h (.compB j own t cond elt) r = r.bind unP := id rfl
@[simp] theorem bor_isi {a : E} {t : Ty} : bor env h (.isi a t) r = r.bind unP := id rfl
@[simp] theorem bor_pop {a : E} : bor env h (.pop i a) r = r.bind unP := id rfl
/-- a name: its slot first -/
def borV (o : Option Val) (h : Hi) (r : R Val) : R PyData := match o with
  | some (.ref n) => match listAt h n with
    | some ts => .ok (.list ts) h
    | none => r.bind unP
  | _ => r.bind unP
@[simp] theorem bor_var : bor env h (.var i) r = borV (slot env i) h r := by
  cases e : slot env i with
  | none =>
    simp only [bor, peek, lstOf, slotRef, borV, e, Option.bind_none, Option.map_none]
  | some v =>
    cases v with
    | p d => simp only [bor, peek, lstOf, slotRef, borV, e, Option.bind_none, Option.map_none]
    | ref n =>
      cases e2 : listAt h n with
      | none => simp only [bor, peek, lstOf, slotRef, borV, e, e2, Option.bind_some, Option.map_none]
      | some ts => simp only [bor, peek, lstOf, slotRef, borV, e, e2, Option.bind_some, Option.map_some]
@[simp] theorem borV_p {d : PyData} : borV (some (.p d)) h r = r.bind unP := id rfl
@[simp] theorem borV_r {n : Nat} : borV (some (.ref n)) h r = match listAt h n with
    | some ts => .ok (.list ts) h
    | none => r.bind unP := id rfl
end
def refOf : Option Val → Option Nat
  | some (.ref n) => some n
  | _ => none
@[simp] theorem refOf_r {n : Nat} : refOf (some (.ref n)) = some n := id rfl
@[simp] theorem refOf_p {d : PyData} : refOf (some (.p d)) = none := id rfl
@[simp] theorem slotRef_eq {env : Ev} {i : Nat} : slotRef env i = refOf (slot env i) := by
  unfold slotRef refOf
  cases slot env i with
  | none => rfl
  | some v => cases v <;> rfl
@[simp] theorem getL_var {env : Ev} {h : Hi} {i : Nat} : getL env h (.var i) = (refOf (slot env i)).bind (listAt h) := by
  simp only [getL, peek, lstOf, slotRef_eq]
  cases refOf (slot env i) with
  | none => rfl
  | some n =>
    simp only [Option.bind_some]
    cases listAt h n <;> rfl
@[simp] theorem lstOf_eq {env : Ev} {h : Hi} {i : Nat} : lstOf env h i = (refOf (slot env i)).bind fun n => (listAt h n).map fun ts => (n, ts) := by
  simp only [lstOf, slotRef_eq]
@[simp] theorem appH_var {env : Ev} {h : Hi} {i : Nat} {d : PyData} : appH env (.var i) d h = (getL env h (.var i)).bind fun ts => if ts.length < sizeLine then (refOf (slot env i)).map fun n => h.set n (.lst (ts ++ [d])) else none := by
  simp only [appH, storeL, slotRef_eq]
@[simp] theorem setIxH_var {env : Ev} {h : Hi} {i : Nat} {k : Int} {d : PyData} : setIxH env (.var i) (.int k) d h = (getL env h (.var i)).bind fun ts => (ixN ts.length k).bind fun j => (refOf (slot env i)).map fun n => h.set n (.lst (ts.set j d)) := by
  simp only [setIxH, storeL, slotRef_eq]
@[simp] theorem ixN_last {n : Nat} : ixN (n + 1) (-1) = some n := by
  unfold ixN
  rw [if_neg (by decide), if_pos (by omega)]
  congr 1
  omega
@[simp] theorem ofH_some {env : Ev} {h : Hi} : ofH env (some h) = .ok .nx env h := id rfl
@[simp] theorem ofH_none {env : Ev} : ofH env none = .stuck := id rfl
/-- a comprehension whose parts read only -/
theorem comp_pure {elt : Ev → Hi → R PyData} {cond : Ev → Hi → R Bool} {bt : PyData → Ev → Option Ev} {env : Ev} {h : Hi} {α : Type} (g : α → PyData) (f : α → PyData) (c : α → Bool) : ∀ {xs : List α}, (∀ x ∈ xs, ∃ env1, bt (g x) env = some env1 ∧ cond env1 h = .ok (c x) h ∧ (c x = true → elt env1 h = .ok (f x) h)) →
    compL elt cond bt env (xs.map g) h = .ok ((xs.filter c).map f) h
  | [], _ => rfl
  | x :: r, hx => by
    obtain ⟨env1, e1, e2, e3⟩ := hx x List.mem_cons_self
    have ih := comp_pure g f c (xs := r) fun y hy => hx y (List.mem_cons_of_mem _ hy)
    rw [List.map_cons]
    unfold compL
    rw [e1]
    simp only [e2, R.bind_ok]
    cases hc : c x with
    | false => simp only [Bool.false_eq_true, if_false, ih, List.filter_cons, hc]
    | true => simp only [if_true, e3 hc, R.bind_ok, ih, List.filter_cons, hc, List.map_cons]
theorem s64_fmod {a m : Int} (h0 : 0 < m) (h1 : m < 2 ^ 64) : small64 (a.fmod m) = true := by
  have := Int.fmod_nonneg_of_pos a h0
  have := Int.fmod_lt_of_pos a h0
  unfold small64
  rw [decide_eq_true_eq]
  omega
@[simp] theorem o_eqI {i j : Int} : opf2 .eq (.int i) (.int j) = some (.bool (decide (i = j))) := by
  show (some (PyData.eqv (.int i) (.int j))).map PyData.bool = _
  have : PyData.eqv (.int i) (.int j) = decide (i = j) := by
    by_cases h : i = j
    · subst h; simp [PyData.eqv]
    · simp [PyData.eqv, h]
  rw [this]; rfl
@[simp] theorem o_neI {i j : Int} : opf2 .ne (.int i) (.int j) = some (.bool !decide (i = j)) := by
  have := o_eqI (i := i) (j := j)
  have e : (eqD (.int i) (.int j)).map PyData.bool = some (.bool (decide (i = j))) := this
  cases h : eqD (.int i) (.int j) with
  | none => rw [h] at e; cases e
  | some b =>
    rw [h] at e
    have e2 : b = decide (i = j) := by simpa using e
    show (eqD (.int i) (.int j)).map (fun b => PyData.bool !b) = _
    rw [h, e2]; rfl
@[simp] theorem listAt_app {h : Hi} {ts : List PyData} : listAt (h ++ [.lst ts]) h.length = some ts := by
  unfold listAt
  rw [List.getElem?_append_right (Nat.le_refl _)]
  simp
@[simp] theorem set_app {h : Hi} {o o' : Ob} : (h ++ [o]).set h.length o' = h ++ [o'] := by
  rw [List.set_append_right _ _ (Nat.le_refl _)]
  simp
@[simp] theorem take_app {h : Hi} {o : Ob} : (h ++ [o]).take h.length = h := by simp
theorem enumFrom_eq : ∀ (ds : List PyData) (k : Nat), enumFrom k ds = (List.range ds.length).map fun i => .tuple [.int ((k + i : Nat) : Int), ds.getD i .none]
  | [], _ => rfl
  | d :: ds, k => by
    rw [List.length_cons, List.range_succ_eq_map, List.map_cons, List.map_map]
    show .tuple [.int k, d] :: enumFrom (k + 1) ds = _
    rw [enumFrom_eq ds (k + 1)]
    congr 1
    apply List.map_congr_left
    intro i _
    simp only [Function.comp_apply, Nat.succ_eq_add_one, List.getD_cons_succ]
    rw [show k + 1 + i = k + (i + 1) by omega]
theorem size1000 : (1000 : Nat) < sizeLine := by decide
@[simp] theorem compK2_ok {run : List PyData → Hi → R (List PyData)} {items ys : List PyData} {h h' : Hi} (hz : items.length < sizeLine) (e : run items h = .ok ys h') : compK2 run items h = .ok (.p (.list ys)) h' := by
  unfold compK2
  rw [if_pos hz, e]
  rfl
theorem atI_last {xs : List PyData} {d : PyData} (h : xs.getLast? = some d) : atI xs (-1) = some d := by
  have hne : xs ≠ [] := by rintro rfl; cases h
  have hl : 0 < xs.length := List.length_pos_iff.mpr hne
  unfold atI ixN
  rw [if_neg (by decide), if_pos (by omega)]
  rw [List.getLast?_eq_getElem?] at h
  have e : (-1 + (xs.length : Int)).toNat = xs.length - 1 := by omega
  simp only [Option.bind_some, e]
  exact h
section
variable {cf : Calls} {h : Hi}
theorem comp_ok {env : Ev} {own : List Nat} {t : Tg} {src : Src} {cond : List Te} {elt : E} {α : Type} (g f : α → PyData) (c : α → Bool) {xs : List α} (es : evalSrc cf env src h = .ok (xs.map g) h) (hz : xs.length < 1000)
    (hx : ∀ x ∈ xs, ∃ env1, bindT t (g x) (wipeE env own) = some env1 ∧ evalTs cf env1 cond h = .ok (c x) h ∧ (c x = true → (evalE cf env1 elt h).bind unP = .ok (f x) h)) :
    evalE cf env (.comp own t src cond elt) h = .ok (.p (.list ((xs.filter c).map f))) h := by
  rw [ev_comp, es]
  exact compK2_ok (by rw [List.length_map]; exact Nat.lt_trans hz size1000) (comp_pure g f c hx)
theorem comp_all {env : Ev} {own : List Nat} {t : Tg} {src : Src} {elt : E} {α : Type} (g f : α → PyData) {xs : List α} (es : evalSrc cf env src h = .ok (xs.map g) h) (hz : xs.length < 1000)
    (hx : ∀ x ∈ xs, ∃ env1, bindT t (g x) (wipeE env own) = some env1 ∧ (evalE cf env1 elt h).bind unP = .ok (f x) h) :
    evalE cf env (.comp own t src [] elt) h = .ok (.p (.list (xs.map f))) h := by
  have := comp_ok (cond := []) g f (fun _ => true) es hz fun x hm => by
    obtain ⟨env1, e1, e2⟩ := hx x hm
    exact ⟨env1, e1, rfl, fun _ => e2⟩
  rw [this, List.filter_eq_self.mpr fun _ _ => rfl]
theorem rngOk_small {i : Int} (h0 : 0 ≤ i) (h1 : i < 1000000) : rngOk i = true := by
  unfold rngOk
  exact decide_eq_true (by omega)
theorem src_rng1 {env : Ev} {a : E} {j : Int} (e : (evalE cf env a h).bind unP = .ok (.int j) h) (hj : rngOk j = true) : evalSrc cf env (.rng1 a) h = .ok (rangeD 0 j.toNat 1) h := by
  rw [es_rng1, e]
  exact if_pos hj
end
abbrev natD (i : Nat) : PyData := .int i
theorem depth_ints : ∀ ns : List Int, PyData.depthAll (ns.map .int) = 0
  | [] => rfl
  | n :: r => by
    rw [List.map_cons]
    show max (PyData.depth (.int n)) (PyData.depthAll (r.map .int)) = 0
    rw [depth_ints r]; rfl
theorem eqv_int {i j : Int} : PyData.eqv (.int i) (.int j) = decide (i = j) := by
  by_cases h : i = j
  · subst h; simp [PyData.eqv]
  · simp [PyData.eqv, h]
theorem rangeD_nat (n : Nat) : rangeD 0 n 1 = (List.range n).map natD := by
  unfold rangeD
  apply List.map_congr_left
  intro i _
  simp
end Cd
set_option Elab.async false
set_option linter.all false
set_option maxRecDepth 100000
set_option maxHeartbeats 4000000
namespace Cd
open PySem L2
structure RD where
  left : List Int
  laid : List Int
  gone : List Bool
  done : List Bool
  high : Int
  least : Int
  nxt : Option Nat
def nxD : Option Nat → PyData
  | none => .none
  | some k => .int k
def RD.fs (r : RD) : List Fld := [.l (r.left.map .int), .l (r.laid.map .int), .l (r.gone.map .bool), .l (r.done.map .bool), .p (.int r.high), .p (.int r.least), .p (nxD r.nxt)]
/-- an item (0, False beyond the end) -/
def gi (xs : List Int) (i : Nat) : Int := xs.getD i 0
def gb (xs : List Bool) (i : Nat) : Bool := xs.getD i false
def RD.must (r : RD) (s : Nat) : Bool := if gb r.gone s || decide (gi r.left s = 0) then false else (!gb r.done s) || decide (gi r.laid s < r.high)
def orderN (m here : Nat) : List Nat := (List.range (m - here)).map (here + ·) ++ List.range here
def RD.find (r : RD) (here : Nat) : RD := { r with nxt := if 1 < r.gone.count false then ((orderN r.laid.length here).filter r.must).head? else none }
section
variable {fns : Nat → Option FnD} {h : Hi} {n k : Nat} {r : RD} {s : Nat}
@[simp] theorem insOf_eq {env : Ev} {i : Nat} : insOf env h i = (refOf (slot env i)).bind fun n => (insAt h n).map fun p => (n, p) := by
  unfold insOf; rw [slotRef_eq]
@[simp] theorem methOk_eq {env : Ev} {c i : Nat} : methOk env h c i = match insOf env h i with
    | some p => if p.2.1 = c then some p.1 else none
    | none => none := id rfl
@[simp] theorem bor_fld {env : Ev} {i j : Nat} {rr : R Val} : bor env h (.fld i j) rr = match insOf env h i with
    | some p => (match p.2.2[j]? with
      | some (.l ts) => .ok (.list ts) h
      | _ => rr.bind unP)
    | none => rr.bind unP := by
  simp only [bor, peek]
  cases e : insOf env h i with
  | none => simp only [Option.bind_none]
  | some p =>
    simp only [Option.bind_some]
    cases e2 : p.2.2[j]? with
    | none => simp only
    | some u => cases u <;> simp only
@[simp] theorem fldK_p {d : PyData} : fldK (some (.p d)) = some (.p d) := id rfl
@[simp] theorem setFldH_eq {env : Ev} {i j : Nat} {f : Fld} : setFldH env i j f h = (insOf env h i).bind fun p => (putFl p.2.2 j f).map fun fs => h.set p.1 (.ins p.2.1 fs) := id rfl
theorem countP_bool (bs : List Bool) (b : Bool) : (bs.map PyData.bool).countP (fun x => PyData.eqv x (.bool b)) = bs.count b := by
  induction bs with
  | nil => rfl
  | cons c r ih =>
    rw [List.map_cons, List.countP_cons, List.count_cons, ih]
    cases b <;> cases c <;> rfl
@[simp] theorem o_countB {bs : List Bool} {b : Bool} : opf2 .count (.list (bs.map .bool)) (.bool b) = some (.int (bs.count b : Nat)) := by
  show (if scalD (.bool b) && (bs.map PyData.bool).all scalD then some (PyData.int ((bs.map PyData.bool).countP fun x => PyData.eqv x (.bool b))) else none) = _
  rw [countP_bool, if_pos]
  simp only [scalD, Bool.true_and, List.all_map]
  exact List.all_eq_true.mpr fun x _ => rfl
@[simp] theorem o_addL {xs ys : List PyData} : opf2 .add (.list xs) (.list ys) = if xs.length + ys.length ≤ sizeLine then some (.list (xs ++ ys)) else none := id rfl
end
end Cd
set_option Elab.async false
set_option linter.all false
set_option maxRecDepth 100000
set_option maxHeartbeats 4000000
namespace Cd
open PySem L2
section
variable {fns : Nat → Option FnD} {h : Hi} {n k : Nat} {r : RD} {s : Nat}
@[simp] theorem fs_0 : r.fs[0]? = some (.l (r.left.map .int)) := id rfl
@[simp] theorem fs_1 : r.fs[1]? = some (.l (r.laid.map .int)) := id rfl
@[simp] theorem fs_2 : r.fs[2]? = some (.l (r.gone.map .bool)) := id rfl
@[simp] theorem fs_3 : r.fs[3]? = some (.l (r.done.map .bool)) := id rfl
@[simp] theorem fs_4 : r.fs[4]? = some (.p (.int r.high)) := id rfl
@[simp] theorem fs_5 : r.fs[5]? = some (.p (.int r.least)) := id rfl
@[simp] theorem fs_6 : r.fs[6]? = some (.p (nxD r.nxt)) := id rfl
@[simp] theorem fs_s0 {xs : List Int} : r.fs.set 0 (.l (xs.map .int)) = ({ r with left := xs } : RD).fs := id rfl
@[simp] theorem fs_s1 {xs : List Int} : r.fs.set 1 (.l (xs.map .int)) = ({ r with laid := xs } : RD).fs := id rfl
@[simp] theorem fs_s2 {xs : List Bool} : r.fs.set 2 (.l (xs.map .bool)) = ({ r with gone := xs } : RD).fs := id rfl
@[simp] theorem fs_s3 {xs : List Bool} : r.fs.set 3 (.l (xs.map .bool)) = ({ r with done := xs } : RD).fs := id rfl
@[simp] theorem fs_p3 {xs : List Bool} : putFl r.fs 3 (.l (xs.map .bool)) = some ({ r with done := xs } : RD).fs := id rfl
@[simp] theorem fs_p4 {v : Int} : putFl r.fs 4 (.p (.int v)) = some ({ r with high := v } : RD).fs := id rfl
@[simp] theorem fs_p5 {v : Int} : putFl r.fs 5 (.p (.int v)) = some ({ r with least := v } : RD).fs := id rfl
@[simp] theorem fs_p60 : putFl r.fs 6 (.p .none) = some ({ r with nxt := none } : RD).fs := id rfl
@[simp] theorem nxD_none : nxD none = .none := id rfl
@[simp] theorem nxD_some {v : Nat} : nxD (some v) = .int (v : Int) := id rfl
@[simp] theorem isNone_none : isNoneD .none = true := id rfl
@[simp] theorem isNone_int {v : Int} : isNoneD (.int v) = false := id rfl
@[simp] theorem getL_fld {env : Ev} {i j : Nat} : getL env h (.fld i j) = (insOf env h i).bind fun p => match p.2.2[j]? with
    | some (.l ts) => some ts
    | _ => none := by
  simp only [getL, peek]
  cases insOf env h i with
  | none => simp only [Option.bind_none]
  | some p =>
    simp only [Option.bind_some]
    cases p.2.2[j]? with
    | none => simp only
    | some u => cases u <;> simp only
@[simp] theorem setIxH_fld {env : Ev} {i j : Nat} {q : Int} {d : PyData} : setIxH env (.fld i j) (.int q) d h = (getL env h (.fld i j)).bind fun ts => (ixN ts.length q).bind fun x => (refOf (slot env i)).bind fun n => (insAt h n).map fun p => h.set n (.ins p.1 (p.2.set j (.l (ts.set x d)))) := by
  simp only [setIxH, storeL, slotRef_eq]
theorem ixN_nat {m s : Nat} (hs : s < m) : ixN m (s : Int) = some s := by
  unfold ixN
  rw [if_pos (by omega), if_pos (by omega)]
  simp
@[simp] theorem set_mapI {xs : List Int} {i : Nat} {v : Int} : (xs.map PyData.int).set i (.int v) = (xs.set i v).map .int := by rw [List.map_set]
@[simp] theorem set_mapB {xs : List Bool} {i : Nat} {v : Bool} : (xs.map PyData.bool).set i (.bool v) = (xs.set i v).map .bool := by rw [List.map_set]
@[simp] theorem take_set {o : Ob} : (h.set n o).take h.length = h.set n o := List.take_of_length_le (by simp)
def RD.endR (r : RD) (s : Nat) : RD := ({ r with done := r.done.set s true } : RD).find (if s + 1 = r.laid.length then 0 else s + 1)
def RD.layR (r : RD) (s : Nat) (v : Int) : RD := { r with left := r.left.set s (gi r.left s - v), laid := r.laid.set s (gi r.laid s + v) }
def minV (x y : Int) : Int := if y < x then y else x
def RD.callR (r : RD) (s : Nat) : RD := (r.layR s (minV (r.high - gi r.laid s) (gi r.left s))).endR s
end
end Cd
set_option Elab.async false
set_option linter.all false
set_option maxRecDepth 100000
set_option maxHeartbeats 4000000
namespace Cd
open PySem L2
section
variable {fns : Nat → Option FnD} {h : Hi} {n k t : Nat} {r : RD} {s : Nat} {cf : Calls}
end
end Cd
set_option Elab.async false
set_option linter.all false
set_option maxRecDepth 100000
set_option maxHeartbeats 4000000
namespace Cd
open PySem L2
def hT (h : Hi) (t k : Nat) : Hi := h.set t (.lst (List.replicate k (.int 0)))
structure HasD (fns : Nat → Option FnD) : Prop where
  f13 : fns 13 = some d13
  f14 : fns 14 = some d14
section
variable {fns : Nat → Option FnD} {h : Hi} {n k t q : Nat} {r : RD} {s : Nat} {cf : Calls}
@[simp] theorem hT_len : (hT h t k).length = h.length := by unfold hT; rw [List.length_set]
@[simp] theorem hT_take {o : Nat} : (hT h t o).take h.length = hT h t o := List.take_of_length_le (by simp)
theorem hT_at (ht : t < h.length) : listAt (hT h t k) t = some (List.replicate k (.int 0)) := by
  unfold listAt hT
  rw [List.getElem?_set_self ht]
theorem hT_set : (hT h t k).set t (.lst (List.replicate q (.int 0))) = hT h t q := by unfold hT; rw [List.set_set]
theorem hT_comm {o : Ob} (hn : n ≠ t) : (hT h t k).set n o = hT (h.set n o) t k := by
  unfold hT
  rw [List.set_comm _ _ hn.symm]
theorem rep_add {α : Type} (k : Nat) (a : α) : List.replicate k a ++ [a] = List.replicate (k + 1) a := by rw [List.replicate_succ']
theorem fmod_ix {j m : Int} (hm : 0 < m) : 0 ≤ j.fmod m ∧ j.fmod m < m := ⟨Int.fmod_nonneg_of_pos j hm, Int.fmod_lt_of_pos j hm⟩
theorem atI_ok {xs : List PyData} {i : Int} (h0 : 0 ≤ i) (h1 : i < xs.length) : ∃ x ∈ xs, atI xs i = some x := by
  obtain ⟨j, rfl⟩ := Int.eq_ofNat_of_zero_le h0
  have hj : j < xs.length := by omega
  refine ⟨xs[j], List.getElem_mem hj, ?_⟩
  show atI xs (j : Int) = _
  simp [atI_nat, hj]
theorem s64_c {i : Int} (h : i.natAbs < 18446744073709551616) : small64 i = true := decide_eq_true h
/-- the number drawn -/
def drawV (c : Int) (k : Nat) (m : Int) : Int :=
  let n1 := (c + 104729 * (k : Int)).fmod 4294967291
  let n2 := ((n1 * n1).fmod 4294967279 * 48271).fmod 4294967291
  let n3 := ((n2 * n2).fmod 4294967279 * 69621).fmod 4294967291
  (n2.fdiv 64 * 67108864 + n3.fdiv 64).fmod m
theorem draw_eval (F : fns 13 = some d13) (ns : List Int) {m : Int} (ht : t < h.length) (hk : k < 1000000) (hm : 0 < m) :
    ∃ v, 0 ≤ v ∧ v < m ∧ callF fns (q + 1) 13 [.p (.list (ns.map .int)), .ref t, .p (.int m)] (hT h t k) = .ok (.p (.int v)) (hT h t (k + 1)) := by
  rw [call_eq F rfl]
  generalize callF fns q = cf
  have hz : k < sizeLine := Nat.lt_trans hk (by decide)
  have e1 := hT_at (k := k) ht
  have e2 := hT_at (k := k + 1) ht
  let A := PyData.list (ns.map PyData.int)
  have t1 : ∀ env, evalS cf (.app (.var 1) (.lit (.int 0))) (some (.p A) :: some (.ref t) :: env) (hT h t k) = .ok .nx (some (.p A) :: some (.ref t) :: env) (hT h t (k + 1)) := fun env => by
    simp [e1, hz]
    rw [rep_add, hT_set]
  have t2 : ∀ a2 env, evalS cf (.set 3 (.op1 .len (.var 1))) (some (.p A) :: some (.ref t) :: a2 :: none :: env) (hT h t (k + 1)) = .ok .nx (some (.p A) :: some (.ref t) :: a2 :: some (.p (.int ((k + 1 : Nat) : Int))) :: env) (hT h t (k + 1)) := fun a2 env => by
    simp [e2]
  have t3 : ∃ c, ∀ a2 env, evalS cf (.if_ (.val (.var 0)) [.set 4 (.op2b .ix (.var 0) (.op2d .mod (.var 3) (.op1 .len (.var 0))))] []) (some (.p A) :: some (.ref t) :: a2 :: some (.p (.int ((k + 1 : Nat) : Int))) :: some (.p (.int 0)) :: env) (hT h t (k + 1)) = .ok .nx (some (.p A) :: some (.ref t) :: a2 :: some (.p (.int ((k + 1 : Nat) : Int))) :: some (.p (.int c)) :: env) (hT h t (k + 1)) := by
    cases ns with
    | nil => exact ⟨0, fun a2 env => by simp [A]⟩
    | cons a l =>
      have hp : (0 : Int) < ((a :: l).length : Int) := by rw [List.length_cons]; omega
      obtain ⟨h0, h1⟩ := fmod_ix (j := ((k + 1 : Nat) : Int)) hp
      obtain ⟨x, hx, e⟩ := atI_ok (xs := (a :: l).map PyData.int) h0 (by simpa using h1)
      obtain ⟨c, _, rfl⟩ := List.mem_map.mp hx
      refine ⟨c, fun a2 env => ?_⟩
      have e3 : opf2 .mod (.int ((k + 1 : Nat) : Int)) (.int ((a :: l).length : Int)) = some (.int (((k + 1 : Nat) : Int).fmod ((a :: l).length : Int))) := o_mod (by omega)
      simp only [st_if, et_val, bor_var, slot_0, slot_s, A, borV_p, ev_var, ofO_some, R.bind_ok, unP_p, truth_l, List.map_cons, List.isEmpty_cons, Bool.not_false, R.toS_ok, if_true, ss_cons, st_set, ev_op2b, ev_op2d, ev_op1, o_lenL, List.length_cons, List.length_map, Option.map_some] at e e3 ⊢
      rw [e3]
      simp only [Option.map_some, ofO_some, R.bind_ok, unP_p, o_ixL, e, R.toS_ok, setSlot_0, setSlot_s, RS.bind_nx, ss_nil]
  obtain ⟨c, t3⟩ := t3
  refine ⟨drawV c (k + 1) m, (fmod_ix hm).1, (fmod_ix hm).2, ?_⟩
  have m1 : ∀ x, opf2 .mul (.int 104729) (.int x) = some (.int (104729 * x)) := fun x => o_mul (.inl (s64_c (by decide)))
  have m2 : ∀ x : Int, opf2 .mul (.int (x.fmod 4294967291)) (.int (x.fmod 4294967291)) = some (.int (x.fmod 4294967291 * x.fmod 4294967291)) := fun x => o_mul (.inl (s64_fmod (by decide) (by decide)))
  have m3 : ∀ (x c : Int), c.natAbs < 18446744073709551616 → opf2 .mul (.int x) (.int c) = some (.int (x * c)) := fun x c hc => o_mul (.inr (s64_c hc))
  have m4 : ∀ x : Int, opf2 .mod (.int x) (.int 4294967291) = some (.int (x.fmod 4294967291)) := fun x => o_mod (by decide)
  have m5 : ∀ x : Int, opf2 .mod (.int x) (.int 4294967279) = some (.int (x.fmod 4294967279)) := fun x => o_mod (by decide)
  have m6 : ∀ x : Int, opf2 .fdiv (.int x) (.int 64) = some (.int (x.fdiv 64)) := fun x => o_div (by decide) (by decide)
  have m7 : ∀ x : Int, opf2 .mod (.int x) (.int m) = some (.int (x.fmod m)) := fun x => o_mod (by omega)
  have m8 := fun x => m3 x 48271 (by decide)
  have m9 := fun x => m3 x 69621 (by decide)
  have m10 := fun x => m3 x 67108864 (by decide)
  generalize hn1 : (c + 104729 * ((k + 1 : Nat) : Int)).fmod 4294967291 = n1
  generalize hn2 : ((n1 * n1).fmod 4294967279 * 48271).fmod 4294967291 = n2
  generalize hn3 : ((n2 * n2).fmod 4294967279 * 69621).fmod 4294967291 = n3
  have ev : drawV c (k + 1) m = (n2.fdiv 64 * 67108864 + n3.fdiv 64).fmod m := by
    unfold drawV
    simp only [hn1, hn2, hn3]
  have q1 : opf2 .mul (.int n1) (.int n1) = some (.int (n1 * n1)) := by rw [← hn1]; exact m2 _
  have q2 : opf2 .mul (.int n2) (.int n2) = some (.int (n2 * n2)) := by rw [← hn2]; exact m2 _
  have t4 : ∀ a2 a6, evalS cf (.set 5 (.op2d .mod (.op2d .add (.var 4) (.op2d .mul (.lit (.int 104729)) (.var 3))) (.lit (.int 4294967291)))) [some (.p A), some (.ref t), a2, some (.p (.int ((k + 1 : Nat) : Int))), some (.p (.int c)), none, a6] (hT h t (k + 1)) = .ok .nx [some (.p A), some (.ref t), a2, some (.p (.int ((k + 1 : Nat) : Int))), some (.p (.int c)), some (.p (.int n1)), a6] (hT h t (k + 1)) := fun a2 a6 => by
    simp only [st_set, ev_op2d, ev_var, ev_lit, slot_0, slot_s, ofO_some, R.bind_ok, unP_p, m1, Option.map_some, o_add, m4, hn1, R.toS_ok, setSlot_0, setSlot_s]
  have t5 : ∀ a2 a3 a6, evalS cf (.set 5 (.op2d .mod (.op2d .mul (.op2d .mod (.op2d .mul (.var 5) (.var 5)) (.lit (.int 4294967279))) (.lit (.int 48271))) (.lit (.int 4294967291)))) [some (.p A), some (.ref t), a2, a3, some (.p (.int c)), some (.p (.int n1)), a6] (hT h t (k + 1)) = .ok .nx [some (.p A), some (.ref t), a2, a3, some (.p (.int c)), some (.p (.int n2)), a6] (hT h t (k + 1)) := fun a2 a3 a6 => by
    simp only [st_set, ev_op2d, ev_var, ev_lit, slot_0, slot_s, ofO_some, R.bind_ok, unP_p, q1, m5, m8, Option.map_some, m4, hn2, R.toS_ok, setSlot_0, setSlot_s]
  have t6 : ∀ a2 a3, evalS cf (.set 6 (.op2d .mod (.op2d .mul (.op2d .mod (.op2d .mul (.var 5) (.var 5)) (.lit (.int 4294967279))) (.lit (.int 69621))) (.lit (.int 4294967291)))) [some (.p A), some (.ref t), a2, a3, some (.p (.int c)), some (.p (.int n2)), none] (hT h t (k + 1)) = .ok .nx [some (.p A), some (.ref t), a2, a3, some (.p (.int c)), some (.p (.int n2)), some (.p (.int n3))] (hT h t (k + 1)) := fun a2 a3 => by
    simp only [st_set, ev_op2d, ev_var, ev_lit, slot_0, slot_s, ofO_some, R.bind_ok, unP_p, q2, m5, m9, Option.map_some, m4, hn3, R.toS_ok, setSlot_0, setSlot_s]
  have t7 : ∀ a3, evalS cf (.ret (.op2d .mod (.op2d .add (.op2d .mul (.op2d .fdiv (.var 5) (.lit (.int 64))) (.lit (.int 67108864))) (.op2d .fdiv (.var 6) (.lit (.int 64)))) (.var 2))) [some (.p A), some (.ref t), some (.p (.int m)), a3, some (.p (.int c)), some (.p (.int n2)), some (.p (.int n3))] (hT h t (k + 1)) = .ok (.rt (.p (.int (drawV c (k + 1) m)))) [some (.p A), some (.ref t), some (.p (.int m)), a3, some (.p (.int c)), some (.p (.int n2)), some (.p (.int n3))] (hT h t (k + 1)) := fun a3 => by
    simp only [st_ret, ev_op2d, ev_var, ev_lit, slot_0, slot_s, ofO_some, R.bind_ok, unP_p, m6, m10, Option.map_some, o_add, m7, ← ev, R.toS_ok]
  have t0 : ∀ a2 a3 a5 a6, evalS cf (.set 4 (.lit (.int 0))) [some (.p A), some (.ref t), a2, a3, none, a5, a6] (hT h t (k + 1)) = .ok .nx [some (.p A), some (.ref t), a2, a3, some (.p (.int 0)), a5, a6] (hT h t (k + 1)) := fun a2 a3 a5 a6 => by simp
  show finF (hT h t k).length (evalSs cf b13 [some (.p A), some (.ref t), some (.p (.int m)), none, none, none, none] (hT h t k)) = _
  unfold b13
  rw [ss_cons, t1, RS.bind_nx, ss_cons, t2, RS.bind_nx, ss_cons, t0, RS.bind_nx, ss_cons, t3, RS.bind_nx, ss_cons, t4, RS.bind_nx, ss_cons, t5, RS.bind_nx, ss_cons, t6, RS.bind_nx, ss_cons, t7, RS.bind_rt, fin_rp, hT_len, hT_take]
theorem pick_eval (F : HasD fns) (ns : List Int) {xs : List PyData} (ht : t < h.length) (hk : k < 1000000) (hx : xs ≠ []) :
    ∃ x ∈ xs, callF fns (q + 2) 14 [.p (.list (ns.map .int)), .ref t, .p (.list xs)] (hT h t k) = .ok (.p x) (hT h t (k + 1)) := by
  rw [call_eq F.f14 rfl]
  have hp : (0 : Int) < (xs.length : Int) := by have := List.length_pos_iff.mpr hx; omega
  obtain ⟨v, h0, h1, e⟩ := draw_eval (q := q) (k := k) F.f13 ns ht hk hp
  generalize callF fns (q + 1) = cf at e
  obtain ⟨x, hm, e2⟩ := atI_ok h0 h1
  refine ⟨x, hm, ?_⟩
  simp [d14, b14, e, e2]
end
end Cd
set_option Elab.async false
set_option linter.all false
set_option maxRecDepth 100000
set_option maxHeartbeats 4000000
namespace Cd
open PySem L2
section
variable {fns : Nat → Option FnD} {h : Hi} {n k t q : Nat} {r : RD} {s : Nat} {cf : Calls}
end
end Cd
set_option Elab.async false
set_option linter.all false
set_option maxRecDepth 100000
set_option maxHeartbeats 4000000
namespace Cd
open PySem L2
section
variable {fns : Nat → Option FnD} {h : Hi} {n k t q : Nat} {r : RD} {s : Nat} {cf : Calls}
theorem eqv_str {x y : Str} : PyData.eqv (.str x) (.str y) = decide (x = y) := by
  by_cases h : x = y
  · subst h; simp [PyData.eqv]
  · simp [PyData.eqv, h]
@[simp] theorem o_eqS {x y : Str} : opf2 .eq (.str x) (.str y) = some (.bool (decide (x = y))) := by
  show (some (PyData.eqv (.str x) (.str y))).map PyData.bool = _
  rw [eqv_str]; rfl
@[simp] theorem o_neS {x y : Str} : opf2 .ne (.str x) (.str y) = some (.bool !decide (x = y)) := by
  show (some (PyData.eqv (.str x) (.str y))).map (fun b => PyData.bool !b) = _
  rw [eqv_str]; rfl
theorem eqD_refl {d : PyData} (h : SeqAt.shaped d = true) : eqD d d = some true := by
  have e := PySem.SeqAt.eqv_refl d (SeqAt.canLay_of_shaped h)
  unfold eqD
  rw [e, h]
  cases scalD d <;> rfl
theorem o_neR {d : PyData} (h : SeqAt.shaped d = true) : opf2 .ne d d = some (.bool false) := by
  show (eqD d d).map (fun b => PyData.bool !b) = _
  rw [eqD_refl h]; rfl
theorem lay_mapI : ∀ xs : List Int, PyData.canLayAll0 (xs.map .int) = true
  | [] => by simp [PyData.canLayAll0]
  | x :: xs => by simp [PyData.canLayAll0, PyData.canLay0, lay_mapI xs]
end
end Cd
set_option Elab.async false
set_option linter.all false
set_option maxRecDepth 100000
set_option maxHeartbeats 4000000
namespace Cd
open PySem L2
theorem forL_inv {body : Ev → Hi → RS} {bt : PyData → Ev → Option Ev} (I : Nat → Ev → Hi → Prop) : ∀ (items : List PyData) (i : Nat) (env : Ev) (h : Hi), I i env h →
    (∀ j env h, i ≤ j → j < i + items.length → ∀ x, items[j - i]? = some x → I j env h → ∃ env1, bt x env = some env1 ∧ ∃ fl env' h', body env1 h = .ok fl env' h' ∧ (fl = .nx ∨ fl = .ct) ∧ I (j + 1) env' h') →
    ∃ env' h', forL body bt items env h = .ok .nx env' h' ∧ I (i + items.length) env' h'
  | [], i, env, h, h0, _ => ⟨env, h, rfl, h0⟩
  | x :: r, i, env, h, h0, st => by
    obtain ⟨env1, e1, fl, env2, h2, e2, hf, h3⟩ := st i env h (Nat.le_refl _) (by simp) x (by simp) h0
    obtain ⟨env', h', e3, h4⟩ := forL_inv I r (i + 1) env2 h2 h3 fun j env h a b y hy hI => st j env h (by omega) (by rw [List.length_cons]; omega) y (by
      rw [show j - i = (j - (i + 1)) + 1 by omega, List.getElem?_cons_succ]; exact hy) hI
    refine ⟨env', h', ?_, by rw [List.length_cons, show i + (r.length + 1) = i + 1 + r.length by omega]; exact h4⟩
    unfold forL
    rw [e1]
    rcases hf with rfl | rfl
    · simp only [e2]; exact e3
    · simp only [e2]; exact e3
def G1 (H : Hi) (r : RD) (k : Nat) : Hi := hT (H ++ [.ins 0 r.fs]) 0 k
def G2 (H : Hi) (r1 r2 : RD) (k : Nat) : Hi := hT (H ++ [.ins 0 r1.fs, .ins 0 r2.fs]) 0 k
section
variable {fns : Nat → Option FnD} {H h : Hi} {n k t q : Nat} {r r1 r2 : RD} {s : Nat} {cf : Calls}
theorem hT_app {o : Ob} (h0 : t < h.length) : hT h t k ++ [o] = hT (h ++ [o]) t k := by
  unfold hT
  rw [List.set_append_left _ _ h0]
@[simp] theorem G1_len : (G1 H r k).length = H.length + 1 := by simp [G1]
@[simp] theorem G2_len : (G2 H r1 r2 k).length = H.length + 2 := by simp [G2]
theorem call_len : (r.callR s).laid.length = r.laid.length := by
  show (r.laid.set _ _).length = _
  rw [List.length_set]
end
end Cd
set_option Elab.async false
set_option linter.all false
set_option maxRecDepth 100000
set_option maxHeartbeats 4000000
namespace Cd
open PySem L2
theorem cutD_map {α : Type} (f : α → PyData) (xs : List α) (lo hi : Option Int) : cutD (xs.map f) lo hi = ((xs.drop (HT.sIx xs.length 0 lo)).take (HT.sIx xs.length xs.length hi - HT.sIx xs.length 0 lo)).map f := by
  unfold cutD
  rw [List.length_map, ← List.map_drop, ← List.map_take]
def cutM {α : Type} (xs : List α) (lo hi : Option Int) : List α := (xs.drop (HT.sIx xs.length 0 lo)).take (HT.sIx xs.length xs.length hi - HT.sIx xs.length 0 lo)
theorem slice_T {α : Type} {f : α → PyData} {xs : List α} {l u : Bool} {a b : PyData} {lo hi : Option Int} (e1 : partD l a = some lo) (e2 : partD u b = some hi) : opf3 (.slice l u) (.tuple (xs.map f)) a b = some (.tuple ((cutM xs lo hi).map f)) := by
  show ((partD l a).bind fun lo => (partD u b).map fun hi => PyData.tuple (cutD (xs.map f) lo hi)) = _
  rw [e1, e2, Option.bind_some, Option.map_some, cutD_map]
  rfl
theorem cut_lo {α : Type} (xs : List α) (j : Nat) : cutM xs none (some (j : Int)) = xs.take j := by
  unfold cutM
  rw [HT.sIx_none, HT.sIx_nat, List.drop_zero, Nat.sub_zero]
  by_cases h : j ≤ xs.length
  · rw [Nat.min_eq_left h]
  · rw [Nat.min_eq_right (by omega), List.take_of_length_le (Nat.le_refl _), List.take_of_length_le (by omega)]
theorem cut_hi {α : Type} (xs : List α) (j : Nat) (h : j ≤ xs.length) : cutM xs (some (j : Int)) none = xs.drop j := by
  unfold cutM
  rw [HT.sIx_none, HT.sIx_nat, Nat.min_eq_left h]
  exact List.take_of_length_le (by simp)
theorem sz_ok {n : Nat} (h : n ≤ 1000) : n ≤ sizeLine := Nat.le_trans h (Nat.le_of_lt size1000)
theorem addT_ok {xs ys : List PyData} (h : xs.length + ys.length ≤ 1000) : opf2 .add (.tuple xs) (.tuple ys) = some (.tuple (xs ++ ys)) := o_addT.trans (if_pos (sz_ok h))
theorem shaped_seq {ds : List PyData} (hz : ds.length < 1000) (hl : PyData.canLayAll0 ds = true) (hd : PyData.depthAll ds ≤ 60) : SeqAt.shaped (.tuple ds) = true ∧ SeqAt.shaped (.list ds) = true := by
  have z := Nat.le_of_lt (Nat.lt_trans hz size1000)
  have d1 : PyData.depth (.tuple ds) ≤ 64 := by show PyData.depthAll ds + 1 ≤ 64; omega
  have d2 : PyData.depth (.list ds) ≤ 64 := by show PyData.depthAll ds + 1 ≤ 64; omega
  unfold SeqAt.shaped
  rw [decide_eq_true d1, decide_eq_true d2]
  simp [PyData.canLay0, hl, z]
theorem shapedI {xs : List Int} (hz : xs.length < 1000) : SeqAt.shaped (.tuple (xs.map .int)) = true ∧ SeqAt.shaped (.list (xs.map .int)) = true := shaped_seq (by simpa using hz) (lay_mapI xs) (by rw [depth_ints]; omega)
def minI : List Int → Int
  | [] => 0
  | n :: r => r.foldl min n
theorem foldl_min_mem : ∀ (r : List Int) (n : Int), r.foldl min n = n ∨ r.foldl min n ∈ r
  | [], n => .inl rfl
  | y :: r, n => by
    rw [List.foldl_cons]
    rcases foldl_min_mem r (min n y) with h | h
    · rw [h]
      by_cases e : n ≤ y
      · left; exact Int.min_eq_left e
      · right; rw [Int.min_eq_right (by omega)]; exact List.mem_cons_self
    · exact .inr (List.mem_cons_of_mem _ h)
theorem minI_mem {ns : List Int} (h : ns ≠ []) : minI ns ∈ ns := by
  cases ns with
  | nil => exact absurd rfl h
  | cons n r =>
    rcases foldl_min_mem r n with e | e
    · show r.foldl min n ∈ _
      rw [e]; exact List.mem_cons_self
    · exact List.mem_cons_of_mem _ e
theorem foldl_min_le : ∀ (r : List Int) (n : Int), r.foldl min n ≤ n ∧ ∀ x ∈ r, r.foldl min n ≤ x
  | [], n => ⟨Int.le_refl _, fun _ h => nomatch h⟩
  | y :: r, n => by
    obtain ⟨h1, h2⟩ := foldl_min_le r (min n y)
    rw [List.foldl_cons]
    refine ⟨by omega, fun x hx => ?_⟩
    rcases List.mem_cons.mp hx with rfl | hx
    · omega
    · exact h2 x hx
theorem minI_le {ns : List Int} {x : Int} (h : x ∈ ns) : minI ns ≤ x := by
  cases ns with
  | nil => cases h
  | cons n r =>
    rcases List.mem_cons.mp h with rfl | h
    · exact (foldl_min_le r x).1
    · exact (foldl_min_le r n).2 x h
@[simp] theorem o_eqB {x y : Bool} : opf2 .eq (.bool x) (.bool y) = some (.bool (x == y)) := by cases x <;> cases y <;> rfl
@[simp] theorem o_neB {x y : Bool} : opf2 .ne (.bool x) (.bool y) = some (.bool (x != y)) := by cases x <;> cases y <;> rfl
section
variable {r r1 r2 : RD} {s : Nat} {chips : List Int}
end
end Cd
set_option Elab.async false
set_option linter.all false
set_option maxRecDepth 100000
set_option maxHeartbeats 4000000
namespace Cd
open PySem L2
def seatsM (gs : List Bool) : List Nat := (List.range gs.length).filter fun i => !gs.getD i false
def ge (bs : List Int) (l : Int) (i : Nat) : Bool := decide (l ≤ bs.getD i 0)
def dL (bs : List Int) (before l : Int) : List Int := bs.map fun b => (if l < b then l else b) - (if before < b then before else b)
def dR (bs : List Int) (before : Int) : List Int := bs.map fun b => b - (if before < b then before else b)
def lvM (bs : List Int) (seats : List Nat) : List Int := seats.map fun i => bs.getD i 0
abbrev manyM (bs : List Int) (before l : Int) : Int := (dL bs before l).sum
abbrev restM (bs : List Int) (before : Int) : Int := (dR bs before).sum
def potsL (last : Int) (bs : List Int) (seats : List Nat) : Int → List Int → List (Int × List Nat)
  | _, [] => []
  | before, l :: ls =>
    let many := if l = last then restM bs before else manyM bs before l
    (if 0 < many then [(many, seats.filter (ge bs l))] else []) ++ potsL last bs seats l ls
def levelsM (bs : List Int) (gs : List Bool) : List Int := sortI (dedup (lvM bs (seatsM gs)))
def potsM (bs : List Int) (gs : List Bool) : List (Int × List Nat) := potsL ((levelsM bs gs).getLast?.getD 0) bs (seatsM gs) 0 (levelsM bs gs)
theorem seats_lt {gs : List Bool} {i : Nat} (h : i ∈ seatsM gs) : i < gs.length := by
  have := List.mem_filter.mp h
  simpa using this.1
section
variable {cf : Calls} {h : Hi} {fns : Nat → Option FnD}
abbrev intsT (bs : List Int) : PyData := .tuple (bs.map .int)
theorem mem_insI {x y : Int} : ∀ {l : List Int}, y ∈ insI x l ↔ y = x ∨ y ∈ l
  | [] => by simp [insI]
  | z :: r => by
    unfold insI
    split
    · simp
    · simp only [List.mem_cons, mem_insI (l := r)]
      constructor
      · rintro (h | h | h)
        · exact .inr (.inl h)
        · exact .inl h
        · exact .inr (.inr h)
      · rintro (h | h | h)
        · exact .inr (.inl h)
        · exact .inl h
        · exact .inr (.inr h)
end
theorem mem_sortI {y : Int} : ∀ {l : List Int}, y ∈ sortI l ↔ y ∈ l
  | [] => Iff.rfl
  | x :: r => by
    show y ∈ insI x (sortI r) ↔ _
    rw [mem_insI, mem_sortI, List.mem_cons]
theorem mem_dedup {y : Int} : ∀ {l : List Int}, y ∈ dedup l ↔ y ∈ l
  | [] => Iff.rfl
  | x :: r => by
    unfold dedup
    split
    · rename_i hx
      rw [mem_dedup, List.mem_cons]
      constructor
      · exact .inr
      · rintro (rfl | h)
        · exact hx
        · exact h
    · rw [List.mem_cons, List.mem_cons, mem_dedup]
theorem insI_lt {x : Int} : ∀ {l : List Int}, l.Pairwise (· < ·) → x ∉ l → (insI x l).Pairwise (· < ·)
  | [], _, _ => by simp [insI]
  | y :: r, h, hx => by
    obtain ⟨h1, h2⟩ := List.pairwise_cons.mp h
    have hy : x ≠ y := fun e => hx (by rw [e]; exact List.mem_cons_self)
    have hr : x ∉ r := fun e => hx (List.mem_cons_of_mem _ e)
    unfold insI
    split
    · rename_i hxy
      refine List.pairwise_cons.mpr ⟨fun z hz => ?_, h⟩
      rcases List.mem_cons.mp hz with rfl | hz
      · omega
      · have := h1 z hz; omega
    · rename_i hxy
      refine List.pairwise_cons.mpr ⟨fun z hz => ?_, insI_lt h2 hr⟩
      rcases mem_insI.mp hz with rfl | hz
      · omega
      · exact h1 z hz
theorem sortI_lt : ∀ {l : List Int}, (sortI (dedup l)).Pairwise (· < ·)
  | [] => List.Pairwise.nil
  | x :: r => by
    unfold dedup
    split
    · exact sortI_lt
    · rename_i hx
      show (insI x (sortI (dedup r))).Pairwise _
      exact insI_lt sortI_lt fun h => hx (mem_dedup.mp (mem_sortI.mp h))
section
variable {bs : List Int} {seats : List Nat} {top M : Int}
theorem dL_nonneg {a l : Int} (h : a ≤ l) : 0 ≤ (dL bs a l).sum := by
  unfold dL
  induction bs with
  | nil => simp
  | cons x r ih =>
    simp only [List.map_cons, List.sum_cons]
    omega
theorem dR_split {a l : Int} (h : a ≤ l) : (dR bs a).sum = (dL bs a l).sum + (dR bs l).sum := by
  unfold dL dR
  induction bs with
  | nil => simp
  | cons x r ih =>
    simp only [List.map_cons, List.sum_cons]
    rw [ih]
    omega
theorem dR_nonneg {a : Int} : 0 ≤ (dR bs a).sum := by
  unfold dR
  induction bs with
  | nil => simp
  | cons x r ih =>
    simp only [List.map_cons, List.sum_cons]
    omega
theorem potsL_sum : ∀ (ls : List Int) (a : Int), (∀ x ∈ ls, a ≤ x) → ls.Pairwise (· < ·) → ls.getLast? = some top → ((potsL top bs seats a ls).map (·.1)).sum = (dR bs a).sum
  | [], _, _, _, h => nomatch h
  | l :: ls, a, ha, hp, hl => by
    obtain ⟨hp1, hp2⟩ := List.pairwise_cons.mp hp
    have hal := ha l (by simp)
    rw [potsL.eq_2]
    rw [List.map_append, List.sum_append]
    cases ls with
    | nil =>
      have e : l = top := by simpa using hl
      subst e
      have z := dR_nonneg (bs := bs) (a := a)
      simp only [if_pos, potsL, List.map_nil, List.sum_nil, Int.add_zero]
      split
      · simp [restM]
      · simp only [restM] at *; simp; omega
    | cons l2 ls =>
      have hne : l ≠ top := by
        intro e
        have : (l2 :: ls).getLast? = some top := by simpa using hl
        have := hp1 top (List.mem_of_getLast? this)
        omega
      rw [potsL_sum (l2 :: ls) l (fun x hx => Int.le_of_lt (hp1 x hx)) hp2 (by simpa using hl), dR_split (bs := bs) hal]
      simp only [if_neg hne]
      have z := dL_nonneg (bs := bs) hal
      split
      · simp
      · simp only [manyM] at *; simp; omega
end
end Cd
set_option Elab.async false
set_option linter.all false
set_option maxRecDepth 100000
set_option maxHeartbeats 4000000
namespace Cd
open PySem L2
section
variable {t : Int}
theorem pots_sum {bs : List Int} {gs : List Bool} (h0 : ∀ b ∈ bs, 0 ≤ b) (hi : ∀ i ∈ seatsM gs, i < bs.length) (hne : seatsM gs ≠ []) : ((potsM bs gs).map (·.1)).sum = bs.sum := by
  have hl : levelsM bs gs ≠ [] := by
    obtain ⟨i, hi'⟩ := List.exists_mem_of_ne_nil _ hne
    have : bs.getD i 0 ∈ levelsM bs gs := mem_sortI.mpr (mem_dedup.mpr (List.mem_map.mpr ⟨i, hi', rfl⟩))
    exact List.ne_nil_of_mem this
  obtain ⟨last, hlast⟩ : ∃ last, (levelsM bs gs).getLast? = some last := ⟨_, List.getLast?_eq_some_getLast hl⟩
  unfold potsM
  rw [hlast]
  have := potsL_sum (bs := bs) (seats := seatsM gs) (top := last) (levelsM bs gs) 0 (fun x hx => by
    obtain ⟨i, hm, e⟩ := List.mem_map.mp (mem_dedup.mp (mem_sortI.mp hx))
    have h1 := hi i hm
    rw [← e]
    exact h0 _ (by simp [h1])) sortI_lt hlast
  rw [Option.getD_some, this]
  unfold dR
  congr 1
  have : ∀ b ∈ bs, b - (if 0 < b then 0 else b) = b := fun b hb => by
    have := h0 b hb
    split <;> omega
  rw [List.map_congr_left this, List.map_id']
variable {r r2 : RD} {s : Nat}
end
end Cd
set_option Elab.async false
set_option linter.all false
set_option maxRecDepth 100000
set_option maxHeartbeats 4000000
namespace Cd
open PySem L2
theorem sum_nonneg : ∀ {l : List Int}, (∀ x ∈ l, 0 ≤ x) → 0 ≤ l.sum
  | [], _ => by simp
  | x :: r, h => by
    rw [List.sum_cons]
    have := h x List.mem_cons_self
    have := sum_nonneg fun y hy => h y (List.mem_cons_of_mem _ hy)
    omega
theorem sum_ge : ∀ {l : List Int} {y : Int}, (∀ x ∈ l, 0 ≤ x) → y ∈ l → y ≤ l.sum
  | x :: r, y, h, hy => by
    rw [List.sum_cons]
    have h1 := h x List.mem_cons_self
    have h2 : ∀ z ∈ r, 0 ≤ z := fun z hz => h z (List.mem_cons_of_mem _ hz)
    rcases List.mem_cons.mp hy with rfl | hy
    · have := sum_nonneg h2; omega
    · have := sum_ge h2 hy; omega
def potsP (last : Int) (bs : List Int) (seats : List Nat) : Int → List Int → List (Int × List Nat)
  | _, [] => []
  | a, l :: ls => (if l = last then restM bs a else manyM bs a l, seats.filter (ge bs l)) :: potsP last bs seats l ls
def posL (ls : List Int) : List Int := ls.filter fun l => decide (0 < l)
section
variable {bs : List Int} {gs : List Bool} {seats : List Nat} {last : Int}
theorem many_pos {a l : Int} (h : a < l) (hl : l ∈ bs) : 0 < manyM bs a l := by
  have z : ∀ x ∈ dL bs a l, 0 ≤ x := fun x hx => by
    obtain ⟨b, _, rfl⟩ := List.mem_map.mp hx
    split <;> split <;> omega
  have m : l - a ∈ dL bs a l := List.mem_map.mpr ⟨l, hl, by rw [if_neg (by omega), if_pos h]⟩
  have := sum_ge z m
  unfold manyM
  omega
theorem rest_pos {a l : Int} (h : a < l) (hl : l ∈ bs) : 0 < restM bs a := by
  have z : ∀ x ∈ dR bs a, 0 ≤ x := fun x hx => by
    obtain ⟨b, _, rfl⟩ := List.mem_map.mp hx
    split <;> omega
  have m : l - a ∈ dR bs a := List.mem_map.mpr ⟨l, hl, by rw [if_pos h]⟩
  have := sum_ge z m
  unfold restM
  omega
theorem potsL_P : ∀ (ls : List Int) (a : Int), (∀ l ∈ ls, a < l) → ls.Pairwise (· < ·) → (∀ l ∈ ls, l ∈ bs) → potsL last bs seats a ls = potsP last bs seats a ls
  | [], _, _, _, _ => rfl
  | l :: ls, a, h1, h2, h3 => by
    obtain ⟨h4, h5⟩ := List.pairwise_cons.mp h2
    rw [potsL.eq_2, potsP.eq_2, potsL_P ls l h4 h5 fun x hx => h3 x (List.mem_cons_of_mem _ hx)]
    have p : 0 < (if l = last then restM bs a else manyM bs a l) := by
      have h6 := h1 l List.mem_cons_self
      have h7 := h3 l List.mem_cons_self
      split
      · exact rest_pos h6 h7
      · exact many_pos h6 h7
    rw [if_pos p]
    rfl
theorem lev_mem {l : Int} : l ∈ levelsM bs gs ↔ ∃ i ∈ seatsM gs, bs.getD i 0 = l := by
  unfold levelsM
  rw [mem_sortI, mem_dedup]
  exact List.mem_map
theorem lev_lt : (levelsM bs gs).Pairwise (· < ·) := sortI_lt
theorem lev_in (hi : ∀ i ∈ seatsM gs, i < bs.length) {l : Int} (h : l ∈ levelsM bs gs) : l ∈ bs := by
  obtain ⟨i, h1, h2⟩ := lev_mem.mp h
  have h3 := hi i h1
  rw [← h2]
  simp [h3]
theorem potsM_P (h0 : ∀ b ∈ bs, 0 ≤ b) (hi : ∀ i ∈ seatsM gs, i < bs.length) (hp : posL (levelsM bs gs) ≠ []) :
    potsM bs gs = potsP ((posL (levelsM bs gs)).getLast?.getD 0) bs (seatsM gs) 0 (posL (levelsM bs gs)) := by
  have h1 := lev_lt (bs := bs) (gs := gs)
  have h2 : ∀ l ∈ levelsM bs gs, l ∈ bs := fun l hl => lev_in hi hl
  unfold potsM
  generalize levelsM bs gs = ls at hp h1 h2 ⊢
  cases ls with
  | nil => exact absurd rfl hp
  | cons l r =>
    obtain ⟨h4, h5⟩ := List.pairwise_cons.mp h1
    have hl := h0 l (h2 l List.mem_cons_self)
    by_cases c : 0 < l
    · have e : posL (l :: r) = l :: r := List.filter_eq_self.mpr fun x hx => by
        rcases List.mem_cons.mp hx with rfl | hx
        · exact decide_eq_true c
        · have := h4 x hx; exact decide_eq_true (by omega)
      rw [e]
      exact potsL_P _ _ (fun x hx => by
        rcases List.mem_cons.mp hx with rfl | hx
        · exact c
        · have := h4 x hx; omega) h1 h2
    · have z : l = 0 := by omega
      subst z
      have e : posL ((0 : Int) :: r) = r := by
        unfold posL
        rw [List.filter_cons_of_neg (by simp)]
        exact List.filter_eq_self.mpr fun x hx => by
          have := h4 x hx; exact decide_eq_true (by omega)
      rw [e] at hp ⊢
      have e2 : ((0 : Int) :: r).getLast? = r.getLast? := by
        cases r with
        | nil => exact absurd rfl hp
        | cons y r => simp [List.getLast?_cons_cons]
      have hl2 : ∃ y, r.getLast? = some y := ⟨_, List.getLast?_eq_some_getLast hp⟩
      obtain ⟨y, hy⟩ := hl2
      have hy2 : 0 < y := h4 y (List.mem_of_getLast? hy)
      rw [e2, hy, Option.getD_some, potsL.eq_2]
      rw [if_neg (show ¬ (0 : Int) = y by omega)]
      have m0 : ¬ 0 < manyM bs 0 0 := by
        have : dL bs 0 0 = bs.map fun _ => 0 := List.map_congr_left fun b _ => by omega
        show ¬ 0 < (dL bs 0 0).sum
        rw [this]
        have : ∀ l : List Int, (l.map fun _ => (0 : Int)).sum = 0 := fun l => by
          induction l with
          | nil => rfl
          | cons x r ih => rw [List.map_cons, List.sum_cons, ih]; rfl
        rw [this]; omega
      rw [if_neg m0, List.nil_append]
      exact potsL_P _ _ h4 h5 fun x hx => h2 x (List.mem_cons_of_mem _ hx)
theorem posL_mem {ls : List Int} {l : Int} : l ∈ posL ls ↔ l ∈ ls ∧ 0 < l := by
  unfold posL
  rw [List.mem_filter, decide_eq_true_eq]
theorem posL_lt {ls : List Int} (h : ls.Pairwise (· < ·)) : (posL ls).Pairwise (· < ·) := h.filter _
end
end Cd
set_option Elab.async false
set_option linter.all false
set_option maxRecDepth 100000
set_option maxHeartbeats 4000000
namespace Cd
open PySem L2
section
variable {cf : Calls} {env : Ev} {h H : Hi} {n m k t q i j : Nat}
@[simp] theorem st_setIx2 {a b c d : E} : evalS cf (.setIx2 i j c d a b) env h = ((evalE cf env a h).bind unP).toS env fun d1 h1 => ((evalE cf env b h1).bind unP).toS env fun d2 h2 =>
    (stIx (fun env h => evalE cf env c h) (.var i) d1 env h2).bind fun env2 h3 => stIx (fun env h => evalE cf env d h) (.var j) d2 env2 h3 := id rfl
@[simp] theorem stIx_eq {ek : Ev → Hi → R Val} {p : E} {d : PyData} : stIx ek p d env h = match getL env h p with
  | none => .stuck
  | some _ => ((ek env h).bind unP).toS env fun k h2 => ofH env (setIxH env p k d h2) := id rfl
theorem hT_lst {x : Nat} (hn : x ≠ t) : listAt (hT H t k) x = listAt H x := by
  unfold listAt hT
  rw [List.getElem?_set_ne (Ne.symm hn)]
theorem hT_cut {l : Hi} (ht : t < h.length) : (hT (h ++ l) t k).take h.length = hT h t k := by
  unfold hT
  rw [List.set_append_left _ _ ht]
  simp
theorem atI_c0 {x : PyData} {xs : List PyData} : atI (x :: xs) 0 = some x := by
  have : atI (x :: xs) ((0 : Nat) : Int) = some x := by rw [atI_nat]; rfl
  exact this
theorem rngLit {env : Ev} {j : Int} (hj : rngOk j = true) : evalSrc cf env (.rng1 (.lit (.int j))) h = .ok (rangeD 0 j.toNat 1) h := src_rng1 (by simp) hj
/-- range(n) where n is had -/
theorem src_nat {env : Ev} {a : E} {j : Nat} (e : (evalE cf env a h).bind unP = .ok (.int (j : Int)) h) (hj : j < 1000000) : evalSrc cf env (.rng1 a) h = .ok ((List.range j).map natD) h := by
  have z := src_rng1 e (rngOk_small (by omega) (by omega))
  rw [Int.toNat_natCast, rangeD_nat] at z
  exact z
theorem eq_nil {x : PyData} {xs : List PyData} (h : SeqAt.shaped (.tuple (x :: xs)) = true) : opf2 .eq (.tuple (x :: xs)) (.tuple []) = some (.bool false) := by
  show (eqD _ _).map PyData.bool = _
  unfold eqD
  rw [if_neg (by simp [scalD]), if_pos (by rw [h]; rfl)]
  rfl
theorem natD_int {xs : List Nat} : xs.map natD = (xs.map fun i : Nat => (i : Int)).map .int := by rw [List.map_map]; rfl
theorem one_a {x : List PyData} (ht : t < h.length) : listAt (hT (h ++ [.lst x]) t k) h.length = some x := by
  rw [hT_lst (by omega)]; unfold listAt; simp
theorem one_sa {x z : List PyData} (ht : t < h.length) : (hT (h ++ [.lst x]) t k).set h.length (.lst z) = hT (h ++ [.lst z]) t k := by
  rw [hT_comm (by omega)]; congr 1; simp
end
end Cd
set_option Elab.async false
set_option linter.all false
set_option maxRecDepth 100000
set_option maxHeartbeats 4000000
namespace Cd
open PySem L2
def s48_0 : S := .if_ (.val (.op2 .eq (.var 0) (.lit (.tuple [(.int 14), (.int 5), (.int 4), (.int 3), (.int 2)])))) [.ret (.lit (.int 5))] []
def s48_1 : S := .if_ (.val (.op2 .eq (.var 0) (.op1 .tuple (.comp [1] (.name 1) (.rng1 (.lit (.int 5))) [] (.op2d .sub (.op2b .ix (.var 0) (.lit (.int 0))) (.var 1)))))) [.ret (.op2b .ix (.var 0) (.lit (.int 0)))] []
def s48_2 : S := .ret (.lit (.int 0))
def ls48 : List S := [s48_0, s48_1, s48_2]
theorem b48_eq : b48 = ls48 := rfl
def s49_0 : S := .newD 1 []
def s49_1_0 : S := .setKeyD 1 (.var 2) (.op2d .add (.dgetD 1 (.var 2) (.lit (.int 0))) (.lit (.int 1)))
def ls49_1 : List S := [s49_1_0]
def s49_1 : S := .for_ (.tup [(.name 2), (.name 3)]) (.e (.var 0)) ls49_1
def s49_2 : S := .set 4 (.op1 .rev (.op1 .sorted (.compI 1 [2, 5] (.tup [(.name 2), (.name 5)]) [] (.tup [(.var 5), (.var 2)]))))
def s49_3 : S := .ret (.tup [(.op1 .tuple (.comp [5, 2] (.tup [(.name 5), (.name 2)]) (.e (.var 4)) [] (.var 2))), (.op1 .tuple (.comp [5, 2] (.tup [(.name 5), (.name 2)]) (.e (.var 4)) [] (.var 5)))])
def ls49 : List S := [s49_0, s49_1, s49_2, s49_3]
theorem b49_eq : b49 = ls49 := rfl
def s50_0 : S := .unpack (.tup [(.name 1), (.name 2)]) (.call 49 [(.var 0)])
def s50_1 : S := .if_ (.val (.op2 .lt (.op1 .len (.var 1)) (.lit (.int 5)))) [.ret (.tup [(.op1 (.look [([2, 1, 1, 1], 1), ([2, 2, 1], 2), ([3, 1, 1], 3), ([3, 2], 6), ([4, 1], 7)]) (.var 2)), (.var 1)])] []
def s50_2 : S := .set 3 (.call 48 [(.var 1)])
def s50_3 : S := .set 4 (.op2 .eq (.op1 .lenSet (.comp [5, 6] (.tup [(.name 5), (.name 6)]) (.e (.var 0)) [] (.var 6))) (.lit (.int 1)))
def s50_4 : S := .if_ (.and_ (.val (.op2 .gt (.var 3) (.lit (.int 0)))) (.val (.var 4))) [.ret (.tup [(.lit (.int 8)), (.tup [(.var 3)])])] []
def s50_5 : S := .if_ (.val (.var 4)) [.ret (.tup [(.lit (.int 5)), (.var 1)])] []
def s50_6 : S := .if_ (.val (.op2 .gt (.var 3) (.lit (.int 0)))) [.ret (.tup [(.lit (.int 4)), (.tup [(.var 3)])])] []
def s50_7 : S := .ret (.tup [(.lit (.int 0)), (.var 1)])
def ls50 : List S := [s50_0, s50_1, s50_2, s50_3, s50_4, s50_5, s50_6, s50_7]
theorem b50_eq : b50 = ls50 := rfl
end Cd
set_option Elab.async false
set_option linter.all false
set_option maxRecDepth 100000
set_option maxHeartbeats 4000000
namespace Cd
open PySem L2
abbrev Card := Int × Str
def cardD (c : Card) : PyData := .tuple [.int c.1, .str c.2]
/-- one more of the rank r -/
def bump (r : Int) : List (Int × Int) → List (Int × Int)
  | [] => [(r, 1)]
  | (q, c) :: t => if q = r then (q, c + 1) :: t else (q, c) :: bump r t
def oftenM (rs : List Int) : List (Int × Int) := rs.foldl (fun l r => bump r l) []
def rowsM (five : List Card) : List (Int × Int) := (sortP ((oftenM (five.map (·.1))).map fun p => (p.2, p.1))).reverse
def ranksM (five : List Card) : List Int := (rowsM five).map (·.2)
def shapeM (five : List Card) : List Int := (rowsM five).map (·.1)
def shapes : List (List Int × Int) := [([2, 1, 1, 1], 1), ([2, 2, 1], 2), ([3, 1, 1], 3), ([3, 2], 6), ([4, 1], 7)]
def topM (rs : List Int) : Int := if rs = [14, 5, 4, 3, 2] then 5 else if rs = (List.range 5).map (fun k : Nat => rs.headD 0 - k) then rs.headD 0 else 0
def alikeM (five : List Card) : Bool := decide (((dedup (five.map (·.2)).reverse).length : Int) = 1)
def rankM (five : List Card) : Int × List Int :=
  if (ranksM five).length < 5 then ((shapes.lookup (shapeM five)).getD 0, ranksM five)
  else if (decide (0 < topM (ranksM five)) && alikeM five) = true then (8, [topM (ranksM five)])
  else if alikeM five = true then (5, ranksM five)
  else if 0 < topM (ranksM five) then (4, [topM (ranksM five)])
  else (0, ranksM five)
def rankD (r : Int × List Int) : PyData := .tuple [.int r.1, .tuple (r.2.map .int)]
def toKV (l : List (Int × Int)) : List (Key × Fld) := l.map fun p => (.inl p.1, .p (.int p.2))
theorem toKV_look (r : Int) : ∀ l : List (Int × Int), (toKV l).lookup (.inl r) = (l.lookup r).map fun c => .p (.int c)
  | [] => rfl
  | (q, c) :: t => by
    show List.lookup (Sum.inl r) ((Sum.inl q, _) :: toKV t) = _
    rw [List.lookup_cons, List.lookup_cons]
    by_cases e : r = q
    · subst e
      rw [key_beq, decide_eq_true (show (Sum.inl r : Key) = Sum.inl r from rfl)]
      simp
    · have e1 : ((Sum.inl r : Key) == Sum.inl q) = false := by rw [key_beq]; exact decide_eq_false (fun z => e (Sum.inl.inj z))
      have e2 : (r == q) = false := by simpa using e
      rw [e1, e2, toKV_look r t]
theorem toKV_bump (r : Int) : ∀ l : List (Int × Int), setKV (toKV l) (.inl r) (.p (.int ((l.lookup r).getD 0 + 1))) = toKV (bump r l)
  | [] => rfl
  | (q, c) :: t => by
    show setKV ((Sum.inl q, Fld.p (.int c)) :: toKV t) _ _ = _
    unfold setKV bump
    rw [List.lookup_cons]
    by_cases e : q = r
    · subst e
      simp [toKV]
    · have e1 : ¬ (Sum.inl q : Key) = Sum.inl r := fun z => e (Sum.inl.inj z)
      have e2 : (r == q) = false := by simpa using fun z => e z.symm
      rw [if_neg e1, if_neg e, e2, toKV_bump r t]
      rfl
theorem toKV_items : ∀ l : List (Int × Int), itemsD (toKV l) = some (l.map fun p => .tuple [.int p.1, .int p.2])
  | [] => rfl
  | (q, c) :: t => by
    show (if scalD (.int c) then (itemsD (toKV t)).map _ else none) = _
    rw [if_pos (show scalD (.int c) = true from rfl), toKV_items t]
    rfl
theorem bump_len (r : Int) : ∀ l : List (Int × Int), (bump r l).length ≤ l.length + 1
  | [] => by simp [bump]
  | (q, c) :: t => by
    unfold bump
    split
    · simp
    · have := bump_len r t
      simp; omega
theorem eqv_ints : ∀ xs ys : List Int, PyData.eqvAll (xs.map .int) (ys.map .int) = decide (xs = ys)
  | [], [] => by simp [PyData.eqvAll]
  | [], _ :: _ => by simp [PyData.eqvAll]
  | _ :: _, [] => by simp [PyData.eqvAll]
  | x :: xs, y :: ys => by
    simp only [List.map_cons, PyData.eqvAll, eqv_int, eqv_ints xs ys, List.cons.injEq, Bool.decide_and]
theorem o_eqT {xs ys : List Int} (h1 : xs.length < 1000) (h2 : ys.length < 1000) : opf2 .eq (.tuple (xs.map .int)) (.tuple (ys.map .int)) = some (.bool (decide (xs = ys))) := by
  show (eqD _ _).map PyData.bool = _
  unfold eqD
  rw [if_neg (by simp [scalD]), if_pos (by rw [(shapedI h1).1, (shapedI h2).1]; rfl), Option.map_some]
  simp only [PyData.eqv, eqv_ints]
theorem pairsD_map : ∀ ps : List (Int × Int), pairsD (ps.map pairD) = some ps
  | [] => rfl
  | p :: ps => by
    show (pairsD (ps.map pairD)).map _ = _
    rw [pairsD_map ps]; rfl
theorem o_sortP (ps : List (Int × Int)) : opf1 .sorted (.list (ps.map pairD)) = some (.list ((sortP ps).map pairD)) := by
  cases ps with
  | nil => rfl
  | cons p ps =>
    show (match intsD (pairD p :: ps.map pairD) with
      | some ns => some (PyData.list ((sortI ns).map .int))
      | none => (pairsD ((p :: ps).map pairD)).map fun ps => PyData.list ((sortP ps).map pairD)) = _
    have : intsD (pairD p :: ps.map pairD) = none := rfl
    rw [this, pairsD_map]; rfl
theorem o_rev (xs : List PyData) : opf1 .rev (.list xs) = some (.list xs.reverse) := id rfl
theorem strsD_map : ∀ xs : List Str, strsD (xs.map .str) = some xs
  | [] => rfl
  | x :: xs => by
    show (strsD (xs.map .str)).map _ = _
    rw [strsD_map xs]; rfl
theorem o_lenSet {xs : List Str} (h : xs.length < 1000) : opf1 .lenSet (.list (xs.map .str)) = some (.int (dedup xs.reverse).length) := by
  show (strsD _).bind _ = _
  rw [strsD_map, Option.bind_some, if_pos h]
section
variable {fns : Nat → Option FnD} {h : Hi} {n m k t q i : Nat} {cf : Calls}
theorem o_look {kvs : List (List Int × Int)} {ks : List Int} : opf1 (.look kvs) (.tuple (ks.map .int)) = (kvs.lookup ks).map .int := by
  show (intsD _).bind _ = _
  rw [intsD_map]; rfl
theorem top_eval (F : fns 48 = some d48) {rs : List Int} (hl : rs.length = 5) : callF fns (q + 1) 48 [.p (intsT rs)] h = .ok (.p (.int (topM rs))) h := by
  rw [call_eq F rfl]
  generalize callF fns q = cf
  show finF h.length (evalSs cf b48 [some (.p (intsT rs)), none] h) = _
  rw [b48_eq]
  unfold ls48
  have e1 := o_eqT (xs := rs) (ys := [14, 5, 4, 3, 2]) (by omega) (by decide)
  obtain ⟨a, r, rfl⟩ : ∃ a r, rs = a :: r := by
    cases rs with
    | nil => simp at hl
    | cons a r => exact ⟨a, r, rfl⟩
  have a0 : atI ((a :: r).map PyData.int) 0 = some (.int a) := atI_c0
  have c1 : evalE cf [some (.p (intsT (a :: r))), none] (.comp [1] (.name 1) (.rng1 (.lit (.int 5))) [] (.op2d .sub (.op2b .ix (.var 0) (.lit (.int 0))) (.var 1))) h = .ok (.p (.list (((List.range 5).map fun k : Nat => a - k).map .int))) h := by
    rw [List.map_map]
    refine comp_all natD _ (src_nat (j := 5) (by simp) (by omega)) (by simp) fun j hj => ⟨[some (.p (intsT (a :: r))), some (.p (.int j))], by simp, ?_⟩
    simp only [ev_op2d, ev_op2b, bor_var, slot_0, slot_s, borV_p, ev_var, ofO_some, R.bind_ok, unP_p, ev_lit, o_ixT, intsT, a0, Option.map_some, o_sub]
    rfl
  have e2 := o_eqT (xs := a :: r) (ys := (List.range 5).map fun k : Nat => a - k) (by omega) (by simp)
  unfold topM
  rw [ss_cons]
  have t0 : evalS cf s48_0 [some (.p (intsT (a :: r))), none] h = if a :: r = [14, 5, 4, 3, 2] then .ok (.rt (.p (.int 5))) [some (.p (intsT (a :: r))), none] h else .ok .nx [some (.p (intsT (a :: r))), none] h := by
    unfold s48_0
    have e1' : opf2 .eq (.tuple ((a :: r).map PyData.int)) (.tuple [.int 14, .int 5, .int 4, .int 3, .int 2]) = some (.bool (decide (a :: r = [14, 5, 4, 3, 2]))) := e1
    by_cases c : a :: r = [14, 5, 4, 3, 2]
    · rw [if_pos c]
      rw [decide_eq_true c] at e1'
      simp only [st_if, et_val, bor_op2, ev_op2, ev_var, slot_0, ofO_some, R.bind_ok, unP_p, bor_lit, ev_lit, intsT, e1', Option.map_some, truth_b, R.toS_ok, if_true, ss_cons, st_ret, RS.bind_rt]
    · rw [if_neg c]
      rw [decide_eq_false c] at e1'
      simp only [st_if, et_val, bor_op2, ev_op2, ev_var, slot_0, ofO_some, R.bind_ok, unP_p, bor_lit, ev_lit, intsT, e1', Option.map_some, truth_b, R.toS_ok, Bool.false_eq_true, if_false, ss_nil]
  rw [t0]
  by_cases c : a :: r = [14, 5, 4, 3, 2]
  · rw [if_pos c, if_pos c, RS.bind_rt, fin_rp, List.take_length]
  · rw [if_neg c, if_neg c, RS.bind_nx, ss_cons]
    show finF _ _ = R.ok (.p (.int (if a :: r = (List.range 5).map (fun k : Nat => a - k) then a else 0))) h
    simp only [intsT] at c1
    by_cases c2 : a :: r = (List.range 5).map fun k : Nat => a - k
    · rw [if_pos c2]
      rw [decide_eq_true c2] at e2
      simp only [s48_1, st_if, et_val, bor_op2, ev_op2, ev_var, slot_0, ofO_some, R.bind_ok, unP_p, bor_op1, ev_op1, bor_comp, intsT, c1, o_tupL, Option.map_some, e2, truth_b, R.toS_ok, if_true, ss_cons, st_ret, ev_op2b, bor_var, borV_p, ev_lit, o_ixT, a0, RS.bind_rt, fin_rp, List.take_length]
    · rw [if_neg c2]
      rw [decide_eq_false c2] at e2
      simp only [s48_1, st_if, et_val, bor_op2, ev_op2, ev_var, slot_0, ofO_some, R.bind_ok, unP_p, bor_op1, ev_op1, bor_comp, intsT, c1, o_tupL, Option.map_some, e2, truth_b, R.toS_ok, Bool.false_eq_true, if_false, ss_nil, RS.bind_nx, ss_cons, s48_2, st_ret, ev_lit, RS.bind_rt, fin_rp, List.take_length]
@[simp] theorem st_newD0 {env : Ev} : evalS cf (.newD i []) env h = .ok .nx (setSlot env i (some (.ref h.length))) (h ++ [.dct []]) := id rfl
@[simp] theorem st_setKeyD {env : Ev} {b e : E} : evalS cf (.setKeyD i b e) env h = ((evalE cf env e h).bind unP).toS env fun d h1 => ((evalE cf env b h1).bind unP).toS env fun kd h2 => ofH env ((keyOf kd).bind fun q => setKeyH env i q (.p d) h2) := id rfl
@[simp] theorem ev_dgetD {env : Ev} {b e : E} : evalE cf env (.dgetD i b e) h = ((evalE cf env b h).bind unP).bind fun kd h1 => ((evalE cf env e h1).bind unP).bind fun dd h2 => dgetDK env i kd dd h2 := id rfl
theorem ev_compI {env : Ev} {own : List Nat} {t : Tg} {cond : List Te} {elt : E} : evalE cf env (.compI i own t cond elt) h = match dctOf env h i with
    | none => .stuck
    | some p => match itemsD p.2 with
      | none => .stuck
      | some items => (compK2 (compL (fun e h => (evalE cf e elt h).bind unP) (fun e h => evalTs cf e cond h) (fun x e => bindT t x e) (wipeE env own)) items (h.set p.1 .dead)).bind fun v h2 => .ok v (h2.set p.1 (.dct p.2)) := id rfl
theorem dctAt_app {kvs : List (Key × Fld)} : dctAt (h ++ [.dct kvs]) h.length = some kvs := by unfold dctAt; simp
abbrev envG (five : List Card) (m : Nat) (v2 v3 v4 v5 : Option Val) : Ev := [some (.p (.tuple (five.map cardD))), some (.ref m), v2, v3, v4, v5]
theorem dctOf_G {five : List Card} {v2 v3 v4 v5 : Option Val} {kvs : List (Key × Fld)} : dctOf (envG five h.length v2 v3 v4 v5) (h ++ [.dct kvs]) 1 = some (h.length, kvs) := by
  show (some h.length).bind _ = _
  rw [Option.bind_some, dctAt_app]; rfl
theorem loop49 {five : List Card} : ∀ (cs : List Card) (l : List (Int × Int)) (v2 v3 : Option Val), l.length + cs.length < 1000 →
    ∃ w2 w3, forL (evalSs cf ls49_1) (bindT (.tup [(.name 2), (.name 3)])) (cs.map cardD) (envG five h.length v2 v3 none none) (h ++ [.dct (toKV l)]) = .ok .nx (envG five h.length w2 w3 none none) (h ++ [.dct (toKV ((cs.map (·.1)).foldl (fun l r => bump r l) l))])
  | [], l, v2, v3, _ => ⟨v2, v3, rfl⟩
  | c :: cs, l, v2, v3, hl => by
    rw [List.length_cons] at hl
    have bl := bump_len c.1 l
    obtain ⟨w2, w3, e⟩ := loop49 cs (bump c.1 l) (some (.p (.int c.1))) (some (.p (.str c.2))) (by omega)
    refine ⟨w2, w3, ?_⟩
    rw [List.map_cons, List.map_cons, List.foldl_cons]
    unfold forL
    have eb : bindT (.tup [(.name 2), (.name 3)]) (cardD c) (envG five h.length v2 v3 none none) = some (envG five h.length (some (.p (.int c.1))) (some (.p (.str c.2))) none none) := by
      simp only [cardD, bt_tup, bts_cons, bts_nil, bt_name, Option.bind_some, setSlot_0, setSlot_s]
    rw [eb]
    have st : evalSs cf ls49_1 (envG five h.length (some (.p (.int c.1))) (some (.p (.str c.2))) none none) (h ++ [.dct (toKV l)]) = .ok .nx (envG five h.length (some (.p (.int c.1))) (some (.p (.str c.2))) none none) (h ++ [.dct (toKV (bump c.1 l))]) := by
      have dg : dgetDK (envG five h.length (some (.p (.int c.1))) (some (.p (.str c.2))) none none) 1 (.int c.1) (.int 0) (h ++ [.dct (toKV l)]) = .ok (.p (.int ((l.lookup c.1).getD 0))) (h ++ [.dct (toKV l)]) := by
        unfold dgetDK
        rw [dctOf_G]
        simp only [keyOf, toKV_look]
        cases l.lookup c.1 with
        | none => rfl
        | some x => rfl
      have sk : setKeyH (envG five h.length (some (.p (.int c.1))) (some (.p (.str c.2))) none none) 1 (.inl c.1) (.p (.int ((l.lookup c.1).getD 0 + 1))) (h ++ [.dct (toKV l)]) = some (h ++ [.dct (toKV (bump c.1 l))]) := by
        unfold setKeyH
        rw [dctOf_G, Option.bind_some]
        have : (toKV l).length < 1000 := by unfold toKV; rw [List.length_map]; omega
        simp only
        rw [if_pos this, toKV_bump, set_app]
      unfold ls49_1 s49_1_0
      simp only [ss_cons, ss_nil, st_setKeyD, ev_op2d, ev_dgetD, ev_var, slot_0, slot_s, ofO_some, R.bind_ok, unP_p, ev_lit, dg, o_add, Option.map_some, R.toS_ok, keyOf, Option.bind_some, sk, ofH_some, RS.bind_nx]
    simp only [st]
    exact e
theorem often_len (rs : List Int) : (oftenM rs).length ≤ rs.length := by
  have : ∀ (rs : List Int) (l : List (Int × Int)), (rs.foldl (fun l r => bump r l) l).length ≤ l.length + rs.length := fun rs => by
    induction rs with
    | nil => intro l; exact Nat.le_refl _
    | cons r rs ih =>
      intro l
      rw [List.foldl_cons, List.length_cons]
      have := ih (bump r l)
      have := bump_len r l
      omega
  have z := this rs []
  rw [List.length_nil, Nat.zero_add] at z
  exact z
theorem sortP_len (l : List (Int × Int)) : (sortP l).length = l.length := by
  have hi : ∀ (x : Int × Int) (l : List (Int × Int)), (insP x l).length = l.length + 1 := fun x l => by
    induction l with
    | nil => rfl
    | cons y r ih => unfold insP; split <;> simp [ih]
  induction l with
  | nil => rfl
  | cons x r ih =>
    show (insP x (sortP r)).length = _
    rw [hi, ih]; rfl
theorem rows_len (five : List Card) : (rowsM five).length ≤ five.length := by
  unfold rowsM
  rw [List.length_reverse, sortP_len, List.length_map]
  have := often_len (five.map (·.1))
  rw [List.length_map] at this
  exact this
theorem grouped_eval (F : fns 49 = some d49) {five : List Card} (hz : five.length < 500) : callF fns (q + 1) 49 [.p (.tuple (five.map cardD))] h = .ok (.p (.tuple [intsT (ranksM five), intsT (shapeM five)])) h := by
  rw [call_eq F rfl]
  generalize callF fns q = cf
  have rl := rows_len five
  obtain ⟨w2, w3, e1⟩ := loop49 (cf := cf) (h := h) (five := five) five [] none none (by simp; omega)
  change forL _ _ _ _ _ = .ok .nx _ (h ++ [.dct (toKV (oftenM (five.map (·.1))))]) at e1
  generalize ho : oftenM (five.map (·.1)) = l at e1
  have ll : l.length < 500 := by
    rw [← ho]
    have := often_len (five.map (·.1))
    rw [List.length_map] at this
    omega
  have t0 : evalS cf s49_0 [some (.p (.tuple (five.map cardD))), none, none, none, none, none] h = .ok .nx (envG five h.length none none none none) (h ++ [.dct (toKV [])]) := by
    unfold s49_0
    simp only [st_newD0, setSlot_0, setSlot_s]
    rfl
  have t1 : evalS cf s49_1 (envG five h.length none none none none) (h ++ [.dct (toKV [])]) = .ok .nx (envG five h.length w2 w3 none none) (h ++ [.dct (toKV l)]) := by
    unfold s49_1
    simp only [st_for, es_e, ev_var, slot_0, ofO_some, R.bind_ok, unP_p, items_T, R.toS_ok]
    exact e1
  have cI : evalE cf (envG five h.length w2 w3 none none) (.compI 1 [2, 5] (.tup [(.name 2), (.name 5)]) [] (.tup [(.var 5), (.var 2)])) (h ++ [.dct (toKV l)]) = .ok (.p (.list ((l.map fun p => (p.2, p.1)).map pairD))) (h ++ [.dct (toKV l)]) := by
    rw [ev_compI, dctOf_G]
    simp only [toKV_items, set_app]
    have := comp_pure (elt := fun e h => (evalE cf e (.tup [(.var 5), (.var 2)]) h).bind unP) (cond := fun e h => evalTs cf e [] h) (bt := fun x e => bindT (.tup [(.name 2), (.name 5)]) x e) (env := wipeE (envG five h.length w2 w3 none none) [2, 5]) (h := h ++ [.dead]) (fun p : Int × Int => .tuple [.int p.1, .int p.2]) (fun p => pairD (p.2, p.1)) (fun _ => true) (xs := l) (fun p hp => ⟨envG five h.length (some (.p (.int p.1))) w3 none (some (.p (.int p.2))), by simp, by simp, fun _ => by simp [pairD]⟩)
    rw [compK2_ok (by rw [List.length_map]; exact Nat.lt_trans ll (by decide)) this, R.bind_ok, set_app, List.map_map, List.filter_eq_self.mpr (fun _ _ => rfl)]
    rfl
  have sp := o_sortP (l.map fun p => (p.2, p.1))
  have hr : rowsM five = (sortP (l.map fun p => (p.2, p.1))).reverse := by unfold rowsM; rw [ho]
  have t2 : evalS cf s49_2 (envG five h.length w2 w3 none none) (h ++ [.dct (toKV l)]) = .ok .nx (envG five h.length w2 w3 (some (.p (.list ((rowsM five).map pairD)))) none) (h ++ [.dct (toKV l)]) := by
    unfold s49_2
    have bI : ∀ (env : Ev) (h : Hi) (r : R Val), bor env h (.compI 1 [2, 5] (.tup [(.name 2), (.name 5)]) [] (.tup [(.var 5), (.var 2)])) r = r.bind unP := fun _ _ _ => rfl
    simp only [st_set, ev_op1, bor_op1, bI, cI, R.bind_ok, unP_p, sp, Option.map_some, ofO_some, o_rev, R.toS_ok, setSlot_0, setSlot_s, hr, List.map_reverse]
  have c3 : evalE cf (envG five h.length w2 w3 (some (.p (.list ((rowsM five).map pairD)))) none) (.comp [5, 2] (.tup [(.name 5), (.name 2)]) (.e (.var 4)) [] (.var 2)) (h ++ [.dct (toKV l)]) = .ok (.p (.list ((ranksM five).map .int))) (h ++ [.dct (toKV l)]) := by
    unfold ranksM
    rw [List.map_map]
    exact comp_all pairD _ (by simp) (by omega) fun p hp => ⟨envG five h.length (some (.p (.int p.2))) w3 (some (.p (.list ((rowsM five).map pairD)))) (some (.p (.int p.1))), by simp [pairD], by simp⟩
  have c4 : evalE cf (envG five h.length w2 w3 (some (.p (.list ((rowsM five).map pairD)))) none) (.comp [5, 2] (.tup [(.name 5), (.name 2)]) (.e (.var 4)) [] (.var 5)) (h ++ [.dct (toKV l)]) = .ok (.p (.list ((shapeM five).map .int))) (h ++ [.dct (toKV l)]) := by
    unfold shapeM
    rw [List.map_map]
    exact comp_all pairD _ (by simp) (by omega) fun p hp => ⟨envG five h.length (some (.p (.int p.2))) w3 (some (.p (.list ((rowsM five).map pairD)))) (some (.p (.int p.1))), by simp [pairD], by simp⟩
  show finF h.length (evalSs cf b49 [some (.p (.tuple (five.map cardD))), none, none, none, none, none] h) = _
  rw [b49_eq]
  unfold ls49
  rw [ss_cons, t0, RS.bind_nx, ss_cons, t1, RS.bind_nx, ss_cons, t2, RS.bind_nx, ss_cons]
  simp only [s49_3, st_ret, ev_tup, eps_cons, eps_nil, ev_op1, bor_comp, c3, c4, R.bind_ok, unP_p, o_tupL, Option.map_some, ofO_some, R.toS_ok, RS.bind_rt, fin_rp, take_app, intsT]
/-- the rank -/
theorem rank_eval (F48 : fns 48 = some d48) (F49 : fns 49 = some d49) (F50 : fns 50 = some d50) {five : List Card} (h5 : five.length = 5) (hs : (ranksM five).length < 5 → (shapes.lookup (shapeM five)).isSome) :
    callF fns (q + 2) 50 [.p (.tuple (five.map cardD))] h = .ok (.p (rankD (rankM five))) h := by
  rw [call_eq F50 rfl]
  have ge := grouped_eval (q := q) (h := h) F49 (five := five) (by omega)
  have te : (ranksM five).length = 5 → callF fns (q + 1) 48 [.p (intsT (ranksM five))] h = _ := fun hl => top_eval (q := q) (h := h) F48 hl
  have rl := rows_len five
  have rl2 : (ranksM five).length = (rowsM five).length := List.length_map _
  generalize callF fns (q + 1) = cf at ge te
  let X : Option Val → Option Val → Ev := fun v3 v4 => [some (.p (.tuple (five.map cardD))), some (.p (intsT (ranksM five))), some (.p (intsT (shapeM five))), v3, v4, none, none]
  have t0 : evalS cf s50_0 [some (.p (.tuple (five.map cardD))), none, none, none, none, none, none] h = .ok .nx (X none none) h := by
    unfold s50_0
    simp only [st_unpack, ev_call, ees_cons, ees_nil, ev_var, slot_0, ofO_some, R.bind_ok, ge, unP_p, R.toS_ok, bt_tup, bts_cons, bts_nil, bt_name, Option.bind_some, setSlot_0, setSlot_s, X]
  show finF h.length (evalSs cf b50 [some (.p (.tuple (five.map cardD))), none, none, none, none, none, none] h) = _
  rw [b50_eq]
  unfold ls50 rankM
  rw [ss_cons, t0, RS.bind_nx, ss_cons]
  by_cases c : (ranksM five).length < 5
  · rw [if_pos c]
    obtain ⟨x, hx⟩ := Option.isSome_iff_exists.mp (hs c)
    have ol : opf1 (.look shapes) (.tuple ((shapeM five).map .int)) = some (.int x) := by rw [o_look, hx]; rfl
    have ci : ((ranksM five).length : Int) < 5 := by omega
    have e : evalS cf s50_1 (X none none) h = .ok (.rt (.p (rankD (x, ranksM five)))) (X none none) h := by
      unfold s50_1
      change opf1 (.look [([2, 1, 1, 1], 1), ([2, 2, 1], 2), ([3, 1, 1], 3), ([3, 2], 6), ([4, 1], 7)]) _ = _ at ol
      simp only [st_if, et_val, bor_op2, ev_op2, ev_op1, bor_var, X, slot_0, slot_s, borV_p, ev_var, ofO_some, R.bind_ok, unP_p, intsT, o_lenT, List.length_map, Option.map_some, bor_lit, ev_lit, o_lt, decide_eq_true ci, truth_b, R.toS_ok, if_true, ss_cons, st_ret, ev_tup, eps_cons, eps_nil, ol, RS.bind_rt, rankD]
    rw [e, RS.bind_rt, fin_rp, List.take_length, hx]
    rfl
  · rw [if_neg c]
    have te := te (by omega)
    have ci : ¬ ((ranksM five).length : Int) < 5 := by omega
    have e : evalS cf s50_1 (X none none) h = .ok .nx (X none none) h := by
      unfold s50_1
      simp only [st_if, et_val, bor_op2, ev_op2, ev_op1, bor_var, X, slot_0, slot_s, borV_p, ev_var, ofO_some, R.bind_ok, unP_p, intsT, o_lenT, List.length_map, Option.map_some, bor_lit, ev_lit, o_lt, decide_eq_false ci, truth_b, R.toS_ok, Bool.false_eq_true, if_false, ss_nil]
    generalize hT : topM (ranksM five) = T at te
    have t2 : evalS cf s50_2 (X none none) h = .ok .nx (X (some (.p (.int T))) none) h := by
      unfold s50_2
      simp only [st_set, ev_call, ees_cons, ees_nil, ev_var, X, slot_0, slot_s, ofO_some, R.bind_ok, te, R.toS_ok, setSlot_0, setSlot_s]
    have c3 : evalE cf (X (some (.p (.int T))) none) (.comp [5, 6] (.tup [(.name 5), (.name 6)]) (.e (.var 0)) [] (.var 6)) h = .ok (.p (.list ((five.map (·.2)).map .str))) h := by
      rw [List.map_map]
      exact comp_all cardD _ (by simp [X]) (by omega) fun p hp => ⟨[some (.p (.tuple (five.map cardD))), some (.p (intsT (ranksM five))), some (.p (intsT (shapeM five))), some (.p (.int T)), none, some (.p (.int p.1)), some (.p (.str p.2))], by simp [X, cardD], by simp⟩
    have ls := o_lenSet (xs := five.map (·.2)) (by rw [List.length_map]; omega)
    have t3 : evalS cf s50_3 (X (some (.p (.int T))) none) h = .ok .nx (X (some (.p (.int T))) (some (.p (.bool (alikeM five))))) h := by
      unfold s50_3
      simp only [st_set, ev_op2, ev_op1, bor_comp, c3, R.bind_ok, unP_p, ls, Option.map_some, ofO_some, bor_lit, ev_lit, o_eqI, R.toS_ok, X, setSlot_0, setSlot_s]
      rfl
    rw [e, RS.bind_nx, ss_cons, t2, RS.bind_nx, ss_cons, t3, RS.bind_nx, ss_cons]
    generalize alikeM five = al
    simp only [s50_4, s50_5, s50_6, s50_7]
    by_cases p : 0 < T <;> cases al <;> simp [X, p, rankD, intsT]
end
end Cd
set_option Elab.async false
set_option linter.all false
set_option maxRecDepth 100000
set_option maxHeartbeats 4000000
namespace Cd
open PySem L2
end Cd
set_option Elab.async false
set_option linter.all false
set_option maxRecDepth 100000
set_option maxHeartbeats 4000000
namespace Cd
open PySem L2
section
variable {fns : Nat → Option FnD} {h : Hi} {k t q : Nat}
theorem er_map {α : Type} (f : α → PyData) : ∀ (l : List α) (j : Nat), (l.map f).eraseIdx j = (l.eraseIdx j).map f
  | [], _ => rfl
  | a :: l, 0 => rfl
  | a :: l, j + 1 => by rw [List.map_cons, List.eraseIdx_cons_succ, List.eraseIdx_cons_succ, List.map_cons, er_map f l j]
theorem er_perm {α : Type} : ∀ (l : List α) (j : Nat) (h : j < l.length), (l[j] :: l.eraseIdx j).Perm l
  | a :: l, 0, _ => List.Perm.refl _
  | a :: l, j + 1, h => by
    have := er_perm l j (by simpa using h)
    rw [List.eraseIdx_cons_succ, List.getElem_cons_succ]
    exact (List.Perm.swap _ _ _).trans (this.cons a)
end
end Cd
set_option Elab.async false
set_option linter.all false
set_option maxRecDepth 100000
set_option maxHeartbeats 4000000
namespace Cd
open PySem L2
def s51_0 : S := .set 3 (.tup [(.lit (.int 2)), (.lit (.int 3)), (.lit (.int 4)), (.lit (.int 5)), (.lit (.int 6)), (.lit (.int 7)), (.lit (.int 8)), (.lit (.int 9)), (.lit (.int 10)), (.lit (.int 11)), (.lit (.int 12)), (.lit (.int 13)), (.lit (.int 14))])
def s51_1 : S := .set 4 (.call 14 [(.var 0), (.var 1), (.lst [(.var 3), (.var 3), (.tup [(.lit (.int 2)), (.lit (.int 3)), (.lit (.int 4)), (.lit (.int 5)), (.lit (.int 14))]), (.tup [(.lit (.int 9)), (.lit (.int 10)), (.lit (.int 11)), (.lit (.int 12)), (.lit (.int 13))]), (.tup [(.lit (.int 6)), (.lit (.int 7)), (.lit (.int 8)), (.lit (.int 9))])])])
def s51_2 : S := .set2 5 6 (.mk (.lst [])) (.tup [])
def s51_3_0 : S := .ext (.var 5) (.comp [9] (.name 9) (.e (.lit (.str ("cdhs" : Str)))) [] (.tup [(.var 7), (.var 9)]))
def ls51_3 : List S := [s51_3_0]
def s51_3 : S := .for_ (.name 7) (.e (.var 4)) ls51_3
def s51_4_0 : S := .set 6 (.op2d .add (.var 6) (.tup [(.pop 5 (.call 13 [(.var 0), (.var 1), (.op1 .len (.var 5))]))]))
def ls51_4 : List S := [s51_4_0]
def s51_4 : S := .for_ (.name 8) (.rng1 (.var 2)) ls51_4
def s51_5 : S := .ret (.var 6)
def ls51 : List S := [s51_0, s51_1, s51_2, s51_3, s51_4, s51_5]
theorem b51_eq : b51 = ls51 := rfl
end Cd
set_option Elab.async false
set_option linter.all false
set_option maxRecDepth 100000
set_option maxHeartbeats 4000000
namespace Cd
open PySem L2
def suitsL : List Str := [("c" : Str), ("d" : Str), ("h" : Str), ("s" : Str)]
def deckOf (rs : List Int) : List Card := rs.flatMap fun r => suitsL.map fun s => (r, s)
def every : List Int := [2, 3, 4, 5, 6, 7, 8, 9, 10, 11, 12, 13, 14]
def deckRs : List (List Int) := [every, every, [2, 3, 4, 5, 14], [9, 10, 11, 12, 13], [6, 7, 8, 9]]
/-- some cards of one of the decks, drawn without being put back -/
def Deck (cs : List Card) : Prop := ∃ rs ∈ deckRs, ∃ rest, (cs ++ rest).Perm (deckOf rs)
theorem deck_len (rs : List Int) : (deckOf rs).length = 4 * rs.length := by
  unfold deckOf
  induction rs with
  | nil => rfl
  | cons r rs ih => rw [List.flatMap_cons, List.length_append, ih, List.length_map, List.length_cons]; show 4 + _ = _; omega
theorem deck_snoc (rs : List Int) (r : Int) : deckOf (rs ++ [r]) = deckOf rs ++ suitsL.map fun s => (r, s) := by
  unfold deckOf
  rw [List.flatMap_append]; simp
theorem deck_count (r : Int) (rs : List Int) : ((deckOf rs).map (·.1)).count r = 4 * rs.count r := by
  unfold deckOf
  induction rs with
  | nil => rfl
  | cons q rs ih =>
    rw [List.flatMap_cons, List.map_append, List.count_append, ih, List.count_cons]
    have : (suitsL.map fun s => (q, s)).map (·.1) = [q, q, q, q] := rfl
    rw [this]
    by_cases e : q = r
    · subst e; simp; omega
    · have : (q == r) = false := by simpa using e
      simp [List.count_cons, this]
theorem rs_count {rs : List Int} (h : rs ∈ deckRs) (r : Int) : rs.count r ≤ 1 := by
  have nd : rs.Nodup := by
    have : ∀ rs ∈ deckRs, rs.Nodup := by decide
    exact this rs h
  exact List.nodup_iff_count.mp nd r
theorem Deck.count {cs : List Card} (d : Deck cs) (r : Int) : (cs.map (·.1)).count r ≤ 4 := by
  obtain ⟨rs, hrs, rest, p⟩ := d
  have h1 := (p.map (·.1)).count_eq r
  rw [List.map_append, List.count_append, deck_count] at h1
  have := rs_count hrs r
  omega
theorem Deck.range {cs : List Card} (d : Deck cs) : ∀ c ∈ cs, 2 ≤ c.1 ∧ c.1 ≤ 14 ∧ c.2 ∈ suitsL := by
  obtain ⟨rs, hrs, rest, p⟩ := d
  intro c hc
  have hm := p.mem_iff.mp (List.mem_append_left rest hc)
  unfold deckOf at hm
  obtain ⟨r, hr, h2⟩ := List.mem_flatMap.mp hm
  obtain ⟨s, hs, rfl⟩ := List.mem_map.mp h2
  have : ∀ rs ∈ deckRs, ∀ r ∈ rs, 2 ≤ r ∧ r ≤ 14 := by decide
  exact ⟨(this rs hrs r hr).1, (this rs hrs r hr).2, hs⟩
theorem Deck.nodup {cs : List Card} (d : Deck cs) : cs.Nodup := by
  obtain ⟨rs, hrs, rest, p⟩ := d
  have : ∀ rs ∈ deckRs, (deckOf rs).Nodup := by decide
  exact (List.nodup_append.mp (p.nodup_iff.mpr (this rs hrs))).1
section
variable {fns : Nat → Option FnD} {h : Hi} {k t q : Nat} {cf : Calls}
theorem items_suits : itemsOf (.str ("cdhs" : Str)) = some (suitsL.map .str) := by rfl
abbrev envC (ns : List Int) (t : Nat) (m : Int) (v3 v4 v5 v6 v7 v8 : Option Val) : Ev := [some (.p (.list (ns.map .int))), some (.ref t), some (.p (.int m)), v3, v4, v5, v6, v7, v8, none]
theorem loop51a {ns : List Int} {m : Int} {v3 v4 v6 v8 : Option Val} (ht : t < h.length) : ∀ (rs done : List Int) (v7 : Option Val), done.length + rs.length < 100 →
    ∃ w7, forL (evalSs cf ls51_3) (bindT (.name 7)) (rs.map .int) (envC ns t m v3 v4 (some (.ref h.length)) v6 v7 v8) (hT (h ++ [.lst ((deckOf done).map cardD)]) t k) =
      .ok .nx (envC ns t m v3 v4 (some (.ref h.length)) v6 w7 v8) (hT (h ++ [.lst ((deckOf (done ++ rs)).map cardD)]) t k)
  | [], done, v7, _ => ⟨v7, by rw [List.append_nil]; rfl⟩
  | r :: rs, done, v7, hl => by
    rw [List.length_cons] at hl
    obtain ⟨w7, e⟩ := loop51a (ns := ns) (m := m) (v3 := v3) (v4 := v4) (v6 := v6) (v8 := v8) ht rs (done ++ [r]) (some (.p (.int r))) (by simp; omega)
    refine ⟨w7, ?_⟩
    rw [List.append_assoc, List.singleton_append] at e
    rw [List.map_cons]
    unfold forL
    have eb : bindT (.name 7) (.int r) (envC ns t m v3 v4 (some (.ref h.length)) v6 v7 v8) = some (envC ns t m v3 v4 (some (.ref h.length)) v6 (some (.p (.int r))) v8) := by
      simp only [bt_name, setSlot_0, setSlot_s]
    rw [eb]
    have c1 : evalE cf (envC ns t m v3 v4 (some (.ref h.length)) v6 (some (.p (.int r))) v8) (.comp [9] (.name 9) (.e (.lit (.str ("cdhs" : Str)))) [] (.tup [(.var 7), (.var 9)])) (hT (h ++ [.lst ((deckOf done).map cardD)]) t k) = .ok (.p (.list ((suitsL.map fun s => (r, s)).map cardD))) (hT (h ++ [.lst ((deckOf done).map cardD)]) t k) := by
      rw [List.map_map]
      refine comp_all PyData.str _ (by simp only [es_e, ev_lit, R.bind_ok, unP_p, items_suits, ofO_some]) (by decide) fun s hs => ⟨[some (.p (.list (ns.map .int))), some (.ref t), some (.p (.int m)), v3, v4, some (.ref h.length), v6, some (.p (.int r)), v8, some (.p (.str s))], by simp, by simp [cardD]⟩
    have sz : ((deckOf done).map cardD).length + ((suitsL.map fun s => (r, s)).map cardD).length ≤ sizeLine := by
      rw [List.length_map, List.length_map, List.length_map, deck_len]
      exact sz_ok (by show 4 * done.length + 4 ≤ 1000; omega)
    have st : evalSs cf ls51_3 (envC ns t m v3 v4 (some (.ref h.length)) v6 (some (.p (.int r))) v8) (hT (h ++ [.lst ((deckOf done).map cardD)]) t k) = .ok .nx (envC ns t m v3 v4 (some (.ref h.length)) v6 (some (.p (.int r))) v8) (hT (h ++ [.lst ((deckOf (done ++ [r])).map cardD)]) t k) := by
      have ex : extH (envC ns t m v3 v4 (some (.ref h.length)) v6 (some (.p (.int r))) v8) (.var 5) (.list ((suitsL.map fun s => (r, s)).map cardD)) (hT (h ++ [.lst ((deckOf done).map cardD)]) t k) = some (hT (h ++ [.lst ((deckOf (done ++ [r])).map cardD)]) t k) := by
        unfold extH
        simp only [listD, Option.bind_some, getL_var, slot_0, slot_s, refOf_r, one_a ht]
        rw [if_pos sz]
        unfold storeL
        simp only [slotRef_eq, slot_0, slot_s, refOf_r, Option.map_some, one_sa ht, deck_snoc, List.map_append]
      unfold ls51_3 s51_3_0
      simp only [ss_cons, ss_nil, st_ext, getL_var, slot_0, slot_s, refOf_r, Option.bind_some, one_a ht, c1, R.bind_ok, unP_p, R.toS_ok, ex, ofH_some, RS.bind_nx]
    simp only [st]
    exact e
theorem loop51b {ns : List Int} {m : Int} {v3 v4 v7 : Option Val} {deck : List Card} (F13 : fns 13 = some d13) (ht : t < h.length) (hd : deck.length < 1000) : ∀ (items : List PyData) (k : Nat) (left got : List Card) (v8 : Option Val), items.length < left.length → k + items.length < 1000000 → (got ++ left).Perm deck → got.length + items.length < 900 →
    ∃ (left' got' : List Card) (w8 : Option Val), (got' ++ left').Perm deck ∧ got'.length = got.length + items.length ∧ forL (evalSs (callF fns (q + 1)) ls51_4) (bindT (.name 8)) items (envC ns t m v3 v4 (some (.ref h.length)) (some (.p (.tuple (got.map cardD)))) v7 v8) (hT (h ++ [.lst (left.map cardD)]) t k) =
      .ok .nx (envC ns t m v3 v4 (some (.ref h.length)) (some (.p (.tuple (got'.map cardD)))) v7 w8) (hT (h ++ [.lst (left'.map cardD)]) t (k + items.length))
  | [], k, left, got, v8, _, _, p, _ => ⟨left, got, v8, p, rfl, rfl⟩
  | x :: items, k, left, got, v8, hl, hk, p, hg => by
    rw [List.length_cons] at hl hk hg
    have pl := p.length_eq
    rw [List.length_append] at pl
    obtain ⟨v, v0, v1, ev⟩ := draw_eval (q := q) (h := h ++ [.lst (left.map cardD)]) (t := t) (k := k) F13 ns (by simp; omega) (by omega) (m := (left.length : Int)) (by omega)
    obtain ⟨j, rfl⟩ := Int.eq_ofNat_of_zero_le v0
    have hj : j < left.length := by omega
    have ep := er_perm left j hj
    have el : (left.eraseIdx j).length = left.length - 1 := List.length_eraseIdx_of_lt hj
    obtain ⟨left', got', w8, p', l', e⟩ := loop51b (ns := ns) (m := m) (v3 := v3) (v4 := v4) (v7 := v7) F13 ht hd items (k + 1) (left.eraseIdx j) (got ++ [left[j]]) (some (.p x)) (by omega) (by omega) (by
      refine List.Perm.trans ?_ p
      rw [List.append_assoc, List.singleton_append]
      exact ep.append_left got) (by simp; omega)
    refine ⟨left', got', w8, p', by rw [l']; simp; omega, ?_⟩
    unfold forL
    have eb : bindT (.name 8) x (envC ns t m v3 v4 (some (.ref h.length)) (some (.p (.tuple (got.map cardD)))) v7 v8) = some (envC ns t m v3 v4 (some (.ref h.length)) (some (.p (.tuple (got.map cardD)))) v7 (some (.p x))) := by
      simp only [bt_name, setSlot_0, setSlot_s]
    rw [eb]
    have ix : ixN (left.map cardD).length ((j : Nat) : Int) = some j := ixN_nat (by rw [List.length_map]; exact hj)
    have gx : (left.map cardD)[j]? = some (cardD left[j]) := by rw [List.getElem?_map, List.getElem?_eq_getElem hj]; rfl
    have er := er_map cardD left j
    have sm : ((j : Nat) : Int).natAbs < 9223372036854775808 := by omega
    have ln : ((left.map cardD).length : Int) = (left.length : Int) := by rw [List.length_map]
    generalize left[j] = c at *
    generalize left.eraseIdx j = l2 at *
    have pp : popK (envC ns t m v3 v4 (some (.ref h.length)) (some (.p (.tuple (got.map cardD)))) v7 (some (.p x))) 5 (.int ((j : Nat) : Int)) (hT (h ++ [.lst (left.map cardD)]) t (k + 1)) = .ok (.p (cardD c)) (hT (h ++ [.lst (l2.map cardD)]) t (k + 1)) := by
      unfold popK
      simp only [lstOf_eq, slot_0, slot_s, refOf_r, Option.bind_some, one_a ht, Option.map_some, ix, gx, if_pos sm, er, one_sa ht]
    have ad : opf2 .add (.tuple (got.map cardD)) (.tuple [cardD c]) = some (.tuple ((got ++ [c]).map cardD)) := by
      rw [addT_ok (by simp; omega), List.map_append]; rfl
    have st : evalSs (callF fns (q + 1)) ls51_4 (envC ns t m v3 v4 (some (.ref h.length)) (some (.p (.tuple (got.map cardD)))) v7 (some (.p x))) (hT (h ++ [.lst (left.map cardD)]) t k) = .ok .nx (envC ns t m v3 v4 (some (.ref h.length)) (some (.p (.tuple ((got ++ [c]).map cardD)))) v7 (some (.p x))) (hT (h ++ [.lst (l2.map cardD)]) t (k + 1)) := by
      generalize callF fns (q + 1) = cf at ev
      unfold ls51_4 s51_4_0
      simp only [ss_cons, ss_nil, st_set, ev_op2d, ev_var, slot_0, slot_s, ofO_some, R.bind_ok, unP_p, ev_tup, eps_cons, eps_nil, ev_pop, lstOf_eq, refOf_r, Option.bind_some, one_a ht, Option.map_some, ev_call, ees_cons, ees_nil, ev_op1, bor_var, borV_r, o_lenL, ln, ev, pp, ad, R.toS_ok, setSlot_0, setSlot_s, RS.bind_nx]
    simp only [st]
    rw [List.length_cons, show k + (items.length + 1) = k + 1 + items.length by omega]
    exact e
theorem cards_evalG {i : Nat} (F : HasD fns) (F51 : fns i = some d51) (ns : List Int) {m : Nat} (hm : m ≤ 15) (ht : t < h.length) (hk : k + 100 < 1000000) :
    ∃ cs : List Card, cs.length = m ∧ Deck cs ∧ callF fns (q + 3) i [.p (.list (ns.map .int)), .ref t, .p (.int m)] (hT h t k) = .ok (.p (.tuple (cs.map cardD))) (hT h t (k + 1 + m)) := by
  rw [call_eq F51 rfl]
  let rows : List PyData := deckRs.map intsT
  obtain ⟨x, hx, ep⟩ := pick_eval (fns := fns) (q := q) (h := h) (t := t) (k := k) F ns (xs := rows) ht (by omega) (by simp [rows, deckRs])
  obtain ⟨rs, hrs, rfl⟩ := List.mem_map.mp hx
  have rl : 4 ≤ rs.length ∧ rs.length ≤ 13 := by
    have : ∀ rs ∈ deckRs, 4 ≤ rs.length ∧ rs.length ≤ 13 := by decide
    exact this rs hrs
  let X := fun v3 v4 v5 v6 v7 v8 => envC ns t m v3 v4 v5 v6 v7 v8
  obtain ⟨w7, e3⟩ := loop51a (cf := callF fns (q + 2)) (h := h) (k := k + 1) (ns := ns) (m := m) (v3 := some (.p (intsT every))) (v4 := some (.p (intsT rs))) (v6 := some (.p (.tuple []))) (v8 := none) ht rs [] none (by simp; omega)
  rw [List.nil_append] at e3
  obtain ⟨left', got', w8, p', l', e4⟩ := loop51b (fns := fns) (q := q + 1) (h := h) (ns := ns) (m := m) (v3 := some (.p (intsT every))) (v4 := some (.p (intsT rs))) (v7 := w7) (deck := deckOf rs) F.f13 ht (by rw [deck_len]; omega) ((List.range m).map natD) (k + 1) (deckOf rs) [] none (by rw [deck_len]; simp; omega) (by simp; omega) (List.Perm.refl _) (by simp; omega)
  rw [List.length_map, List.length_range] at l' e4
  change forL (evalSs (callF fns (q + 2)) ls51_4) _ _ _ _ = _ at e4
  generalize callF fns (q + 2) = cf at ep e3 e4
  have t0 : evalS cf s51_0 (X none none none none none none) (hT h t k) = .ok .nx (X (some (.p (intsT every))) none none none none none) (hT h t k) := by
    unfold s51_0
    simp only [st_set, ev_tup, eps_cons, eps_nil, ev_lit, R.bind_ok, unP_p, R.toS_ok, X, setSlot_0, setSlot_s]
    rfl
  have t1 : evalS cf s51_1 (X (some (.p (intsT every))) none none none none none) (hT h t k) = .ok .nx (X (some (.p (intsT every))) (some (.p (intsT rs))) none none none none) (hT h t (k + 1)) := by
    unfold s51_1
    simp only [st_set, ev_call, ees_cons, ees_nil, ev_var, X, slot_0, slot_s, ofO_some, R.bind_ok, ev_lst, eps_cons, eps_nil, unP_p, ev_tup, ev_lit]
    have ep' : cf 14 [.p (.list (ns.map .int)), .ref t, .p (.list [intsT every, intsT every, .tuple [.int 2, .int 3, .int 4, .int 5, .int 14], .tuple [.int 9, .int 10, .int 11, .int 12, .int 13], .tuple [.int 6, .int 7, .int 8, .int 9]])] (hT h t k) = .ok (.p (intsT rs)) (hT h t (k + 1)) := ep
    rw [ep', R.toS_ok]
    simp only [setSlot_0, setSlot_s]
  have t2 : evalS cf s51_2 (X (some (.p (intsT every))) (some (.p (intsT rs))) none none none none) (hT h t (k + 1)) = .ok .nx (X (some (.p (intsT every))) (some (.p (intsT rs))) (some (.ref h.length)) (some (.p (.tuple []))) none none) (hT (h ++ [.lst ((deckOf []).map cardD)]) t (k + 1)) := by
    unfold s51_2
    simp only [st_set2, ev_mk, ev_lst, eps_nil, R.bind_ok, unP_p, mkK, R.toS_ok, hT_len, hT_app ht, ev_tup, X, setSlot_0, setSlot_s]
    rfl
  have t3 : evalS cf s51_3 (X (some (.p (intsT every))) (some (.p (intsT rs))) (some (.ref h.length)) (some (.p (.tuple []))) none none) (hT (h ++ [.lst ((deckOf []).map cardD)]) t (k + 1)) = .ok .nx (X (some (.p (intsT every))) (some (.p (intsT rs))) (some (.ref h.length)) (some (.p (.tuple []))) w7 none) (hT (h ++ [.lst ((deckOf rs).map cardD)]) t (k + 1)) := by
    unfold s51_3
    simp only [st_for, es_e, ev_var, X, slot_0, slot_s, ofO_some, R.bind_ok, unP_p, intsT, items_T, R.toS_ok]
    exact e3
  have t4 : evalS cf s51_4 (X (some (.p (intsT every))) (some (.p (intsT rs))) (some (.ref h.length)) (some (.p (.tuple []))) w7 none) (hT (h ++ [.lst ((deckOf rs).map cardD)]) t (k + 1)) = .ok .nx (X (some (.p (intsT every))) (some (.p (intsT rs))) (some (.ref h.length)) (some (.p (.tuple (got'.map cardD)))) w7 w8) (hT (h ++ [.lst (left'.map cardD)]) t (k + 1 + m)) := by
    unfold s51_4
    rw [st_for, src_nat (j := m) (by simp [X]) (by omega), R.toS_ok]
    exact e4
  refine ⟨got', by simpa using l', ⟨rs, hrs, left', p'⟩, ?_⟩
  show finF (hT h t k).length (evalSs cf b51 (X none none none none none none) (hT h t k)) = _
  rw [b51_eq]
  unfold ls51
  rw [ss_cons, t0, RS.bind_nx, ss_cons, t1, RS.bind_nx, ss_cons, t2, RS.bind_nx, ss_cons, t3, RS.bind_nx, ss_cons, t4, RS.bind_nx, ss_cons]
  simp only [s51_5, st_ret, ev_var, X, slot_0, slot_s, ofO_some, R.toS_ok, RS.bind_rt, fin_rp, hT_len, hT_cut ht]
end
end Cd
set_option Elab.async false
set_option linter.all false
set_option maxRecDepth 100000
set_option maxHeartbeats 4000000
namespace Cd
open PySem L2
structure Often (done : List Int) (l : List (Int × Int)) : Prop where
  val : ∀ p ∈ l, p.2 = (done.count p.1 : Int) ∧ 0 < p.2
  sum : (l.map (·.2)).sum = done.length
  keys : ∀ x, x ∈ done ↔ x ∈ l.map (·.1)
  nd : (l.map (·.1)).Nodup
theorem bump_keys (r : Int) : ∀ l : List (Int × Int), (bump r l).map (·.1) = if r ∈ l.map (·.1) then l.map (·.1) else l.map (·.1) ++ [r]
  | [] => rfl
  | (q, c) :: t => by
    unfold bump
    by_cases e : q = r
    · subst e; simp
    · rw [if_neg e, List.map_cons, List.map_cons, bump_keys r t]
      have : r ∈ q :: t.map (·.1) ↔ r ∈ t.map (·.1) := by
        rw [List.mem_cons]
        exact ⟨fun h => h.resolve_left fun z => e z.symm, .inr⟩
      by_cases c : r ∈ t.map (·.1)
      · rw [if_pos c, if_pos (this.mpr c)]
      · rw [if_neg c, if_neg (fun z => c (this.mp z))]; rfl
theorem bump_sum (r : Int) : ∀ l : List (Int × Int), ((bump r l).map (·.2)).sum = (l.map (·.2)).sum + 1
  | [] => rfl
  | (q, c) :: t => by
    unfold bump
    by_cases e : q = r
    · rw [if_pos e, List.map_cons, List.map_cons, List.sum_cons, List.sum_cons]; omega
    · rw [if_neg e, List.map_cons, List.map_cons, List.sum_cons, List.sum_cons, bump_sum r t]; omega
theorem bump_mem (r : Int) : ∀ (l : List (Int × Int)), (l.map (·.1)).Nodup → ∀ p ∈ bump r l, (p ∈ l ∧ p.1 ≠ r) ∨ (p.1 = r ∧ (((r, p.2 - 1) ∈ l) ∨ (r ∉ l.map (·.1) ∧ p.2 = 1)))
  | [], _, p, h => by
    rw [List.mem_singleton.mp h]
    exact .inr ⟨rfl, .inr ⟨by simp, rfl⟩⟩
  | (q, c) :: t, nd, p, h => by
    obtain ⟨n1, n2⟩ := List.nodup_cons.mp nd
    unfold bump at h
    by_cases e : q = r
    · subst e
      rw [if_pos rfl] at h
      rcases List.mem_cons.mp h with rfl | h
      · refine .inr ⟨rfl, .inl ?_⟩
        have : c + 1 - 1 = c := by omega
        rw [this]; exact List.mem_cons_self
      · refine .inl ⟨List.mem_cons_of_mem _ h, fun z => n1 ?_⟩
        rw [← z]; exact List.mem_map.mpr ⟨p, h, rfl⟩
    · rw [if_neg e] at h
      rcases List.mem_cons.mp h with rfl | h
      · exact .inl ⟨List.mem_cons_self, e⟩
      · rcases bump_mem r t n2 p h with ⟨h1, h2⟩ | ⟨h1, h2 | ⟨h2, h3⟩⟩
        · exact .inl ⟨List.mem_cons_of_mem _ h1, h2⟩
        · exact .inr ⟨h1, .inl (List.mem_cons_of_mem _ h2)⟩
        · refine .inr ⟨h1, .inr ⟨?_, h3⟩⟩
          rw [List.map_cons, List.mem_cons]
          rintro (z | z)
          · exact e z.symm
          · exact h2 z
theorem Often.snoc {done : List Int} {l : List (Int × Int)} (o : Often done l) (r : Int) : Often (done ++ [r]) (bump r l) := by
  refine ⟨fun p hp => ?_, by rw [bump_sum, o.sum, List.length_append]; rfl, fun x => ?_, ?_⟩
  · rw [List.count_append]
    rcases bump_mem r l o.nd p hp with ⟨h1, h2⟩ | ⟨h1, h2 | ⟨h2, h3⟩⟩
    · have := o.val p h1
      have z : [r].count p.1 = 0 := List.count_eq_zero.mpr (by simpa using h2)
      rw [z]; exact this
    · have := o.val _ h2
      simp only at this
      rw [h1, List.count_singleton_self]
      constructor <;> omega
    · rw [h1, List.count_singleton_self, h3]
      have : done.count r = 0 := List.count_eq_zero.mpr (fun z => h2 ((o.keys r).mp z))
      rw [this]
      exact ⟨rfl, by decide⟩
  · rw [bump_keys, List.mem_append, List.mem_singleton, o.keys x]
    by_cases c : r ∈ l.map (·.1)
    · rw [if_pos c]
      constructor
      · rintro (h | rfl)
        · exact h
        · exact c
      · exact .inl
    · rw [if_neg c, List.mem_append, List.mem_singleton]
  · rw [bump_keys]
    by_cases c : r ∈ l.map (·.1)
    · rw [if_pos c]; exact o.nd
    · rw [if_neg c]
      exact List.nodup_append.mpr ⟨o.nd, by simp, fun a ha b hb => by rw [List.mem_singleton.mp hb]; rintro rfl; exact c ha⟩
theorem often_ok (rs : List Int) : Often rs (oftenM rs) := by
  have : ∀ (rs done : List Int) (l : List (Int × Int)), Often done l → Often (done ++ rs) (rs.foldl (fun l r => bump r l) l) := fun rs => by
    induction rs with
    | nil => intro done l o; rw [List.append_nil]; exact o
    | cons r rs ih =>
      intro done l o
      have := ih (done ++ [r]) (bump r l) (o.snoc r)
      rw [List.append_assoc, List.singleton_append] at this
      exact this
  have z := this rs [] [] ⟨(fun p hp => by cases hp), rfl, (fun x => by simp), List.Pairwise.nil⟩
  rw [List.nil_append] at z
  exact z
theorem sortP_permX (l : List (Int × Int)) : (sortP l).Perm l := by
  have hi : ∀ (x : Int × Int) (l : List (Int × Int)), (insP x l).Perm (x :: l) := fun x l => by
    induction l with
    | nil => exact .refl _
    | cons y r ih =>
      unfold insP
      split
      · exact .refl _
      · exact (ih.cons y).trans (.swap _ _ _)
  induction l with
  | nil => exact .refl _
  | cons x r ih => exact (hi x _).trans (ih.cons x)
theorem rows_perm (five : List Card) : (rowsM five).Perm ((oftenM (five.map (·.1))).map fun p => (p.2, p.1)) := (List.reverse_perm _).trans (sortP_permX _)
theorem leP_fst {p q : Int × Int} (h : leP p q = true) : p.1 ≤ q.1 := by
  unfold leP at h
  simp at h
  omega
theorem sortP_sortedX (l : List (Int × Int)) : (sortP l).Pairwise fun p q => leP p q = true := by
  have hi : ∀ (x : Int × Int) (l : List (Int × Int)), l.Pairwise (fun p q => leP p q = true) → (insP x l).Pairwise fun p q => leP p q = true := fun x l => by
    induction l with
    | nil => intro _; exact List.pairwise_singleton _ _
    | cons y r ih =>
      intro h
      obtain ⟨h1, h2⟩ := List.pairwise_cons.mp h
      have tr : ∀ {a b c : Int × Int}, leP a b = true → leP b c = true → leP a c = true := fun {a b c} x y => by
        unfold leP at *
        simp at *
        omega
      have tot : ∀ {a b : Int × Int}, ¬ leP a b = true → leP b a = true := fun {a b} x => by
        unfold leP at *
        simp at *
        omega
      unfold insP
      split
      · rename_i c
        refine List.pairwise_cons.mpr ⟨fun z hz => ?_, h⟩
        rcases List.mem_cons.mp hz with rfl | hz
        · exact c
        · exact tr c (h1 z hz)
      · rename_i c
        refine List.pairwise_cons.mpr ⟨fun z hz => ?_, ih h2⟩
        have pm : ∀ (x : Int × Int) (l : List (Int × Int)), z ∈ insP x l → z = x ∨ z ∈ l := fun x l => by
          induction l with
          | nil => intro h; exact .inl (List.mem_singleton.mp h)
          | cons y r ih =>
            intro h
            unfold insP at h
            split at h
            · exact List.mem_cons.mp h
            · rcases List.mem_cons.mp h with h | h
              · exact .inr (h ▸ List.mem_cons_self)
              · exact (ih h).imp id (List.mem_cons_of_mem _)
        rcases pm x r hz with rfl | hz
        · exact tot c
        · exact h1 z hz
  induction l with
  | nil => exact .nil
  | cons x r ih => exact hi x _ ih
theorem shape_desc (five : List Card) : (shapeM five).Pairwise (· ≥ ·) := by
  unfold shapeM rowsM
  rw [List.pairwise_map, List.pairwise_reverse]
  exact (sortP_sortedX _).imp fun h => leP_fst h
theorem isum_perm {xs ys : List Int} (h : xs.Perm ys) : xs.sum = ys.sum := by
  induction h with
  | nil => rfl
  | cons x _ ih => rw [List.sum_cons, List.sum_cons, ih]
  | swap x y l => simp only [List.sum_cons]; omega
  | trans _ _ h1 h2 => exact h1.trans h2
theorem shape_sum (five : List Card) : (shapeM five).sum = five.length := by
  have h := isum_perm ((rows_perm five).map (·.1))
  unfold shapeM
  rw [h, List.map_map]
  have := (often_ok (five.map (·.1))).sum
  rw [List.length_map] at this
  exact this
theorem shape_mem {five : List Card} (hc : ∀ r, (five.map (·.1)).count r ≤ 4) : ∀ c ∈ shapeM five, 1 ≤ c ∧ c ≤ 4 := fun c h => by
  obtain ⟨p, hp, rfl⟩ := List.mem_map.mp h
  obtain ⟨q, hq, rfl⟩ := List.mem_map.mp ((rows_perm five).mem_iff.mp hp)
  have := (often_ok (five.map (·.1))).val q hq
  have := hc q.1
  simp only
  omega
theorem shape_ok {five : List Card} (h5 : five.length = 5) (hc : ∀ r, (five.map (·.1)).count r ≤ 4) : (ranksM five).length < 5 → (shapes.lookup (shapeM five)).isSome := by
  intro hl
  have e : (ranksM five).length = (shapeM five).length := by unfold ranksM shapeM; rw [List.length_map, List.length_map]
  rw [e] at hl
  have h1 := shape_desc five
  have h2 := shape_sum five
  have h3 := shape_mem hc
  rw [h5] at h2
  generalize shapeM five = sh at hl h1 h2 h3
  match sh, hl, h1, h2, h3 with
  | [], _, _, h2, _ => simp at h2
  | [a], _, _, h2, h3 =>
    have := h3 a (by simp)
    simp at h2
    omega
  | [a, b], _, h1, h2, h3 =>
    have a1 := h3 a (by simp)
    have b1 := h3 b (by simp)
    simp at h1 h2
    have : (a = 4 ∧ b = 1) ∨ (a = 3 ∧ b = 2) := by omega
    rcases this with ⟨rfl, rfl⟩ | ⟨rfl, rfl⟩ <;> decide
  | [a, b, c], _, h1, h2, h3 =>
    have a1 := h3 a (by simp)
    have b1 := h3 b (by simp)
    have c1 := h3 c (by simp)
    simp at h1 h2
    have : (a = 3 ∧ b = 1 ∧ c = 1) ∨ (a = 2 ∧ b = 2 ∧ c = 1) := by omega
    rcases this with ⟨rfl, rfl, rfl⟩ | ⟨rfl, rfl, rfl⟩ <;> decide
  | [a, b, c, d], _, h1, h2, h3 =>
    have a1 := h3 a (by simp)
    have b1 := h3 b (by simp)
    have c1 := h3 c (by simp)
    have d1 := h3 d (by simp)
    simp at h1 h2
    have : a = 2 ∧ b = 1 ∧ c = 1 ∧ d = 1 := by omega
    obtain ⟨rfl, rfl, rfl, rfl⟩ := this
    decide
  | a :: b :: c :: d :: e :: f, hl, _, _, _ => simp at hl; omega
theorem ranks_mem {five : List Card} {r : Int} (h : r ∈ ranksM five) : r ∈ five.map (·.1) := by
  obtain ⟨p, hp, rfl⟩ := List.mem_map.mp h
  obtain ⟨q, hq, rfl⟩ := List.mem_map.mp ((rows_perm five).mem_iff.mp hp)
  exact ((often_ok _).keys q.1).mpr (List.mem_map.mpr ⟨q, hq, rfl⟩)
/-- a rank as it may be: a kind, and what counts -/
structure RkOk (r : Int × List Int) : Prop where
  lo : 0 ≤ r.1
  hi : r.1 ≤ 8
  few : r.2.length ≤ 5
  rng : ∀ x ∈ r.2, 2 ≤ x ∧ x ≤ 14
  one : r.1 = 8 → ∃ t, r.2 = [t]
theorem top_mem {rs : List Int} (h : 0 < topM rs) : topM rs = 5 ∨ topM rs ∈ rs := by
  unfold topM at h ⊢
  by_cases c : rs = [14, 5, 4, 3, 2]
  · rw [if_pos c]; exact .inl rfl
  · rw [if_neg c] at h ⊢
    by_cases c2 : rs = (List.range 5).map fun k : Nat => rs.headD 0 - k
    · rw [if_pos c2] at h ⊢
      right
      cases rs with
      | nil => simp at h
      | cons a r => exact List.mem_cons_self
    · rw [if_neg c2] at h; omega
/-- cards of which there is one at most, or four of one rank -/
def Fit (cs : List Card) : Prop := (∀ r, (cs.map (·.1)).count r ≤ 4) ∧ ∀ c ∈ cs, 2 ≤ c.1 ∧ c.1 ≤ 14
theorem Deck.fit {cs : List Card} (d : Deck cs) : Fit cs := ⟨d.count, fun c hc => ⟨(d.range c hc).1, (d.range c hc).2.1⟩⟩
theorem rank_okF {five : List Card} (h5 : five.length = 5) (d : Fit five) : RkOk (rankM five) := by
  have rg : ∀ x ∈ ranksM five, 2 ≤ x ∧ x ≤ 14 := fun x hx => by
    obtain ⟨c, hc, rfl⟩ := List.mem_map.mp (ranks_mem hx)
    exact d.2 c hc
  have rl : (ranksM five).length ≤ 5 := by
    have := rows_len five
    unfold ranksM
    rw [List.length_map]; omega
  have tp : 0 < topM (ranksM five) → 2 ≤ topM (ranksM five) ∧ topM (ranksM five) ≤ 14 := fun h => by
    rcases top_mem h with e | e
    · omega
    · exact rg _ e
  unfold rankM
  by_cases c : (ranksM five).length < 5
  · rw [if_pos c]
    obtain ⟨x, hx⟩ := Option.isSome_iff_exists.mp (shape_ok h5 d.1 c)
    have : x ∈ shapes.map (·.2) := by
      have : ∀ (l : List (List Int × Int)) ks i, l.lookup ks = some i → i ∈ l.map (·.2) := fun l => by
        induction l with
        | nil => intro ks i e; cases e
        | cons p l ih =>
          intro ks i e
          rw [List.lookup_cons] at e
          split at e
          · cases e; exact List.mem_cons_self
          · exact List.mem_cons_of_mem _ (ih ks i e)
      exact this _ _ _ hx
    rw [hx, Option.getD_some]
    have hx2 : x = 1 ∨ x = 2 ∨ x = 3 ∨ x = 6 ∨ x = 7 := by simpa [shapes] using this
    exact ⟨by show 0 ≤ x; omega, by show x ≤ 8; omega, rl, rg, fun z => by have : x = 8 := z; omega⟩
  · rw [if_neg c]
    by_cases c1 : (decide (0 < topM (ranksM five)) && alikeM five) = true
    · rw [if_pos c1]
      have t0 : 0 < topM (ranksM five) := of_decide_eq_true (Bool.and_eq_true_iff.mp c1).1
      exact ⟨by show (0 : Int) ≤ 8; decide, by show (8 : Int) ≤ 8; decide, by simp, fun x hx => by rw [List.mem_singleton.mp hx]; exact tp t0, fun _ => ⟨_, rfl⟩⟩
    · rw [if_neg c1]
      by_cases c2 : alikeM five = true
      · rw [if_pos c2]
        exact ⟨by show (0 : Int) ≤ 5; decide, by show (5 : Int) ≤ 8; decide, rl, rg, fun z => absurd (show (5 : Int) = 8 from z) (by decide)⟩
      · rw [if_neg c2]
        by_cases c3 : 0 < topM (ranksM five)
        · rw [if_pos c3]
          exact ⟨by show (0 : Int) ≤ 4; decide, by show (4 : Int) ≤ 8; decide, by simp, fun x hx => by rw [List.mem_singleton.mp hx]; exact tp c3, fun z => absurd (show (4 : Int) = 8 from z) (by decide)⟩
        · rw [if_neg c3]
          exact ⟨by show (0 : Int) ≤ 0; decide, by show (0 : Int) ≤ 8; decide, rl, rg, fun z => absurd (show (0 : Int) = 8 from z) (by decide)⟩
def ltI : List Int → List Int → Bool
  | [], [] => false
  | [], _ :: _ => true
  | _ :: _, [] => false
  | x :: xs, y :: ys => if x = y then ltI xs ys else decide (x < y)
def ltR (a b : Int × List Int) : Bool := if a.1 = b.1 then ltI a.2 b.2 else decide (a.1 < b.1)
theorem alike_ints : ∀ xs ys : List Int, PySem.W.alikeAll (xs.map .int) (ys.map .int) = true
  | [], _ => by simp [PySem.W.alikeAll]
  | _ :: _, [] => by simp [PySem.W.alikeAll]
  | x :: xs, y :: ys => by
    simp only [List.map_cons, PySem.W.alikeAll, PySem.W.alike, alike_ints xs ys, Bool.and_true]
theorem alike_rank (a b : Int × List Int) : PySem.W.alike (rankD a) (rankD b) = true := by
  simp only [rankD, PySem.W.alike, PySem.W.alikeAll, alike_ints, Bool.and_true]
theorem lt_ints : ∀ xs ys : List Int, PySem.W.dataLt (.tuple (xs.map .int)) (.tuple (ys.map .int)) = ltI xs ys
  | [], [] => by rw [PySem.W.dataLt_tuple]; rfl
  | [], _ :: _ => by rw [PySem.W.dataLt_tuple]; rfl
  | _ :: _, [] => by rw [PySem.W.dataLt_tuple]; rfl
  | x :: xs, y :: ys => by
    rw [PySem.W.dataLt_tuple, List.map_cons, List.map_cons]
    unfold ltI
    by_cases c : x = y
    · rw [if_pos c, PySem.W.dataLt_all_yes (by simp [PySem.W.alike]) (by rw [eqv_int]; exact decide_eq_true c), ← PySem.W.dataLt_tuple, lt_ints xs ys]
    · rw [if_neg c, PySem.W.dataLt_all_no (by simp [PySem.W.alike]) (by rw [eqv_int]; exact decide_eq_false c), PySem.W.dataLt_int]
theorem lt_rank (a b : Int × List Int) : PySem.W.dataLt (rankD a) (rankD b) = ltR a b := by
  unfold rankD ltR
  rw [PySem.W.dataLt_tuple]
  by_cases c : a.1 = b.1
  · rw [if_pos c, PySem.W.dataLt_all_yes (by simp [PySem.W.alike]) (by rw [eqv_int]; exact decide_eq_true c)]
    by_cases c2 : a.2 = b.2
    · rw [PySem.W.dataLt_all_yes (by simp only [PySem.W.alike, alike_ints]) (by simp only [PyData.eqv, eqv_ints]; exact decide_eq_true c2), c2]
      have : ∀ xs : List Int, ltI xs xs = false := fun xs => by
        induction xs with
        | nil => rfl
        | cons x xs ih => unfold ltI; rw [if_pos rfl]; exact ih
      rw [this]; rfl
    · rw [PySem.W.dataLt_all_no (by simp only [PySem.W.alike, alike_ints]) (by simp only [PyData.eqv, eqv_ints]; exact decide_eq_false c2), lt_ints]
  · rw [if_neg c, PySem.W.dataLt_all_no (by simp [PySem.W.alike]) (by rw [eqv_int]; exact decide_eq_false c), PySem.W.dataLt_int]
def maxR : List (Int × List Int) → Int × List Int
  | [] => (0, [])
  | r :: rs => rs.foldl (fun a y => if ltR a y then y else a) r
theorem maxR_mem {rs : List (Int × List Int)} (h : rs ≠ []) : maxR rs ∈ rs := by
  cases rs with
  | nil => exact absurd rfl h
  | cons r rs =>
    have : ∀ (l : List (Int × List Int)) (a : Int × List Int), l.foldl (fun a y => if ltR a y then y else a) a = a ∨ l.foldl (fun a y => if ltR a y then y else a) a ∈ l := fun l => by
      induction l with
      | nil => intro a; exact .inl rfl
      | cons y l ih =>
        intro a
        rw [List.foldl_cons]
        rcases ih (if ltR a y then y else a) with e | e
        · rw [e]
          split
          · exact .inr List.mem_cons_self
          · exact .inl rfl
        · exact .inr (List.mem_cons_of_mem _ e)
    rcases this rs r with e | e
    · show List.foldl _ _ _ ∈ _
      rw [e]; exact List.mem_cons_self
    · exact List.mem_cons_of_mem _ e
theorem depth_rank (r : Int × List Int) : PyData.depth (rankD r) = 2 := by
  show max 0 (max (PyData.depthAll (r.2.map .int) + 1) 0) + 1 = 2
  rw [depth_ints]; rfl
theorem depth_ranks : ∀ rs : List (Int × List Int), PyData.depthAll (rs.map rankD) ≤ 2
  | [] => by show 0 ≤ 2; omega
  | r :: rs => by
    show max (PyData.depth (rankD r)) (PyData.depthAll (rs.map rankD)) ≤ 2
    rw [depth_rank]
    have := depth_ranks rs
    omega
theorem maxOk_ranks (rs : List (Int × List Int)) : maxOk (rs.map rankD) = true := by
  unfold maxOk
  have d := depth_ranks rs
  simp only [Bool.and_eq_true, List.all_eq_true, decide_eq_true_eq]
  refine ⟨⟨fun a ha b hb => ?_, fun a ha => ?_⟩, by omega⟩
  · obtain ⟨x, _, rfl⟩ := List.mem_map.mp ha
    obtain ⟨y, _, rfl⟩ := List.mem_map.mp hb
    exact alike_rank x y
  · obtain ⟨x, _, rfl⟩ := List.mem_map.mp ha
    rfl
theorem o_maxR {rs : List (Int × List Int)} (h : rs ≠ []) : opf1 .max (.list (rs.map rankD)) = some (rankD (maxR rs)) := by
  cases rs with
  | nil => exact absurd rfl h
  | cons r rs =>
    have ok := maxOk_ranks (r :: rs)
    rw [List.map_cons] at ok ⊢
    show (if maxOk (rankD r :: rs.map rankD) then some (PySem.W.maxD (rankD r) (rs.map rankD)) else none) = _
    rw [if_pos ok]
    congr 1
    show (rs.map rankD).foldl _ (rankD r) = rankD (rs.foldl _ r)
    have : ∀ (l : List (Int × List Int)) (a : Int × List Int), (l.map rankD).foldl (fun a y => if PySem.W.dataLt a y then y else a) (rankD a) = rankD (l.foldl (fun a y => if ltR a y then y else a) a) := fun l => by
      induction l with
      | nil => intro a; rfl
      | cons y l ih =>
        intro a
        rw [List.map_cons, List.foldl_cons, List.foldl_cons, ← ih, lt_rank]
        by_cases c : ltR a y = true
        · rw [if_pos c, if_pos c]
        · rw [if_neg c, if_neg c]
    exact this rs r
theorem eqv_rank (a b : Int × List Int) : PyData.eqv (rankD a) (rankD b) = decide (a = b) := by
  simp only [rankD, PyData.eqv, PyData.eqvAll, eqv_ints, Bool.and_true]
  have e : (a.1 == b.1) = decide (a.1 = b.1) := by
    by_cases c : a.1 = b.1
    · rw [decide_eq_true c, c]; simp
    · rw [decide_eq_false c]; simpa using c
  rw [e, ← Bool.decide_and]
  exact decide_eq_decide.mpr ⟨fun h => Prod.ext h.1 h.2, fun h => by rw [h]; exact ⟨rfl, rfl⟩⟩
theorem rank_shaped {r : Int × List Int} (h : r.2.length < 1000) : SeqAt.shaped (rankD r) = true := by
  refine (shaped_seq (ds := [.int r.1, .tuple (r.2.map .int)]) (by simp) ?_ ?_).1
  · have z := size1000
    simp only [PyData.canLay0, PyData.canLayAll0, lay_mapI, List.length_map, Bool.and_true, Bool.true_and, decide_eq_true_eq]
    first | omega | skip
  · have := depth_rank r
    show max 0 (max (PyData.depthAll (r.2.map .int) + 1) 0) ≤ 60
    rw [depth_ints]; decide
theorem o_eqRank {a b : Int × List Int} (ha : a.2.length < 1000) (hb : b.2.length < 1000) : opf2 .eq (rankD a) (rankD b) = some (.bool (decide (a = b))) := by
  show (eqD _ _).map PyData.bool = _
  unfold eqD
  rw [if_neg (by simp [scalD, rankD]), if_pos (by rw [rank_shaped ha, rank_shaped hb]; rfl), Option.map_some, eqv_rank]
end Cd
set_option Elab.async false
set_option linter.all false
set_option maxRecDepth 100000
set_option maxHeartbeats 4000000
namespace Cd
open PySem L2
def s55_0 : S := .if_ (.val (.op2 .eq (.var 1) (.lit (.int 0)))) [.ret (.lst [(.tup [])])] []
def s55_1 : S := .set 2 (.mk (.lst []))
def s55_2_0_0 : S := .app (.var 2) (.op2d .add (.tup [(.op2b .ix (.var 0) (.var 3))]) (.var 4))
def ls55_2_0 : List S := [s55_2_0_0]
def s55_2_0 : S := .for_ (.name 4) (.e (.call 55 [(.op3b (.slice true false) (.var 0) (.op2d .addI (.var 3) (.lit (.int 1))) (.lit .none)), (.op2d .sub (.var 1) (.lit (.int 1)))])) ls55_2_0
def ls55_2 : List S := [s55_2_0]
def s55_2 : S := .for_ (.name 3) (.rng1 (.op2d .add (.op2d .sub (.op1 .len (.var 0)) (.var 1)) (.lit (.int 1)))) ls55_2
def s55_3 : S := .ret (.freeze 2)
def ls55 : List S := [s55_0, s55_1, s55_2, s55_3]
theorem b55_eq : b55 = ls55 := rfl
def s56_0 : S := .ret (.op1 .max (.comp [1] (.name 1) (.e (.call 55 [(.var 0), (.lit (.int 5))])) [] (.call 50 [(.var 1)])))
def ls56 : List S := [s56_0]
theorem b56_eq : b56 = ls56 := rfl
def s57_0 : S := .set 2 (.comp [3] (.name 3) (.e (.var 0)) [] (.call 56 [(.op2d .add (.var 3) (.var 1))]))
def s57_1 : S := .ret (.op1 .tuple (.comp [4, 5] (.tup [(.name 4), (.name 5)]) (.enum (.var 2)) [(.val (.op2 .eq (.var 5) (.op1 .max (.var 2))))] (.var 4)))
def ls57 : List S := [s57_0, s57_1]
theorem b57_eq : b57 = ls57 := rfl
def s58_0 : S := .set 3 (.call 56 [(.op2d .add (.var 0) (.var 1))])
def s58_1 : S := .ret (.op1 .tuple (.comp [4] (.name 4) (.e (.call 55 [(.var 2), (.lit (.int 2))])) [(.val (.op2 .gt (.call 56 [(.op2d .add (.var 4) (.var 1))]) (.var 3)))] (.var 4)))
def ls58 : List S := [s58_0, s58_1]
theorem b58_eq : b58 = ls58 := rfl
end Cd
set_option Elab.async false
set_option linter.all false
set_option maxRecDepth 100000
set_option maxHeartbeats 4000000
namespace Cd
open PySem L2
def chooseM {α : Type} : List α → Nat → List (List α)
  | _, 0 => [[]]
  | [], _ + 1 => []
  | x :: l, k + 1 => (chooseM l k).map (x :: ·) ++ chooseM l (k + 1)
theorem choose_few {α : Type} : ∀ (l : List α) (k : Nat), l.length < k → chooseM l k = []
  | [], 0, h => absurd h (by simp)
  | [], k + 1, _ => rfl
  | x :: l, 0, h => absurd h (by simp)
  | x :: l, k + 1, h => by
    rw [List.length_cons] at h
    show (chooseM l k).map _ ++ chooseM l (k + 1) = []
    rw [choose_few l k (by omega), choose_few l (k + 1) (by omega)]; rfl
theorem choose_len {α : Type} : ∀ (l : List α) (k : Nat), ∀ c ∈ chooseM l k, c.length = k
  | l, 0, c, h => by
    have e : chooseM l 0 = [[]] := by cases l <;> rfl
    rw [e] at h
    rw [List.mem_singleton.mp h]; rfl
  | [], k + 1, c, h => by cases h
  | x :: l, k + 1, c, h => by
    rcases List.mem_append.mp (show c ∈ (chooseM l k).map (x :: ·) ++ chooseM l (k + 1) from h) with h | h
    · obtain ⟨d, hd, rfl⟩ := List.mem_map.mp h
      rw [List.length_cons, choose_len l k d hd]
    · exact choose_len l (k + 1) c h
theorem choose_zero {α : Type} (l : List α) : chooseM l 0 = [[]] := by cases l <;> rfl
theorem choose_mem {α : Type} : ∀ (l : List α) (k : Nat) (c : List α), c ∈ chooseM l k ↔ c.Sublist l ∧ c.length = k
  | l, 0, c => by
    rw [choose_zero, List.mem_singleton]
    constructor
    · rintro rfl; exact ⟨List.nil_sublist _, rfl⟩
    · intro h; exact List.length_eq_zero_iff.mp h.2
  | [], k + 1, c => by
    constructor
    · intro h; cases h
    · intro h
      have h1 := h.1.length_le
      have h2 := h.2
      rw [List.length_nil] at h1
      omega
  | x :: l, k + 1, c => by
    show c ∈ (chooseM l k).map (x :: ·) ++ chooseM l (k + 1) ↔ _
    rw [List.mem_append, List.mem_map, choose_mem l (k + 1) c]
    constructor
    · rintro (⟨d, hd, rfl⟩ | ⟨h1, h2⟩)
      · have := (choose_mem l k d).mp hd
        exact ⟨this.1.cons_cons x, by rw [List.length_cons, this.2]⟩
      · exact ⟨h1.cons x, h2⟩
    · rintro ⟨h1, h2⟩
      cases h1 with
      | cons _ h => exact .inr ⟨h, h2⟩
      | cons_cons _ h => exact .inl ⟨_, (choose_mem l k _).mpr ⟨h, by simpa using h2⟩, rfl⟩
theorem choose_ne {α : Type} {l : List α} {k : Nat} (h : k ≤ l.length) : chooseM l k ≠ [] := by
  have : l.take k ∈ chooseM l k := (choose_mem _ _ _).mpr ⟨List.take_sublist _ _, by rw [List.length_take]; omega⟩
  intro e
  rw [e] at this
  cases this
theorem choose_size {α : Type} : ∀ (l : List α) (k : Nat), (chooseM l k).length ≤ 2 ^ l.length
  | l, 0 => by rw [choose_zero]; exact Nat.one_le_two_pow
  | [], k + 1 => Nat.zero_le _
  | x :: l, k + 1 => by
    show ((chooseM l k).map (x :: ·) ++ chooseM l (k + 1)).length ≤ _
    have h1 := choose_size l k
    have h2 := choose_size l (k + 1)
    rw [List.length_append, List.length_map, List.length_cons, Nat.pow_succ]
    omega
/-- those that begin with the first so many -/
def headM {α : Type} (l : List α) (k n : Nat) : List (List α) := match l[n]? with
  | some x => (chooseM (l.drop (n + 1)) k).map (x :: ·)
  | none => []
def headsM {α : Type} (l : List α) (k : Nat) : Nat → List (List α)
  | 0 => []
  | n + 1 => headsM l k n ++ headM l k n
theorem head_some {α : Type} {l : List α} {k n : Nat} (h : n < l.length) : headM l k n = (chooseM (l.drop (n + 1)) k).map (l[n] :: ·) := by
  unfold headM
  rw [List.getElem?_eq_getElem h]
theorem head_none {α : Type} {l : List α} {k n : Nat} (h : l.length ≤ n) : headM l k n = [] := by
  unfold headM
  rw [List.getElem?_eq_none h]
theorem heads_all {α : Type} (k : Nat) : ∀ (l : List α) (n : Nat), l.length ≤ n + k → headsM l k n = chooseM l (k + 1)
  | l, n => by
    have drop : ∀ (n : Nat) (l : List α), headsM l k n ++ chooseM (l.drop n) (k + 1) = chooseM l (k + 1) := fun n => by
      induction n with
      | zero => intro l; rfl
      | succ n ih =>
        intro l
        rw [← ih l]
        show (headsM l k n ++ _) ++ _ = _
        rw [List.append_assoc]
        congr 1
        by_cases c : n < l.length
        · rw [head_some c, List.drop_eq_getElem_cons c]; rfl
        · have c' : l.length ≤ n := Nat.le_of_not_lt c
          rw [head_none c', List.drop_eq_nil_of_le (show l.length ≤ n + 1 by omega), List.drop_eq_nil_of_le c']; rfl
    intro h
    have := drop n l
    rw [choose_few _ _ (by rw [List.length_drop]; omega), List.append_nil] at this
    exact this
def fivD (cs : List Card) : PyData := .tuple (cs.map cardD)
section
variable {fns : Nat → Option FnD} {h : Hi} {cf : Calls}
abbrev envCh (l : List Card) (k : Nat) (v2 v3 v4 : Option Val) : Ev := [some (.p (fivD l)), some (.p (.int (k : Int))), v2, v3, v4]
theorem loop55b {l : List Card} {k n : Nat} (hl : l.length < 100) (hn : n < l.length) : ∀ (rows done : List (List Card)) (v4 : Option Val), done.length + rows.length < 10000 → (∀ r ∈ rows, r.length < 100) →
    ∃ w4, forL (evalSs cf ls55_2_0) (bindT (.name 4)) (rows.map fivD) (envCh l k (some (.ref h.length)) (some (.p (natD n))) v4) (h ++ [.lst (done.map fivD)]) =
      .ok .nx (envCh l k (some (.ref h.length)) (some (.p (natD n))) w4) (h ++ [.lst ((done ++ rows.map (l[n] :: ·)).map fivD)])
  | [], done, v4, _, _ => ⟨v4, by simp [forL]⟩
  | r :: rows, done, v4, hz, hr => by
    rw [List.length_cons] at hz
    obtain ⟨w4, e⟩ := loop55b hl hn rows (done ++ [l[n] :: r]) (some (.p (fivD r))) (by simp; omega) (fun x hx => hr x (List.mem_cons_of_mem _ hx))
    refine ⟨w4, ?_⟩
    rw [List.map_cons]
    unfold forL
    have eb : bindT (.name 4) (fivD r) (envCh l k (some (.ref h.length)) (some (.p (natD n))) v4) = some (envCh l k (some (.ref h.length)) (some (.p (natD n))) (some (.p (fivD r)))) := by
      simp only [bt_name, setSlot_0, setSlot_s]
    rw [eb]
    have gx : atI (l.map cardD) ((n : Nat) : Int) = some (cardD l[n]) := by
      exact atI_nat (by rw [List.getElem?_map, List.getElem?_eq_getElem hn]; rfl)
    have ad : opf2 .add (.tuple [cardD l[n]]) (fivD r) = some (fivD (l[n] :: r)) := by
      have := hr r List.mem_cons_self
      unfold fivD
      rw [addT_ok (by simp; omega)]; rfl
    have sz : (done.map fivD).length < sizeLine := by
      rw [List.length_map]
      have := sizeLine_eq
      omega
    have st : evalSs cf ls55_2_0 (envCh l k (some (.ref h.length)) (some (.p (natD n))) (some (.p (fivD r)))) (h ++ [.lst (done.map fivD)]) = .ok .nx (envCh l k (some (.ref h.length)) (some (.p (natD n))) (some (.p (fivD r)))) (h ++ [.lst ((done ++ [l[n] :: r]).map fivD)]) := by
      unfold ls55_2_0 s55_2_0_0
      simp only [ss_cons, ss_nil, st_app, getL_var, slot_0, slot_s, refOf_r, Option.bind_some, listAt_app, ev_op2d, ev_tup, eps_cons, eps_nil, ev_op2b, bor_var, borV_p, fivD, ev_var, ofO_some, R.bind_ok, unP_p, o_ixT, natD, gx, Option.map_some]
      simp only [fivD] at ad sz
      simp only [ad, Option.map_some, ofO_some, R.bind_ok, unP_p, R.toS_ok, appH_var, getL_var, slot_0, slot_s, refOf_r, Option.bind_some, listAt_app, if_pos sz, set_app, ofH_some, RS.bind_nx, List.map_append, List.map_cons, List.map_nil]
      rfl
    simp only [st]
    rw [e, List.map_cons, List.append_assoc]; rfl
theorem loop55a {l : List Card} {k : Nat} (hl : l.length < 100) (hc : ∀ n, n + k < l.length → ∀ h : Hi, cf 55 [.p (fivD (l.drop (n + 1))), .p (.int (k : Int))] h = .ok (.p (.list ((chooseM (l.drop (n + 1)) k).map fivD))) h)
    (hs : ∀ n, (headsM l k n).length < 5000) (hk : ∀ n, (chooseM (l.drop (n + 1)) k).length < 5000) (hk2 : k < 100) : ∀ (m n : Nat) (v3 v4 : Option Val), n + m + k ≤ l.length →
    ∃ w3 w4, forL (evalSs cf ls55_2) (bindT (.name 3)) ((List.range' n m).map natD) (envCh l (k + 1) (some (.ref h.length)) v3 v4) (h ++ [.lst ((headsM l k n).map fivD)]) =
      .ok .nx (envCh l (k + 1) (some (.ref h.length)) w3 w4) (h ++ [.lst ((headsM l k (n + m)).map fivD)])
  | 0, n, v3, v4, _ => ⟨v3, v4, rfl⟩
  | m + 1, n, v3, v4, hm => by
    obtain ⟨u4, e4⟩ := loop55b (cf := cf) (h := h) (k := k + 1) hl (show n < l.length by omega) (chooseM (l.drop (n + 1)) k) (headsM l k n) v4 (by have := hs n; have := hk n; omega) (fun r hr => by rw [choose_len _ _ r hr]; exact hk2)
    obtain ⟨w3, w4, e⟩ := loop55a hl hc hs hk hk2 m (n + 1) (some (.p (natD n))) u4 (by omega)
    refine ⟨w3, w4, ?_⟩
    rw [List.range'_succ, List.map_cons]
    unfold forL
    have eb : bindT (.name 3) (natD n) (envCh l (k + 1) (some (.ref h.length)) v3 v4) = some (envCh l (k + 1) (some (.ref h.length)) (some (.p (natD n))) v4) := by
      simp only [bt_name, setSlot_0, setSlot_s]
    rw [eb]
    have sl : opf3 (.slice true false) (fivD l) (.int ((n : Int) + 1)) .none = some (fivD (l.drop (n + 1))) := by
      unfold fivD
      rw [slice_T (lo := some ((n + 1 : Nat) : Int)) (hi := none) rfl rfl, cut_hi _ _ (by omega)]
    have hcn := hc n (by omega) (h ++ [.lst ((headsM l k n).map fivD)])
    have hh : headsM l k (n + 1) = headsM l k n ++ (chooseM (l.drop (n + 1)) k).map (l[n] :: ·) := by
      show headsM l k n ++ headM l k n = _
      rw [head_some]
    have km : ((k + 1 : Nat) : Int) - 1 = (k : Int) := by omega
    have st : evalSs cf ls55_2 (envCh l (k + 1) (some (.ref h.length)) (some (.p (natD n))) v4) (h ++ [.lst ((headsM l k n).map fivD)]) = .ok .nx (envCh l (k + 1) (some (.ref h.length)) (some (.p (natD n))) u4) (h ++ [.lst ((headsM l k (n + 1)).map fivD)]) := by
      unfold ls55_2 s55_2_0
      simp only [ss_cons, ss_nil, st_for, es_e, ev_call, ees_cons, ees_nil, ev_op3b, bor_var, slot_0, slot_s, borV_p, ev_op2d, ev_var, natD, ofO_some, R.bind_ok, unP_p, ev_lit, o_addI, sl, Option.map_some, o_sub, km, hcn, items_L, R.toS_ok]
      simp only [natD] at e4
      rw [e4, hh]
      rfl
    simp only [st]
    rw [e, show n + 1 + m = n + (m + 1) by omega]
theorem choices_eval (F55 : fns 55 = some d55) : ∀ (k : Nat) (l : List Card) (q : Nat) (h : Hi), k < q → k ≤ l.length → l.length ≤ 9 →
    callF fns q 55 [.p (fivD l), .p (.int (k : Int))] h = .ok (.p (.list ((chooseM l k).map fivD))) h
  | k, l, 0, h, hq, _, _ => absurd hq (by omega)
  | 0, l, q + 1, h, hq, hk, hl => by
    rw [call_eq F55 rfl]
    show finF h.length (evalSs (callF fns q) b55 [some (.p (fivD l)), some (.p (.int ((0 : Nat) : Int))), none, none, none] h) = _
    rw [b55_eq, choose_zero]
    unfold ls55
    rw [ss_cons]
    simp only [s55_0, st_if, et_val, bor_op2, ev_op2, ev_var, slot_0, slot_s, ofO_some, R.bind_ok, unP_p, bor_lit, ev_lit, o_eqI, Option.map_some, Int.natCast_zero, decide_true, truth_b, R.toS_ok, if_true, ss_cons, st_ret, ev_lst, eps_cons, eps_nil, ev_tup, RS.bind_rt, fin_rp, List.take_length]
    rfl
  | k + 1, l, q + 1, h, hq, hk, hl => by
    rw [call_eq F55 rfl]
    have p2 : ∀ n, 2 ^ (l.drop n).length ≤ 512 := fun n => by
      have : (l.drop n).length ≤ 9 := by rw [List.length_drop]; omega
      exact Nat.le_trans (Nat.pow_le_pow_right (by decide) this) (by decide)
    have hs : ∀ n, (headsM l k n).length < 5000 := fun n => by
      have : ∀ n, (headsM l k n).length ≤ n * 512 := fun n => by
        induction n with
        | zero => simp [headsM]
        | succ n ih =>
          show (headsM l k n ++ headM l k n).length ≤ _
          rw [List.length_append]
          have h1 := choose_size (l.drop (n + 1)) k
          have h2 := p2 (n + 1)
          by_cases c : n < l.length
          · rw [head_some c, List.length_map]; omega
          · rw [head_none (Nat.le_of_not_lt c), List.length_nil]; omega
      have stop : ∀ n, 9 ≤ n → headsM l k n = headsM l k 9 := fun n => by
        induction n with
        | zero => intro h; omega
        | succ n ih =>
          intro h
          by_cases c : 9 ≤ n
          · rw [← ih c]
            show headsM l k n ++ headM l k n = _
            rw [head_none (by omega), List.append_nil]
          · have : n + 1 = 9 := by omega
            rw [this]
      by_cases c : 9 ≤ n
      · rw [stop n c]; have := this 9; omega
      · have := this n; omega
    have hkk : ∀ n, (chooseM (l.drop (n + 1)) k).length < 5000 := fun n => by
      have h1 := choose_size (l.drop (n + 1)) k
      have h2 := p2 (n + 1)
      omega
    obtain ⟨w3, w4, e2⟩ := loop55a (cf := callF fns q) (h := h) (l := l) (k := k) (by omega) (fun n hn h => choices_eval F55 k (l.drop (n + 1)) q h (by omega) (by rw [List.length_drop]; omega) (by rw [List.length_drop]; omega)) hs hkk (by omega) (l.length - k) 0 none none (by omega)
    rw [Nat.zero_add, heads_all k l (l.length - k) (by omega), ← List.range_eq_range'] at e2
    generalize callF fns q = cf at e2
    show finF h.length (evalSs cf b55 (envCh l (k + 1) none none none) h) = _
    rw [b55_eq]
    unfold ls55
    have ne : ¬ ((k + 1 : Nat) : Int) = 0 := by omega
    have t0 : evalS cf s55_0 (envCh l (k + 1) none none none) h = .ok .nx (envCh l (k + 1) none none none) h := by
      unfold s55_0
      simp only [st_if, et_val, bor_op2, ev_op2, ev_var, slot_0, slot_s, ofO_some, R.bind_ok, unP_p, bor_lit, ev_lit, o_eqI, Option.map_some, decide_eq_false ne, truth_b, R.toS_ok, Bool.false_eq_true, if_false, ss_nil]
    have t1 : evalS cf s55_1 (envCh l (k + 1) none none none) h = .ok .nx (envCh l (k + 1) (some (.ref h.length)) none none) (h ++ [.lst ((headsM l k 0).map fivD)]) := by
      unfold s55_1
      simp only [st_set, ev_mk, ev_lst, eps_nil, R.bind_ok, unP_p, mkK, R.toS_ok, setSlot_0, setSlot_s]
      rfl
    have cnt : ((l.length : Int) - ((k + 1 : Nat) : Int)) + 1 = ((l.length - k : Nat) : Int) := by omega
    have t2 : evalS cf s55_2 (envCh l (k + 1) (some (.ref h.length)) none none) (h ++ [.lst ((headsM l k 0).map fivD)]) = .ok .nx (envCh l (k + 1) (some (.ref h.length)) w3 w4) (h ++ [.lst ((chooseM l (k + 1)).map fivD)]) := by
      unfold s55_2
      have ln : opf1 .len (fivD l) = some (.int (l.length : Int)) := by show some (PyData.int ((l.map cardD).length : Int)) = _; rw [List.length_map]
      rw [st_for, src_nat (j := l.length - k) (by simp only [ev_op2d, ev_op1, bor_var, slot_0, slot_s, borV_p, ln, ev_var, ev_lit, ofO_some, R.bind_ok, unP_p, Option.map_some, o_sub, o_add, cnt]) (by omega), R.toS_ok]
      exact e2
    rw [ss_cons, t0, RS.bind_nx, ss_cons, t1, RS.bind_nx, ss_cons, t2, RS.bind_nx, ss_cons]
    have fz : freezeK (envCh l (k + 1) (some (.ref h.length)) w3 w4) 2 (h ++ [.lst ((chooseM l (k + 1)).map fivD)]) = .ok (.p (.list ((chooseM l (k + 1)).map fivD))) (h ++ [.dead]) := by
      unfold freezeK
      simp only [lstOf_eq, slot_0, slot_s, refOf_r, Option.bind_some, listAt_app, Option.map_some, set_app]
    show finF h.length ((evalS cf s55_3 _ _).bind _) = _
    unfold s55_3
    rw [st_ret]
    show finF h.length (((freezeK _ 2 _).toS _ _).bind _) = _
    rw [fz]
    simp only [R.toS_ok, RS.bind_rt, fin_rp, take_app]
end
end Cd
set_option Elab.async false
set_option linter.all false
set_option maxRecDepth 100000
set_option maxHeartbeats 4000000
namespace Cd
open PySem L2
theorem Fit.sub {cs ds : List Card} (f : Fit cs) (s : ds.Sublist cs) : Fit ds :=
  ⟨fun r => Nat.le_trans ((s.map (·.1)).count_le r) (f.1 r), fun c hc => f.2 c (s.subset hc)⟩
theorem Fit.perm {cs ds : List Card} (f : Fit cs) (p : ds.Perm cs) : Fit ds :=
  ⟨fun r => by rw [(p.map (·.1)).count_eq r]; exact f.1 r, fun c hc => f.2 c (p.mem_iff.mp hc)⟩
abbrev Rank := Int × List Int
theorem ltI_irr : ∀ xs : List Int, ltI xs xs = false
  | [] => rfl
  | x :: xs => by unfold ltI; rw [if_pos rfl]; exact ltI_irr xs
theorem ltI_tot : ∀ xs ys : List Int, ltI xs ys = true ∨ xs = ys ∨ ltI ys xs = true
  | [], [] => .inr (.inl rfl)
  | [], _ :: _ => .inl rfl
  | _ :: _, [] => .inr (.inr rfl)
  | x :: xs, y :: ys => by
    unfold ltI
    by_cases c : x = y
    · subst c
      rw [if_pos rfl, if_pos rfl]
      rcases ltI_tot xs ys with h | h | h
      · exact .inl h
      · subst h; exact .inr (.inl rfl)
      · exact .inr (.inr h)
    · rw [if_neg c, if_neg (fun z => c z.symm)]
      by_cases d : x < y
      · exact .inl (decide_eq_true d)
      · exact .inr (.inr (decide_eq_true (by omega)))
theorem ltI_tra : ∀ xs ys zs : List Int, ltI xs ys = true → ltI ys zs = true → ltI xs zs = true
  | [], [], _, h, _ => by cases h
  | [], _ :: _, [], _, h => by cases h
  | [], _ :: _, _ :: _, _, _ => rfl
  | _ :: _, [], _, h, _ => by cases h
  | _ :: _, _ :: _, [], _, h => by cases h
  | x :: xs, y :: ys, z :: zs, h1, h2 => by
    unfold ltI at h1 h2 ⊢
    by_cases c : x = y
    · subst c
      rw [if_pos rfl] at h1
      by_cases d : x = z
      · subst d
        rw [if_pos rfl] at h2 ⊢
        exact ltI_tra xs ys zs h1 h2
      · rw [if_neg d] at h2 ⊢
        exact h2
    · rw [if_neg c] at h1
      have h1 := of_decide_eq_true h1
      by_cases d : y = z
      · subst d
        rw [if_neg c]
        exact decide_eq_true h1
      · rw [if_neg d] at h2
        have h2 := of_decide_eq_true h2
        rw [if_neg (by omega)]
        exact decide_eq_true (by omega)
theorem ltR_irr (a : Rank) : ltR a a = false := by unfold ltR; rw [if_pos rfl]; exact ltI_irr _
theorem ltR_tot (a b : Rank) : ltR a b = true ∨ a = b ∨ ltR b a = true := by
  obtain ⟨i, xs⟩ := a
  obtain ⟨j, ys⟩ := b
  unfold ltR
  by_cases c : i = j
  · subst c
    rw [if_pos rfl, if_pos rfl]
    rcases ltI_tot xs ys with h | h | h
    · exact .inl h
    · subst h; exact .inr (.inl rfl)
    · exact .inr (.inr h)
  · rw [if_neg c, if_neg (fun z => c z.symm)]
    by_cases d : i < j
    · exact .inl (decide_eq_true d)
    · exact .inr (.inr (decide_eq_true (show j < i by omega)))
theorem ltR_tra {a b c : Rank} (h1 : ltR a b = true) (h2 : ltR b c = true) : ltR a c = true := by
  obtain ⟨i, xs⟩ := a
  obtain ⟨j, ys⟩ := b
  obtain ⟨k, zs⟩ := c
  unfold ltR at h1 h2 ⊢
  simp only at h1 h2 ⊢
  by_cases c1 : i = j
  · subst c1
    rw [if_pos rfl] at h1
    by_cases c2 : i = k
    · subst c2
      rw [if_pos rfl] at h2 ⊢
      exact ltI_tra _ _ _ h1 h2
    · rw [if_neg c2] at h2 ⊢
      exact h2
  · rw [if_neg c1] at h1
    have h1 := of_decide_eq_true h1
    by_cases c2 : j = k
    · subst c2
      rw [if_neg c1]
      exact decide_eq_true h1
    · rw [if_neg c2] at h2
      have h2 := of_decide_eq_true h2
      rw [if_neg (by omega)]
      exact decide_eq_true (by omega)
theorem ltR_asym {a b : Rank} (h : ltR a b = true) : ltR b a = false := by
  cases e : ltR b a with
  | false => rfl
  | true => have := ltR_tra h e; rw [ltR_irr] at this; cases this
/-- not less, either way round -/
theorem ltR_le {a b c : Rank} (h1 : ltR b a = false) (h2 : ltR c b = false) : ltR c a = false := by
  cases e : ltR c a with
  | false => rfl
  | true =>
    rcases ltR_tot a b with h | h | h
    · have := ltR_tra e h; rw [h2] at this; cases this
    · subst h; rw [h2] at e; cases e
    · rw [h1] at h; cases h
def bestC (cs : List Card) : Rank := maxR ((chooseM cs 5).map rankM)
theorem best_mem {cs : List Card} (h : 5 ≤ cs.length) : ∃ five, five.Sublist cs ∧ five.length = 5 ∧ bestC cs = rankM five := by
  have := maxR_mem (rs := (chooseM cs 5).map rankM) (fun e => choose_ne h (List.map_eq_nil_iff.mp e))
  obtain ⟨five, hf, e⟩ := List.mem_map.mp this
  have := (choose_mem _ _ _).mp hf
  exact ⟨five, this.1, this.2, e.symm⟩
theorem best_ok {cs : List Card} (f : Fit cs) (h : 5 ≤ cs.length) : RkOk (bestC cs) := by
  obtain ⟨five, s, l, e⟩ := best_mem h
  rw [e]
  exact rank_okF l (f.sub s)
def winM (bs : List Rank) : List Nat := (List.range bs.length).filter fun i => decide (bs.getD i (0, []) = maxR bs)
section
variable {fns : Nat → Option FnD} {h : Hi} {cf : Calls} {q : Nat}
/-- the defs of the ranks and of the choices -/
structure HasC (fns : Nat → Option FnD) : Prop where
  f48 : fns 48 = some d48
  f49 : fns 49 = some d49
  f50 : fns 50 = some d50
  f55 : fns 55 = some d55
  f56 : fns 56 = some d56
theorem rank_evalF (C : HasC fns) {five : List Card} (h5 : five.length = 5) (f : Fit five) : callF fns (q + 2) 50 [.p (fivD five)] h = .ok (.p (rankD (rankM five))) h :=
  rank_eval C.f48 C.f49 C.f50 h5 (shape_ok h5 f.1)
theorem ch_size {α : Type} {l : List α} (k : Nat) (h : l.length ≤ 9) : (chooseM l k).length < 1000 := by
  have h1 := choose_size l k
  have h2 : 2 ^ l.length ≤ 2 ^ 9 := Nat.pow_le_pow_right (by decide) h
  have h3 : 2 ^ 9 = 512 := by decide
  omega
theorem best_eval (C : HasC fns) {cs : List Card} (f : Fit cs) (h5 : 5 ≤ cs.length) (h9 : cs.length ≤ 9) : callF fns (q + 7) 56 [.p (fivD cs)] h = .ok (.p (rankD (bestC cs))) h := by
  rw [call_eq C.f56 rfl]
  have e1 := choices_eval C.f55 5 cs (q + 6) h (by omega) h5 h9
  have e2 : ∀ five ∈ chooseM cs 5, callF fns (q + 6) 50 [.p (fivD five)] h = .ok (.p (rankD (rankM five))) h := fun five hf => by
    have := (choose_mem _ _ _).mp hf
    exact rank_evalF (q := q + 4) C this.2 (f.sub this.1)
  have sz := ch_size 5 h9
  have ne := choose_ne h5
  unfold bestC
  generalize chooseM cs 5 = rows at e1 e2 sz ne
  generalize callF fns (q + 6) = cf at e1 e2
  show finF h.length (evalSs cf b56 [some (.p (fivD cs)), none] h) = _
  have c1 : evalE cf [some (.p (fivD cs)), none] (.comp [1] (.name 1) (.e (.call 55 [(.var 0), (.lit (.int 5))])) [] (.call 50 [(.var 1)])) h = .ok (.p (.list ((rows.map rankM).map rankD))) h := by
    rw [List.map_map]
    have e1' : cf 55 [.p (fivD cs), .p (.int 5)] h = .ok (.p (.list (rows.map fivD))) h := e1
    refine comp_all fivD _ (by simp only [es_e, ev_call, ees_cons, ees_nil, ev_var, slot_0, ofO_some, R.bind_ok, ev_lit, e1', unP_p, items_L]) sz fun five hf => ⟨[some (.p (fivD cs)), some (.p (fivD five))], by simp, ?_⟩
    simp only [ev_call, ees_cons, ees_nil, ev_var, slot_0, slot_s, ofO_some, R.bind_ok, e2 five hf, unP_p]
    rfl
  have mx := o_maxR (rs := rows.map rankM) (fun e => ne (List.map_eq_nil_iff.mp e))
  rw [b56_eq]
  unfold ls56 s56_0
  rw [ss_cons]
  simp only [st_ret, ev_op1, bor_comp, c1, R.bind_ok, unP_p, mx, Option.map_some, ofO_some, R.toS_ok, RS.bind_rt, fin_rp, List.take_length]
theorem winners_eval (C : HasC fns) (F57 : fns 57 = some d57) {holes : List (List Card)} {board : List Card} (f : ∀ x ∈ holes, Fit (x ++ board) ∧ 5 ≤ (x ++ board).length ∧ (x ++ board).length ≤ 9) (hz : holes.length < 500) (hne : holes ≠ []) :
    callF fns (q + 8) 57 [.p (.tuple (holes.map fivD)), .p (fivD board)] h = .ok (.p (.tuple ((winM (holes.map fun x => bestC (x ++ board))).map natD))) h := by
  rw [call_eq F57 rfl]
  have e2 : ∀ x ∈ holes, callF fns (q + 7) 56 [.p (fivD (x ++ board))] h = .ok (.p (rankD (bestC (x ++ board)))) h := fun x hx => best_eval C (f x hx).1 (f x hx).2.1 (f x hx).2.2
  have ok : ∀ b ∈ holes.map fun x => bestC (x ++ board), RkOk b := fun b hb => by
    obtain ⟨x, hx, rfl⟩ := List.mem_map.mp hb
    exact best_ok (f x hx).1 (f x hx).2.1
  generalize callF fns (q + 7) = cf at e2
  have c1 : evalE cf [some (.p (.tuple (holes.map fivD))), some (.p (fivD board)), none, none, none, none] (.comp [3] (.name 3) (.e (.var 0)) [] (.call 56 [(.op2d .add (.var 3) (.var 1))])) h = .ok (.p (.list ((holes.map fun x => bestC (x ++ board)).map rankD))) h := by
    rw [List.map_map]
    refine comp_all fivD _ (by simp) (by omega) fun x hx => ⟨[some (.p (.tuple (holes.map fivD))), some (.p (fivD board)), none, some (.p (fivD x)), none, none], by simp, ?_⟩
    have ad : opf2 .add (fivD x) (fivD board) = some (fivD (x ++ board)) := by
      have := (f x hx).2.2
      rw [List.length_append] at this
      unfold fivD
      rw [addT_ok (by simp; omega), List.map_append]
    simp only [ev_call, ees_cons, ees_nil, ev_op2d, ev_var, slot_0, slot_s, ofO_some, R.bind_ok, unP_p, ad, Option.map_some, e2 x hx]
    rfl
  have bl : (holes.map fun x => bestC (x ++ board)).length = holes.length := List.length_map _
  have bne : (holes.map fun x => bestC (x ++ board)) ≠ [] := fun e => hne (List.map_eq_nil_iff.mp e)
  generalize (holes.map fun x => bestC (x ++ board)) = bs at c1 bl bne ok ⊢
  show finF h.length (evalSs cf b57 [some (.p (.tuple (holes.map fivD))), some (.p (fivD board)), none, none, none, none] h) = _
  have mx := o_maxR bne
  have t0 : evalS cf s57_0 [some (.p (.tuple (holes.map fivD))), some (.p (fivD board)), none, none, none, none] h = .ok .nx [some (.p (.tuple (holes.map fivD))), some (.p (fivD board)), some (.p (.list (bs.map rankD))), none, none, none] h := by
    unfold s57_0
    simp only [st_set, c1, R.toS_ok, setSlot_0, setSlot_s]
  have en : enumFrom 0 (bs.map rankD) = (List.range bs.length).map fun i => .tuple [natD i, rankD (bs.getD i (0, []))] := by
    rw [enumFrom_eq, List.length_map]
    refine List.map_congr_left fun i hi => ?_
    have := List.mem_range.mp hi
    rw [Nat.zero_add]
    congr 2
    simp [this]
  have mok : RkOk (maxR bs) := ok _ (maxR_mem bne)
  have c2 : evalE cf [some (.p (.tuple (holes.map fivD))), some (.p (fivD board)), some (.p (.list (bs.map rankD))), none, none, none] (.comp [4, 5] (.tup [(.name 4), (.name 5)]) (.enum (.var 2)) [(.val (.op2 .eq (.var 5) (.op1 .max (.var 2))))] (.var 4)) h = .ok (.p (.list ((winM bs).map natD))) h := by
    refine comp_ok (fun i : Nat => .tuple [natD i, rankD (bs.getD i (0, []))]) natD _ (by simp only [es_enum, ev_var, slot_0, slot_s, ofO_some, R.bind_ok, unP_p, items_L, Option.map_some, en]) (by simp; omega) fun i hi => ⟨[some (.p (.tuple (holes.map fivD))), some (.p (fivD board)), some (.p (.list (bs.map rankD))), none, some (.p (natD i)), some (.p (rankD (bs.getD i (0, []))))], by simp, ?_, fun _ => by simp⟩
    have hi' := List.mem_range.mp hi
    have iok : RkOk (bs.getD i (0, [])) := ok _ (by simp [hi'])
    have eq := o_eqRank (a := bs.getD i (0, [])) (b := maxR bs) (by have := iok.few; omega) (by have := mok.few; omega)
    simp only [ets_one, et_val, bor_op2, ev_op2, ev_var, slot_0, slot_s, ofO_some, R.bind_ok, unP_p, bor_op1, ev_op1, bor_var, borV_p, mx, Option.map_some, eq, truth_b]
  rw [b57_eq]
  unfold ls57
  rw [ss_cons, t0, RS.bind_nx, ss_cons]
  simp only [s57_1, st_ret, ev_op1, bor_comp, c2, R.bind_ok, unP_p, o_tupL, Option.map_some, ofO_some, R.toS_ok, RS.bind_rt, fin_rp, List.take_length]
def beatM (hole board stub : List Card) : List (List Card) := (chooseM stub 2).filter fun two => ltR (bestC (hole ++ board)) (bestC (two ++ board))
theorem gt_rank (a b : Rank) : opf2 .gt (rankD a) (rankD b) = some (.bool (ltR b a)) := by
  have c : cmpOk (rankD a) (rankD b) = true := by
    unfold cmpOk
    rw [alike_rank, depth_rank, depth_rank]
    rfl
  show cmpD (fun i j => decide (j < i)) (fun x y => PySem.W.dataLt y x) (rankD a) (rankD b) = _
  rw [← lt_rank]
  show (if cmpOk (rankD a) (rankD b) then _ else none) = _
  rw [if_pos c]
theorem beaten_eval (C : HasC fns) (F58 : fns 58 = some d58) {hole board stub : List Card} (f : ∀ two ∈ chooseM stub 2, Fit (two ++ board)) (f1 : Fit (hole ++ board)) (h2 : hole.length = 2) (hb : 3 ≤ board.length) (hb7 : board.length ≤ 7) (hs : 2 ≤ stub.length) (hs9 : stub.length ≤ 9) :
    callF fns (q + 8) 58 [.p (fivD hole), .p (fivD board), .p (fivD stub)] h = .ok (.p (.tuple ((beatM hole board stub).map fivD))) h := by
  rw [call_eq F58 rfl]
  have lt2 : ∀ two ∈ chooseM stub 2, two.length = 2 := fun two ht => choose_len _ _ two ht
  have e1 := choices_eval C.f55 2 stub (q + 7) h (by omega) hs hs9
  have e0 := best_eval (q := q) (h := h) C f1 (by rw [List.length_append]; omega) (by rw [List.length_append]; omega)
  have e2 : ∀ x ∈ chooseM stub 2, callF fns (q + 7) 56 [.p (fivD (x ++ board))] h = .ok (.p (rankD (bestC (x ++ board)))) h := fun x hx => best_eval C (f x hx) (by rw [List.length_append, lt2 x hx]; omega) (by rw [List.length_append, lt2 x hx]; omega)
  have sz := ch_size 2 hs9
  unfold beatM
  generalize chooseM stub 2 = rows at e1 e2 sz lt2
  generalize callF fns (q + 7) = cf at e0 e1 e2
  have ad : ∀ x : List Card, x.length = 2 → opf2 .add (fivD x) (fivD board) = some (fivD (x ++ board)) := fun x hx => by
    unfold fivD
    rw [addT_ok (by simp; omega), List.map_append]
  generalize bestC (hole ++ board) = own at e0 ⊢
  show finF h.length (evalSs cf b58 [some (.p (fivD hole)), some (.p (fivD board)), some (.p (fivD stub)), none, none] h) = _
  have t0 : evalS cf s58_0 [some (.p (fivD hole)), some (.p (fivD board)), some (.p (fivD stub)), none, none] h = .ok .nx [some (.p (fivD hole)), some (.p (fivD board)), some (.p (fivD stub)), some (.p (rankD own)), none] h := by
    unfold s58_0
    simp only [st_set, ev_call, ees_cons, ees_nil, ev_op2d, ev_var, slot_0, slot_s, ofO_some, R.bind_ok, unP_p, ad hole h2, Option.map_some, e0, R.toS_ok, setSlot_0, setSlot_s]
  have c2 : evalE cf [some (.p (fivD hole)), some (.p (fivD board)), some (.p (fivD stub)), some (.p (rankD own)), none] (.comp [4] (.name 4) (.e (.call 55 [(.var 2), (.lit (.int 2))])) [(.val (.op2 .gt (.call 56 [(.op2d .add (.var 4) (.var 1))]) (.var 3)))] (.var 4)) h = .ok (.p (.list ((rows.filter fun two => ltR own (bestC (two ++ board))).map fivD))) h := by
    have e1' : cf 55 [.p (fivD stub), .p (.int 2)] h = .ok (.p (.list (rows.map fivD))) h := e1
    refine comp_ok fivD fivD _ (by simp only [es_e, ev_call, ees_cons, ees_nil, ev_var, slot_0, slot_s, ofO_some, R.bind_ok, ev_lit, e1', unP_p, items_L]) sz fun x hx => ⟨[some (.p (fivD hole)), some (.p (fivD board)), some (.p (fivD stub)), some (.p (rankD own)), some (.p (fivD x))], by simp, ?_, fun _ => by simp⟩
    simp only [ets_one, et_val, bor_op2, ev_op2, ev_call, ees_cons, ees_nil, ev_op2d, ev_var, slot_0, slot_s, ofO_some, R.bind_ok, unP_p, ad x (lt2 x hx), Option.map_some, e2 x hx, bor_var, borV_p, gt_rank, truth_b]
  rw [b58_eq]
  unfold ls58
  rw [ss_cons, t0, RS.bind_nx, ss_cons]
  simp only [s58_1, st_ret, ev_op1, bor_comp, c2, R.bind_ok, unP_p, o_tupL, Option.map_some, ofO_some, R.toS_ok, RS.bind_rt, fin_rp, List.take_length]
end
end Cd
set_option Elab.async false
set_option linter.all false
set_option maxRecDepth 100000
set_option maxHeartbeats 4000000
namespace Cd
open PySem L2
theorem leP_anti {p q : Int × Int} (h1 : leP p q = true) (h2 : leP q p = true) : p = q := by
  unfold leP at h1 h2
  simp at h1 h2
  obtain ⟨a, b⟩ := p
  obtain ⟨c, d⟩ := q
  simp only at h1 h2
  have : a = c ∧ b = d := by omega
  rw [this.1, this.2]
theorem perm_sortedP : ∀ {xs ys : List (Int × Int)}, xs.Perm ys → xs.Pairwise (fun p q => leP p q = true) → ys.Pairwise (fun p q => leP p q = true) → xs = ys
  | [], ys, h, _, _ => by rw [List.nil_perm.mp h]
  | x :: xs, [], h, _, _ => absurd h.symm (by simp)
  | x :: xs, y :: ys, h, hx, hy => by
    have e : x = y := by
      obtain ⟨h1, _⟩ := List.pairwise_cons.mp hx
      obtain ⟨h2, _⟩ := List.pairwise_cons.mp hy
      rcases List.mem_cons.mp (h.mem_iff.mp List.mem_cons_self) with e | e
      · exact e
      · rcases List.mem_cons.mp (h.mem_iff.mpr (List.mem_cons_self : y ∈ y :: ys)) with e2 | e2
        · exact e2.symm
        · exact leP_anti (h1 y e2) (h2 x e)
    subst e
    rw [perm_sortedP (List.Perm.cons_inv h) (List.pairwise_cons.mp hx).2 (List.pairwise_cons.mp hy).2]
theorem often_mem {rs : List Int} {p : Int × Int} : p ∈ oftenM rs ↔ p.1 ∈ rs ∧ p.2 = (rs.count p.1 : Int) := by
  have o := often_ok rs
  constructor
  · intro h
    exact ⟨(o.keys p.1).mpr (List.mem_map.mpr ⟨p, h, rfl⟩), (o.val p h).1⟩
  · rintro ⟨h1, h2⟩
    obtain ⟨q, hq, e⟩ := List.mem_map.mp ((o.keys p.1).mp h1)
    have h3 := (o.val q hq).1
    rw [e, ← h2] at h3
    obtain ⟨a, b⟩ := p
    obtain ⟨c, d⟩ := q
    simp only at e h3
    rw [← e, ← h3]; exact hq
theorem often_nd (rs : List Int) : (oftenM rs).Nodup := by
  have h := (often_ok rs).nd
  unfold List.Nodup at h ⊢
  rw [List.pairwise_map] at h
  exact h.imp fun hne e => hne (by rw [e])
end Cd
set_option Elab.async false
set_option linter.all false
set_option maxRecDepth 100000
set_option maxHeartbeats 4000000
namespace Cd
open PySem L2
theorem ranks_len (five : List Card) : (ranksM five).length = (shapeM five).length := by unfold ranksM shapeM; rw [List.length_map, List.length_map]
theorem rows_mem {five : List Card} {p : Int × Int} : p ∈ rowsM five ↔ p.2 ∈ five.map (·.1) ∧ p.1 = ((five.map (·.1)).count p.2 : Int) := by
  rw [(rows_perm five).mem_iff, List.mem_map]
  constructor
  · rintro ⟨q, hq, rfl⟩
    have := often_mem.mp hq
    exact this
  · intro h
    exact ⟨(p.2, p.1), often_mem.mpr h, rfl⟩
end Cd
set_option Elab.async false
set_option linter.all false
set_option maxRecDepth 100000
set_option maxHeartbeats 4000000
namespace Cd
open PySem L2
/-- bets of two to six seats, somebody stays -/
structure Bu (bs : List Int) (gs : List Bool) : Prop where
  len : bs.length = gs.length
  two : 2 ≤ gs.length
  six : gs.length ≤ 6
  nn : ∀ b ∈ bs, 0 ≤ b
  ne : seatsM gs ≠ []
section
variable {bs : List Int} {gs : List Bool} {seats : List Nat} {last top : Int}
theorem Bu.hi (B : Bu bs gs) : ∀ i ∈ seatsM gs, i < bs.length := fun i h => by rw [B.len]; exact seats_lt h
theorem Bu.sum (B : Bu bs gs) : ((potsM bs gs).map (·.1)).sum = bs.sum := pots_sum B.nn B.hi B.ne
theorem potsL_pos : ∀ (ls : List Int) (a : Int), ∀ r ∈ potsL top bs seats a ls, 0 < r.1
  | [], _, r, h => by cases h
  | l :: ls, a, r, h => by
    rw [potsL.eq_2] at h
    rcases List.mem_append.mp h with h | h
    · by_cases p : 0 < (if l = top then restM bs a else manyM bs a l)
      · simp only [if_pos p] at h
        rw [List.mem_singleton.mp h]
        exact p
      · simp only [if_neg p] at h
        cases h
    · exact potsL_pos ls l r h
theorem sum_pos_nil {rows : List (Int × List Nat)} (h : ∀ r ∈ rows, 0 < r.1) (z : (rows.map (·.1)).sum = 0) : rows = [] := by
  cases rows with
  | nil => rfl
  | cons r rs =>
    exfalso
    rw [List.map_cons, List.sum_cons] at z
    have h1 := h r List.mem_cons_self
    have : 0 ≤ (rs.map (·.1)).sum := sum_nonneg fun x hx => by
      obtain ⟨y, hy, rfl⟩ := List.mem_map.mp hx
      have := h y (List.mem_cons_of_mem _ hy); omega
    omega
theorem Bu.nil_iff (B : Bu bs gs) : potsM bs gs = [] ↔ bs.sum = 0 := by
  constructor
  · intro z
    rw [← B.sum, z]; rfl
  · intro z
    exact sum_pos_nil (fun r hr => potsL_pos _ _ r hr) (by rw [B.sum]; exact z)
theorem sum_zeros (m : Nat) : (List.replicate m (0 : Int)).sum = 0 := by
  induction m with
  | zero => rfl
  | succ m ih => rw [List.replicate_succ, List.sum_cons, ih]; rfl
theorem Bu.zero (B : Bu bs gs) : potsM (List.replicate gs.length 0) gs = [] := by
  have B' : Bu (List.replicate gs.length 0) gs := ⟨by simp, B.two, B.six, fun b hb => by rw [(List.mem_replicate.mp hb).2]; omega, B.ne⟩
  exact B'.nil_iff.mpr (sum_zeros _)
variable {p : List Nat}
def bsP (bs : List Int) (p : List Nat) : List Int := p.map fun i => bs.getD i 0
def gsP (gs : List Bool) (p : List Nat) : List Bool := p.map fun i => gs.getD i false
theorem bs_range : (List.range bs.length).map (fun i => bs.getD i 0) = bs := by
  refine List.ext_getElem (by simp) fun i h1 h2 => ?_
  simp [h2]
theorem bsP_perm (hp : p.Perm (List.range bs.length)) : (bsP bs p).Perm bs := by
  have := hp.map fun i => bs.getD i 0
  rw [bs_range] at this
  exact this
theorem gsP_gd {j : Nat} (h : j < p.length) : (gsP gs p).getD j false = gs.getD (p.getD j 0) false := by
  unfold gsP; simp [h]
theorem Bu.perm (B : Bu bs gs) (hp : p.Perm (List.range gs.length)) : Bu (bsP bs p) (gsP gs p) := by
  have lp : p.length = gs.length := by rw [hp.length_eq, List.length_range]
  refine ⟨by unfold bsP gsP; simp, by unfold gsP; rw [List.length_map, lp]; exact B.two, by unfold gsP; rw [List.length_map, lp]; exact B.six, fun b hb => ?_, ?_⟩
  · exact B.nn b ((bsP_perm (by rw [B.len]; exact hp)).mem_iff.mp hb)
  · obtain ⟨i, hi⟩ := List.exists_mem_of_ne_nil _ B.ne
    obtain ⟨h1, h2⟩ := List.mem_filter.mp hi
    obtain ⟨j, hj', e2⟩ := List.getElem_of_mem (hp.mem_iff.mpr h1)
    have e3 : p.getD j 0 = i := by simp [hj', e2]
    exact List.ne_nil_of_mem (a := j) (List.mem_filter.mpr ⟨List.mem_range.mpr (by unfold gsP; rw [List.length_map]; exact hj'), by rw [gsP_gd hj', e3]; exact h2⟩)
theorem Bu.P (B : Bu bs gs) (hp : posL (levelsM bs gs) ≠ []) : potsM bs gs = potsP ((posL (levelsM bs gs)).getLast?.getD 0) bs (seatsM gs) 0 (posL (levelsM bs gs)) := potsM_P B.nn B.hi hp
/-- the levels beyond a -/
structure Lv (bs : List Int) (seats : List Nat) (top a : Int) (ls : List Int) : Prop where
  lt : ls.Pairwise (· < ·)
  gt : ∀ l ∈ ls, a < l
  all : ∀ i ∈ seats, a < bs.getD i 0 → bs.getD i 0 ∈ ls
  has : ∀ l ∈ ls, ∃ i ∈ seats, bs.getD i 0 = l
  last : ls ≠ [] → ls.getLast? = some top
theorem Lv.tail {a l : Int} {ls : List Int} (L : Lv bs seats top a (l :: ls)) : Lv bs seats top l ls := by
  obtain ⟨h1, h2⟩ := List.pairwise_cons.mp L.lt
  refine ⟨h2, h1, fun i hi hl => ?_, fun x hx => L.has x (List.mem_cons_of_mem _ hx), fun hne => ?_⟩
  · have := L.gt l List.mem_cons_self
    rcases List.mem_cons.mp (L.all i hi (by omega)) with h | h
    · omega
    · exact h
  · have := L.last (by simp)
    cases ls with
    | nil => exact absurd rfl hne
    | cons y r => rw [List.getLast?_cons_cons] at this; exact this
theorem Lv.next {a l : Int} {ls : List Int} (L : Lv bs seats top a (l :: ls)) : (seats.filter fun i => decide (a < bs.getD i 0)) = seats.filter (ge bs l) := by
  obtain ⟨h1, h2⟩ := List.pairwise_cons.mp L.lt
  have h3 := L.gt l List.mem_cons_self
  refine List.filter_congr fun i hi => decide_eq_decide.mpr ⟨fun h => ?_, fun h => by omega⟩
  rcases List.mem_cons.mp (L.all i hi h) with e | e
  · omega
  · have := h1 _ e; omega
theorem Lv.some {a l : Int} {ls : List Int} (L : Lv bs seats top a (l :: ls)) : ∃ i ∈ seats.filter (ge bs l), bs.getD i 0 = l := by
  obtain ⟨i, h1, h2⟩ := L.has l List.mem_cons_self
  exact ⟨i, List.mem_filter.mpr ⟨h1, by unfold ge; rw [h2]; simp⟩, h2⟩
theorem Lv.min {a l : Int} {ls : List Int} (L : Lv bs seats top a (l :: ls)) : (lvM bs (seats.filter (ge bs l))) ≠ [] ∧ minI (lvM bs (seats.filter (ge bs l))) = l := by
  obtain ⟨i, h1, h2⟩ := L.some
  have m : l ∈ lvM bs (seats.filter (ge bs l)) := List.mem_map.mpr ⟨i, h1, h2⟩
  have ne := List.ne_nil_of_mem m
  have m1 := minI_le m
  obtain ⟨j, h3, h4⟩ := List.mem_map.mp (minI_mem ne)
  have h5 : l ≤ bs.getD j 0 := of_decide_eq_true (List.mem_filter.mp h3).2
  have h6 : bs.getD j 0 = minI (lvM bs (seats.filter (ge bs l))) := h4
  exact ⟨ne, by omega⟩
theorem Bu.Lv (B : Bu bs gs) (hp : posL (levelsM bs gs) ≠ []) : Lv bs (seatsM gs) ((posL (levelsM bs gs)).getLast?.getD 0) 0 (posL (levelsM bs gs)) := by
  obtain ⟨y, hy⟩ : ∃ y, (posL (levelsM bs gs)).getLast? = some y := ⟨_, List.getLast?_eq_some_getLast hp⟩
  exact ⟨posL_lt lev_lt, fun l hl => (posL_mem.mp hl).2, fun i hi h => posL_mem.mpr ⟨lev_mem.mpr ⟨i, hi, rfl⟩, h⟩, fun l hl => lev_mem.mp (posL_mem.mp hl).1, fun _ => by rw [hy]; rfl⟩
end
end Cd
set_option Elab.async false
set_option linter.all false
set_option maxRecDepth 100000
set_option maxHeartbeats 4000000
namespace Cd
open PySem L2
def downs : List Int := [14, 13, 12, 11, 10, 9, 8, 7, 6, 5, 4, 3, 2]
def ranksL (rs : List Int) : List Int := [4, 3, 2, 1].flatMap fun m : Int => downs.filter fun r => decide ((rs.count r : Int) = m)
theorem downs_mem {r : Int} : r ∈ downs ↔ 2 ≤ r ∧ r ≤ 14 := by
  unfold downs
  simp only [List.mem_cons, List.not_mem_nil, or_false]
  omega
theorem ranksL_mem {rs : List Int} {r : Int} (h4 : ∀ r, rs.count r ≤ 4) (hr : ∀ r ∈ rs, 2 ≤ r ∧ r ≤ 14) : r ∈ ranksL rs ↔ r ∈ rs := by
  unfold ranksL
  rw [List.mem_flatMap]
  constructor
  · rintro ⟨m, hm, h⟩
    obtain ⟨_, h2⟩ := List.mem_filter.mp h
    have h2 := of_decide_eq_true h2
    have : 0 < rs.count r := by
      simp at hm
      omega
    exact List.count_pos_iff.mp this
  · intro h
    have c1 := List.count_pos_iff.mpr h
    have c2 := h4 r
    refine ⟨(rs.count r : Int), ?_, List.mem_filter.mpr ⟨downs_mem.mpr (hr r h), decide_eq_true rfl⟩⟩
    simp
    omega
theorem rowsL_desc (rs : List Int) : ((ranksL rs).map fun r => ((rs.count r : Int), r)).Pairwise fun p q => leP q p = true ∧ p ≠ q := by
  have piece : ∀ m : Int, ((downs.filter fun r => decide ((rs.count r : Int) = m)).map fun r => ((rs.count r : Int), r)).Pairwise fun p q => leP q p = true ∧ p ≠ q := fun m => by
    rw [List.pairwise_map]
    have dd : downs.Pairwise (fun a b => b < a) := by decide
    refine (List.pairwise_filter.mpr (dd.imp fun h ha hb => ?_))
    have ha := of_decide_eq_true ha
    have hb := of_decide_eq_true hb
    refine ⟨?_, fun e => ?_⟩
    · unfold leP
      rw [ha, hb]
      simp
      omega
    · have := congrArg Prod.snd e
      simp only at this
      omega
  have mem : ∀ (m : Int) p, p ∈ ((downs.filter fun r => decide ((rs.count r : Int) = m)).map fun r => ((rs.count r : Int), r)) → p.1 = m := fun m p hp => by
    obtain ⟨r, hr, rfl⟩ := List.mem_map.mp hp
    exact of_decide_eq_true (List.mem_filter.mp hr).2
  have cross : ∀ (m1 m2 : Int) p q, p.1 = m1 → q.1 = m2 → m2 < m1 → (leP q p = true ∧ p ≠ q) := fun m1 m2 p q h1 h2 h => by
    refine ⟨?_, fun e => ?_⟩
    · unfold leP
      rw [h1, h2]
      simp
      omega
    · rw [e] at h1; omega
  unfold ranksL
  rw [List.flatMap_cons, List.flatMap_cons, List.flatMap_cons, List.flatMap_cons, List.flatMap_nil, List.append_nil, List.map_append, List.map_append, List.map_append]
  refine List.pairwise_append.mpr ⟨piece 4, List.pairwise_append.mpr ⟨piece 3, List.pairwise_append.mpr ⟨piece 2, piece 1, fun p hp q hq => cross 2 1 p q (mem _ _ hp) (mem _ _ hq) (by decide)⟩, fun p hp q hq => ?_⟩, fun p hp q hq => ?_⟩
  · rcases List.mem_append.mp hq with hq | hq
    · exact cross 3 2 p q (mem _ _ hp) (mem _ _ hq) (by decide)
    · exact cross 3 1 p q (mem _ _ hp) (mem _ _ hq) (by decide)
  · rcases List.mem_append.mp hq with hq | hq
    · exact cross 4 3 p q (mem _ _ hp) (mem _ _ hq) (by decide)
    · rcases List.mem_append.mp hq with hq | hq
      · exact cross 4 2 p q (mem _ _ hp) (mem _ _ hq) (by decide)
      · exact cross 4 1 p q (mem _ _ hp) (mem _ _ hq) (by decide)
theorem rows_eqL {five : List Card} (f : Fit five) : rowsM five = (ranksL (five.map (·.1))).map fun r => (((five.map (·.1)).count r : Int), r) := by
  have desc := rowsL_desc (five.map (·.1))
  have ndM : (rowsM five).Nodup := by
    rw [(rows_perm five).nodup_iff]
    have h := often_nd (five.map (·.1))
    unfold List.Nodup at h ⊢
    rw [List.pairwise_map]
    exact h.imp fun hne e => hne (by
      have e1 := congrArg Prod.fst e
      have e2 := congrArg Prod.snd e
      exact Prod.ext e2 e1)
  have ndL : ((ranksL (five.map (·.1))).map fun r => (((five.map (·.1)).count r : Int), r)).Nodup := desc.imp fun h => h.2
  have pm : (rowsM five).Perm ((ranksL (five.map (·.1))).map fun r => (((five.map (·.1)).count r : Int), r)) := by
    refine (List.perm_ext_iff_of_nodup ndM ndL).mpr fun p => ?_
    rw [rows_mem]
    have hm := fun r => ranksL_mem (rs := five.map (·.1)) (r := r) f.1 (fun r hr => by
      obtain ⟨c, hc, rfl⟩ := List.mem_map.mp hr
      exact f.2 c hc)
    constructor
    · rintro ⟨h1, h2⟩
      exact List.mem_map.mpr ⟨p.2, (hm p.2).mpr h1, Prod.ext h2.symm rfl⟩
    · intro hp
      obtain ⟨r, hr, rfl⟩ := List.mem_map.mp hp
      exact ⟨(hm r).mp hr, rfl⟩
  have s1 : ((rowsM five).reverse).Pairwise fun p q => leP p q = true := by
    unfold rowsM
    rw [List.reverse_reverse]
    exact sortP_sortedX _
  have s2 : (((ranksL (five.map (·.1))).map fun r => (((five.map (·.1)).count r : Int), r)).reverse).Pairwise fun p q => leP p q = true := by
    rw [List.pairwise_reverse]
    exact desc.imp fun h => h.1
  have e := perm_sortedP ((List.reverse_perm _).trans (pm.trans (List.reverse_perm _).symm)) s1 s2
  exact List.reverse_inj.mp e
theorem ranks_eqL {five : List Card} (f : Fit five) : ranksM five = ranksL (five.map (·.1)) := by
  unfold ranksM
  rw [rows_eqL f, List.map_map]
  exact (List.map_congr_left fun r _ => rfl).trans (List.map_id _)
theorem unlike {five : List Card} (h5 : five.length = 5) (f : Fit five) (hl : ¬ (ranksM five).length < 5) : (ranksM five).length = 5 ∧ (ranksM five).Pairwise (fun a b => b < a) ∧ (∀ m ∈ shapeM five, m = 1) := by
  have rl := rows_len five
  have l5 : (ranksM five).length = 5 := by unfold ranksM at hl ⊢; rw [List.length_map] at hl ⊢; omega
  have ones : ∀ m ∈ shapeM five, m = 1 := by
    have ss := shape_sum five
    have sm := shape_mem f.1
    have sl : (shapeM five).length = 5 := by rw [← ranks_len]; exact l5
    rw [h5] at ss
    generalize shapeM five = sh at ss sm sl
    match sh, sl with
    | [a, b, c, d, e], _ =>
      have := sm a (by simp); have := sm b (by simp); have := sm c (by simp); have := sm d (by simp); have := sm e (by simp)
      simp at ss
      intro m hm
      simp at hm
      omega
  refine ⟨l5, ?_, ones⟩
  have desc := rowsL_desc (five.map (·.1))
  rw [ranks_eqL f]
  rw [List.pairwise_map] at desc
  have cnt : ∀ r ∈ ranksL (five.map (·.1)), ((five.map (·.1)).count r : Int) = 1 := fun r hr => by
    refine ones _ ?_
    unfold shapeM
    rw [rows_eqL f, List.map_map]
    exact List.mem_map.mpr ⟨r, hr, rfl⟩
  refine List.Pairwise.imp_of_mem (fun {a b} ha hb h => ?_) desc
  obtain ⟨h1, h2⟩ := h
  rw [cnt a ha, cnt b hb] at h1 h2
  unfold leP at h1
  simp at h1
  have : a ≠ b := fun e => h2 (by rw [e])
  omega
end Cd
set_option Elab.async false
set_option linter.all false
set_option maxRecDepth 100000
set_option maxHeartbeats 4000000
namespace Cd
open PySem L2
end Cd
set_option Elab.async false
set_option linter.all false
set_option maxRecDepth 100000
set_option maxHeartbeats 4000000
namespace Cd
open PySem L2
def s62_0 : S := .set 1 (.mk (.lst []))
def s62_1_0 : S := .ext (.var 1) (.comp [3] (.name 3) (.e (.op3b (.slice true false) (.var 0) (.op2d .addI (.var 2) (.lit (.int 1))) (.lit .none))) [] (.tup [(.op2b .ix (.var 0) (.var 2)), (.var 3)]))
def ls62_1 : List S := [s62_1_0]
def s62_1 : S := .for_ (.name 2) (.rng1 (.op1 .len (.var 0))) ls62_1
def s62_2 : S := .ret (.freeze 1)
def ls62 : List S := [s62_0, s62_1, s62_2]
theorem b62_eq : b62 = ls62 := rfl
end Cd
set_option Elab.async false
set_option linter.all false
set_option maxRecDepth 100000
set_option maxHeartbeats 4000000
namespace Cd
open PySem L2
theorem cut_mid {α : Type} (xs : List α) (a b : Nat) (h : a ≤ xs.length) (hb : b ≤ xs.length) : cutM xs (some (a : Int)) (some (b : Int)) = (xs.drop a).take (b - a) := by
  unfold cutM
  rw [HT.sIx_nat, HT.sIx_nat, Nat.min_eq_left h, Nat.min_eq_left hb]
/-- the things from place a to place b -/
def seg {α : Type} (xs : List α) (a b : Nat) : List α := (xs.drop a).take (b - a)
theorem seg_len {α : Type} {xs : List α} {a b : Nat} (hb : b ≤ xs.length) : (seg xs a b).length = b - a := by
  unfold seg
  rw [List.length_take, List.length_drop]
  omega
theorem seg_app {α : Type} {xs t : List α} {a b : Nat} (hab : a ≤ b) (h : t.Sublist (xs.drop b)) : (seg xs a b ++ t).Sublist (xs.drop a) := by
  have e : seg xs a b ++ xs.drop b = xs.drop a := by
    unfold seg
    have : xs.drop b = (xs.drop a).drop (b - a) := by rw [List.drop_drop]; congr 1; omega
    rw [this]
    exact List.take_append_drop _ _
  rw [← e]
  exact (List.Sublist.refl _).append h
def holesM (cs : List Card) (s : Nat) : List (List Card) := (List.range s).map fun a => seg cs (2 * a) (2 * a + 2)
theorem strOk_suits : ∀ x ∈ suitsL, PyData.canLay0 (.str x) = true := by
  intro x hx
  simp only [PyData.canLay0]
  revert x
  decide +kernel
theorem lay_cards : ∀ cs : List Card, (∀ c ∈ cs, c.2 ∈ suitsL) → PyData.canLayAll0 (cs.map cardD) = true
  | [], _ => rfl
  | c :: cs, h => by
    have e := strOk_suits _ (h c List.mem_cons_self)
    have e2 := lay_cards cs fun x hx => h x (List.mem_cons_of_mem _ hx)
    simp only [List.map_cons, cardD, PyData.canLayAll0, PyData.canLay0, Bool.and_true, Bool.true_and, Bool.and_eq_true] at e e2 ⊢
    exact ⟨e, e2⟩
theorem depth_cards : ∀ cs : List Card, PyData.depthAll (cs.map cardD) ≤ 1
  | [] => Nat.zero_le _
  | c :: cs => by
    show max (max 0 (max 0 0) + 1) (PyData.depthAll (cs.map cardD)) ≤ 1
    have := depth_cards cs
    omega
theorem shapedC {cs : List Card} (hz : cs.length < 1000) (h : ∀ c ∈ cs, c.2 ∈ suitsL) : SeqAt.shaped (.tuple (cs.map cardD)) = true ∧ SeqAt.shaped (.list (cs.map cardD)) = true :=
  shaped_seq (by rw [List.length_map]; exact hz) (lay_cards cs h) (by have := depth_cards cs; omega)
theorem shapedF {rows : List (List Card)} (hz : rows.length < 1000) (h : ∀ r ∈ rows, ∀ c ∈ r, c.2 ∈ suitsL) : SeqAt.shaped (.tuple (rows.map fivD)) = true ∧ SeqAt.shaped (.list (rows.map fivD)) = true := by
  have l : ∀ rows : List (List Card), (∀ r ∈ rows, ∀ c ∈ r, c.2 ∈ suitsL) → PyData.canLayAll0 (rows.map fivD) = true := fun rows => by
    induction rows with
    | nil => intro _; rfl
    | cons r rows ih =>
      intro h
      have e := lay_cards r (h r List.mem_cons_self)
      have e2 := ih fun x hx => h x (List.mem_cons_of_mem _ hx)
      simp only [List.map_cons, PyData.canLayAll0, Bool.and_eq_true]
      refine ⟨?_, e2⟩
      unfold fivD
      simp only [PyData.canLay0]
      exact e
  have d : ∀ rows : List (List Card), PyData.depthAll (rows.map fivD) ≤ 2 := fun rows => by
    induction rows with
    | nil => exact Nat.zero_le _
    | cons r rows ih =>
      show max (PyData.depthAll (r.map cardD) + 1) (PyData.depthAll (rows.map fivD)) ≤ 2
      have := depth_cards r
      omega
  exact shaped_seq (by rw [List.length_map]; exact hz) (l rows h) (by have := d rows; omega)
section
variable {fns : Nat → Option FnD} {h : Hi} {cf : Calls} {q k n m : Nat}
abbrev envTw (l : List Card) (v1 v2 : Option Val) : Ev := [some (.p (fivD l)), v1, v2, none]
theorem choose_one {α : Type} : ∀ l : List α, chooseM l 1 = l.map fun x => [x]
  | [] => rfl
  | x :: l => by
    show (chooseM l 0).map (x :: ·) ++ chooseM l 1 = _
    rw [choose_zero, choose_one l]; rfl
theorem loop62 {l : List Card} (hl : l.length ≤ 9) : ∀ (m n : Nat) (v2 : Option Val), n + m = l.length →
    ∃ w2, forL (evalSs cf ls62_1) (bindT (.name 2)) ((List.range' n m).map natD) (envTw l (some (.ref h.length)) v2) (h ++ [.lst ((headsM l 1 n).map fivD)]) =
      .ok .nx (envTw l (some (.ref h.length)) w2) (h ++ [.lst ((headsM l 1 (n + m)).map fivD)])
  | 0, n, v2, _ => ⟨v2, rfl⟩
  | m + 1, n, v2, hm => by
    obtain ⟨w2, e⟩ := loop62 hl m (n + 1) (some (.p (natD n))) (by omega)
    refine ⟨w2, ?_⟩
    rw [List.range'_succ, List.map_cons]
    unfold forL
    have eb : bindT (.name 2) (natD n) (envTw l (some (.ref h.length)) v2) = some (envTw l (some (.ref h.length)) (some (.p (natD n)))) := by
      simp only [bt_name, setSlot_0, setSlot_s]
    rw [eb]
    have hn : n < l.length := by omega
    have sl : opf3 (.slice true false) (fivD l) (.int ((n : Int) + 1)) .none = some (fivD (l.drop (n + 1))) := by
      unfold fivD
      rw [slice_T (lo := some ((n + 1 : Nat) : Int)) (hi := none) rfl rfl, cut_hi _ _ (by omega)]
    have gx : atI (l.map cardD) ((n : Nat) : Int) = some (cardD l[n]) := atI_nat (by rw [List.getElem?_map, List.getElem?_eq_getElem hn]; rfl)
    have hh : headsM l 1 (n + 1) = headsM l 1 n ++ (l.drop (n + 1)).map fun c => [l[n], c] := by
      show headsM l 1 n ++ headM l 1 n = _
      rw [head_some hn, choose_one, List.map_map]; rfl
    have c1 : evalE cf (envTw l (some (.ref h.length)) (some (.p (natD n)))) (.comp [3] (.name 3) (.e (.op3b (.slice true false) (.var 0) (.op2d .addI (.var 2) (.lit (.int 1))) (.lit .none))) [] (.tup [(.op2b .ix (.var 0) (.var 2)), (.var 3)])) (h ++ [.lst ((headsM l 1 n).map fivD)]) = .ok (.p (.list (((l.drop (n + 1)).map fun c => [l[n], c]).map fivD))) (h ++ [.lst ((headsM l 1 n).map fivD)]) := by
      rw [List.map_map]
      refine comp_all cardD _ (by simp only [es_e, ev_op3b, bor_var, slot_0, slot_s, borV_p, ev_op2d, ev_var, natD, ofO_some, R.bind_ok, unP_p, ev_lit, o_addI, sl, Option.map_some]; rfl) (by rw [List.length_drop]; omega) fun c hc => ⟨[some (.p (fivD l)), some (.ref h.length), some (.p (natD n)), some (.p (cardD c))], by simp, ?_⟩
      simp only [ev_tup, eps_cons, eps_nil, ev_op2b, bor_var, slot_0, slot_s, borV_p, fivD, ev_var, natD, ofO_some, R.bind_ok, unP_p, o_ixT, gx, Option.map_some]
      rfl
    have hsz : (headsM l 1 n).length ≤ n * 9 := by
      have : ∀ n, (headsM l 1 n).length ≤ n * 9 := fun n => by
        induction n with
        | zero => exact Nat.zero_le _
        | succ n ih =>
          show (headsM l 1 n ++ headM l 1 n).length ≤ _
          rw [List.length_append]
          by_cases c : n < l.length
          · rw [head_some c, List.length_map, choose_one, List.length_map, List.length_drop]; omega
          · rw [head_none (Nat.le_of_not_lt c), List.length_nil]; omega
      exact this n
    have sz : ((headsM l 1 n).map fivD).length + (((l.drop (n + 1)).map fun c => [l[n], c]).map fivD).length ≤ sizeLine := by
      rw [List.length_map, List.length_map, List.length_map, List.length_drop]
      exact sz_ok (by omega)
    have st : evalSs cf ls62_1 (envTw l (some (.ref h.length)) (some (.p (natD n)))) (h ++ [.lst ((headsM l 1 n).map fivD)]) = .ok .nx (envTw l (some (.ref h.length)) (some (.p (natD n)))) (h ++ [.lst ((headsM l 1 (n + 1)).map fivD)]) := by
      have ex : extH (envTw l (some (.ref h.length)) (some (.p (natD n)))) (.var 1) (.list (((l.drop (n + 1)).map fun c => [l[n], c]).map fivD)) (h ++ [.lst ((headsM l 1 n).map fivD)]) = some (h ++ [.lst ((headsM l 1 (n + 1)).map fivD)]) := by
        unfold extH
        simp only [listD, Option.bind_some, getL_var, slot_0, slot_s, refOf_r, listAt_app]
        rw [if_pos sz]
        unfold storeL
        simp only [slotRef_eq, slot_0, slot_s, refOf_r, Option.map_some, set_app, hh, List.map_append]
      unfold ls62_1 s62_1_0
      simp only [ss_cons, ss_nil, st_ext, getL_var, slot_0, slot_s, refOf_r, Option.bind_some, listAt_app, c1, R.bind_ok, unP_p, R.toS_ok, ex, ofH_some, RS.bind_nx]
    simp only [st]
    rw [e, show n + 1 + m = n + (m + 1) by omega]
theorem twos_eval (F62 : fns 62 = some d62) {l : List Card} (hl : l.length ≤ 9) : callF fns (q + 1) 62 [.p (fivD l)] h = .ok (.p (.list ((chooseM l 2).map fivD))) h := by
  rw [call_eq F62 rfl]
  generalize callF fns q = cf
  obtain ⟨w2, e2⟩ := loop62 (cf := cf) (h := h) hl l.length 0 none (by omega)
  rw [Nat.zero_add, heads_all 1 l l.length (by omega), ← List.range_eq_range'] at e2
  show finF h.length (evalSs cf b62 (envTw l none none) h) = _
  rw [b62_eq]
  unfold ls62
  have t0 : evalS cf s62_0 (envTw l none none) h = .ok .nx (envTw l (some (.ref h.length)) none) (h ++ [.lst ((headsM l 1 0).map fivD)]) := by
    unfold s62_0
    simp only [st_set, ev_mk, ev_lst, eps_nil, R.bind_ok, unP_p, mkK, R.toS_ok, setSlot_0, setSlot_s]
    rfl
  have t1 : evalS cf s62_1 (envTw l (some (.ref h.length)) none) (h ++ [.lst ((headsM l 1 0).map fivD)]) = .ok .nx (envTw l (some (.ref h.length)) w2) (h ++ [.lst ((chooseM l 2).map fivD)]) := by
    unfold s62_1
    have ln : opf1 .len (fivD l) = some (.int (l.length : Int)) := by show some (PyData.int ((l.map cardD).length : Int)) = _; rw [List.length_map]
    rw [st_for, src_nat (j := l.length) (by simp only [ev_op1, bor_var, ev_var, slot_0, slot_s, borV_p, ln, ofO_some, R.bind_ok, unP_p, Option.map_some]) (by omega), R.toS_ok]
    exact e2
  have fz : freezeK (envTw l (some (.ref h.length)) w2) 1 (h ++ [.lst ((chooseM l 2).map fivD)]) = .ok (.p (.list ((chooseM l 2).map fivD))) (h ++ [.dead]) := by
    unfold freezeK
    simp only [lstOf_eq, slot_0, slot_s, refOf_r, Option.bind_some, listAt_app, Option.map_some, set_app]
  rw [ss_cons, t0, RS.bind_nx, ss_cons, t1, RS.bind_nx, ss_cons]
  show finF h.length ((evalS cf s62_2 _ _).bind _) = _
  unfold s62_2
  rw [st_ret]
  show finF h.length (((freezeK _ 1 _).toS _ _).bind _) = _
  rw [fz]
  simp only [R.toS_ok, RS.bind_rt, fin_rp, take_app]
end
end Cd
set_option Elab.async false
set_option linter.all false
set_option maxRecDepth 100000
set_option maxHeartbeats 4000000
namespace Cd
open PySem L2
end Cd
set_option Elab.async false
set_option linter.all false
set_option maxRecDepth 100000
set_option maxHeartbeats 4000000
namespace Cd
open PySem L2
section
variable {fns : Nat → Option FnD} {h : Hi} {cf : Calls} {q k n m : Nat} {env : Ev}
@[simp] theorem ev_catB {i : Nat} {b : E} : evalE cf env (.catB i b) h = match lstOf env h i with
    | none => .stuck
    | some _ => ((evalE cf env b h).bind unP).bind fun y h1 => catBK env i y h1 := id rfl
end
end Cd
set_option Elab.async false
set_option linter.all false
set_option maxRecDepth 100000
set_option maxHeartbeats 4000000
namespace Cd
open PySem L2
def s67_0 : S := .ret (.op1 .tuple (.comp [4] (.name 4) (.e (.var 2)) [(.val (.op2 .eq (.call 57 [(.var 0), (.op2d .add (.var 1) (.tup [(.var 4)]))]) (.tup [(.var 3)])))] (.var 4)))
def ls67 : List S := [s67_0]
theorem b67_eq : b67 = ls67 := rfl
end Cd
set_option Elab.async false
set_option linter.all false
set_option maxRecDepth 100000
set_option maxHeartbeats 4000000
namespace Cd
open PySem L2
section
variable {fns : Nat → Option FnD} {h : Hi} {cf : Calls} {q k n m : Nat}
end
end Cd
set_option Elab.async false
set_option linter.all false
set_option maxRecDepth 100000
set_option maxHeartbeats 4000000
namespace Cd
open PySem L2
abbrev OkB (board x : List Card) : Prop := Fit (x ++ board) ∧ 5 ≤ (x ++ board).length ∧ (x ++ board).length ≤ 9
/-- who wins with a board -/
def winB (holes : List (List Card)) (board : List Card) : List Nat := winM (holes.map fun x => bestC (x ++ board))
theorem winM_len (bs : List Rank) : (winM bs).length ≤ bs.length := by
  have := List.length_filter_le (fun i => decide (bs.getD i (0, []) = maxR bs)) (List.range bs.length)
  rw [List.length_range] at this
  exact this
theorem winB_len {holes : List (List Card)} {board : List Card} : (winB holes board).length ≤ holes.length := by
  have := winM_len (holes.map fun x => bestC (x ++ board))
  rw [List.length_map] at this
  exact this
section
variable {fns : Nat → Option FnD} {h : Hi} {cf : Calls} {q k n m : Nat}
end
end Cd
set_option Elab.async false
set_option linter.all false
set_option maxRecDepth 100000
set_option maxHeartbeats 4000000
namespace Cd
open PySem L2
def outsM (holes : List (List Card)) (board stub : List Card) (s : Nat) : List Card := stub.filter fun c => decide (winB holes (board ++ [c]) = [s])
theorem natD_inj : ∀ {xs ys : List Nat}, xs.map (fun i : Nat => (i : Int)) = ys.map (fun i : Nat => (i : Int)) ↔ xs = ys := by
  intro xs ys
  constructor
  · intro h
    exact (List.map_inj_right (fun a b h => by omega)).mp h
  · rintro rfl; rfl
theorem o_eqN {xs ys : List Nat} (h1 : xs.length < 1000) (h2 : ys.length < 1000) : opf2 .eq (.tuple (xs.map natD)) (.tuple (ys.map natD)) = some (.bool (decide (xs = ys))) := by
  rw [natD_int, natD_int, o_eqT (by rw [List.length_map]; exact h1) (by rw [List.length_map]; exact h2)]
  congr 2
  exact decide_eq_decide.mpr natD_inj
theorem eqv_card (a b : Card) : PyData.eqv (cardD a) (cardD b) = decide (a = b) := by
  simp only [cardD, PyData.eqv, PyData.eqvAll, Bool.and_true]
  have e : (a.1 == b.1) = decide (a.1 = b.1) := by
    by_cases c : a.1 = b.1
    · rw [decide_eq_true c, c]; simp
    · rw [decide_eq_false c]; simpa using c
  have e2 : (a.2 == b.2) = decide (a.2 = b.2) := by
    by_cases c : a.2 = b.2
    · rw [decide_eq_true c, c]; simp
    · rw [decide_eq_false c]; simpa using c
  rw [e, e2, ← Bool.decide_and]
  exact decide_eq_decide.mpr ⟨fun h => Prod.ext h.1 h.2, fun h => by rw [h]; exact ⟨rfl, rfl⟩⟩
theorem plain_cards : ∀ cs : List Card, PyData.plainAll (cs.map cardD) = true
  | [] => rfl
  | c :: cs => by rw [List.map_cons]; simp [PyData.plainAll, PyData.plain, cardD, plain_cards cs]
theorem inC (c : Card) (cs : List Card) : inD (cardD c) (cs.map cardD) = some (decide (c ∈ cs)) := by
  have d : (cardD c).depth ≤ 60 := by
    have := depth_cards [c]
    have e : PyData.depthAll ([c].map cardD) = max (cardD c).depth 0 := rfl
    omega
  have p : (cardD c).plain = true := by
    have := plain_cards [c]
    simpa [PyData.plainAll] using this
  unfold inD
  rw [if_pos (by rw [p, plain_cards]; simpa using d), List.any_map]
  congr 1
  induction cs with
  | nil => rfl
  | cons w ws ih =>
    rw [List.any_cons, ih]
    show (PyData.eqv (cardD w) (cardD c) || _) = _
    rw [eqv_card, ← Bool.decide_or]
    refine decide_eq_decide.mpr ?_
    rw [List.mem_cons]
    constructor
    · rintro (h | h)
      · exact .inl h.symm
      · exact .inr h
    · rintro (h | h)
      · exact .inl h.symm
      · exact .inr h
section
variable {fns : Nat → Option FnD} {h : Hi} {cf : Calls} {q k n m : Nat}
theorem outs_eval (C : HasC fns) (F57 : fns 57 = some d57) (F67 : fns 67 = some d67) {holes : List (List Card)} {board stub : List Card} {s : Nat} (h0 : holes ≠ []) (hl : holes.length < 400) (hz : stub.length < 1000) (hb : board.length < 100) (f : ∀ c ∈ stub, ∀ x ∈ holes, OkB (board ++ [c]) x) :
    callF fns (q + 9) 67 [.p (.tuple (holes.map fivD)), .p (fivD board), .p (fivD stub), .p (.int (s : Int))] h = .ok (.p (.tuple ((outsM holes board stub s).map cardD))) h := by
  rw [call_eq F67 rfl]
  have cw : ∀ c ∈ stub, callF fns (q + 8) 57 [.p (.tuple (holes.map fivD)), .p (fivD (board ++ [c]))] h = .ok (.p (.tuple ((winB holes (board ++ [c])).map natD))) h := fun c hc => winners_eval (q := q) C F57 (fun x hx => f c hc x hx) (by omega) h0
  generalize callF fns (q + 8) = cf at cw
  have c1 : evalE cf [some (.p (.tuple (holes.map fivD))), some (.p (fivD board)), some (.p (fivD stub)), some (.p (.int (s : Int))), none] (.comp [4] (.name 4) (.e (.var 2)) [(.val (.op2 .eq (.call 57 [(.var 0), (.op2d .add (.var 1) (.tup [(.var 4)]))]) (.tup [(.var 3)])))] (.var 4)) h = .ok (.p (.list ((outsM holes board stub s).map cardD))) h := by
    unfold outsM
    refine comp_ok cardD cardD _ (by simp [fivD]) hz fun c hc => ⟨[some (.p (.tuple (holes.map fivD))), some (.p (fivD board)), some (.p (fivD stub)), some (.p (.int (s : Int))), some (.p (cardD c))], by simp, ?_, fun _ => by simp⟩
    have ad : opf2 .add (fivD board) (.tuple [cardD c]) = some (fivD (board ++ [c])) := by
      unfold fivD
      rw [addT_ok (by rw [List.length_map]; simp; omega), List.map_append]; rfl
    have wl := winB_len (holes := holes) (board := board ++ [c])
    have eq : opf2 .eq (.tuple ((winB holes (board ++ [c])).map natD)) (.tuple [.int (s : Int)]) = some (.bool (decide (winB holes (board ++ [c]) = [s]))) := o_eqN (ys := [s]) (by omega) (by simp)
    simp only [ets_one, et_val, bor_op2, ev_op2, ev_call, ees_cons, ees_nil, ev_op2d, ev_var, slot_0, slot_s, ofO_some, R.bind_ok, unP_p, ev_tup, eps_cons, eps_nil, ad, Option.map_some, cw c hc, bor_tup, eq, truth_b]
  show finF h.length (evalSs cf b67 [some (.p (.tuple (holes.map fivD))), some (.p (fivD board)), some (.p (fivD stub)), some (.p (.int (s : Int))), none] h) = _
  rw [b67_eq]
  unfold ls67 s67_0
  rw [ss_cons, st_ret, ev_op1, bor_comp, c1]
  simp only [R.bind_ok, unP_p, o_tupL, Option.map_some, ofO_some, R.toS_ok, RS.bind_rt, fin_rp, List.take_length]
end
end Cd
set_option Elab.async false
set_option linter.all false
set_option maxRecDepth 100000
set_option maxHeartbeats 4000000
namespace Cd
open PySem L2
section
variable {fns : Nat → Option FnD} {h : Hi} {cf : Calls} {q k n m i : Nat} {env : Ev}
@[simp] theorem es_rng3 {a b : E} : evalSrc cf env (.rng3 a b) h = ((evalE cf env a h).bind unP).bind fun d h1 => ((evalE cf env b h1).bind unP).bind fun e h2 => rng3K d e h2 := id rfl
end
end Cd
set_option Elab.async false
set_option linter.all false
set_option maxRecDepth 100000
set_option maxHeartbeats 4000000
namespace Cd
open PySem L2
end Cd
set_option Elab.async false
set_option linter.all false
set_option maxRecDepth 100000
set_option maxHeartbeats 4000000
namespace Cd
open PySem L2
section
variable {fns : Nat → Option FnD} {h : Hi} {cf : Calls} {q : Nat}
end
end Cd
set_option Elab.async false
set_option linter.all false
set_option maxRecDepth 100000
set_option maxHeartbeats 4000000
namespace Cd
open PySem L2
structure Whole (cs : List Card) : Prop where
  nd : cs.Nodup
  mem : ∀ c ∈ cs, c.1 ∈ every ∧ c.2 ∈ suitsL
theorem every_rng14 : ∀ r ∈ every, 2 ≤ r ∧ r ≤ 14 := by decide
theorem len_sub {α : Type} [DecidableEq α] : ∀ (xs ys : List α), xs.Nodup → (∀ x ∈ xs, x ∈ ys) → xs.length ≤ ys.length
  | [], ys, _, _ => Nat.zero_le _
  | x :: xs, ys, h, hs => by
    obtain ⟨h1, h2⟩ := List.nodup_cons.mp h
    have hx := hs x List.mem_cons_self
    have := len_sub xs (ys.erase x) h2 fun z hz => (List.mem_erase_of_ne (fun e => h1 (by rw [← e]; exact hz))).mpr (hs z (List.mem_cons_of_mem _ hz))
    rw [List.length_erase_of_mem hx] at this
    have p : 0 < ys.length := List.length_pos_of_mem hx
    rw [List.length_cons]; omega
theorem Whole.fit {cs : List Card} (w : Whole cs) : Fit cs := by
  refine ⟨fun r => ?_, fun c hc => every_rng14 _ (w.mem c hc).1⟩
  have e : (cs.map (·.1)).count r = ((cs.filter fun c => decide (c.1 = r)).map (·.2)).length := by
    rw [List.length_map, List.count_eq_length_filter, List.filter_map, List.length_map]
    congr 1
  rw [e]
  refine len_sub _ suitsL ?_ fun z hz => ?_
  · unfold List.Nodup
    rw [List.pairwise_map]
    refine List.Pairwise.imp_of_mem ?_ (w.nd.filter _)
    intro a b ha hb hn e
    have h1 := of_decide_eq_true (List.mem_filter.mp ha).2
    have h2 := of_decide_eq_true (List.mem_filter.mp hb).2
    exact hn (Prod.ext (h1.trans h2.symm) e)
  · obtain ⟨c, hc, rfl⟩ := List.mem_map.mp hz
    exact (w.mem c (List.mem_filter.mp hc).1).2
theorem Whole.sub {cs ds : List Card} (w : Whole cs) (s : ds.Sublist cs) : Whole ds := ⟨w.nd.sublist s, fun c hc => w.mem c (s.subset hc)⟩
theorem Whole.perm {cs ds : List Card} (w : Whole cs) (p : ds.Perm cs) : Whole ds := ⟨p.nodup_iff.mpr w.nd, fun c hc => w.mem c (p.mem_iff.mp hc)⟩
section
variable {fns : Nat → Option FnD} {h : Hi} {cf : Calls} {q k n m : Nat} {env : Ev}
theorem o_notInC (c : Card) (cs : List Card) : opf2 .notIn (cardD c) (fivD cs) = some (.bool (!decide (c ∈ cs))) := by
  show ((seqD (fivD cs)).bind fun ys => (inD (cardD c) ys).map fun b => PyData.bool !b) = _
  unfold fivD
  show (inD (cardD c) (cs.map cardD)).map _ = _
  rw [inC]; rfl
/-- a deal, told by what is asked of it -/
structure DealW (cs more : List Card) (s b st : Nat) : Prop where
  len : cs.length = 2 * s + b
  len2 : more.length = st
  whole : Whole (cs ++ more)
end
end Cd
set_option Elab.async false
set_option linter.all false
set_option maxRecDepth 100000
set_option maxHeartbeats 4000000
namespace Cd
open PySem L2
section
variable {cs more : List Card} {s b st : Nat}
theorem DealW.bl (D : DealW cs more s b st) : (cs.drop (2 * s)).length = b := by
  have := D.len
  rw [List.length_drop]; omega
theorem DealW.hole2 (D : DealW cs more s b st) {x : List Card} (hx : x ∈ holesM cs s) : x.length = 2 := by
  obtain ⟨a, ha, rfl⟩ := List.mem_map.mp hx
  have := List.mem_range.mp ha
  have := D.len
  rw [seg_len (by omega)]; omega
theorem DealW.sub (D : DealW cs more s b st) {x t : List Card} (hx : x ∈ holesM cs s) (ht : t.Sublist more) : (x ++ (cs.drop (2 * s) ++ t)).Sublist (cs ++ more) := by
  obtain ⟨a, ha, rfl⟩ := List.mem_map.mp hx
  have ha := List.mem_range.mp ha
  rw [← List.append_assoc]
  refine List.Sublist.append ?_ ht
  have e : cs.drop (2 * s) = (cs.drop (2 * a + 2)).drop (2 * s - (2 * a + 2)) := by rw [List.drop_drop]; congr 1; omega
  exact (seg_app (by omega) (by rw [e]; exact List.drop_sublist _ _)).trans (List.drop_sublist _ _)
theorem DealW.okb (D : DealW cs more s b st) {x t : List Card} (hx : x ∈ holesM cs s) (ht : t.Sublist more) (h3 : 3 ≤ b + t.length) (h7 : b + t.length ≤ 7) : OkB (cs.drop (2 * s) ++ t) x := by
  have h2 := D.hole2 hx
  have bl := D.bl
  refine ⟨(D.whole.sub (D.sub hx ht)).fit, ?_, ?_⟩ <;> rw [List.length_append, List.length_append] <;> omega
theorem DealW.two (D : DealW cs more s b st) {t : List Card} (ht : t.Sublist more) : Fit (t ++ cs.drop (2 * s)) := by
  have h : (cs.drop (2 * s) ++ t).Sublist (cs ++ more) := List.Sublist.append (List.drop_sublist _ _) ht
  exact ((D.whole.sub h).perm List.perm_append_comm).fit
end
section
variable {fns : Nat → Option FnD} {h : Hi} {cf : Calls} {q k n m : Nat} {env : Ev}
@[simp] theorem ev_freeze {i : Nat} : evalE cf env (.freeze i) h = freezeK env i h := id rfl
theorem choices_few (F55 : fns 55 = some d55) {k : Nat} {l : List Card} (hk : k < 1000) (hl : l.length < k) : callF fns (q + 1) 55 [.p (fivD l), .p (.int (k : Int))] h = .ok (.p (.list ((chooseM l k).map fivD))) h := by
  rw [call_eq F55 rfl, choose_few _ _ hl]
  generalize callF fns q = cf
  show finF h.length (evalSs cf b55 (envCh l k none none none) h) = _
  rw [b55_eq]
  unfold ls55
  have t0 : evalS cf s55_0 (envCh l k none none none) h = .ok .nx (envCh l k none none none) h := by
    have : ¬ (k = 0) := by omega
    simp [s55_0, this]
  have t1 : evalS cf s55_1 (envCh l k none none none) h = .ok .nx (envCh l k (some (.ref h.length)) none none) (h ++ [.lst []]) := by
    unfold s55_1
    simp only [st_set, ev_mk, ev_lst, eps_nil, R.bind_ok, unP_p, mkK, R.toS_ok, setSlot_0, setSlot_s]
  have z : (((l.map cardD).length : Nat) : Int) - (k : Int) + 1 = (l.length : Int) - k + 1 := by rw [List.length_map]
  have sr : evalSrc cf (envCh l k (some (.ref h.length)) none none) (.rng1 (.op2d .add (.op2d .sub (.op1 .len (.var 0)) (.var 1)) (.lit (.int 1)))) (h ++ [.lst []]) = .ok [] (h ++ [.lst []]) := by
    rw [src_rng1 (j := (l.length : Int) - k + 1) (by simp [fivD]) (by unfold rngOk; exact decide_eq_true (by omega))]
    rw [show ((l.length : Int) - k + 1).toNat = 0 by omega]
    rfl
  have t2 : evalS cf s55_2 (envCh l k (some (.ref h.length)) none none) (h ++ [.lst []]) = .ok .nx (envCh l k (some (.ref h.length)) none none) (h ++ [.lst []]) := by
    unfold s55_2
    rw [st_for, sr, R.toS_ok]
    rfl
  rw [ss_cons, t0, RS.bind_nx, ss_cons, t1, RS.bind_nx, ss_cons, t2, RS.bind_nx, ss_cons]
  simp only [s55_3, st_ret, ev_freeze, freezeK, lstOf_eq, slot_0, slot_s, refOf_r, Option.bind_some, listAt_app, Option.map_some, R.toS_ok, RS.bind_rt, fin_rp, set_app, take_app, List.map_nil]
theorem beaten_evalA (C : HasC fns) (F58 : fns 58 = some d58) {hole board stub : List Card} (f : ∀ two ∈ chooseM stub 2, Fit (two ++ board)) (f1 : Fit (hole ++ board)) (h2 : hole.length = 2) (hb : 3 ≤ board.length) (hb7 : board.length ≤ 7) (hs9 : stub.length ≤ 9) :
    callF fns (q + 8) 58 [.p (fivD hole), .p (fivD board), .p (fivD stub)] h = .ok (.p (.tuple ((beatM hole board stub).map fivD))) h := by
  by_cases c : 2 ≤ stub.length
  · exact beaten_eval C F58 f f1 h2 hb hb7 c hs9
  have em : chooseM stub 2 = [] := choose_few _ _ (by omega)
  rw [call_eq F58 rfl]
  have e1 := choices_few (q := q + 6) (h := h) C.f55 (k := 2) (l := stub) (by decide) (by omega)
  have e0 := best_eval (q := q) (h := h) C f1 (by rw [List.length_append]; omega) (by rw [List.length_append]; omega)
  unfold beatM
  rw [em] at e1 ⊢
  change callF fns (q + 7) 55 _ _ = _ at e1
  generalize callF fns (q + 7) = cf at e0 e1
  have ad : opf2 .add (fivD hole) (fivD board) = some (fivD (hole ++ board)) := by
    unfold fivD
    rw [addT_ok (by simp; omega), List.map_append]
  have e1' : cf 55 [.p (fivD stub), .p (.int 2)] h = .ok (.p (.list [])) h := e1
  generalize bestC (hole ++ board) = own at e0 ⊢
  show finF h.length (evalSs cf b58 [some (.p (fivD hole)), some (.p (fivD board)), some (.p (fivD stub)), none, none] h) = _
  rw [b58_eq]
  unfold ls58
  have c1 : evalE cf [some (.p (fivD hole)), some (.p (fivD board)), some (.p (fivD stub)), some (.p (rankD own)), none] (.comp [4] (.name 4) (.e (.call 55 [(.var 2), (.lit (.int 2))])) [(.val (.op2 .gt (.call 56 [(.op2d .add (.var 4) (.var 1))]) (.var 3)))] (.var 4)) h = .ok (.p (.list [])) h := by
    exact comp_ok (xs := ([] : List (List Card))) fivD fivD (fun _ => true) (by simp only [es_e, ev_call, ees_cons, ees_nil, ev_var, slot_0, slot_s, ofO_some, R.bind_ok, ev_lit, e1', unP_p, items_L, List.map_nil]) (by decide) (fun x hx => by cases hx)
  have t0 : evalS cf s58_0 [some (.p (fivD hole)), some (.p (fivD board)), some (.p (fivD stub)), none, none] h = .ok .nx [some (.p (fivD hole)), some (.p (fivD board)), some (.p (fivD stub)), some (.p (rankD own)), none] h := by
    unfold s58_0
    simp only [st_set, ev_call, ees_cons, ees_nil, ev_op2d, ev_var, slot_0, slot_s, ofO_some, R.bind_ok, unP_p, ad, Option.map_some, e0, R.toS_ok, setSlot_0, setSlot_s]
  rw [ss_cons, t0, RS.bind_nx, ss_cons]
  unfold s58_1
  rw [st_ret, ev_op1, bor_comp, c1]
  simp only [R.bind_ok, unP_p, o_tupL, Option.map_some, ofO_some, R.toS_ok, RS.bind_rt, fin_rp, List.take_length, List.filter_nil, List.map_nil]
end
end Cd
set_option Elab.async false
set_option linter.all false
set_option maxRecDepth 100000
set_option maxHeartbeats 4000000
namespace Cd
open PySem L2
section
variable {cf : Calls} {h : Hi} {α : Type}
theorem keysK_ok {f g : α → PyData} {i : Nat} {caps : List Val} : ∀ {xs : List α}, (∀ x ∈ xs, cf i (.p (f x) :: caps) h = .ok (.p (g x)) h) → keysK cf i caps (xs.map f) h = .ok (xs.map g) h
  | [], _ => rfl
  | x :: xs, hx => by
    show (noX ((cf i (.p (f x) :: caps) h).bind unP)).bind (fun k h1 => (keysK cf i caps (xs.map f) h1).bind fun ks h2 => .ok (k :: ks) h2) = _
    rw [hx x List.mem_cons_self]
    show (keysK cf i caps (xs.map f) h).bind _ = _
    rw [keysK_ok fun y hy => hx y (List.mem_cons_of_mem _ hy)]
    rfl
theorem zip_maps {β γ : Type} (f : α → β) (g : α → γ) : ∀ xs : List α, (xs.map f).zip (xs.map g) = xs.map fun x => (f x, g x)
  | [] => rfl
  | x :: xs => by rw [List.map_cons, List.map_cons, List.zip_cons_cons, zip_maps f g xs, List.map_cons]
theorem sortBy_map {f g : α → PyData} (xs : List α) : sortBy (xs.map f) (xs.map g) = (xs.mergeSort fun a b => leD (g a) (g b)).map f := by
  unfold sortBy
  rw [zip_maps]
  have := List.map_mergeSort (l := xs) (r := fun a b => leD (g a) (g b)) (s := fun a b : PyData × PyData => leD a.2 b.2) (f := fun x => (f x, g x)) fun a _ b _ => rfl
  rw [← this, List.map_map]; rfl
theorem ev_sortK {f g : α → PyData} {i : Nat} {js : List Nat} {caps : List Val} {xs : List α} {a : E} {env : Ev} (h1 : evalE cf env a h = .ok (.p (.list (xs.map f))) h) (hc : capsD env js = some caps) (hk : ∀ x ∈ xs, cf i (.p (f x) :: caps) h = .ok (.p (g x)) h) (ok : keysOk (xs.map g) = true) (hz : xs.length < 1000) :
    evalE cf env (.sortK i js a) h = .ok (.p (.list ((xs.mergeSort fun a b => leD (g a) (g b)).map f))) h := by
  show ((evalE cf env a h).bind unP).bind (fun d h1 => sortKK cf i (capsD env js) d h1) = _
  rw [h1, hc]
  simp only [R.bind_ok, unP_p, sortKK]
  rw [if_pos (by rw [List.length_map]; exact Nat.lt_trans hz size1000), keysK_ok hk]
  simp only [R.bind_ok]
  rw [if_pos ok, sortBy_map]
theorem all2 {ks : List PyData} {p : PyData → PyData → Bool} (h : ∀ a ∈ ks, ∀ b ∈ ks, p a b = true) : ks.all (fun a => ks.all (p a)) = true := by
  rw [List.all_eq_true]
  intro a ha
  rw [List.all_eq_true]
  exact h a ha
theorem keysOk_ranks (rs : List Rank) : keysOk (rs.map rankD) = true := by
  have d := depth_ranks rs
  unfold keysOk
  rw [all2 fun a ha b hb => by
    obtain ⟨x, _, rfl⟩ := List.mem_map.mp ha
    obtain ⟨y, _, rfl⟩ := List.mem_map.mp hb
    exact alike_rank x y]
  have t : (rs.map rankD).all tupNe = true := by
    rw [List.all_eq_true]
    intro a ha
    obtain ⟨x, _, rfl⟩ := List.mem_map.mp ha
    rfl
  rw [t, decide_eq_true (by omega)]
  rfl
theorem leD_rank (a b : Rank) : leD (rankD a) (rankD b) = !ltR b a := by unfold leD; rw [lt_rank]
/-- the last one sorted is among the greatest -/
theorem sort_last {le : α → α → Bool} (tr : ∀ a b c, le a b = true → le b c = true → le a c = true) (to : ∀ a b, (le a b || le b a) = true) {xs : List α} (ne : xs ≠ []) : ∃ l, (xs.mergeSort le).getLast? = some l ∧ l ∈ xs ∧ ∀ x ∈ xs, le x l = true := by
  have p := List.mergeSort_perm xs le
  have pw := List.pairwise_mergeSort (le := le) tr to xs
  generalize xs.mergeSort le = ys at p pw
  have yn : ys ≠ [] := fun e => ne (by rw [e] at p; exact (List.nil_perm.mp p))
  obtain ⟨ini, l, rfl⟩ : ∃ ini l, ys = ini ++ [l] := ⟨ys.dropLast, ys.getLast yn, (List.dropLast_concat_getLast yn).symm⟩
  refine ⟨l, by simp, p.mem_iff.mp (by simp), fun x hx => ?_⟩
  rcases List.mem_append.mp (p.mem_iff.mpr hx) with hi | hi
  · exact (List.pairwise_append.mp pw).2.2 x hi l (by simp)
  · rw [List.mem_singleton.mp hi]
    have := to l l
    simpa using this
end
end Cd
set_option Elab.async false
set_option linter.all false
set_option maxRecDepth 100000
set_option maxHeartbeats 4000000
namespace Cd
open PySem L2
theorem beat_tail {hole full r : List Card} {c : Card} (hc : c ∉ r) : (beatM hole full (c :: r)).filter (fun two => !decide (c ∈ two)) = beatM hole full r := by
  unfold beatM
  rw [show chooseM (c :: r) 2 = (chooseM r 1).map (c :: ·) ++ chooseM r 2 from rfl, List.filter_append, List.filter_append]
  have e1 : ((List.filter (fun two => ltR (bestC (hole ++ full)) (bestC (two ++ full))) ((chooseM r 1).map (c :: ·))).filter fun two => !decide (c ∈ two)) = [] := by
    rw [List.filter_eq_nil_iff]
    intro x hx
    obtain ⟨y, _, rfl⟩ := List.mem_map.mp (List.mem_filter.mp hx).1
    simp
  have e2 : ((List.filter (fun two => ltR (bestC (hole ++ full)) (bestC (two ++ full))) (chooseM r 2)).filter fun two => !decide (c ∈ two)) = List.filter (fun two => ltR (bestC (hole ++ full)) (bestC (two ++ full))) (chooseM r 2) := by
    rw [List.filter_eq_self]
    intro x hx
    have := ((choose_mem _ _ _).mp (List.mem_filter.mp hx).1).1
    simpa using fun z => hc (this.subset z)
  rw [e1, e2, List.nil_append]
theorem beat_nil {hole full rest : List Card} {l : List Card} (hl : l ∈ chooseM rest 2) (mx : ∀ x ∈ chooseM rest 2, ltR (bestC (l ++ full)) (bestC (x ++ full)) = false) : (beatM hole full rest = []) ↔ ltR (bestC (hole ++ full)) (bestC (l ++ full)) = false := by
  unfold beatM
  rw [List.filter_eq_nil_iff]
  constructor
  · intro h
    simpa using h l hl
  · intro h x hx
    have := mx x hx
    rw [ltR_le this h]
    simp
theorem eqv_cards : ∀ a b : List Card, PyData.eqvAll (a.map cardD) (b.map cardD) = decide (a = b)
  | [], [] => by simp [PyData.eqvAll]
  | [], _ :: _ => by simp [PyData.eqvAll]
  | _ :: _, [] => by simp [PyData.eqvAll]
  | x :: a, y :: b => by
    rw [List.map_cons, List.map_cons]
    show (PyData.eqv (cardD x) (cardD y) && PyData.eqvAll (a.map cardD) (b.map cardD)) = _
    rw [eqv_card, eqv_cards a b, ← Bool.decide_and]
    exact decide_eq_decide.mpr (by rw [List.cons.injEq])
theorem eqv_five (a b : List Card) : PyData.eqv (fivD a) (fivD b) = decide (a = b) := by
  unfold fivD
  simp only [PyData.eqv]
  exact eqv_cards a b
theorem plain_fives : ∀ xs : List (List Card), PyData.plainAll (xs.map fivD) = true
  | [] => rfl
  | x :: xs => by
    rw [List.map_cons]
    have := plain_cards x
    simp only [PyData.plainAll, plain_fives xs, Bool.and_true]
    unfold fivD
    simp only [PyData.plain]
    exact this
theorem inF (x : List Card) (ys : List (List Card)) : inD (fivD x) (ys.map fivD) = some (decide (x ∈ ys)) := by
  have d : (fivD x).depth ≤ 60 := by
    have := depth_cards x
    have e : (fivD x).depth = PyData.depthAll (x.map cardD) + 1 := rfl
    omega
  have p : (fivD x).plain = true := by
    have := plain_fives [x]
    simpa [PyData.plainAll] using this
  unfold inD
  rw [if_pos (by rw [p, plain_fives]; simpa using d), List.any_map]
  congr 1
  induction ys with
  | nil => rfl
  | cons w ws ih =>
    rw [List.any_cons, ih]
    show (PyData.eqv (fivD w) (fivD x) || _) = _
    rw [eqv_five, ← Bool.decide_or]
    refine decide_eq_decide.mpr ?_
    rw [List.mem_cons]
    exact ⟨fun h => h.imp Eq.symm id, fun h => h.imp Eq.symm id⟩
theorem o_inF (x : List Card) (ys : List (List Card)) : opf2 .isIn (fivD x) (.tuple (ys.map fivD)) = some (.bool (decide (x ∈ ys))) := by
  show (inD (fivD x) (ys.map fivD)).map PyData.bool = _
  rw [inF]; rfl
theorem o_inCL (c : Card) (cs : List Card) : opf2 .isIn (cardD c) (.list (cs.map cardD)) = some (.bool (decide (c ∈ cs))) := by
  show (inD (cardD c) (cs.map cardD)).map PyData.bool = _
  rw [inC]; rfl
theorem cmp_ranks (a b : Rank) : cmpOk (rankD a) (rankD b) = true := by
  unfold cmpOk
  rw [alike_rank, depth_rank, depth_rank]
  rfl
theorem ge_rankO (a b : Rank) : opf2 .ge (rankD a) (rankD b) = some (.bool (!ltR a b)) := by
  show cmpD (fun i j => decide (j ≤ i)) (fun x y => !PySem.W.dataLt x y) (rankD a) (rankD b) = _
  rw [← lt_rank]
  show (if cmpOk (rankD a) (rankD b) then _ else none) = _
  rw [if_pos (cmp_ranks a b)]
theorem o_eqF {ys : List (List Card)} (hz : ys.length < 1000) (h : ∀ r ∈ ys, ∀ c ∈ r, c.2 ∈ suitsL) : opf2 .eq (.tuple (ys.map fivD)) (.tuple []) = some (.bool (decide (ys = []))) := by
  have sh := (shapedF hz h).1
  cases ys with
  | nil => rfl
  | cons y ys => rw [decide_eq_false (List.cons_ne_nil _ _)]; exact eq_nil sh
theorem o_neBB (a b : Bool) : opf2 .ne (.bool a) (.bool b) = some (.bool (!decide (a = b))) := by cases a <;> cases b <;> rfl
theorem rv_cards (x : List Card) : opf1 .revT (fivD x) = some (fivD x.reverse) := by
  show some (PyData.tuple (x.map cardD).reverse) = _
  rw [← List.map_reverse]; rfl
theorem drop_sl (cs : List Card) {j : Nat} (hj : j ≤ cs.length) : opf3 (.slice true false) (fivD cs) (.int (j : Int)) .none = some (fivD (cs.drop j)) := by
  unfold fivD
  rw [slice_T (lo := some ((j : Nat) : Int)) (hi := none) rfl rfl, cut_hi _ _ hj]
theorem take_sl (cs : List Card) (j : Nat) : opf3 (.slice false true) (fivD cs) .none (.int (j : Int)) = some (fivD (cs.take j)) := by
  unfold fivD
  rw [slice_T (lo := none) (hi := some (j : Int)) rfl rfl, cut_lo]
theorem add_cards {a b : List Card} (h : a.length + b.length ≤ 1000) : opf2 .add (fivD a) (fivD b) = some (fivD (a ++ b)) := by
  unfold fivD
  rw [addT_ok (by rw [List.length_map, List.length_map]; exact h), List.map_append]
theorem hole_ix30 {holes : List (List Card)} {j : Nat} (hj : j < holes.length) : atI (holes.map fivD) ((j : Nat) : Int) = some (fivD (holes.getD j [])) := atI_nat (by simp [hj])
theorem atI_first30 {c : Card} {r : List Card} : atI ((c :: r).map cardD) 0 = some (cardD c) := atI_nat (j := 0) (by simp)
theorem choose_pos30 {α : Type} (l : List α) (k : Nat) (hk : k ≤ l.length) : 0 < (chooseM l k).length := by
  have : l.take k ∈ chooseM l k := (choose_mem l k _).mpr ⟨List.take_sublist _ _, by rw [List.length_take]; omega⟩
  exact List.length_pos_of_mem this
structure D30 (cs : List Card) (holes : List (List Card)) (board stub : List Card) : Prop where
  n2 : 2 ≤ holes.length
  n4 : holes.length ≤ 4
  h2 : ∀ x ∈ holes, x.length = 2
  b : board.length = 4
  st : stub.length = 4
  deck : Deck cs
  sub : ∀ x ∈ holes, (x ++ (board ++ stub)).Sublist cs
section
variable {cs : List Card} {holes : List (List Card)} {board stub : List Card}
abbrev fullM (board stub : List Card) : List Card := board ++ stub.take 1
abbrev restH (holes : List (List Card)) (stub : List Card) : List Card := stub.drop 1 ++ holes.getD 1 []
theorem D30.m (D : D30 cs holes board stub) {j : Nat} (h : j < 2) : holes.getD j [] ∈ holes := by
  have := D.n2
  have hj : j < holes.length := by omega
  rw [List.getD_eq_getElem?_getD, List.getElem?_eq_getElem hj]
  exact List.getElem_mem hj
theorem D30.okb (D : D30 cs holes board stub) {c : Card} (hc : c ∈ stub) : ∀ x ∈ holes, OkB (board ++ [c]) x := fun x hx => by
  have h2 := D.h2 x hx
  have b := D.b
  refine ⟨D.deck.fit.sub (((List.Sublist.refl x).append ((List.Sublist.refl board).append (List.singleton_sublist.mpr hc))).trans (D.sub x hx)), ?_, ?_⟩ <;> simp [h2, b]
theorem D30.fl (D : D30 cs holes board stub) : (fullM board stub).length = 5 := by
  have := D.b; have := D.st
  show (board ++ stub.take 1).length = 5
  rw [List.length_append, List.length_take]; omega
theorem D30.rl (D : D30 cs holes board stub) : (restH holes stub).length = 5 := by
  have := D.st; have := D.h2 _ (D.m (j := 1) (by decide))
  show (stub.drop 1 ++ holes.getD 1 []).length = 5
  rw [List.length_append, List.length_drop]; omega
theorem D30.own (D : D30 cs holes board stub) : Fit (holes.getD 0 [] ++ fullM board stub) :=
  D.deck.fit.sub (((List.Sublist.refl _).append ((List.Sublist.refl board).append (List.take_sublist 1 stub))).trans (D.sub _ (D.m (j := 0) (by decide))))
theorem D30.pm (D : D30 cs holes board stub) : (restH holes stub ++ fullM board stub).Perm (holes.getD 1 [] ++ (board ++ stub)) := by
  show ((stub.drop 1 ++ holes.getD 1 []) ++ (board ++ stub.take 1)).Perm _
  refine List.perm_iff_count.mpr fun a => ?_
  have e : (stub.take 1 ++ stub.drop 1).count a = stub.count a := by rw [List.take_append_drop]
  simp only [List.count_append] at e ⊢
  omega
theorem D30.two (D : D30 cs holes board stub) {two : List Card} (h : two.Sublist (restH holes stub)) : Fit (two ++ fullM board stub) :=
  ((D.deck.fit.sub (D.sub _ (D.m (j := 1) (by decide)))).perm D.pm).sub (h.append (List.Sublist.refl _))
theorem D30.rnd (D : D30 cs holes board stub) : (restH holes stub).Nodup := by
  have h := D.pm.nodup_iff.mpr (D.deck.nodup.sublist (D.sub _ (D.m (j := 1) (by decide))))
  exact (List.nodup_append.mp h).1
theorem D30.su (D : D30 cs holes board stub) : ∀ c ∈ restH holes stub, c.2 ∈ suitsL := fun c hc =>
  (D.deck.range c ((D.sub _ (D.m (j := 1) (by decide))).subset (D.pm.mem_iff.mp (List.mem_append_left _ hc)))).2.2
theorem D30.ss (D : D30 cs holes board stub) : ∀ c ∈ stub, c.2 ∈ suitsL := fun c hc =>
  (D.deck.range c ((D.sub _ (D.m (j := 1) (by decide))).subset (List.mem_append_right _ (List.mem_append_right _ hc)))).2.2
end
def handK : List Card := [(13, ("s" : Str)), (14, ("s" : Str))]
def topK : List Card := [10, 11, 12].map (fun r : Int => (r, ("s" : Str))) ++ [(2, ("c" : Str)), (2, ("d" : Str))]
def stubK : List Card := [(2, ("h" : Str)), (2, ("s" : Str)), (9, ("s" : Str))]
theorem wholeK : Whole (handK ++ (stubK ++ topK)) := ⟨by decide +kernel, by decide +kernel⟩
theorem fitK : Fit (handK ++ topK) := wholeK.fit.sub ((List.Sublist.refl _).append (List.sublist_append_right _ _))
theorem fitK2 {two : List Card} (h : two ∈ chooseM stubK 2) : Fit (two ++ topK) := wholeK.fit.sub ((((choose_mem _ _ _).mp h).1.append (List.Sublist.refl topK)).trans (List.sublist_append_right _ _))
theorem beatK : beatM handK topK stubK = [] := by decide +kernel
end Cd
set_option Elab.async false
set_option linter.all false
set_option maxRecDepth 100000
set_option maxHeartbeats 4000000
namespace Cd
open PySem L2
def s186_0 : S := .set 3 (.mk (.lst []))
def s186_1_0 : S := .set 5 (.call 67 [(.var 0), (.var 1), (.var 2), (.var 4)])
def s186_1_1 : S := .if_ (.val (.op2 .ne (.op1 .list (.var 5)) (.comp [6] (.name 6) (.e (.var 2)) [(.val (.op2 .eq (.call 57 [(.var 0), (.op2d .add (.var 1) (.tup [(.var 6)]))]) (.tup [(.var 4)])))] (.var 6)))) [.ret (.lit (.bool false))] []
def s186_1_2 : S := .if_ (.val (.op2 .ne (.call 67 [(.var 0), (.var 1), (.op1 .revT (.var 2)), (.var 4)]) (.op1 .revT (.var 5)))) [.ret (.lit (.bool false))] []
def s186_1_3 : S := .if_ (.val (.op2 .ne (.op2d .add (.call 67 [(.var 0), (.var 1), (.op3b (.slice false true) (.var 2) (.lit .none) (.lit (.int 2))), (.var 4)]) (.call 67 [(.var 0), (.var 1), (.op3b (.slice true false) (.var 2) (.lit (.int 2)) (.lit .none)), (.var 4)])) (.var 5))) [.ret (.lit (.bool false))] []
def s186_1_4 : S := .if_ (.val (.op1 .any (.comp [6] (.name 6) (.e (.var 5)) [] (.op2 .isIn (.var 6) (.var 3))))) [.ret (.lit (.bool false))] []
def s186_1_5 : S := .ext (.var 3) (.op1 .list (.var 5))
def ls186_1 : List S := [s186_1_0, s186_1_1, s186_1_2, s186_1_3, s186_1_4, s186_1_5]
def s186_1 : S := .for_ (.name 4) (.rng1 (.op1 .len (.var 0))) ls186_1
def s186_2 : S := .ret (.lit (.bool true))
def ls186 : List S := [s186_0, s186_1, s186_2]
theorem b186_eq : b186 = ls186 := rfl
def s187_0 : S := .set 1 (.mk (.lst []))
def s187_1_0 : S := .set 3 (.op2d .add (.lit (.int 2)) (.call 13 [(.var 0), (.var 1), (.lit (.int 2))]))
def s187_1_1 : S := .set 4 (.call 51 [(.var 0), (.var 1), (.op2d .add (.op2d .mul (.lit (.int 2)) (.var 3)) (.lit (.int 8)))])
def s187_1_2 : S := .set 5 (.op1 .tuple (.comp [15] (.name 15) (.rng1 (.var 3)) [] (.op3b (.slice true true) (.var 4) (.op2d .mul (.lit (.int 2)) (.var 15)) (.op2d .addI (.op2d .mul (.lit (.int 2)) (.var 15)) (.lit (.int 2))))))
def s187_1_3 : S := .set2 6 7 (.op3b (.slice true true) (.var 4) (.op2d .mul (.lit (.int 2)) (.var 3)) (.op2d .addI (.op2d .mul (.lit (.int 2)) (.var 3)) (.lit (.int 4)))) (.op3b (.slice true false) (.var 4) (.op2d .addI (.op2d .mul (.lit (.int 2)) (.var 3)) (.lit (.int 4))) (.lit .none))
def s187_1_4 : S := .if_ (.not_ (.val (.call 186 [(.var 5), (.var 6), (.var 7)]))) [.ret (.lit (.bool false))] []
def s187_1_5 : S := .unpack (.tup [(.name 8), (.name 9)]) (.tup [(.op2d .add (.var 6) (.op3b (.slice false true) (.var 7) (.lit .none) (.lit (.int 1)))), (.op2d .add (.op3b (.slice true false) (.var 7) (.lit (.int 1)) (.lit .none)) (.op2b .ix (.var 5) (.lit (.int 1))))])
def s187_1_6 : S := .set 10 (.call 58 [(.op2b .ix (.var 5) (.lit (.int 0))), (.var 8), (.var 9)])
def s187_1_7 : S := .set 11 (.call 56 [(.op2d .add (.op2b .ix (.var 5) (.lit (.int 0))) (.var 8))])
def s187_1_8 : S := .if_ (.val (.op2 .ne (.op1 .list (.var 10)) (.comp [16] (.name 16) (.e (.call 62 [(.var 9)])) [(.val (.op2 .gt (.call 56 [(.op2d .add (.var 16) (.var 8))]) (.var 11)))] (.var 16)))) [.ret (.lit (.bool false))] []
def s187_1_9 : S := .set 12 (.call 58 [(.op2b .ix (.var 5) (.lit (.int 0))), (.var 8), (.op3b (.slice true false) (.var 9) (.lit (.int 1)) (.lit .none))])
def s187_1_10 : S := .if_ (.val (.op2 .ne (.comp [16] (.name 16) (.e (.var 10)) [(.val (.op2 .notIn (.op2b .ix (.var 9) (.lit (.int 0))) (.var 16)))] (.var 16)) (.op1 .list (.var 12)))) [.ret (.lit (.bool false))] []
def s187_1_11 : S := .set 13 (.sortK 188 [8] (.call 62 [(.var 9)]))
def s187_1_12 : S := .if_ (.and_ (.val (.op2 .isIn (.op2b .ix (.var 13) (.op1 .neg (.lit (.int 1)))) (.var 10))) (.val (.op2 .ge (.var 11) (.call 56 [(.op2d .add (.op2b .ix (.var 13) (.op1 .neg (.lit (.int 1)))) (.var 8))])))) [.ret (.lit (.bool false))] []
def s187_1_13 : S := .if_ (.val (.op2 .ne (.op2 .eq (.var 10) (.tup [])) (.op2 .ge (.var 11) (.call 56 [(.op2d .add (.op2b .ix (.var 13) (.op1 .neg (.lit (.int 1)))) (.var 8))])))) [.ret (.lit (.bool false))] []
def s187_1_14 : S := .set 14 (.op2d .add (.op1 .tuple (.comp [17] (.name 17) (.e (.tup [(.lit (.int 10)), (.lit (.int 11)), (.lit (.int 12))])) [] (.tup [(.var 17), (.lit (.str ("s" : Str)))]))) (.tup [(.tup [(.lit (.int 2)), (.lit (.str ("c" : Str)))]), (.tup [(.lit (.int 2)), (.lit (.str ("d" : Str)))])]))
def s187_1_15 : S := .if_ (.val (.op2 .ne (.call 58 [(.tup [(.tup [(.lit (.int 13)), (.lit (.str ("s" : Str)))]), (.tup [(.lit (.int 14)), (.lit (.str ("s" : Str)))])]), (.var 14), (.tup [(.tup [(.lit (.int 2)), (.lit (.str ("h" : Str)))]), (.tup [(.lit (.int 2)), (.lit (.str ("s" : Str)))]), (.tup [(.lit (.int 9)), (.lit (.str ("s" : Str)))])])]) (.tup []))) [.ret (.lit (.bool false))] []
def ls187_1 : List S := [s187_1_0, s187_1_1, s187_1_2, s187_1_3, s187_1_4, s187_1_5, s187_1_6, s187_1_7, s187_1_8, s187_1_9, s187_1_10, s187_1_11, s187_1_12, s187_1_13, s187_1_14, s187_1_15]
def s187_1 : S := .for_ (.name 2) (.rng1 (.lit (.int 2))) ls187_1
def s187_2 : S := .ret (.lit (.bool true))
def ls187 : List S := [s187_0, s187_1, s187_2]
theorem b187_eq : b187 = ls187 := rfl
end Cd
set_option Elab.async false
set_option linter.all false
set_option maxRecDepth 100000
set_option maxHeartbeats 4000000
namespace Cd
open PySem L2
theorem hasD : HasD fns := ⟨rfl, rfl⟩
theorem hasC : HasC fns := ⟨rfl, rfl, rfl, rfl, rfl⟩
section
variable {cf : Calls} {h : Hi} {q k n m : Nat} {cs : List Card} {holes : List (List Card)} {board stub : List Card}
theorem stF {t : Te} {env : Ev} {h : Hi} (e : evalT cf env t h = .ok false h) : evalS cf (.if_ t [.ret (.lit (.bool false))] []) env h = .ok .nx env h := by
  rw [st_if, e]; rfl
abbrev env186 (holes : List (List Card)) (board stub : List Card) (v3 v4 v5 : Option Val) : Ev := [some (.p (.tuple (holes.map fivD))), some (.p (fivD board)), some (.p (fivD stub)), v3, v4, v5, none]
abbrev seenM (holes : List (List Card)) (board stub : List Card) (j : Nat) : List Card := ((List.range j).map (outsM holes board stub)).flatten
theorem seen_lt {j : Nat} {c : Card} (h : c ∈ seenM holes board stub j) : ∃ s, s < j ∧ winB holes (board ++ [c]) = [s] := by
  obtain ⟨l, hl, hc⟩ := List.mem_flatten.mp h
  obtain ⟨s, hs, rfl⟩ := List.mem_map.mp hl
  unfold outsM at hc
  exact ⟨s, List.mem_range.mp hs, of_decide_eq_true (List.mem_filter.mp hc).2⟩
theorem seen_len (D : D30 cs holes board stub) (j : Nat) : (seenM holes board stub j).length ≤ 4 * j := by
  induction j with
  | zero => exact Nat.le_refl _
  | succ j ih =>
    have st := D.st
    have : (outsM holes board stub j).length ≤ stub.length := List.length_filter_le _ _
    show ((List.range (j + 1)).map (outsM holes board stub)).flatten.length ≤ _
    rw [List.range_succ, List.map_append, List.flatten_append, List.length_append]
    have e : ([j].map (outsM holes board stub)).flatten = outsM holes board stub j := by simp
    rw [e]
    have ih : ((List.range j).map (outsM holes board stub)).flatten.length ≤ 4 * j := ih
    omega
theorem seen_next (j : Nat) : seenM holes board stub (j + 1) = seenM holes board stub j ++ outsM holes board stub j := by
  show ((List.range (j + 1)).map (outsM holes board stub)).flatten = _
  rw [List.range_succ, List.map_append, List.flatten_append]
  have e : ([j].map (outsM holes board stub)).flatten = outsM holes board stub j := by simp
  rw [e]
theorem turn186 (D : D30 cs holes board stub) {j : Nat} (hj : j < holes.length) {v5 : Option Val} {cf : Calls}
    (co : ∀ st : List Card, (∀ c ∈ st, c ∈ stub) → st.length ≤ 4 → ∀ h, cf 67 [.p (.tuple (holes.map fivD)), .p (fivD board), .p (fivD st), .p (.int (j : Int))] h = .ok (.p (.tuple ((outsM holes board st j).map cardD))) h)
    (cw : ∀ c ∈ stub, ∀ h, cf 57 [.p (.tuple (holes.map fivD)), .p (fivD (board ++ [c]))] h = .ok (.p (.tuple ((winB holes (board ++ [c])).map natD))) h) :
    evalSs cf ls186_1 (env186 holes board stub (some (.ref h.length)) (some (.p (natD j))) v5) (h ++ [.lst ((seenM holes board stub j).map cardD)]) =
      .ok .nx (env186 holes board stub (some (.ref h.length)) (some (.p (natD j))) (some (.p (.tuple ((outsM holes board stub j).map cardD))))) (h ++ [.lst ((seenM holes board stub (j + 1)).map cardD)]) := by
  have st := D.st
  have ol : (outsM holes board stub j).length ≤ stub.length := List.length_filter_le _ _
  have os : ∀ c ∈ outsM holes board stub j, c ∈ stub := fun c hc => (List.mem_filter.mp hc).1
  generalize hH : h ++ [Ob.lst ((seenM holes board stub j).map cardD)] = H1
  let O : PyData := .tuple ((outsM holes board stub j).map cardD)
  let X : Option Val → Ev := fun v5 => env186 holes board stub (some (.ref h.length)) (some (.p (natD j))) v5
  have c0 := co stub (fun c hc => hc) (by omega) H1
  have u0 : evalS cf s186_1_0 (X v5) H1 = .ok .nx (X (some (.p O))) H1 := by
    unfold s186_1_0
    simp only [st_set, ev_call, ees_cons, ees_nil, ev_var, X, slot_0, slot_s, natD, ofO_some, R.bind_ok, c0, R.toS_ok, setSlot_0, setSlot_s, O]
  have c1 : evalE cf (X (some (.p O))) (.comp [6] (.name 6) (.e (.var 2)) [(.val (.op2 .eq (.call 57 [(.var 0), (.op2d .add (.var 1) (.tup [(.var 6)]))]) (.tup [(.var 4)])))] (.var 6)) H1 = .ok (.p (.list ((outsM holes board stub j).map cardD))) H1 := by
    show _ = R.ok (Val.p (.list ((stub.filter fun c => decide (winB holes (board ++ [c]) = [j])).map cardD))) H1
    refine comp_ok cardD cardD _ (by simp [X, fivD]) (by omega) fun c hc => ⟨[some (.p (.tuple (holes.map fivD))), some (.p (fivD board)), some (.p (fivD stub)), some (.ref h.length), some (.p (natD j)), some (.p O), some (.p (cardD c))], by simp [X], ?_, fun _ => by simp⟩
    have ad : opf2 .add (fivD board) (.tuple [cardD c]) = some (fivD (board ++ [c])) := add_cards (b := [c]) (by have := D.b; simp; omega)
    have wl := winB_len (holes := holes) (board := board ++ [c])
    have n4 := D.n4
    have eq : opf2 .eq (.tuple ((winB holes (board ++ [c])).map natD)) (.tuple [natD j]) = some (.bool (decide (winB holes (board ++ [c]) = [j]))) := o_eqN (ys := [j]) (by omega) (by simp)
    simp only [ets_one, et_val, bor_op2, ev_op2, ev_call, ees_cons, ees_nil, ev_op2d, ev_var, slot_0, slot_s, ofO_some, R.bind_ok, unP_p, ev_tup, eps_cons, eps_nil, ad, Option.map_some, cw c hc, bor_tup, eq, truth_b]
  have shO := shapedC (cs := outsM holes board stub j) (by omega) (fun c hc => D.ss c (os c hc))
  have u1 : evalS cf s186_1_1 (X (some (.p O))) H1 = .ok .nx (X (some (.p O))) H1 := by
    refine stF ?_
    have nn := o_neR shO.2
    have v5e : evalE cf (X (some (.p O))) (.var 5) H1 = .ok (.p O) H1 := by simp only [ev_var, X, slot_0, slot_s, ofO_some]
    have lo : opf1 .list O = some (.list ((outsM holes board stub j).map cardD)) := o_lstT
    rw [et_val, bor_op2, ev_op2, ev_op1, bor_var, v5e, show slot (X (some (.p O))) 5 = some (.p O) from rfl, borV_p]
    simp only [R.bind_ok, unP_p, lo, Option.map_some, ofO_some, bor_comp]
    rw [c1]
    simp only [R.bind_ok, unP_p, nn, Option.map_some, ofO_some, truth_b]
  have u2 : evalS cf s186_1_2 (X (some (.p O))) H1 = .ok .nx (X (some (.p O))) H1 := by
    refine stF ?_
    have c2 := co stub.reverse (fun c hc => List.mem_reverse.mp hc) (by rw [List.length_reverse]; omega) H1
    have e2 : outsM holes board stub.reverse j = (outsM holes board stub j).reverse := by unfold outsM; rw [List.filter_reverse]
    rw [e2] at c2
    have rv : opf1 .revT O = some (.tuple ((outsM holes board stub j).reverse.map cardD)) := rv_cards _
    have nn := o_neR (shapedC (cs := (outsM holes board stub j).reverse) (by rw [List.length_reverse]; omega) (fun c hc => D.ss c (os c (List.mem_reverse.mp hc)))).1
    simp only [O] at rv
    simp only [et_val, bor_op2, ev_op2, ev_call, ees_cons, ees_nil, ev_var, ev_op1, bor_var, borV_p, X, O, slot_0, slot_s, natD, ofO_some, R.bind_ok, unP_p, rv_cards, Option.map_some, c2, bor_op1, rv, nn, truth_b]
  have u3 : evalS cf s186_1_3 (X (some (.p O))) H1 = .ok .nx (X (some (.p O))) H1 := by
    refine stF ?_
    have c2 := co (stub.take 2) (fun c hc => List.mem_of_mem_take hc) (by rw [List.length_take]; omega) H1
    have c3 := co (stub.drop 2) (fun c hc => List.mem_of_mem_drop hc) (by rw [List.length_drop]; omega) H1
    have l1 : (outsM holes board (stub.take 2) j).length ≤ (stub.take 2).length := List.length_filter_le _ _
    have l2 : (outsM holes board (stub.drop 2) j).length ≤ (stub.drop 2).length := List.length_filter_le _ _
    rw [List.length_take] at l1
    rw [List.length_drop] at l2
    have ad : opf2 .add (.tuple ((outsM holes board (stub.take 2) j).map cardD)) (.tuple ((outsM holes board (stub.drop 2) j).map cardD)) = some (.tuple ((outsM holes board stub j).map cardD)) := by
      have := add_cards (a := outsM holes board (stub.take 2) j) (b := outsM holes board (stub.drop 2) j) (by omega)
      refine this.trans ?_
      have e : outsM holes board (stub.take 2) j ++ outsM holes board (stub.drop 2) j = outsM holes board stub j := by
        unfold outsM
        rw [← List.filter_append, List.take_append_drop]
      rw [e]; rfl
    have nn := o_neR shO.1
    have tk : opf3 (.slice false true) (fivD stub) .none (.int 2) = some (fivD (stub.take 2)) := take_sl stub 2
    have dk : opf3 (.slice true false) (fivD stub) (.int 2) .none = some (fivD (stub.drop 2)) := drop_sl stub (j := 2) (by omega)
    simp only [et_val, bor_op2, ev_op2, ev_op2d, ev_call, ees_cons, ees_nil, ev_var, ev_op3b, bor_var, borV_p, ev_lit, X, O, slot_0, slot_s, natD, ofO_some, R.bind_ok, unP_p, tk, dk, Option.map_some, c2, c3, ad, nn, truth_b]
  have c4 : evalE cf (X (some (.p O))) (.comp [6] (.name 6) (.e (.var 5)) [] (.op2 .isIn (.var 6) (.var 3))) H1 = .ok (.p (.list (((outsM holes board stub j).map fun c => decide (c ∈ seenM holes board stub j)).map .bool))) H1 := by
    rw [List.map_map]
    refine comp_all cardD _ (by simp [X, O]) (by omega) fun c hc => ⟨[some (.p (.tuple (holes.map fivD))), some (.p (fivD board)), some (.p (fivD stub)), some (.ref h.length), some (.p (natD j)), some (.p O), some (.p (cardD c))], by simp [X], ?_⟩
    subst hH
    simp only [ev_op2, ev_var, slot_0, slot_s, ofO_some, R.bind_ok, unP_p, bor_var, borV_r, listAt_app, o_inCL, Option.map_some]
    rfl
  have no : ((outsM holes board stub j).map fun c => decide (c ∈ seenM holes board stub j)).any id = false := by
    rw [List.any_map, List.any_eq_false]
    intro c hc
    simp only [Function.comp_apply, id]
    intro z
    obtain ⟨s, hs, es⟩ := seen_lt (of_decide_eq_true z)
    unfold outsM at hc
    have := of_decide_eq_true (List.mem_filter.mp hc).2
    rw [es] at this
    injection this with this
    omega
  have u4 : evalS cf s186_1_4 (X (some (.p O))) H1 = .ok .nx (X (some (.p O))) H1 := by
    refine stF ?_
    rw [et_val, bor_op1, ev_op1, bor_comp, c4]
    simp only [R.bind_ok, unP_p, o_anyL, no, Option.map_some, ofO_some, truth_b]
  have sl := seen_len D j
  have n4 := D.n4
  have u5 : evalS cf s186_1_5 (X (some (.p O))) H1 = .ok .nx (X (some (.p O))) (h ++ [.lst ((seenM holes board stub (j + 1)).map cardD)]) := by
    subst hH
    have sz : ((seenM holes board stub j).map cardD).length + ((outsM holes board stub j).map cardD).length ≤ sizeLine := by
      rw [List.length_map, List.length_map]
      exact sz_ok (by omega)
    have ex : extH (X (some (.p O))) (.var 3) (.list ((outsM holes board stub j).map cardD)) (h ++ [.lst ((seenM holes board stub j).map cardD)]) = some (h ++ [.lst ((seenM holes board stub (j + 1)).map cardD)]) := by
      unfold extH
      simp only [X, listD, Option.bind_some, getL_var, slot_0, slot_s, refOf_r, listAt_app]
      rw [if_pos sz]
      unfold storeL
      rw [seen_next]
      simp only [slotRef_eq, slot_0, slot_s, refOf_r, Option.map_some, set_app, List.map_append]
    unfold s186_1_5
    simp only [X, O] at ex
    simp only [st_ext, getL_var, ev_var, X, O, slot_0, slot_s, refOf_r, Option.bind_some, listAt_app, ev_op1, bor_var, borV_p, o_lstT, Option.map_some, ofO_some, R.bind_ok, unP_p, R.toS_ok, ex, ofH_some]
  unfold ls186_1
  rw [ss_cons, u0, RS.bind_nx, ss_cons, u1, RS.bind_nx, ss_cons, u2, RS.bind_nx, ss_cons, u3, RS.bind_nx, ss_cons, u4, RS.bind_nx, ss_cons, u5, RS.bind_nx, ss_nil]
theorem e186 (D : D30 cs holes board stub) : callF fns (q + 10) 186 [.p (.tuple (holes.map fivD)), .p (fivD board), .p (fivD stub)] h = .ok (.p (.bool true)) h := by
  rw [call_eq (d := d186) rfl rfl]
  have ne : holes ≠ [] := fun e => by have := D.n2; rw [e] at this; cases this
  have n4 := D.n4
  have co : ∀ (j : Nat), ∀ st : List Card, (∀ c ∈ st, c ∈ stub) → st.length ≤ 4 → ∀ h, callF fns (q + 9) 67 [.p (.tuple (holes.map fivD)), .p (fivD board), .p (fivD st), .p (.int (j : Int))] h = .ok (.p (.tuple ((outsM holes board st j).map cardD))) h := fun j st hs hl h =>
    outs_eval (q := q) hasC rfl rfl ne (by omega) (by omega) (by have := D.b; omega) fun c hc => D.okb (hs c hc)
  have cw : ∀ c ∈ stub, ∀ h, callF fns (q + 9) 57 [.p (.tuple (holes.map fivD)), .p (fivD (board ++ [c]))] h = .ok (.p (.tuple ((winB holes (board ++ [c])).map natD))) h := fun c hc h =>
    winners_eval (q := q + 1) hasC rfl (fun x hx => D.okb hc x hx) (by omega) ne
  generalize callF fns (q + 9) = cf at co cw
  show finF h.length (evalSs cf b186 (env186 holes board stub none none none) h) = _
  have t0 : evalS cf s186_0 (env186 holes board stub none none none) h = .ok .nx (env186 holes board stub (some (.ref h.length)) none none) (h ++ [.lst ((seenM holes board stub 0).map cardD)]) := by
    unfold s186_0
    simp only [st_set, ev_mk, ev_lst, eps_nil, R.bind_ok, unP_p, mkK, R.toS_ok, setSlot_0, setSlot_s]
    rfl
  have ln : opf1 .len (.tuple (holes.map fivD)) = some (.int (holes.length : Int)) := by show some (PyData.int ((holes.map fivD).length : Int)) = _; rw [List.length_map]
  obtain ⟨env2, h2, f2, w4, w5, ee, eh⟩ := forL_inv (body := evalSs cf ls186_1) (bt := bindT (.name 4))
    (fun j env' h' => ∃ v4 v5, env' = env186 holes board stub (some (.ref h.length)) v4 v5 ∧ h' = h ++ [.lst ((seenM holes board stub j).map cardD)]) ((List.range holes.length).map natD) 0 _ _ ⟨none, none, rfl, rfl⟩ (fun j env' h' _ hj x hx hI => by
      obtain ⟨v4, v5, rfl, rfl⟩ := hI
      rw [List.length_map, List.length_range] at hj
      have xe : x = natD j := by
        rw [List.getElem?_map] at hx
        simp [show j < holes.length by omega] at hx
        exact hx.symm
      subst xe
      exact ⟨env186 holes board stub (some (.ref h.length)) (some (.p (natD j))) v5, by simp only [bt_name, setSlot_0, setSlot_s], .nx, _, _, turn186 D (by omega) (co j) cw, .inl rfl, _, _, rfl, rfl⟩)
  have t1 : evalS cf s186_1 (env186 holes board stub (some (.ref h.length)) none none) (h ++ [.lst ((seenM holes board stub 0).map cardD)]) = .ok .nx env2 h2 := by
    unfold s186_1
    rw [st_for, src_nat (j := holes.length) (by simp only [ev_op1, bor_var, ev_var, slot_0, slot_s, borV_p, R.bind_ok, unP_p, ln, ofO_some, Option.map_some]) (by omega), R.toS_ok, f2]
  have t2 : ∀ env h, evalS cf s186_2 env h = .ok (.rt (.p (.bool true))) env h := fun env h => by simp [s186_2]
  rw [b186_eq]
  unfold ls186
  rw [ss_cons, t0, RS.bind_nx, ss_cons, t1, RS.bind_nx, ss_cons, t2, RS.bind_rt, fin_rp, eh, take_app]
end
end Cd
set_option Elab.async false
set_option linter.all false
set_option maxRecDepth 100000
set_option maxHeartbeats 4000000
namespace Cd
open PySem L2
section
variable {h H : Hi} {q k n m : Nat} {cs : List Card} {holes : List (List Card)} {board stub : List Card} {ns : List Int} {v2 v3 v4 v8 v9 v10 v11 v12 v13 v14 : Option Val}
abbrev envL (ns : List Int) (v2 v3 v4 v5 v6 v7 v8 v9 v10 v11 v12 v13 v14 v16 v17 : Option Val) : Ev := [some (.p (.list (ns.map .int))), some (.ref 0), v2, v3, v4, v5, v6, v7, v8, v9, v10, v11, v12, v13, v14, none, v16, v17]
abbrev Z87 (ns : List Int) (holes : List (List Card)) (board stub : List Card) (v2 v3 v4 v8 v9 v10 v11 v12 v13 v14 : Option Val) : Ev := envL ns v2 v3 v4 (some (.p (.tuple (holes.map fivD)))) (some (.p (fivD board))) (some (.p (fivD stub))) v8 v9 v10 v11 v12 v13 v14 none none
theorem best_eval188 {two full : List Card} (l2 : two.length = 2) (l5 : full.length = 5) (f : Fit (two ++ full)) : callF fns (q + 10) 188 [.p (fivD two), .p (fivD full)] h = .ok (.p (rankD (bestC (two ++ full)))) h := by
  rw [call_eq (d := d188) rfl rfl]
  have e := best_eval (q := q + 2) (h := h) hasC f (by rw [List.length_append]; omega) (by rw [List.length_append]; omega)
  change callF fns (q + 9) 56 _ _ = _ at e
  generalize callF fns (q + 9) = cf at e
  have ad := add_cards (a := two) (b := full) (by omega)
  show finF h.length (evalSs cf b188 [some (.p (fivD two)), some (.p (fivD full))] h) = _
  unfold b188
  simp only [ss_cons, st_ret, ev_call, ees_cons, ees_nil, ev_op2d, ev_var, slot_0, slot_s, ofO_some, R.bind_ok, unP_p, ad, Option.map_some, e, R.toS_ok, RS.bind_rt, fin_rp, List.take_length]
def lsR : List S := [s187_1_4, s187_1_5, s187_1_6, s187_1_7, s187_1_8, s187_1_9, s187_1_10, s187_1_11, s187_1_12, s187_1_13, s187_1_14, s187_1_15]
theorem rest187 (D : D30 cs holes board stub) : ∃ w8 w9 w10 w11 w12 w13 w14, evalSs (callF fns (q + 10)) lsR (Z87 ns holes board stub v2 v3 v4 v8 v9 v10 v11 v12 v13 v14) h = .ok .nx (Z87 ns holes board stub v2 v3 v4 w8 w9 w10 w11 w12 w13 w14) h := by
  have st := D.st
  have n2 := D.n2
  have fl := D.fl
  have rl := D.rl
  have rnd := D.rnd
  have rsu := D.su
  have own := D.own
  have h0 := D.h2 _ (D.m (j := 0) (by decide))
  have h1 := D.h2 _ (D.m (j := 1) (by decide))
  have tw : ∀ {two : List Card}, two ∈ chooseM (restH holes stub) 2 → two.length = 2 ∧ Fit (two ++ fullM board stub) := fun {two} ht => by
    have := (choose_mem _ _ _).mp ht
    exact ⟨this.2, D.two this.1⟩
  have twt : ∀ {two : List Card}, two ∈ chooseM (restH holes stub).tail 2 → two.length = 2 ∧ Fit (two ++ fullM board stub) := fun {two} ht => by
    have := (choose_mem _ _ _).mp ht
    exact ⟨this.2, D.two (this.1.trans (List.tail_sublist _))⟩
  have f186 := e186 (q := q) (h := h) D
  have f58 := beaten_evalA (q := q + 2) (h := h) hasC rfl (hole := holes.getD 0 []) (board := fullM board stub) (stub := restH holes stub) (fun two ht => (tw ht).2) own h0 (by omega) (by omega) (by omega)
  have f58t := beaten_evalA (q := q + 2) (h := h) hasC rfl (hole := holes.getD 0 []) (board := fullM board stub) (stub := (restH holes stub).tail) (fun two ht => (twt ht).2) own h0 (by omega) (by omega) (by rw [List.length_tail]; omega)
  have f58K := beaten_evalA (q := q + 2) (h := h) hasC rfl (hole := handK) (board := topK) (stub := stubK) (fun two ht => fitK2 ht) fitK rfl (by decide) (by decide) (by decide)
  rw [beatK] at f58K
  have f56 := best_eval (q := q + 3) (h := h) hasC own (by rw [List.length_append]; omega) (by rw [List.length_append]; omega)
  have f56t : ∀ {two : List Card}, two ∈ chooseM (restH holes stub) 2 → callF fns (q + 10) 56 [.p (fivD (two ++ fullM board stub))] h = .ok (.p (rankD (bestC (two ++ fullM board stub)))) h := fun {two} ht => by
    have := (tw ht).1
    exact best_eval (q := q + 3) (h := h) hasC (tw ht).2 (by rw [List.length_append]; omega) (by rw [List.length_append]; omega)
  have f62 := twos_eval (fns := fns) (q := q + 9) (h := h) rfl (l := restH holes stub) (by omega)
  have f188 : ∀ {two : List Card}, two ∈ chooseM (restH holes stub) 2 → callF fns (q + 10) 188 [.p (fivD two), .p (fivD (fullM board stub))] h = .ok (.p (rankD (bestC (two ++ fullM board stub)))) h := fun {two} ht => best_eval188 (tw ht).1 fl (tw ht).2
  change callF fns (q + 10) 58 _ _ = _ at f58 f58t f58K
  change callF fns (q + 10) 56 _ _ = _ at f56
  change callF fns (q + 10) 62 _ _ = _ at f62
  generalize callF fns (q + 10) = cf at f186 f58 f58t f58K f56 f56t f62 f188
  have cz : (chooseM (restH holes stub) 2).length < 1000 := ch_size (l := restH holes stub) 2 (by omega)
  have tad : ∀ {two : List Card}, two.length = 2 → opf2 .add (fivD two) (fivD (fullM board stub)) = some (fivD (two ++ fullM board stub)) := fun {two} l2 => add_cards (by omega)
  have oad := tad h0
  have g0 : atI (holes.map fivD) 0 = some (fivD (holes.getD 0 [])) := hole_ix30 (j := 0) (by omega)
  have g1 : atI (holes.map fivD) 1 = some (fivD (holes.getD 1 [])) := hole_ix30 (j := 1) (by omega)
  have ad5 : opf2 .add (fivD board) (fivD (stub.take 1)) = some (fivD (fullM board stub)) := add_cards (by rw [List.length_take]; have := D.b; omega)
  have ad6 : opf2 .add (fivD (stub.drop 1)) (fivD (holes.getD 1 [])) = some (fivD (restH holes stub)) := add_cards (by rw [List.length_drop]; omega)
  have tk : opf3 (.slice false true) (fivD stub) .none (.int 1) = some (fivD (stub.take 1)) := take_sl stub 1
  have dk : opf3 (.slice true false) (fivD stub) (.int 1) .none = some (fivD (stub.drop 1)) := drop_sl stub (j := 1) (by omega)
  have dkr : opf3 (.slice true false) (fivD (restH holes stub)) (.int 1) .none = some (fivD (restH holes stub).tail) := by
    rw [← List.drop_one]; exact drop_sl (restH holes stub) (j := 1) (by omega)
  obtain ⟨l, le1, lm, lx⟩ := sort_last (le := fun a b : List Card => !ltR (bestC (b ++ fullM board stub)) (bestC (a ++ fullM board stub))) (fun a b c x y => by
    simp only [Bool.not_eq_true'] at x y ⊢
    exact ltR_le x y) (fun a b => by
    cases e : ltR (bestC (b ++ fullM board stub)) (bestC (a ++ fullM board stub)) with
    | false => rfl
    | true => rw [ltR_asym e]; rfl) (xs := chooseM (restH holes stub) 2) (fun e => by
      have := choose_pos30 (restH holes stub) 2 (by omega)
      rw [e] at this
      exact absurd this (by decide))
  have mx : ∀ x ∈ chooseM (restH holes stub) 2, ltR (bestC (l ++ fullM board stub)) (bestC (x ++ fullM board stub)) = false := fun x hx => by
    have := lx x hx
    simpa using this
  have bn := beat_nil (hole := holes.getD 0 []) lm mx
  have inb : l ∈ beatM (holes.getD 0 []) (fullM board stub) (restH holes stub) ↔ ltR (bestC (holes.getD 0 [] ++ fullM board stub)) (bestC (l ++ fullM board stub)) = true := by
    unfold beatM
    rw [List.mem_filter]
    exact ⟨fun x => x.2, fun x => ⟨lm, x⟩⟩
  have fl56 := f56t lm
  have ll := (tw lm).1
  generalize hsr : (chooseM (restH holes stub) 2).mergeSort (fun a b : List Card => !ltR (bestC (b ++ fullM board stub)) (bestC (a ++ fullM board stub))) = rows at le1
  obtain ⟨c, r, er⟩ : ∃ c r, restH holes stub = c :: r := by
    cases e : restH holes stub with
    | nil => rw [e] at rl; cases rl
    | cons c r => exact ⟨c, r, rfl⟩
  have gr : atI ((restH holes stub).map cardD) 0 = some (cardD c) := by rw [er]; exact atI_first30
  have bt : (beatM (holes.getD 0 []) (fullM board stub) (restH holes stub)).filter (fun two => !decide (c ∈ two)) = beatM (holes.getD 0 []) (fullM board stub) (restH holes stub).tail := by
    rw [er]
    exact beat_tail (List.nodup_cons.mp (er ▸ rnd)).1
  have bsub : ∀ two ∈ beatM (holes.getD 0 []) (fullM board stub) (restH holes stub), two ∈ chooseM (restH holes stub) 2 := fun two ht => (List.mem_filter.mp ht).1
  have bcs : ∀ two ∈ beatM (holes.getD 0 []) (fullM board stub) (restH holes stub), ∀ c ∈ two, c.2 ∈ suitsL := fun two ht c hc => rsu c (((choose_mem _ _ _).mp (bsub two ht)).1.subset hc)
  have bz : (beatM (holes.getD 0 []) (fullM board stub) (restH holes stub)).length < 1000 := by
    have : (beatM (holes.getD 0 []) (fullM board stub) (restH holes stub)).length ≤ _ := List.length_filter_le _ _
    omega
  have btz : (beatM (holes.getD 0 []) (fullM board stub) (restH holes stub).tail).length < 1000 := by
    rw [← bt]
    exact Nat.lt_of_le_of_lt (List.length_filter_le _ _) bz
  have btc : ∀ two ∈ beatM (holes.getD 0 []) (fullM board stub) (restH holes stub).tail, ∀ c ∈ two, c.2 ∈ suitsL := fun two ht => by
    rw [← bt] at ht
    exact bcs two (List.mem_filter.mp ht).1
  have nn8 := o_neR (shapedF bz bcs).2
  have nn10 := o_neR (shapedF btz btc).2
  have oeq := o_eqF bz bcs
  have oin := o_inF l (beatM (holes.getD 0 []) (fullM board stub) (restH holes stub))
  have beq : beatM (holes.getD 0 []) (fullM board stub) (restH holes stub) = (chooseM (restH holes stub) 2).filter fun two => ltR (bestC (holes.getD 0 [] ++ fullM board stub)) (bestC (two ++ fullM board stub)) := rfl
  generalize bestC (holes.getD 0 [] ++ fullM board stub) = ow at f56 bn inb beq
  generalize beatM (holes.getD 0 []) (fullM board stub) (restH holes stub).tail = BT at f58t bt nn10
  generalize beatM (holes.getD 0 []) (fullM board stub) (restH holes stub) = BM at f58 bn inb bt bsub bz nn8 oeq oin beq
  let F8 : Option Val := some (.p (fivD (fullM board stub)))
  let R9 : Option Val := some (.p (fivD (restH holes stub)))
  let B10 : Option Val := some (.p (.tuple (BM.map fivD)))
  let O11 : Option Val := some (.p (rankD ow))
  let B12 : Option Val := some (.p (.tuple (BT.map fivD)))
  let R13 : Option Val := some (.p (.list (rows.map fivD)))
  let T14 : Option Val := some (.p (fivD topK))
  let X : Option Val → Option Val → Option Val → Option Val → Option Val → Option Val → Option Val → Ev := fun v8 v9 v10 v11 v12 v13 v14 => Z87 ns holes board stub v2 v3 v4 v8 v9 v10 v11 v12 v13 v14
  refine ⟨F8, R9, B10, O11, B12, R13, T14, ?_⟩
  have t4 : evalS cf s187_1_4 (X v8 v9 v10 v11 v12 v13 v14) h = .ok .nx (X v8 v9 v10 v11 v12 v13 v14) h := by
    refine stF ?_
    simp only [et_not, et_val, bor_call, ev_call, ees_cons, ees_nil, ev_var, X, slot_0, slot_s, ofO_some, R.bind_ok, f186, unP_p, truth_b, Bool.not_true]
  have t5 : evalS cf s187_1_5 (X v8 v9 v10 v11 v12 v13 v14) h = .ok .nx (X F8 R9 v10 v11 v12 v13 v14) h := by
    unfold s187_1_5
    simp only [st_unpack, ev_tup, eps_cons, eps_nil, ev_op2d, ev_op3b, ev_op2b, bor_var, borV_p, ev_var, ev_lit, X, slot_0, slot_s, ofO_some, R.bind_ok, unP_p, tk, dk, Option.map_some, ad5, o_ixT, g1, ad6, R.toS_ok, bt_tup, bts_cons, bts_nil, bt_name, Option.bind_some, setSlot_0, setSlot_s, F8, R9]
  have t6 : evalS cf s187_1_6 (X F8 R9 v10 v11 v12 v13 v14) h = .ok .nx (X F8 R9 B10 v11 v12 v13 v14) h := by
    unfold s187_1_6
    simp only [st_set, ev_call, ees_cons, ees_nil, ev_op2b, bor_var, borV_p, ev_var, ev_lit, X, F8, R9, slot_0, slot_s, ofO_some, R.bind_ok, unP_p, o_ixT, g0, Option.map_some, f58, R.toS_ok, setSlot_0, setSlot_s, B10]
  have t7 : evalS cf s187_1_7 (X F8 R9 B10 v11 v12 v13 v14) h = .ok .nx (X F8 R9 B10 O11 v12 v13 v14) h := by
    unfold s187_1_7
    simp only [st_set, ev_call, ees_cons, ees_nil, ev_op2d, ev_op2b, bor_var, borV_p, ev_var, ev_lit, X, F8, R9, slot_0, slot_s, ofO_some, R.bind_ok, unP_p, o_ixT, g0, Option.map_some, oad, f56, R.toS_ok, setSlot_0, setSlot_s, O11]
  have c8 : evalE cf (X F8 R9 B10 O11 v12 v13 v14) (.comp [16] (.name 16) (.e (.call 62 [(.var 9)])) [(.val (.op2 .gt (.call 56 [(.op2d .add (.var 16) (.var 8))]) (.var 11)))] (.var 16)) h = .ok (.p (.list (BM.map fivD))) h := by
    rw [beq]
    refine comp_ok fivD fivD _ (by simp only [es_e, ev_call, ees_cons, ees_nil, ev_var, X, R9, slot_0, slot_s, ofO_some, R.bind_ok, f62, unP_p, items_L]) cz fun two ht => ⟨envL ns v2 v3 v4 (some (.p (.tuple (holes.map fivD)))) (some (.p (fivD board))) (some (.p (fivD stub))) F8 R9 B10 O11 v12 v13 v14 (some (.p (fivD two))) none, by simp [X], ?_, fun _ => by simp⟩
    simp only [ets_one, et_val, bor_op2, ev_op2, ev_call, ees_cons, ees_nil, ev_op2d, ev_var, F8, O11, slot_0, slot_s, ofO_some, R.bind_ok, unP_p, tad (tw ht).1, Option.map_some, f56t ht, bor_var, borV_p, gt_rank, truth_b]
  have t8 : evalS cf s187_1_8 (X F8 R9 B10 O11 v12 v13 v14) h = .ok .nx (X F8 R9 B10 O11 v12 v13 v14) h := by
    refine stF ?_
    have v10e : evalE cf (X F8 R9 B10 O11 v12 v13 v14) (.var 10) h = .ok (.p (.tuple (BM.map fivD))) h := by simp only [ev_var, X, slot_0, slot_s, ofO_some, B10]
    rw [et_val, bor_op2, ev_op2, ev_op1, bor_var, v10e, show slot (X F8 R9 B10 O11 v12 v13 v14) 10 = some (.p (.tuple (BM.map fivD))) from rfl, borV_p]
    simp only [R.bind_ok, unP_p, o_lstT, Option.map_some, ofO_some, bor_comp]
    rw [c8]
    simp only [R.bind_ok, unP_p, nn8, Option.map_some, ofO_some, truth_b]
  have t9 : evalS cf s187_1_9 (X F8 R9 B10 O11 v12 v13 v14) h = .ok .nx (X F8 R9 B10 O11 B12 v13 v14) h := by
    unfold s187_1_9
    simp only [st_set, ev_call, ees_cons, ees_nil, ev_op2b, ev_op3b, bor_var, borV_p, ev_var, ev_lit, X, F8, R9, slot_0, slot_s, ofO_some, R.bind_ok, unP_p, o_ixT, g0, dkr, Option.map_some, f58t, R.toS_ok, setSlot_0, setSlot_s, B12]
  have c10 : evalE cf (X F8 R9 B10 O11 B12 v13 v14) (.comp [16] (.name 16) (.e (.var 10)) [(.val (.op2 .notIn (.op2b .ix (.var 9) (.lit (.int 0))) (.var 16)))] (.var 16)) h = .ok (.p (.list (BT.map fivD))) h := by
    rw [← bt]
    refine comp_ok fivD fivD _ (by simp [X, B10]) bz fun two ht => ⟨envL ns v2 v3 v4 (some (.p (.tuple (holes.map fivD)))) (some (.p (fivD board))) (some (.p (fivD stub))) F8 R9 B10 O11 B12 v13 v14 (some (.p (fivD two))) none, by simp [X], ?_, fun _ => by simp⟩
    have ni := o_notInC c two
    have gi : opf2 .ix (fivD (restH holes stub)) (.int 0) = some (cardD c) := by
      unfold fivD
      rw [o_ixT]; exact gr
    simp only [ets_one, et_val, bor_op2, ev_op2, ev_op2b, bor_var, borV_p, ev_var, ev_lit, R9, slot_0, slot_s, ofO_some, R.bind_ok, unP_p, gi, Option.map_some, ni, truth_b]
  have t10 : evalS cf s187_1_10 (X F8 R9 B10 O11 B12 v13 v14) h = .ok .nx (X F8 R9 B10 O11 B12 v13 v14) h := by
    refine stF ?_
    rw [et_val, bor_op2, ev_op2, c10]
    simp only [R.bind_ok, unP_p, bor_op1, ev_op1, bor_var, borV_p, ev_var, X, B12, slot_0, slot_s, o_lstT, nn10, Option.map_some, ofO_some, truth_b]
  have t11 : evalS cf s187_1_11 (X F8 R9 B10 O11 B12 v13 v14) h = .ok .nx (X F8 R9 B10 O11 B12 R13 v14) h := by
    unfold s187_1_11
    have e := ev_sortK (cf := cf) (h := h) (f := fivD) (g := fun two => rankD (bestC (two ++ fullM board stub))) (i := 188) (js := [8]) (caps := [.p (fivD (fullM board stub))]) (xs := chooseM (restH holes stub) 2) (a := .call 62 [(.var 9)]) (env := X F8 R9 B10 O11 B12 v13 v14)
      (by simp only [ev_call, ees_cons, ees_nil, ev_var, X, R9, slot_0, slot_s, ofO_some, R.bind_ok, f62]) rfl (fun two ht => f188 ht)
      (by
        have := keysOk_ranks ((chooseM (restH holes stub) 2).map fun two => bestC (two ++ fullM board stub))
        rw [List.map_map] at this
        exact this) cz
    rw [show (fun a b : List Card => leD (rankD (bestC (a ++ fullM board stub))) (rankD (bestC (b ++ fullM board stub)))) = fun a b : List Card => !ltR (bestC (b ++ fullM board stub)) (bestC (a ++ fullM board stub)) from funext fun a => funext fun b => leD_rank _ _, hsr] at e
    rw [st_set, e, R.toS_ok]
    simp only [X, setSlot_0, setSlot_s, R13]
  have gl : opf2 .ix (.list (rows.map fivD)) (.int (-1)) = some (fivD l) := by
    rw [o_ixL]
    exact atI_last (by rw [List.getLast?_map, le1]; rfl)
  have on : opf1 .neg (.int 1) = some (.int (-1)) := rfl
  have t12 : evalS cf s187_1_12 (X F8 R9 B10 O11 B12 R13 v14) h = .ok .nx (X F8 R9 B10 O11 B12 R13 v14) h := by
    refine stF ?_
    by_cases c : l ∈ BM
    · have lt := inb.mp c
      rw [decide_eq_true c] at oin
      simp only [et_and, et_val, bor_op2, ev_op2, ev_op2b, ev_op2d, bor_op1, ev_op1, bor_lit, bor_var, borV_p, ev_var, ev_lit, ev_call, ees_cons, ees_nil, X, F8, B10, O11, R13, slot_0, slot_s, ofO_some, R.bind_ok, unP_p, on, gl, Option.map_some, oin, truth_b, ifK_eq, if_true, tad ll, fl56, bor_call, ge_rankO, lt, Bool.not_true]
    · rw [decide_eq_false c] at oin
      simp only [et_and, et_val, bor_op2, ev_op2, ev_op2b, ev_op2d, bor_op1, ev_op1, bor_lit, bor_var, borV_p, ev_var, ev_lit, X, F8, B10, O11, R13, slot_0, slot_s, ofO_some, R.bind_ok, unP_p, on, gl, Option.map_some, oin, truth_b, ifK_eq, Bool.false_eq_true, if_false]
  have same : decide (BM = []) = !ltR ow (bestC (l ++ fullM board stub)) := by
    cases e : ltR ow (bestC (l ++ fullM board stub)) with
    | false => exact decide_eq_true (bn.mpr e)
    | true => exact decide_eq_false fun z => by rw [bn.mp z] at e; cases e
  rw [same] at oeq
  have t13 : evalS cf s187_1_13 (X F8 R9 B10 O11 B12 R13 v14) h = .ok .nx (X F8 R9 B10 O11 B12 R13 v14) h := by
    refine stF ?_
    simp only [et_val, bor_op2, ev_op2, ev_op2b, ev_op2d, bor_op1, ev_op1, bor_lit, bor_var, borV_p, ev_var, ev_lit, ev_call, ees_cons, ees_nil, bor_tup, ev_tup, eps_nil, X, F8, B10, O11, R13, slot_0, slot_s, ofO_some, R.bind_ok, unP_p, on, gl, Option.map_some, oeq, tad ll, fl56, bor_call, ge_rankO, o_neBB, decide_true, Bool.not_true, truth_b]
  have c14 : evalE cf (X F8 R9 B10 O11 B12 R13 v14) (.comp [17] (.name 17) (.e (.tup [(.lit (.int 10)), (.lit (.int 11)), (.lit (.int 12))])) [] (.tup [(.var 17), (.lit (.str ("s" : Str)))])) h = .ok (.p (.list (([10, 11, 12].map fun r : Int => ((r, ("s" : Str)) : Card)).map cardD))) h := by
    rw [List.map_map]
    refine comp_all PyData.int _ (by simp only [es_e, ev_tup, eps_cons, eps_nil, ev_lit, R.bind_ok, unP_p, items_T, ofO_some]; rfl) (by decide) fun r hr => ⟨envL ns v2 v3 v4 (some (.p (.tuple (holes.map fivD)))) (some (.p (fivD board))) (some (.p (fivD stub))) F8 R9 B10 O11 B12 R13 v14 none (some (.p (.int r))), by simp [X], by simp [cardD]⟩
  have t14 : evalS cf s187_1_14 (X F8 R9 B10 O11 B12 R13 v14) h = .ok .nx (X F8 R9 B10 O11 B12 R13 T14) h := by
    have ad : opf2 .add (.tuple (([10, 11, 12].map fun r : Int => ((r, ("s" : Str)) : Card)).map cardD)) (.tuple [.tuple [.int 2, .str ("c" : Str)], .tuple [.int 2, .str ("d" : Str)]]) = some (fivD topK) := add_cards (a := [10, 11, 12].map fun r : Int => ((r, ("s" : Str)) : Card)) (b := [(2, ("c" : Str)), (2, ("d" : Str))]) (by decide)
    unfold s187_1_14
    rw [st_set, ev_op2d, ev_op1, bor_comp, c14]
    simp only [R.bind_ok, unP_p, o_tupL, Option.map_some, ofO_some, ev_tup, eps_cons, eps_nil, ev_lit, ad, R.toS_ok, X, setSlot_0, setSlot_s, T14]
  have t15 : evalS cf s187_1_15 (X F8 R9 B10 O11 B12 R13 T14) h = .ok .nx (X F8 R9 B10 O11 B12 R13 T14) h := by
    refine stF ?_
    have f58K' : cf 58 [.p (.tuple [.tuple [.int 13, .str ("s" : Str)], .tuple [.int 14, .str ("s" : Str)]]), .p (fivD topK), .p (.tuple [.tuple [.int 2, .str ("h" : Str)], .tuple [.int 2, .str ("s" : Str)], .tuple [.int 9, .str ("s" : Str)]])] h = .ok (.p (.tuple [])) h := f58K
    have ne : opf2 .ne (.tuple []) (.tuple []) = some (.bool false) := rfl
    simp only [et_val, bor_op2, ev_op2, ev_call, ees_cons, ees_nil, ev_tup, eps_cons, eps_nil, ev_lit, ev_var, X, T14, slot_0, slot_s, ofO_some, R.bind_ok, unP_p, f58K', bor_tup, ne, Option.map_some, truth_b]
  unfold lsR
  rw [ss_cons, t4, RS.bind_nx, ss_cons, t5, RS.bind_nx, ss_cons, t6, RS.bind_nx, ss_cons, t7, RS.bind_nx, ss_cons, t8, RS.bind_nx, ss_cons, t9, RS.bind_nx, ss_cons, t10, RS.bind_nx, ss_cons, t11, RS.bind_nx, ss_cons, t12, RS.bind_nx, ss_cons, t13, RS.bind_nx, ss_cons, t14, RS.bind_nx, ss_cons, t15, RS.bind_nx, ss_nil]
end
end Cd
set_option Elab.async false
set_option linter.all false
set_option maxRecDepth 100000
set_option maxHeartbeats 4000000
namespace Cd
open PySem L2
section
variable {h H : Hi} {q k n m : Nat} {ns : List Int}
theorem deal30 {cs : List Card} {s : Nat} (cl : cs.length = 2 * s + 8) (cd : Deck cs) (s2 : 2 ≤ s) (s4 : s ≤ 4) : D30 cs (holesM cs s) (seg cs (2 * s) (2 * s + 4)) (cs.drop (2 * s + 4)) where
  n2 := by unfold holesM; simp; omega
  n4 := by unfold holesM; simp; omega
  h2 := fun x hx => by
    obtain ⟨a, ha, rfl⟩ := List.mem_map.mp hx
    have ha := List.mem_range.mp ha
    rw [seg_len (by omega)]; omega
  b := by rw [seg_len (by omega)]; omega
  st := by rw [List.length_drop]; omega
  deck := cd
  sub := fun x hx => by
    obtain ⟨a, ha, rfl⟩ := List.mem_map.mp hx
    have ha := List.mem_range.mp ha
    have e1 : seg cs (2 * s) (2 * s + 4) ++ cs.drop (2 * s + 4) = cs.drop (2 * s) := by
      unfold seg
      have : cs.drop (2 * s + 4) = (cs.drop (2 * s)).drop (2 * s + 4 - 2 * s) := by rw [List.drop_drop]; congr 1; omega
      rw [this]
      exact List.take_append_drop _ _
    rw [e1]
    have e : cs.drop (2 * s) = (cs.drop (2 * a + 2)).drop (2 * s - (2 * a + 2)) := by rw [List.drop_drop]; congr 1; omega
    exact (seg_app (by omega) (by rw [e]; exact List.drop_sublist _ _)).trans (List.drop_sublist _ _)
abbrev envK (ns : List Int) (v2 v3 v4 v5 v6 v7 v8 v9 v10 v11 v12 v13 v14 : Option Val) : Ev := envL ns v2 v3 v4 v5 v6 v7 v8 v9 v10 v11 v12 v13 v14 none none
theorem turn187 (ns : List Int) (h0 : 0 < H.length) (hk : k + 500 < 1000000) {v2 v3 v4 v5 v6 v7 v8 v9 v10 v11 v12 v13 v14 : Option Val} :
    ∃ k' w3 w4 w5 w6 w7 w8 w9 w10 w11 w12 w13 w14, k' ≤ k + 70 ∧ evalSs (callF fns (q + 10)) ls187_1 (envK ns v2 v3 v4 v5 v6 v7 v8 v9 v10 v11 v12 v13 v14) (hT H 0 k) = .ok .nx (envK ns v2 w3 w4 w5 w6 w7 w8 w9 w10 w11 w12 w13 w14) (hT H 0 k') := by
  obtain ⟨v1, v10', v11', d1⟩ := draw_eval (fns := fns) (q := q + 9) (h := H) (t := 0) (k := k) rfl ns h0 (by omega) (m := 2) (by decide)
  obtain ⟨u1, rfl⟩ := Int.eq_ofNat_of_zero_le v10'
  obtain ⟨s, hs⟩ : ∃ s : Nat, s = 2 + u1 := ⟨_, rfl⟩
  have is : (2 : Int) + (u1 : Int) = (s : Int) := by omega
  obtain ⟨cs, cl, cd, e51⟩ := cards_evalG (fns := fns) (i := 51) (q := q + 7) (h := H) (t := 0) (k := k + 1) hasD rfl ns (m := 2 * s + 8) (by omega) h0 (by omega)
  have im : (2 : Int) * (s : Int) + 8 = ((2 * s + 8 : Nat) : Int) := by omega
  have D := deal30 cl cd (by omega) (by omega)
  generalize hk3 : k + 1 + 1 + (2 * s + 8) = k3 at e51
  obtain ⟨w8, w9, w10, w11, w12, w13, w14, er⟩ := rest187 (q := q) (h := hT H 0 k3) (ns := ns) (v2 := v2) (v3 := some (.p (.int (s : Int)))) (v4 := some (.p (fivD cs))) (v8 := v8) (v9 := v9) (v10 := v10) (v11 := v11) (v12 := v12) (v13 := v13) (v14 := v14) D
  change callF fns (q + 10) 13 _ _ = _ at d1
  change callF fns (q + 10) 51 _ _ = _ at e51
  generalize callF fns (q + 10) = cf at d1 e51 er
  let S : Option Val := some (.p (.int (s : Int)))
  let C : Option Val := some (.p (fivD cs))
  let HD : Option Val := some (.p (.tuple ((holesM cs s).map fivD)))
  have t0 : evalS cf s187_1_0 (envK ns v2 v3 v4 v5 v6 v7 v8 v9 v10 v11 v12 v13 v14) (hT H 0 k) = .ok .nx (envK ns v2 S v4 v5 v6 v7 v8 v9 v10 v11 v12 v13 v14) (hT H 0 (k + 1)) := by
    unfold s187_1_0
    simp only [st_set, ev_op2d, ev_lit, R.bind_ok, unP_p, ev_call, ees_cons, ees_nil, ev_var, slot_0, slot_s, ofO_some, d1, o_add, Option.map_some, is, R.toS_ok, setSlot_0, setSlot_s, S]
  have t1 : evalS cf s187_1_1 (envK ns v2 S v4 v5 v6 v7 v8 v9 v10 v11 v12 v13 v14) (hT H 0 (k + 1)) = .ok .nx (envK ns v2 S C v5 v6 v7 v8 v9 v10 v11 v12 v13 v14) (hT H 0 k3) := by
    unfold s187_1_1
    have e51' : cf 51 [.p (.list (ns.map .int)), .ref 0, .p (.int ((2 * s + 8 : Nat) : Int))] (hT H 0 (k + 1)) = .ok (.p (fivD cs)) (hT H 0 k3) := e51
    simp only [st_set, ev_op2d, ev_lit, R.bind_ok, unP_p, ev_call, ees_cons, ees_nil, ev_var, slot_0, slot_s, ofO_some, S, o_mul (i := 2) (j := (s : Int)) (.inl (by decide)), o_add, Option.map_some, im, e51', R.toS_ok, setSlot_0, setSlot_s, C]
  have sl2 : ∀ a d : Nat, 2 * a + d ≤ cs.length → opf3 (.slice true true) (fivD cs) (.int (2 * (a : Int))) (.int (2 * (a : Int) + (d : Int))) = some (fivD (seg cs (2 * a) (2 * a + d))) := fun a d ha => by
    unfold fivD
    rw [show 2 * (a : Int) + (d : Int) = ((2 * a + d : Nat) : Int) by omega, slice_T (lo := some ((2 * a : Nat) : Int)) (hi := some ((2 * a + d : Nat) : Int)) rfl rfl, cut_mid _ _ _ (by omega) (by omega)]
    rfl
  have sl3 : opf3 (.slice true false) (fivD cs) (.int (2 * (s : Int) + 4)) .none = some (fivD (cs.drop (2 * s + 4))) := by
    rw [show 2 * (s : Int) + 4 = ((2 * s + 4 : Nat) : Int) by omega]
    exact drop_sl cs (by omega)
  have c2 : evalE cf (envK ns v2 S C v5 v6 v7 v8 v9 v10 v11 v12 v13 v14) (.comp [15] (.name 15) (.rng1 (.var 3)) [] (.op3b (.slice true true) (.var 4) (.op2d .mul (.lit (.int 2)) (.var 15)) (.op2d .addI (.op2d .mul (.lit (.int 2)) (.var 15)) (.lit (.int 2))))) (hT H 0 k3) = .ok (.p (.list ((holesM cs s).map fivD))) (hT H 0 k3) := by
    unfold holesM
    rw [List.map_map]
    refine comp_all natD _ (src_nat (j := s) (by simp [S]) (by omega)) (by simp; omega) fun a ha => ⟨[some (.p (.list (ns.map .int))), some (.ref 0), v2, S, C, v5, v6, v7, v8, v9, v10, v11, v12, v13, v14, some (.p (natD a)), none, none], by simp, ?_⟩
    have ha := List.mem_range.mp ha
    have := sl2 a 2 (by omega)
    simp only [ev_op3b, bor_var, slot_0, slot_s, borV_p, ev_var, C, ev_op2d, ev_lit, natD, ofO_some, R.bind_ok, unP_p, o_mul (i := 2) (j := (a : Int)) (.inl (by decide)), o_addI, Option.map_some]
    rw [show (2 : Int) * (a : Int) + 2 = 2 * (a : Int) + ((2 : Nat) : Int) from rfl, this]
    rfl
  have t2 : evalS cf s187_1_2 (envK ns v2 S C v5 v6 v7 v8 v9 v10 v11 v12 v13 v14) (hT H 0 k3) = .ok .nx (envK ns v2 S C HD v6 v7 v8 v9 v10 v11 v12 v13 v14) (hT H 0 k3) := by
    unfold s187_1_2
    rw [st_set, ev_op1, bor_comp, c2]
    simp only [R.bind_ok, unP_p, o_tupL, Option.map_some, ofO_some, R.toS_ok, setSlot_0, setSlot_s, HD]
  have t3 : evalS cf s187_1_3 (envK ns v2 S C HD v6 v7 v8 v9 v10 v11 v12 v13 v14) (hT H 0 k3) = .ok .nx (Z87 ns (holesM cs s) (seg cs (2 * s) (2 * s + 4)) (cs.drop (2 * s + 4)) v2 S C v8 v9 v10 v11 v12 v13 v14) (hT H 0 k3) := by
    have s4 : opf3 (.slice true true) (fivD cs) (.int (2 * (s : Int))) (.int (2 * (s : Int) + 4)) = some (fivD (seg cs (2 * s) (2 * s + 4))) := sl2 s 4 (by omega)
    unfold s187_1_3
    simp only [st_set2, ev_op3b, bor_var, slot_0, slot_s, borV_p, ev_var, ev_op2d, ev_lit, S, C, ofO_some, R.bind_ok, unP_p, o_mul (i := 2) (j := (s : Int)) (.inl (by decide)), o_addI, Option.map_some, s4, sl3, R.toS_ok, setSlot_0, setSlot_s, HD]
  refine ⟨k3, S, C, HD, some (.p (fivD (seg cs (2 * s) (2 * s + 4)))), some (.p (fivD (cs.drop (2 * s + 4)))), w8, w9, w10, w11, w12, w13, w14, by omega, ?_⟩
  have split : ls187_1 = s187_1_0 :: s187_1_1 :: s187_1_2 :: s187_1_3 :: lsR := rfl
  rw [split, ss_cons, t0, RS.bind_nx, ss_cons, t1, RS.bind_nx, ss_cons, t2, RS.bind_nx, ss_cons, t3, RS.bind_nx]
  exact er
theorem law187 (ns : List Int) : ∃ h', callF fns 31 187 [.p (.list (ns.map .int))] [] = .ok (.p (.bool true)) h' := by
  rw [call_eq (d := d187) (n := 30) rfl rfl]
  have tb : ∀ (H : Hi) (k : Nat), 0 < H.length → k + 500 < 1000000 → ∀ (v2 v3 v4 v5 v6 v7 v8 v9 v10 v11 v12 v13 v14 : Option Val), ∃ k' w3 w4 w5 w6 w7 w8 w9 w10 w11 w12 w13 w14, k' ≤ k + 70 ∧ evalSs (callF fns 30) ls187_1 (envK ns v2 v3 v4 v5 v6 v7 v8 v9 v10 v11 v12 v13 v14) (hT H 0 k) = .ok .nx (envK ns v2 w3 w4 w5 w6 w7 w8 w9 w10 w11 w12 w13 w14) (hT H 0 k') := fun H k h0 hk v2 v3 v4 v5 v6 v7 v8 v9 v10 v11 v12 v13 v14 => turn187 (q := 20) ns h0 hk
  generalize callF fns 30 = cf at tb
  have t0 : evalS cf s187_0 (some (.p (.list (ns.map .int))) :: List.replicate 17 none) [] = .ok .nx (envK ns none none none none none none none none none none none none none) (hT [.dead] 0 0) := by
    simp [s187_0, mkK]; rfl
  obtain ⟨env2, h2, f2, H2, k2, b2, b3, b4, b5, b6, b7, b8, b9, b10, b11, b12, b13, b14, p0, p1, ee, eh⟩ := forL_inv (body := evalSs cf ls187_1) (bt := bindT (.name 2))
    (fun j env' h' => ∃ (H' : Hi) (k' : Nat) (b2 b3 b4 b5 b6 b7 b8 b9 b10 b11 b12 b13 b14 : Option Val), 0 < H'.length ∧ k' ≤ 70 * j ∧ env' = envK ns b2 b3 b4 b5 b6 b7 b8 b9 b10 b11 b12 b13 b14 ∧ h' = hT H' 0 k') (rangeD 0 2 1) 0 _ _ ⟨[.dead], 0, none, none, none, none, none, none, none, none, none, none, none, none, none, by simp, by omega, rfl, rfl⟩ (fun j env' h' _ hj x hx hI => by
      obtain ⟨H', k', b2, b3, b4, b5, b6, b7, b8, b9, b10, b11, b12, b13, b14, p0, p1, rfl, rfl⟩ := hI
      have hl : (rangeD 0 2 1).length = 2 := rfl
      rw [hl] at hj
      obtain ⟨k'', c3, c4, c5, c6, c7, c8, c9, c10, c11, c12, c13, c14, p1', e⟩ := tb H' k' p0 (by omega) (some (.p x)) b3 b4 b5 b6 b7 b8 b9 b10 b11 b12 b13 b14
      exact ⟨_, by simp, .nx, _, _, e, .inl rfl, H', k'', some (.p x), c3, c4, c5, c6, c7, c8, c9, c10, c11, c12, c13, c14, p0, by omega, rfl, rfl⟩)
  have t1 : evalS cf s187_1 (envK ns none none none none none none none none none none none none none) (hT [.dead] 0 0) = .ok .nx env2 h2 := by
    unfold s187_1
    rw [st_for, rngLit (by decide), R.toS_ok]
    exact f2
  have t2 : ∀ env h, evalS cf s187_2 env h = .ok (.rt (.p (.bool true))) env h := fun env h => by simp [s187_2]
  refine ⟨h2.take 0, ?_⟩
  show finF 0 (evalSs cf b187 (some (.p (.list (ns.map .int))) :: List.replicate 17 none) []) = _
  rw [b187_eq]
  unfold ls187
  rw [ss_cons, t0, RS.bind_nx, ss_cons, t1, RS.bind_nx, ss_cons, t2, RS.bind_rt, fin_rp]
end
end Cd
set_option Elab.async false
set_option maxRecDepth 100000
set_option maxHeartbeats 4000000
namespace Cd
theorem holds (ns : List Int) (h : ns.length ≤ 63) : okTrue (callF Γ0.fns 31 187 [scriptD ns] []) = true := by
  rw [show Γ0.fns = fns from rfl]
  have : scriptD ns = .p (.list (ns.map .int)) := rfl
  rw [this]
  obtain ⟨h', e⟩ := law187 ns
  rw [e]
  rfl
end Cd
set_option Elab.async false
set_option linter.all false
set_option maxRecDepth 100000
set_option maxHeartbeats 4000000
open PySem PySem.W PyProof.Rows
set_option maxRecDepth 100000 in
set_option maxHeartbeats 0 in
theorem PySem.Challenge.cw_cardhands_k30_whole_outs_of_boards_holds : PySem.Challenge.rw_cardhands_k30_whole_outs_of_boards.Holds := by
  w_on; o_law; k_head; (case hw => w_witness2)
  k_fill
  refine Cd.walk_endT (l := PySem.Challenge.rw_cardhands_k30_whole_outs_of_boards) (Γ := Cd.Γ0) (fi := 187) (n := 30) "_law_script" rfl (by decide) rfl ⟨rfl, by decide, by decide⟩ Cd.holds (by decide +kernel) ⟨rfl, rfl, rfl, rfl⟩ (fun w h Y => PySem.W.km_in_of Y) ?F
  case F =>
    intro w mg fa h KX G hmg
    refine' Cd.all_mk KX G hmg ?tn0 ?tb0 ?a55 ?i55 ?l55 ?c55 ?k55 ?a48 ?i48 ?l48 ?c48 ?k48 ?a49 ?i49 ?l49 ?c49 ?k49 ?a50 ?i50 ?l50 ?c50 ?k50 ?a56 ?i56 ?l56 ?c56 ?k56 ?a57 ?i57 ?l57 ?c57 ?k57 ?a67 ?i67 ?l67 ?c67 ?k67 ?a58 ?i58 ?l58 ?c58 ?k58 ?a13 ?i13 ?l13 ?c13 ?k13 ?a14 ?i14 ?l14 ?c14 ?k14 ?a51 ?i51 ?l51 ?c51 ?k51 ?a62 ?i62 ?l62 ?c62 ?k62 ?a186 ?i186 ?l186 ?c186 ?k186 ?a187 ?i187 ?l187 ?c187 ?k187 ?z0 ?z1 ?z2 ?z3 ?z4 ?z5 ?z6 ?z7 ?z8 ?tk0_0 ?th0_0 ?tk0_1 ?th0_1 ?tk0_2 ?th0_2 ?tk0_3 ?th0_3 ?tk0_4 ?th0_4 ?cn0 ?ct0 ?ctb
    (case tn0 => first | k_is | rfl)
    (case tb0 => first | k_is | rfl)
    (case a55 => first | k_is | rfl)
    (case i55 => first | k_is | rfl)
    (case l55 => first | k_is | rfl)
    (case c55 => first | k_is | rfl)
    (case k55 => first | k_is | rfl)
    (case a48 => first | k_is | rfl)
    (case i48 => first | k_is | rfl)
    (case l48 => first | k_is | rfl)
    (case c48 => first | k_is | rfl)
    (case k48 => first | k_is | rfl)
    (case a49 => first | k_is | rfl)
    (case i49 => first | k_is | rfl)
    (case l49 => first | k_is | rfl)
    (case c49 => first | k_is | rfl)
    (case k49 => first | k_is | rfl)
    (case a50 => first | k_is | rfl)
    (case i50 => first | k_is | rfl)
    (case l50 => first | k_is | rfl)
    (case c50 => first | k_is | rfl)
    (case k50 => first | k_is | rfl)
    (case a56 => first | k_is | rfl)
    (case i56 => first | k_is | rfl)
    (case l56 => first | k_is | rfl)
    (case c56 => first | k_is | rfl)
    (case k56 => first | k_is | rfl)
    (case a57 => first | k_is | rfl)
    (case i57 => first | k_is | rfl)
    (case l57 => first | k_is | rfl)
    (case c57 => first | k_is | rfl)
    (case k57 => first | k_is | rfl)
    (case a67 => first | k_is | rfl)
    (case i67 => first | k_is | rfl)
    (case l67 => first | k_is | rfl)
    (case c67 => first | k_is | rfl)
    (case k67 => first | k_is | rfl)
    (case a58 => first | k_is | rfl)
    (case i58 => first | k_is | rfl)
    (case l58 => first | k_is | rfl)
    (case c58 => first | k_is | rfl)
    (case k58 => first | k_is | rfl)
    (case a13 => first | k_is | rfl)
    (case i13 => first | k_is | rfl)
    (case l13 => first | k_is | rfl)
    (case c13 => first | k_is | rfl)
    (case k13 => first | k_is | rfl)
    (case a14 => first | k_is | rfl)
    (case i14 => first | k_is | rfl)
    (case l14 => first | k_is | rfl)
    (case c14 => first | k_is | rfl)
    (case k14 => first | k_is | rfl)
    (case a51 => first | k_is | rfl)
    (case i51 => first | k_is | rfl)
    (case l51 => first | k_is | rfl)
    (case c51 => first | k_is | rfl)
    (case k51 => first | k_is | rfl)
    (case a62 => first | k_is | rfl)
    (case i62 => first | k_is | rfl)
    (case l62 => first | k_is | rfl)
    (case c62 => first | k_is | rfl)
    (case k62 => first | k_is | rfl)
    (case a186 => first | k_is | rfl)
    (case i186 => first | k_is | rfl)
    (case l186 => first | k_is | rfl)
    (case c186 => first | k_is | rfl)
    (case k186 => first | k_is | rfl)
    (case a187 => first | k_is | rfl)
    (case i187 => first | k_is | rfl)
    (case l187 => first | k_is | rfl)
    (case c187 => first | k_is | rfl)
    (case k187 => first | k_is | rfl)
    (case z0 => first | k_is | rfl)
    (case z1 => first | k_is | rfl)
    (case z2 => first | k_is | rfl)
    (case z3 => first | k_is | rfl)
    (case z4 => first | k_is | rfl)
    (case z5 => first | k_is | rfl)
    (case z6 => first | k_is | rfl)
    (case z7 => first | k_is | rfl)
    (case z8 => first | k_is | rfl)
    (case tk0_0 => first | k_is | rfl)
    (case th0_0 => first | rfl | decide +kernel)
    (case tk0_1 => first | k_is | rfl)
    (case th0_1 => first | rfl | decide +kernel)
    (case tk0_2 => first | k_is | rfl)
    (case th0_2 => first | rfl | decide +kernel)
    (case tk0_3 => first | k_is | rfl)
    (case th0_3 => first | rfl | decide +kernel)
    (case tk0_4 => first | k_is | rfl)
    (case th0_4 => first | rfl | decide +kernel)
    (case cn0 => first | k_is | rfl)
    (case ct0 => first | k_is | rfl)
    (case ctb => first | k_is | rfl | kernel_rfl | (with_unfolding_all rfl))
