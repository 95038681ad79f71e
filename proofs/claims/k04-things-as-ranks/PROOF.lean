import PyProof.Rows.All
import PyProof.ReprRoads
import Wide.All
import OpenK.AllK
import Wide.FinOn
import HandS.ForMost
import HandS.ForExc
import HandS.TryMany
import HandS.CallSlots
import KE.DataMinMax
import KE.DataCmp
import KE.KTupSum
import KE.DataFind
import HandS.ExcInit
import HandS.ExcField
import HandS.WordsExc
import HandS.HotCalls
import HandS.ExcInitHot
import HandS.ExcIs
import HandS.TupAny
import HandS.Deep
import HandS.Style
import HandS.IsInst
import HandS.Conv
import HandS.Text
import PyProof.Rows.SeqMore
import HandS.SortInts
import PyProof.ListStr
import KE.GoesNew
import HandS.Iter
import HandS.SetFor
import KE.GoesEnum
import HandS.HeadEnd
import HandS.Set
import HandS.Strs
import PyProof.Rows.SetFrom
import HandS.ExcOwn
import HandS.TupMul
import HandS.WordsDict
import HandS.Replace
import KE.SortData
import HandS.NoneIn
import KE.DataAny
import KE.KDictZip
import PyProof.SumAny
import KE.KDictPairs
import KE.KDictCopyH
import HandS.TupLen
import HandS.FStr
import HandS.TupSets
import PySem.Challenge.RW_cardhands_k04_whole_things_as_ranks
import PyProof.P3Eq
set_option Elab.async false
set_option linter.all false
set_option maxRecDepth 100000
set_option maxHeartbeats 4000000
namespace Cd
open PySem L2

inductive Val where
  | p (d : PyData)
  | ref (n : Nat)
inductive Fld where
  | p (d : PyData)
  | l (ts : List PyData)
inductive Ob where
  | lst (ts : List PyData)
  | dct (kvs : List (Key × Fld))
  | ins (c : Nat) (fs : List Fld)
  | dead
abbrev Hi := List Ob
abbrev Ev := List (Option Val)
structure Ex where
  c : Nat
  fs : List PyData
/-- what an evaluation comes to -/
inductive R (α : Type) where
  | ok (a : α) (h : Hi)
  | exc (e : Ex) (h : Hi)
  | stuck
def R.bind {α β : Type} (r : R α) (k : α → Hi → R β) : R β :=
  match r with
  | .ok a h => k a h
  | .exc e h => .exc e h
  | .stuck => .stuck
def ofO {α : Type} (o : Option α) (h : Hi) : R α := match o with
  | some a => .ok a h
  | none => .stuck
@[simp] theorem R.bind_ok {α β : Type} (a : α) (h : Hi) (k : α → Hi → R β) : (R.ok a h).bind k = k a h := rfl
@[simp] theorem R.bind_exc {α β : Type} (e : Ex) (h : Hi) (k : α → Hi → R β) : (R.exc e h : R α).bind k = .exc e h := rfl
@[simp] theorem R.bind_stuck {α β : Type} (k : α → Hi → R β) : (R.stuck : R α).bind k = .stuck := rfl
@[simp] theorem ofO_some {α : Type} (a : α) (h : Hi) : ofO (some a) h = .ok a h := rfl
@[simp] theorem ofO_none {α : Type} (h : Hi) : ofO (none : Option α) h = .stuck := rfl

/-- unary operations on data -/
inductive O1 where
  | len | sum | max | min | any | all | sorted | sortedSet | lenSet | tuple | list | neg | isNone | notNone | rev | abs | truth | join0 | split0 | int
  | range | rangeT | lenDict | revT | sortedT | lenSetI | lenSetT
  | joinS (sep : Str) | indexS (t : Str) | strI | lenDictT
  | anyI | sortedDict | sumL | sortedD | words | repr
  | lookI (kvs : List (Int × PyData))
  | inRg (a b : Int)
  | uptoS (z : Str)
  | revFrom (n : Nat)
  | look (kvs : List (List Int × Int))
/-- binary operations -/
inductive O2 where
  | add | addI | cat | sub | mul | rep | fdiv | mod | eq | ne | lt | le | gt | ge | isIn | notIn | ix | count | index | max2 | min2 | join | split | starts | from_ | upto | zipL | enumL | countT | countN | indexN | repT | indexT | inS | notInS | catT
/-- ternary: a slice -/
inductive O3 where
  | slice (l u : Bool)
  | sliceS (l u : Bool)
  | leLe
/-- what a name may be asked to be -/
inductive Ty where
  | int | bool | str | tuple | list | exc (c : Nat)
/-- what a suite does with e.at: return e.at; x = (text, e.at) -/
inductive AtK where
  | ret (j : Nat)
  | set (j i : Nat) (z : Str)
  /-- f(e), f a def that asks the class of e alone -/
  | setH (j i : Nat) (g : Nat → PyData)
  | retH (j : Nat) (g : Nat → PyData)
  /-- if e.at != len(x): return False -/
  | neLen (j i : Nat)
inductive Tg where
  | name (i : Nat)
  | tup (ts : List Tg)

mutual
inductive E where
  | var (i : Nat)
  | lit (d : PyData)
  | fld (i j : Nat)
  | key (i : Nat) (k : Key)
  | op1 (o : O1) (a : E)
  | op2 (o : O2) (a b : E)
  | op2b (o : O2) (a b : E)
  | op2d (o : O2) (a b : E)
  | op3 (o : O3) (a b c : E)
  | op3b (o : O3) (a b c : E)
  | and_ (a b : E)
  | or_ (a b : E)
  | not_ (a : E)
  | ite (c : Te) (a b : E)
  | tup (es : List E)
  | lst (es : List E)
  | call (f : Nat) (es : List E)
  | meth (c f i : Nat) (es : List E)
  /-- the method of an object that is told by a -/
  | methN (c f : Nat) (a : E) (es : List E)
  | new (c f : Nat) (es : List E)
  | comp (own : List Nat) (t : Tg) (src : Src) (cond : List Te) (elt : E)
  | compB (i : Nat) (own : List Nat) (t : Tg) (cond : List Te) (elt : E)
  | compI (i : Nat) (own : List Nat) (t : Tg) (cond : List Te) (elt : E)
  | catB (i : Nat) (b : E)
  | isi (a : E) (t : Ty)
  | dget (i : Nat) (k : E)
  /-- k in d, k not in d -/
  | dhas (i : Nat) (k : E) (neg : Bool)
  | dzip (a b : E)
  | dgetD (i : Nat) (k d : E)
  | din (i : Nat) (neg : Bool) (k : E)
  | pop (i : Nat) (a : E)
  | freeze (i : Nat)
  | mk (e : E)
  | excFld (i j : Nat)
inductive Te where
  | val (e : E)
  | and_ (a b : Te)
  | or_ (a b : Te)
  | not_ (a : Te)
inductive Src where
  | e (a : E)
  | rng1 (a : E)
  | rng2 (a b : E)
  | rng3 (a b : E)
  | enum (a : E)
  | zip (a b : E)
  | items (i : Nat)
end
inductive S where
  | set (i : Nat) (e : E)
  | newD (i : Nat) (kvs : List (Key × Bool × E))
  | set2 (i j : Nat) (a b : E)
  | set3 (i j k : Nat) (a b c : E)
  | unpack (t : Tg) (e : E)
  | setFld (i j : Nat) (e : E)
  | newFld (i j : Nat) (e : E)
  | setKey (i : Nat) (k : Key) (e : E)
  | newKey (i : Nat) (k : Key) (e : E)
  | setKeyD (i : Nat) (k e : E)
  | setIx (p : E) (i e : E)
  | setIx2 (i j : Nat) (k l a b : E)
  | app (p : E) (e : E)
  | ext (p : E) (e : E)
  | expr (e : E)
  | if_ (c : Te) (a b : List S)
  | for_ (t : Tg) (src : Src) (body : List S)
  | while_ (c : Te) (body : List S)
  | ret (e : E)
  | brk | cont | pass
  | raise_ (c : Nat) (es : List E)
  /-- raise C(e), C's own __init__ keeps its argument; f: a def of the small program that stands for it -/
  | raiseI (c f : Nat) (e : E)
  /-- try: body; except C as e: k of e.at -/
  | tryAt (body : List S) (c : Nat) (k : AtK)
  | forB (t : Tg) (i : Nat) (body : List S)
  | try_ (body : List S) (hs : List (Nat × List S))

def intsD : List PyData → Option (List Int)
  | [] => some []
  | .int i :: r => (intsD r).map (i :: ·)
  | _ :: _ => none
def boolsD : List PyData → Option (List Bool)
  | [] => some []
  | .bool b :: r => (boolsD r).map (b :: ·)
  | _ :: _ => none
def strsD : List PyData → Option (List Str)
  | [] => some []
  | .str x :: r => (strsD r).map (x :: ·)
  | _ :: _ => none
def insI (x : Int) : List Int → List Int
  | [] => [x]
  | y :: r => if x ≤ y then x :: y :: r else y :: insI x r
def sortI : List Int → List Int
  | [] => []
  | x :: r => insI x (sortI r)
def dedup {α : Type} [DecidableEq α] : List α → List α
  | [] => []
  | x :: r => if x ∈ r then dedup r else x :: dedup r
def truthD : PyData → Option Bool
  | .none => some false
  | .bool b => some b
  | .int i => some (i != 0)
  | .list ts => some (!ts.isEmpty)
  | .tuple ts => some (!ts.isEmpty)
  | .str x => if x.length ≤ sizeLine then some ((x.length : Int) != 0) else none
  | _ => none
def isNoneD : PyData → Bool
  | .none => true
  | _ => false
def cmpOk (x y : PyData) : Bool := PySem.W.alike x y && !isNoneD x && decide (min x.depth y.depth ≤ 64)
def maxOk (ts : List PyData) : Bool := ts.all (fun a => ts.all (PySem.W.alike a)) && ts.all (fun a => !isNoneD a) && decide (PyData.depthAll ts ≤ 60)
def seqD : PyData → Option (List PyData)
  | .list ts => some ts
  | .tuple ts => some ts
  | _ => none
def scalD : PyData → Bool
  | .none => true
  | .bool _ => true
  | .int _ => true
  | .str _ => true
  | _ => false
/-- x == y -/
def eqD (x y : PyData) : Option Bool :=
  if scalD x && scalD y then some (PyData.eqv x y)
  else if SeqAt.shaped x && SeqAt.shaped y then some (PyData.eqv x y) else none
/-- x in the items -/
def inD (x : PyData) (ys : List PyData) : Option Bool :=
  if x.plain && PyData.plainAll ys && decide (x.depth ≤ 60) then some (ys.any fun y => PyData.eqv y x) else none
def small64 (i : Int) : Bool := decide (i.natAbs < 18446744073709551616)
def strAt (x : Str) (i : Int) : Option PyData := if x.length ≤ sizeLine then (atI x.cps.toList i).map fun c => .str ⟨#[c]⟩ else none
def lenD : PyData → Option PyData
  | .list ts => some (.int ts.length)
  | .tuple ts => some (.int ts.length)
  | .str x => if x.length ≤ sizeLine then some (.int x.length) else none
  | _ => none
def sumD : PyData → Option PyData
  | .list ts => (intsD ts).map fun ns => .int ns.sum
  | .tuple ts => (intsD ts).map fun ns => .int ns.sum
  | _ => none
def maxS : List PyData → Option PyData
  | x :: xs => if maxOk (x :: xs) then some (PySem.W.maxD x xs) else none
  | [] => none
def minS : List PyData → Option PyData
  | x :: xs => if maxOk (x :: xs) then some (PySem.W.minD x xs) else none
  | [] => none
def anyS : PyData → Option PyData
  | .list ts => (boolsD ts).map fun bs => .bool (bs.any id)
  | _ => none
/-- any(ints) -/
def anyIS : PyData → Option PyData
  | .list ts => (intsD ts).map fun ns => .bool (ns.any (· != 0))
  | _ => none
def allS : PyData → Option PyData
  | .list ts => (boolsD ts).map fun bs => .bool (bs.all id)
  | _ => none
def pairsD : List PyData → Option (List (Int × Int))
  | [] => some []
  | .tuple [.int a, .int b] :: r => (pairsD r).map ((a, b) :: ·)
  | _ :: _ => none
def pairD (p : Int × Int) : PyData := .tuple [.int p.1, .int p.2]
/-- p ≤ q, the first ahead of the second -/
def leP (p q : Int × Int) : Bool := decide (p.1 < q.1) || (decide (p.1 = q.1) && decide (p.2 ≤ q.2))
def insP (x : Int × Int) : List (Int × Int) → List (Int × Int)
  | [] => [x]
  | y :: r => if leP x y then x :: y :: r else y :: insP x r
def sortP : List (Int × Int) → List (Int × Int)
  | [] => []
  | x :: r => insP x (sortP r)
def sortedS : PyData → Option PyData
  | .list ts => match intsD ts with
    | some ns => some (.list ((sortI ns).map .int))
    | none => (pairsD ts).map fun ps => .list ((sortP ps).map pairD)
  | .tuple ts => (intsD ts).map fun ns => .list ((sortI ns).map .int)
  | _ => none
def sortedSetS : PyData → Option PyData
  | .list ts => (intsD ts).bind fun ns => if ns.length < 64 then some (.list ((sortI (dedup ns)).map .int)) else none
  | _ => none
/-- rows of ints, the first ahead of the second -/
def leL : List Int → List Int → Bool
  | [], _ => true
  | _ :: _, [] => false
  | x :: xs, y :: ys => decide (x < y) || (decide (x = y) && leL xs ys)
def insT (x : List Int) : List (List Int) → List (List Int)
  | [] => [x]
  | y :: r => if leL x y then x :: y :: r else y :: insT x r
def sortT : List (List Int) → List (List Int)
  | [] => []
  | x :: r => insT x (sortT r)
def tupsD : List PyData → Option (List (List Int))
  | [] => some []
  | .tuple (d :: ds) :: r => (intsD (d :: ds)).bind fun ns => (tupsD r).map (ns :: ·)
  | _ :: _ => none
def tupD (ns : List Int) : PyData := .tuple (ns.map .int)
/-- sorted(a list of tuples of ints, none empty) -/
def sortedTS : PyData → Option PyData
  | .list ts => (tupsD ts).map fun rs => .list ((sortT rs).map tupD)
  | _ => none
/-- sep.join(a list of texts) -/
def joinSD (sep : Str) : PyData → Option PyData
  | .list ts => (strsD ts).bind fun ys => if (ys.map (·.length)).sum + ys.length * sep.length ≤ 16777216 then some (.str (Txt.join sep ys)) else none
  | _ => none
/-- t.index(a text that is in it) -/
def indexSD (t : Str) : PyData → Option PyData
  | .str b => match Builtin.Str.occurrences t b 0 t.length 1 with
    | i :: _ => some (.int ((i : Nat) : Int))
    | [] => none
  | _ => none
/-- len(set(ints)) -/
def lenSetIS : PyData → Option PyData
  | .list ts => (intsD ts).bind fun xs => if xs.length < 64 then some (.int (dedup xs).length) else none
  | _ => none
def tupleS : PyData → Option PyData
  | .list ts => some (.tuple ts)
  | .tuple ts => some (.tuple ts)
  | _ => none
def listS : PyData → Option PyData
  | .list ts => some (.list ts)
  | .tuple ts => some (.list ts)
  | .str x => if x.cps.size ≤ sizeLine then some (.list (x.cps.toList.map fun c => .str ⟨#[c]⟩)) else none
  | _ => none
def negS : PyData → Option PyData
  | .int i => some (.int (-i))
  | _ => none
def absS : PyData → Option PyData
  | .int i => some (.int (if i < 0 then -i else i))
  | _ => none
def revS : PyData → Option PyData
  | .list ts => some (.list ts.reverse)
  | _ => none
def revTS : PyData → Option PyData
  | .tuple ts => some (.tuple ts.reverse)
  | _ => none
/-- len(set(texts)) -/
def lenSetS : PyData → Option PyData
  | .list ts => (strsD ts).bind fun xs => if xs.length < 1000 then some (.int (dedup xs.reverse).length) else none
  | _ => none
/-- a module's table at a tuple of ints -/
def lookS (kvs : List (List Int × Int)) : PyData → Option PyData
  | .tuple ts => (intsD ts).bind fun ks => (kvs.lookup ks).map .int
  | _ => none
def rangeD (lo : Int) (n : Nat) (c : Int) : List PyData := (List.range n).map fun (i : Nat) => .int (lo + (i : Int) * c)
def rngOk (i : Int) : Bool := decide (i.natAbs < 4611686018427387904)
def rangeS : PyData → Option PyData
  | .int j => if rngOk j && decide (j.toNat ≤ 16777216) then some (.list (rangeD 0 j.toNat 1)) else none
  | _ => none
def fromS : PyData → PyData → Option PyData
  | .int i, .int j => if rngOk i && rngOk j && decide ((j - i).toNat ≤ 16777216) then some (.list (rangeD i (j - i).toNat 1)) else none
  | _, _ => none
def key0 : PyData → Option Key
  | .int i => some (.inl i)
  | .str x => some (.inr x)
  | _ => none
def pairKeys : List PyData → Option (List Key)
  | [] => some []
  | .tuple [k, _] :: r => (key0 k).bind fun q => (pairKeys r).map (q :: ·)
  | _ :: _ => none
/-- len(dict(pairs)) -/
def lenDictS : PyData → Option PyData
  | .list ts => (pairKeys ts).map fun ks => .int (dedup ks).length
  | _ => none
def intKeys : List Key → Option (List Int)
  | [] => some []
  | .inl i :: r => (intKeys r).map (i :: ·)
  | .inr _ :: _ => none
/-- sorted(dict(pairs)), the keys ints -/
def sortedDictS : PyData → Option PyData
  | .list ts => (pairKeys ts).bind fun ks => (intKeys ks).bind fun ns => if ns.length < 64 then some (.list ((sortI (dedup ns)).map .int)) else none
  | _ => none
/-- int(x) of a truth or an int -/
def intS : PyData → Option PyData
  | .int i => some (.int i)
  | .bool k => some (.int (if k then 1 else 0))
  | _ => none
def _root_.PySem.PyData.isSeqD : PyData → Bool
  | .list _ => true
  | .tuple _ => true
  | _ => false
/-- repr(x) of a list or a tuple, no dict within; of None -/
def reprS (d : PyData) : Option PyData :=
  if isNoneD d = true then some (.str "None") else if (d.isSeqD && d.showable && !d.hasDict && decide (d.depth ≤ 50) && decide (d.shown.length ≤ sizeLine)) = true then some (.str d.shown) else none
def listsD : List PyData → Option (List PyData)
  | [] => some []
  | .list ts :: r => (listsD r).map (ts ++ ·)
  | _ :: _ => none
/-- sum(lists, []) -/
def sumLS : PyData → Option PyData
  | .list ts => (listsD ts).bind fun us => if ts.isEmpty = false ∧ us.length < 1000 then some (.list us) else none
  | _ => none
def tupNe : PyData → Bool
  | .tuple (_ :: _) => true
  | _ => false
def leD (a b : PyData) : Bool := !PySem.W.dataLt b a
/-- sorted(a list of tuples, none empty) -/
def sortedDS : PyData → Option PyData
  | .list ts => if (ts.all (fun a => ts.all (PySem.W.alike a)) && ts.all tupNe && decide (PyData.depthAll ts ≤ 60)) then some (.list (ts.mergeSort leD)) else none
  | .tuple ts => if (ts.all (fun a => ts.all (PySem.W.alike a)) && ts.all tupNe && decide (PyData.depthAll ts ≤ 60)) then some (.list (ts.mergeSort leD)) else none
  | _ => none
/-- a dict display that is looked up at once -/
def lookIS (kvs : List (Int × PyData)) : PyData → Option PyData
  | .int k => kvs.lookup k
  | _ => none
/-- a tuple's items from the place n on, back to the first -/
def revFromS (n : Nat) : PyData → Option PyData
  | .tuple ts => if n < ts.length then some (.tuple (ts.take (n + 1)).reverse) else none
  | _ => none
/-- text.split() -/
def wordsS : PyData → Option PyData
  | .str x => if x.length + 2 ≤ sizeLine then some (.list ((Txt.words x).map .str)) else none
  | _ => none
/-- x in range(a, b), x an int -/
def inRgS (a b : Int) : PyData → Option PyData
  | .int x => some (.bool (decide (a ≤ x ∧ x < b)))
  | _ => none
/-- z[:n] of a text that is told -/
def uptoSD (z : Str) : PyData → Option PyData
  | .int n => if z.length ≤ sizeLine then some (.str (L2.cutS z none (some n))) else none
  | _ => none
def keysT : List PyData → Option (List Key)
  | [] => some []
  | d :: r => (key0 d).bind fun k => (keysT r).map (k :: ·)
def tupKeys : List PyData → Option (List (List Key))
  | [] => some []
  | .tuple [.tuple ds, _] :: r => (keysT ds).bind fun k => (tupKeys r).map (k :: ·)
  | _ :: _ => none
def tupsK : List PyData → Option (List (List Key))
  | [] => some []
  | .tuple ds :: r => (keysT ds).bind fun k => (tupsK r).map (k :: ·)
  | _ :: _ => none
/-- len(set(tuples)), few of them -/
def lenSetTS : PyData → Option PyData
  | .list ts => (tupsK ts).bind fun ks => if ks.length ≤ 8 then some (.int (dedup ks).length) else none
  | _ => none
/-- len(dict(pairs)), the keys tuples, no key twice -/
def lenDictTS : PyData → Option PyData
  | .list ts => (tupKeys ts).bind fun ks => if (dedup ks).length = ks.length ∧ ks.length < 1000 then some (.int ks.length) else none
  | _ => none
/-- str(n) -/
def strIS : PyData → Option PyData
  | .int i => if i.natAbs.log2 < 1920 then some (.str (toString i)) else none
  | _ => none
def opf1 (o : O1) (d : PyData) : Option PyData := match o with
  | .strI => strIS d
  | .lenDictT => lenDictTS d
  | .int => intS d
  | .repr => reprS d
  | .sumL => sumLS d
  | .sortedD => sortedDS d
  | .lookI kvs => lookIS kvs d
  | .inRg a b => inRgS a b d
  | .uptoS z => uptoSD z d
  | .words => wordsS d
  | .revFrom n => revFromS n d
  | .range => rangeS d
  | .rangeT => (rangeS d).bind tupleS
  | .lenDict => lenDictS d
  | .lenSet => lenSetS d
  | .revT => revTS d
  | .look kvs => lookS kvs d
  | .sortedT => sortedTS d
  | .lenSetI => lenSetIS d
  | .lenSetT => lenSetTS d
  | .joinS sep => joinSD sep d
  | .anyI => anyIS d
  | .sortedDict => sortedDictS d
  | .indexS t => indexSD t d
  | .len => lenD d
  | .sum => sumD d
  | .max => (seqD d).bind maxS
  | .min => (seqD d).bind minS
  | .any => anyS d
  | .all => allS d
  | .sorted => sortedS d
  | .sortedSet => sortedSetS d
  | .tuple => tupleS d
  | .list => listS d
  | .neg => negS d
  | .isNone => some (.bool (isNoneD d))
  | .notNone => some (.bool (!isNoneD d))
  | .rev => revS d
  | .abs => absS d
  | _ => none
def addD : PyData → PyData → Option PyData
  | .int i, .int j => some (.int (i + j))
  | .str x, .str y => if x.length + y.length ≤ sizeLine then some (.str (x ++ y)) else none
  | .tuple xs, .tuple ys => if xs.length + ys.length ≤ sizeLine then some (.tuple (xs ++ ys)) else none
  | .list xs, .list ys => if xs.length + ys.length ≤ sizeLine then some (.list (xs ++ ys)) else none
  | _, _ => none
def addI : PyData → PyData → Option PyData
  | .int i, .int j => some (.int (i + j))
  | _, _ => none
def catD : PyData → PyData → Option PyData
  | .list xs, .list ys => if xs.length + ys.length ≤ sizeLine then some (.list (xs ++ ys)) else none
  | _, _ => none
def subD : PyData → PyData → Option PyData
  | .int i, .int j => some (.int (i - j))
  | _, _ => none
def mulD : PyData → PyData → Option PyData
  | .int i, .int j => if small64 i || small64 j then some (.int (i * j)) else none
  | _, _ => none
def repD : PyData → PyData → Option PyData
  | .list xs, .int k => if decide (k.natAbs < 9223372036854775808) && decide (xs.length * k.toNat ≤ sizeLine) then some (.list (List.replicate k.toNat xs).flatten) else none
  | _, _ => none
def repTD : PyData → PyData → Option PyData
  | .tuple xs, .int k => if !xs.isEmpty && decide (2 ≤ k) && decide (k ≤ 1000) && decide (xs.length ≤ 1000) then some (.tuple (List.replicate k.toNat xs).flatten) else none
  | _, _ => none
def fdivD : PyData → PyData → Option PyData
  | .int i, .int j => if decide (j ≠ 0) && decide (j.natAbs < 1073741824) then some (.int (i.fdiv j)) else none
  | _, _ => none
def modD : PyData → PyData → Option PyData
  | .int i, .int j => if j = 0 then none else some (.int (i.fmod j))
  | _, _ => none
/-- a comparison: of ints, or of data -/
def cmpD (p : Int → Int → Bool) (f : PyData → PyData → Bool) : PyData → PyData → Option PyData
  | .int i, .int j => some (.bool (p i j))
  | x, y => if cmpOk x y then some (.bool (f x y)) else none
def ixD : PyData → PyData → Option PyData
  | .list xs, .int i => atI xs i
  | .tuple xs, .int i => atI xs i
  | .str x, .int i => strAt x i
  | _, _ => none
def max2D : PyData → PyData → Option PyData
  | .int i, .int j => some (.int (if j > i then j else i))
  | _, _ => none
def min2D : PyData → PyData → Option PyData
  | .int i, .int j => some (.int (if j < i then j else i))
  | _, _ => none
def countD : PyData → PyData → Option PyData
  | .list xs, y => if scalD y && xs.all scalD then some (.int (xs.countP fun x => PyData.eqv x y)) else none
  | _, _ => none
/-- tuples whose methods may be called: their object is known -/
def needT : List PyData → Bool
  | .bool _ :: _ => true
  | .tuple _ :: _ => true
  | _ => false
def countTD : PyData → PyData → Option PyData
  | .tuple xs, y => if scalD y && xs.all scalD then some (.int (xs.countP fun x => PyData.eqv x y)) else none
  | _, _ => none
/-- the first place of an equal one -/
def placeD (ds : List PyData) (d : PyData) : Option PyData :=
  if PyData.plainAll ds && d.plain && decide (d.depth ≤ 60) then (ds.findIdx? fun z => PyData.eqv z d).map fun j : Nat => .int (j : Int) else none
def indexD : PyData → PyData → Option PyData
  | .list ds, d => placeD ds d
  | _, _ => none
def indexTD : PyData → PyData → Option PyData
  | .tuple ds, d => placeD ds d
  | _, _ => none
def zipD : List PyData → List PyData → List PyData
  | x :: xs, y :: ys => .tuple [x, y] :: zipD xs ys
  | _, _ => []
def itemsOf : PyData → Option (List PyData)
  | .list ts => some ts
  | .tuple ts => some ts
  | .str x => some (x.cps.toList.map fun c => .str ⟨#[c]⟩)
  | _ => none
/-- tuple(zip(x, y)) -/
def zipTS (x y : PyData) : Option PyData := (itemsOf x).bind fun xs => (itemsOf y).bind fun ys => if xs.length < 1000 then some (.tuple (zipD xs ys)) else none
/-- text.startswith(text) -/
def startsD : PyData → PyData → Option PyData
  | .str x, .str y => some (.bool (Txt.startswith x y))
  | _, _ => none
/-- text.split(text) -/
def splitD : PyData → PyData → Option PyData
  | .str x, .str y => if (y.length == 0) = false ∧ x.length + 2 ≤ sizeLine then some (.list ((Txt.split x y).map .str)) else none
  | _, _ => none
/-- sep.join(texts), sep had -/
def joinVD : PyData → PyData → Option PyData
  | .str sep, d => joinSD sep d
  | _, _ => none
/-- text in text -/
def inSD : PyData → PyData → Option PyData
  | .str i, .str j => some (.bool (!(Builtin.Str.occurrences j i 0 j.length 1).isEmpty))
  | _, _ => none
/-- text + text, in a place that makes nothing -/
def catTD : PyData → PyData → Option PyData
  | .str x, .str y => if x.length + y.length ≤ sizeLine then some (.str (x ++ y)) else none
  | _, _ => none
/-- text not in text -/
def notInSD : PyData → PyData → Option PyData
  | .str i, .str j => some (.bool (!(!(Builtin.Str.occurrences j i 0 j.length 1).isEmpty)))
  | _, _ => none
def opf2 (o : O2) (x y : PyData) : Option PyData := match o with
  | .notInS => notInSD x y
  | .inS => inSD x y
  | .join => joinVD x y
  | .catT => catTD x y
  | .zipL => zipTS x y
  | .starts => startsD x y
  | .split => splitD x y
  | .index => indexD x y
  | .indexT => indexTD x y
  | .add => addD x y
  | .addI => addI x y
  | .cat => catD x y
  | .sub => subD x y
  | .mul => mulD x y
  | .rep => repD x y
  | .repT => repTD x y
  | .fdiv => fdivD x y
  | .mod => modD x y
  | .eq => (eqD x y).map .bool
  | .ne => (eqD x y).map fun b => .bool !b
  | .lt => cmpD (fun i j => decide (i < j)) (fun x y => PySem.W.dataLt x y) x y
  | .le => cmpD (fun i j => decide (i ≤ j)) (fun x y => !PySem.W.dataLt y x) x y
  | .gt => cmpD (fun i j => decide (j < i)) (fun x y => PySem.W.dataLt y x) x y
  | .ge => cmpD (fun i j => decide (j ≤ i)) (fun x y => !PySem.W.dataLt x y) x y
  | .isIn => (seqD y).bind fun ys => (inD x ys).map .bool
  | .notIn => (seqD y).bind fun ys => (inD x ys).map fun b => .bool !b
  | .ix => ixD x y
  | .max2 => max2D x y
  | .min2 => min2D x y
  | .count => countD x y
  | .from_ => fromS x y
  | .countT => countTD x y
  | .countN => (match x with | .tuple ts => if needT ts then countTD x y else none | _ => none)
  | .indexN => (match x with | .tuple ts => if needT ts then indexTD x y else none | _ => none)
  | _ => none
def cutD (xs : List PyData) (lo hi : Option Int) : List PyData := (xs.drop (HT.sIx xs.length 0 lo)).take (HT.sIx xs.length xs.length hi - HT.sIx xs.length 0 lo)
def partD : Bool → PyData → Option (Option Int)
  | false, .none => some none
  | true, .int i => some (some i)
  | _, _ => none
def opf3 : O3 → PyData → PyData → PyData → Option PyData
  | .slice l u, .list xs, a, b => (partD l a).bind fun lo => (partD u b).map fun hi => .list (cutD xs lo hi)
  | .slice l u, .tuple xs, a, b => (partD l a).bind fun lo => (partD u b).map fun hi => .tuple (cutD xs lo hi)
  | .sliceS l u, .str x, a, b => if x.length ≤ sizeLine then (partD l a).bind fun lo => (partD u b).map fun hi => .str (L2.cutS x lo hi) else none
  | .leLe, x, y, z => match opf2 .le x y with
    | some (.bool true) => opf2 .le y z
    | some (.bool false) => some (.bool false)
    | _ => none
  | _, _, _, _ => none

def slot : Ev → Nat → Option Val
  | [], _ => none
  | v :: _, 0 => v
  | _ :: r, i + 1 => slot r i
def setSlot : Ev → Nat → Option Val → Ev
  | [], _, _ => []
  | _ :: r, 0, v => v :: r
  | x :: r, i + 1, v => x :: setSlot r i v
def wipeE (env : Ev) : List Nat → Ev
  | [] => env
  | v :: vs => setSlot (wipeE env vs) v none
mutual
def bindT : Tg → PyData → Ev → Option Ev
  | .name i, d, env => some (setSlot env i (some (.p d)))
  | .tup ts, .tuple ds, env => bindTs ts ds env
  | .tup _, _, _ => none
def bindTs : List Tg → List PyData → Ev → Option Ev
  | [], [], env => some env
  | t :: ts, d :: ds, env => (bindT t d env).bind (bindTs ts ds)
  | _, _, _ => none
end
def enumFrom (k : Nat) : List PyData → List PyData
  | [] => []
  | x :: r => .tuple [.int k, x] :: enumFrom (k + 1) r
def listAt (h : Hi) (n : Nat) : Option (List PyData) := match h[n]? with
  | some (.lst ts) => some ts
  | _ => none
def insAt (h : Hi) (n : Nat) : Option (Nat × List Fld) := match h[n]? with
  | some (.ins c fs) => some (c, fs)
  | _ => none
def dctAt (h : Hi) (n : Nat) : Option (List (Key × Fld)) := match h[n]? with
  | some (.dct kvs) => some kvs
  | _ => none
def slotRef (env : Ev) (i : Nat) : Option Nat := match slot env i with
  | some (.ref n) => some n
  | _ => none
def dctOf (env : Ev) (h : Hi) (i : Nat) : Option (Nat × List (Key × Fld)) := (slotRef env i).bind fun n => (dctAt h n).map fun kvs => (n, kvs)
def insOf (env : Ev) (h : Hi) (i : Nat) : Option (Nat × Nat × List Fld) := (slotRef env i).bind fun n => (insAt h n).map fun p => (n, p)
def lstOf (env : Ev) (h : Hi) (i : Nat) : Option (Nat × List PyData) := (slotRef env i).bind fun n => (listAt h n).map fun ts => (n, ts)
/-- what a list source holds that is not a value: a list of the heap, a list of an instance's or a dict's own -/
def peek (env : Ev) (h : Hi) : E → Option PyData
  | .var i => (lstOf env h i).map fun p => .list p.2
  | .fld i j => (insOf env h i).bind fun p => match p.2.2[j]? with | some (.l ts) => some (.list ts) | _ => none
  | .key i k => (dctOf env h i).bind fun p => match p.2.lookup k with | some (.l ts) => some (.list ts) | _ => none
  | _ => none
def unP (v : Val) (h : Hi) : R PyData := match v with
  | .p d => .ok d h
  | .ref _ => .stuck
def bor (env : Ev) (h : Hi) (a : E) (r : R Val) : R PyData := match peek env h a with
  | some d => .ok d h
  | none => r.bind unP
def keyOf : PyData → Option Key
  | .int i => some (.inl i)
  | .str x => some (.inr x)
  | _ => none
def compL (elt : Ev → Hi → R PyData) (cond : Ev → Hi → R Bool) (bt : PyData → Ev → Option Ev) (env : Ev) : List PyData → Hi → R (List PyData)
  | [], h => .ok [] h
  | x :: r, h => match bt x env with
    | none => .stuck
    | some env1 => (cond env1 h).bind fun b h1 =>
      if b then (elt env1 h1).bind fun y h2 => (compL elt cond bt env r h2).bind fun ys h3 => .ok (y :: ys) h3
      else compL elt cond bt env r h1
def isTy : Ty → PyData → Bool
  | .int, .int _ => true
  | .int, .bool _ => true
  | .bool, .bool _ => true
  | .str, .str _ => true
  | .tuple, .tuple _ => true
  | .list, .list _ => true
  | _, _ => false
def andK (ev : Hi → R Val) (v : Val) (h : Hi) : R Val := match v with
  | .p (.bool true) => ev h
  | .p (.bool false) => .ok (.p (.bool false)) h
  | _ => .stuck
def orK (ev : Hi → R Val) (v : Val) (h : Hi) : R Val := match v with
  | .p (.bool true) => .ok (.p (.bool true)) h
  | .p (.bool false) => ev h
  | _ => .stuck
def notK (v : Val) (h : Hi) : R Val := match v with
  | .p (.bool b) => .ok (.p (.bool !b)) h
  | _ => .stuck
def ifK {α : Type} (a b : Hi → R α) (k : Bool) (h : Hi) : R α := if k = true then a h else b h
def newK (n : Nat) (v : Val) (h : Hi) : R Val := match v with
  | .p .none => .ok (.ref n) h
  | _ => .stuck
def noX {α : Type} (r : R α) : R α := match r with
  | .ok a h => .ok a h
  | _ => .stuck
def mkK (d : PyData) (h : Hi) : R Val := match d with
  | .list ts => .ok (.ref h.length) (h ++ [.lst ts])
  | _ => .stuck
def compK (r : R (List PyData)) : R Val := match r with
  | .ok ys h => .ok (.p (.list ys)) h
  | _ => .stuck
def rng1K (d : PyData) (h : Hi) : R (List PyData) := match d with
  | .int j => if rngOk j = true then .ok (rangeD 0 j.toNat 1) h else .stuck
  | _ => .stuck
def rng2K (d e : PyData) (h : Hi) : R (List PyData) := match d, e with
  | .int i, .int j => if rngOk i = true ∧ rngOk j = true then .ok (rangeD i (j - i).toNat 1) h else .stuck
  | _, _ => .stuck
def rng3K (d e : PyData) (h : Hi) : R (List PyData) := match d, e with
  | .int i, .int j => if rngOk i = true ∧ rngOk j = true then .ok (rangeD i (i - j).toNat (-1)) h else .stuck
  | _, _ => .stuck
def fldK : Option Fld → Option Val
  | some (.p d) => some (.p d)
  | _ => none
def dgetK (env : Ev) (i : Nat) (d : PyData) (h : Hi) : R Val := match dctOf env h i, keyOf d with
  | some p, some k => ofO (fldK (p.2.lookup k)) h
  | _, _ => .stuck
def dhasK (env : Ev) (i : Nat) (neg : Bool) (d : PyData) (h : Hi) : R Val := match dctOf env h i, keyOf d with
  | some p, some k => .ok (.p (.bool (if neg then (p.2.lookup k).isNone else (p.2.lookup k).isSome))) h
  | _, _ => .stuck
def dgetDK (env : Ev) (i : Nat) (d e : PyData) (h : Hi) : R Val := match dctOf env h i, keyOf d with
  | some p, some k => match p.2.lookup k with
    | none => .ok (.p e) h
    | some f => ofO (fldK (some f)) h
  | _, _ => .stuck
def zipKV : List Key → List PyData → List (Key × Fld)
  | k :: ks, y :: ys => (k, .p y) :: zipKV ks ys
  | _, _ => []
def keysD : List PyData → Option (List Key)
  | [] => some []
  | d :: r => (key0 d).bind fun k => (keysD r).map (k :: ·)
/-- dict(zip(keys, a tuple)), no key twice -/
def dzipK (d e : PyData) (h : Hi) : R Val := match itemsOf d, e with
  | some xs, .tuple ys => match keysD xs with
    | some ks => if ks.length < 60 ∧ (dedup ks).length = ks.length then .ok (.ref h.length) (h ++ [.dct (zipKV ks ys)]) else .stuck
    | none => .stuck
  | _, _ => .stuck
def dinK (env : Ev) (i : Nat) (neg : Bool) (d : PyData) (h : Hi) : R Val := match dctOf env h i, keyOf d with
  | some p, some k => .ok (.p (.bool (if neg = true then !(p.2.lookup k).isSome else (p.2.lookup k).isSome))) h
  | _, _ => .stuck
def popK (env : Ev) (i : Nat) (d : PyData) (h : Hi) : R Val := match lstOf env h i, d with
  | some p, .int k => match ixN p.2.length k with
    | some j => match p.2[j]? with
      | some x => if k.natAbs < 9223372036854775808 then .ok (.p x) (h.set p.1 (.lst (p.2.eraseIdx j))) else .stuck
      | none => .stuck
    | none => .stuck
  | _, _ => .stuck
def freezeK (env : Ev) (i : Nat) (h : Hi) : R Val := match lstOf env h i with
  | some p => .ok (.p (.list p.2)) (h.set p.1 .dead)
  | none => .stuck
/-- an own list and a list: a new one -/
def catBK (env : Ev) (i : Nat) (y : PyData) (h : Hi) : R Val := match lstOf env h i with
  | none => .stuck
  | some p => ofO ((catD (.list p.2) y).map .p) h
def methOk (env : Ev) (h : Hi) (c i : Nat) : Option Nat := match insOf env h i with
  | some p => if p.2.1 = c then some p.1 else none
  | none => none
def refIns (v : Val) (h : Hi) (c : Nat) : Option Nat := match v with
  | .ref n => match insAt h n with
    | some p => if p.1 = c then some n else none
    | none => none
  | _ => none
def compK2 (run : List PyData → Hi → R (List PyData)) (items : List PyData) (h : Hi) : R Val := if items.length < sizeLine then compK (run items h) else .stuck
abbrev Calls := Nat → List Val → Hi → R Val
mutual
def sameD : PyData → PyData → Bool
  | .none, .none => true
  | .bool a, .bool b => a == b
  | .int a, .int b => decide (a = b)
  | .str a, .str b => decide (a = b)
  | .list xs, .list ys => sameL xs ys
  | .tuple xs, .tuple ys => sameL xs ys
  | _, _ => false
def sameL : List PyData → List PyData → Bool
  | [], [] => true
  | x :: xs, y :: ys => sameD x y && sameL xs ys
  | _, _ => false
end
/-- the list at n is still ts -/
def stillL (h : Hi) (n : Nat) (ts : List PyData) : Bool := match listAt h n with
  | some us => sameL us ts
  | none => false
def keyD : Key → PyData
  | .inl i => .int i
  | .inr x => .str x
def itemsD : List (Key × Fld) → Option (List PyData)
  | [] => some []
  | (k, .p d) :: r => if scalD d then (itemsD r).map (.tuple [keyD k, d] :: ·) else none
  | (_, .l _) :: _ => none
/-- a comprehension over a list of the heap, that its parts leave alone -/
def compLB (ok : Hi → Bool) (elt : Ev → Hi → R PyData) (cond : Ev → Hi → R Bool) (bt : PyData → Ev → Option Ev) (env : Ev) : List PyData → Hi → R (List PyData)
  | [], h => if ok h then .ok [] h else .stuck
  | x :: r, h => if ok h then match bt x env with
    | none => .stuck
    | some env1 => (cond env1 h).bind fun b h1 =>
      if b then (elt env1 h1).bind fun y h2 => (compLB ok elt cond bt env r h2).bind fun ys h3 => .ok (y :: ys) h3
      else compLB ok elt cond bt env r h1
    else .stuck
mutual
def evalE (cf : Calls) (env : Ev) : E → Hi → R Val
  | .var i, h => ofO (slot env i) h
  | .lit d, h => .ok (.p d) h
  | .fld i j, h => ofO ((insOf env h i).bind fun p => fldK p.2.2[j]?) h
  | .key i k, h => ofO ((dctOf env h i).bind fun p => fldK (p.2.lookup k)) h
  | .op1 o a, h => (bor env h a (evalE cf env a h)).bind fun x h1 => ofO ((opf1 o x).map .p) h1
  | .op2 o a b, h => ((evalE cf env a h).bind unP).bind fun x h1 => (bor env h1 b (evalE cf env b h1)).bind fun y h2 => ofO ((opf2 o x y).map .p) h2
  | .op2b o a b, h => (bor env h a (evalE cf env a h)).bind fun x h1 => ((evalE cf env b h1).bind unP).bind fun y h2 => ofO ((opf2 o x y).map .p) h2
  | .op2d o a b, h => ((evalE cf env a h).bind unP).bind fun x h1 => ((evalE cf env b h1).bind unP).bind fun y h2 => ofO ((opf2 o x y).map .p) h2
  | .op3 o a b c, h => ((evalE cf env a h).bind unP).bind fun x h1 => ((evalE cf env b h1).bind unP).bind fun y h2 => ((evalE cf env c h2).bind unP).bind fun z h3 => ofO ((opf3 o x y z).map .p) h3
  | .op3b o a b c, h => (bor env h a (evalE cf env a h)).bind fun x h1 => ((evalE cf env b h1).bind unP).bind fun y h2 => ((evalE cf env c h2).bind unP).bind fun z h3 => ofO ((opf3 o x y z).map .p) h3
  | .and_ a b, h => (evalE cf env a h).bind fun v h1 => andK (fun h2 => evalE cf env b h2) v h1
  | .or_ a b, h => (evalE cf env a h).bind fun v h1 => orK (fun h2 => evalE cf env b h2) v h1
  | .not_ a, h => (evalE cf env a h).bind notK
  | .ite c a b, h => (evalT cf env c h).bind fun k h1 => ifK (fun h2 => evalE cf env a h2) (fun h2 => evalE cf env b h2) k h1
  | .tup es, h => (evalPs cf env es h).bind fun ds h1 => .ok (.p (.tuple ds)) h1
  | .lst es, h => (evalPs cf env es h).bind fun ds h1 => .ok (.p (.list ds)) h1
  | .call f es, h => (evalEs cf env es h).bind fun vs h1 => cf f vs h1
  | .meth c f i es, h => match methOk env h c i with
    | none => .stuck
    | some n => (evalEs cf env es h).bind fun vs h1 => cf f (.ref n :: vs) h1
  | .methN c f a es, h => (evalE cf env a h).bind fun v h1 => match refIns v h1 c with
    | none => .stuck
    | some n => (evalEs cf env es h1).bind fun vs h2 => cf f (.ref n :: vs) h2
  | .new c f es, h => (evalEs cf env es h).bind fun vs h1 => (noX (cf f (.ref h1.length :: vs) (h1 ++ [.ins c []]))).bind fun v h2 => newK h1.length v h2
  | .comp own t src cond elt, h => (evalSrc cf env src h).bind fun items h1 =>
    compK2 (compL (fun e h => (evalE cf e elt h).bind unP) (fun e h => evalTs cf e cond h) (fun x e => bindT t x e) (wipeE env own)) items h1
  | .compB i own t cond elt, h => match lstOf env h i with
    | none => .stuck
    | some p => compK2 (compLB (fun h => stillL h p.1 p.2) (fun e h => (evalE cf e elt h).bind unP) (fun e h => evalTs cf e cond h) (fun x e => bindT t x e) (wipeE env own)) p.2 h
  | .compI i own t cond elt, h => match dctOf env h i with
    | none => .stuck
    | some p => match itemsD p.2 with
      | none => .stuck
      | some items => (compK2 (compL (fun e h => (evalE cf e elt h).bind unP) (fun e h => evalTs cf e cond h) (fun x e => bindT t x e) (wipeE env own)) items (h.set p.1 .dead)).bind fun v h2 => .ok v (h2.set p.1 (.dct p.2))
  | .isi a t, h => ((evalE cf env a h).bind unP).bind fun d h1 => .ok (.p (.bool (isTy t d))) h1
  | .dhas i k neg, h => ((evalE cf env k h).bind unP).bind fun d h1 => dhasK env i neg d h1
  | .dget i k, h => ((evalE cf env k h).bind unP).bind fun d h1 => dgetK env i d h1
  | .dzip a b, h => ((evalE cf env a h).bind unP).bind fun d h1 => ((evalE cf env b h1).bind unP).bind fun e h2 => dzipK d e h2
  | .dgetD i k d, h => ((evalE cf env k h).bind unP).bind fun kd h1 => ((evalE cf env d h1).bind unP).bind fun dd h2 => dgetDK env i kd dd h2
  | .din i neg k, h => ((evalE cf env k h).bind unP).bind fun kd h1 => dinK env i neg kd h1
  | .pop i a, h => match lstOf env h i with
    | none => .stuck
    | some _ => ((evalE cf env a h).bind unP).bind fun d h1 => popK env i d h1
  | .freeze i, h => freezeK env i h
  | .catB i b, h => match lstOf env h i with
    | none => .stuck
    | some _ => ((evalE cf env b h).bind unP).bind fun y h1 => catBK env i y h1
  | .mk e, h => ((evalE cf env e h).bind unP).bind mkK
  | .excFld _ _, _ => .stuck
def evalT (cf : Calls) (env : Ev) : Te → Hi → R Bool
  | .and_ a b, h => (evalT cf env a h).bind fun k h1 => ifK (fun h2 => evalT cf env b h2) (fun h2 => .ok false h2) k h1
  | .or_ a b, h => (evalT cf env a h).bind fun k h1 => ifK (fun h2 => .ok true h2) (fun h2 => evalT cf env b h2) k h1
  | .not_ a, h => (evalT cf env a h).bind fun k h1 => .ok (!k) h1
  | .val e, h => (bor env h e (evalE cf env e h)).bind fun d h1 => ofO (truthD d) h1
def evalTs (cf : Calls) (env : Ev) : List Te → Hi → R Bool
  | [], h => .ok true h
  | t :: ts, h => (evalT cf env t h).bind fun k h1 => ifK (fun h2 => evalTs cf env ts h2) (fun h2 => .ok false h2) k h1
def evalEs (cf : Calls) (env : Ev) : List E → Hi → R (List Val)
  | [], h => .ok [] h
  | e :: es, h => (evalE cf env e h).bind fun v h1 => (evalEs cf env es h1).bind fun vs h2 => .ok (v :: vs) h2
def evalPs (cf : Calls) (env : Ev) : List E → Hi → R (List PyData)
  | [], h => .ok [] h
  | e :: es, h => ((evalE cf env e h).bind unP).bind fun v h1 => (evalPs cf env es h1).bind fun vs h2 => .ok (v :: vs) h2
def evalSrc (cf : Calls) (env : Ev) : Src → Hi → R (List PyData)
  | .e a, h => ((evalE cf env a h).bind unP).bind fun d h1 => ofO (itemsOf d) h1
  | .rng1 a, h => ((evalE cf env a h).bind unP).bind rng1K
  | .rng2 a b, h => ((evalE cf env a h).bind unP).bind fun d h1 => ((evalE cf env b h1).bind unP).bind fun e h2 => rng2K d e h2
  | .rng3 a b, h => ((evalE cf env a h).bind unP).bind fun d h1 => ((evalE cf env b h1).bind unP).bind fun e h2 => rng3K d e h2
  | .enum a, h => ((evalE cf env a h).bind unP).bind fun d h1 => ofO ((itemsOf d).map (enumFrom 0)) h1
  | .zip a b, h => ((evalE cf env a h).bind unP).bind fun d h1 => ((evalE cf env b h1).bind unP).bind fun e h2 => ofO ((itemsOf d).bind fun xs => (itemsOf e).map fun ys => zipD xs ys) h2
  | .items _, _ => .stuck
end
end Cd

namespace Cd
open PySem L2
inductive Fl where
  | nx | bk | ct
  | rt (v : Val)
inductive RS where
  | ok (f : Fl) (env : Ev) (h : Hi)
  | exc (e : Ex) (env : Ev) (h : Hi)
  | stuck
def RS.bind (r : RS) (k : Ev → Hi → RS) : RS := match r with
  | .ok .nx env h => k env h
  | .ok f env h => .ok f env h
  | .exc e env h => .exc e env h
  | .stuck => .stuck
/-- go on from an expression's end -/
def R.toS {α : Type} (r : R α) (env : Ev) (k : α → Hi → RS) : RS := match r with
  | .ok a h => k a h
  | .exc e h => .exc e env h
  | .stuck => .stuck
@[simp] theorem RS.bind_nx (env : Ev) (h : Hi) (k : Ev → Hi → RS) : (RS.ok .nx env h).bind k = k env h := rfl
@[simp] theorem RS.bind_bk (env : Ev) (h : Hi) (k : Ev → Hi → RS) : (RS.ok .bk env h).bind k = .ok .bk env h := rfl
@[simp] theorem RS.bind_ct (env : Ev) (h : Hi) (k : Ev → Hi → RS) : (RS.ok .ct env h).bind k = .ok .ct env h := rfl
@[simp] theorem RS.bind_rt (v : Val) (env : Ev) (h : Hi) (k : Ev → Hi → RS) : (RS.ok (.rt v) env h).bind k = .ok (.rt v) env h := rfl
@[simp] theorem RS.bind_exc (e : Ex) (env : Ev) (h : Hi) (k : Ev → Hi → RS) : (RS.exc e env h).bind k = .exc e env h := rfl
@[simp] theorem R.toS_ok {α : Type} (a : α) (h : Hi) (env : Ev) (k : α → Hi → RS) : (R.ok a h).toS env k = k a h := rfl
@[simp] theorem R.toS_exc {α : Type} (e : Ex) (h : Hi) (env : Ev) (k : α → Hi → RS) : (R.exc e h : R α).toS env k = .exc e env h := rfl
def getL (env : Ev) (h : Hi) (p : E) : Option (List PyData) := match peek env h p with
  | some (.list ts) => some ts
  | _ => none
def setKV (kvs : List (Key × Fld)) (k : Key) (f : Fld) : List (Key × Fld) := match kvs with
  | [] => [(k, f)]
  | (q, g) :: r => if q = k then (q, f) :: r else (q, g) :: setKV r k f
def storeL (env : Ev) (h : Hi) (p : E) (ts : List PyData) : Option Hi := match p with
  | .var i => (slotRef env i).map fun n => h.set n (.lst ts)
  | .fld i j => (slotRef env i).bind fun n => (insAt h n).map fun q => h.set n (.ins q.1 (q.2.set j (.l ts)))
  | .key i k => (slotRef env i).bind fun n => (dctAt h n).map fun kvs => h.set n (.dct (setKV kvs k (.l ts)))
  | _ => none
def putFl (fs : List Fld) (j : Nat) (f : Fld) : Option (List Fld) := if j < fs.length then some (fs.set j f) else if j = fs.length then some (fs ++ [f]) else none
def ofH (env : Ev) : Option Hi → RS
  | some h => .ok .nx env h
  | none => .stuck
def listD : PyData → Option (List PyData)
  | .list ts => some ts
  | _ => none
def setFldH (env : Ev) (i j : Nat) (f : Fld) (h : Hi) : Option Hi := (insOf env h i).bind fun p => (putFl p.2.2 j f).map fun fs => h.set p.1 (.ins p.2.1 fs)
def setKeyH (env : Ev) (i : Nat) (k : Key) (f : Fld) (h : Hi) : Option Hi := (dctOf env h i).bind fun p => if p.2.length < 1000 then some (h.set p.1 (.dct (setKV p.2 k f))) else none
def setIxH (env : Ev) (p : E) (k d : PyData) (h : Hi) : Option Hi := match k with
  | .int k => (getL env h p).bind fun ts => (ixN ts.length k).bind fun j => storeL env h p (ts.set j d)
  | _ => none
def appH (env : Ev) (p : E) (d : PyData) (h : Hi) : Option Hi := (getL env h p).bind fun ts => if ts.length < sizeLine then storeL env h p (ts ++ [d]) else none
def extH (env : Ev) (p : E) (d : PyData) (h : Hi) : Option Hi := (listD d).bind fun ds => (getL env h p).bind fun ts => if ts.length + ds.length ≤ sizeLine then storeL env h p (ts ++ ds) else none
/-- a store of a thing that is had: the index, then the store -/
def stIx (ek : Ev → Hi → R Val) (p : E) (d : PyData) (env : Ev) (h : Hi) : RS := match getL env h p with
  | none => .stuck
  | some _ => ((ek env h).bind unP).toS env fun k h2 => ofH env (setIxH env p k d h2)
def forL (body : Ev → Hi → RS) (bt : PyData → Ev → Option Ev) : List PyData → Ev → Hi → RS
  | [], env, h => .ok .nx env h
  | x :: r, env, h => match bt x env with
    | none => .stuck
    | some env1 => match body env1 h with
      | .ok .nx env2 h2 => forL body bt r env2 h2
      | .ok .ct env2 h2 => forL body bt r env2 h2
      | .ok .bk env2 h2 => .ok .nx env2 h2
      | .ok (.rt v) env2 h2 => .ok (.rt v) env2 h2
      | .exc e env2 h2 => .exc e env2 h2
      | .stuck => .stuck
def whileL (c : Ev → Hi → R Bool) (body : Ev → Hi → RS) : Nat → Ev → Hi → RS
  | 0, _, _ => .stuck
  | n + 1, env, h => (c env h).toS env fun b h1 => if b then
      match body env h1 with
      | .ok .nx env2 h2 => whileL c body n env2 h2
      | .ok .ct env2 h2 => whileL c body n env2 h2
      | .ok .bk env2 h2 => .ok .nx env2 h2
      | .ok (.rt v) env2 h2 => .ok (.rt v) env2 h2
      | .exc e env2 h2 => .exc e env2 h2
      | .stuck => .stuck
    else .ok .nx env h1
/-- a for over a list of the heap, that the body leaves alone -/
def forLB (ok : Hi → Bool) (body : Ev → Hi → RS) (bt : PyData → Ev → Option Ev) : List PyData → Ev → Hi → RS
  | [], env, h => if ok h then .ok .nx env h else .stuck
  | x :: r, env, h => if ok h then match bt x env with
    | none => .stuck
    | some env1 => match body env1 h with
      | .ok .nx env2 h2 => forLB ok body bt r env2 h2
      | .ok .ct env2 h2 => forLB ok body bt r env2 h2
      | .ok .bk env2 h2 => .ok .nx env2 h2
      | .ok (.rt v) env2 h2 => .ok (.rt v) env2 h2
      | .exc e env2 h2 => .exc e env2 h2
      | .stuck => .stuck
    else .stuck
def wFuel : Nat := 1000000
/-- the classes of refusals: 0 CardError, 1 BadCards, 2 BadRank, 3 BadDeed, 4 Over -/
def subC (c d : Nat) : Bool := c == d || (d == 0 && decide (c ≤ 4))
def evalKVs (cf : Calls) (env : Ev) : List (Key × Bool × E) → List (Key × Fld) → Hi → R (List (Key × Fld))
  | [], acc, h => .ok acc h
  | (k, b, e) :: r, acc, h => ((evalE cf env e h).bind unP).bind fun d h1 =>
    if b then match d with
      | .list ts => evalKVs cf env r (setKV acc k (.l ts)) h1
      | _ => .stuck
    else evalKVs cf env r (setKV acc k (.p d)) h1
def atK (k : AtK) (e : Ex) (env : Ev) (h : Hi) : RS := match e.fs, k with
  | [x], .ret j => if j < env.length then .ok (.rt (.p x)) env h else .stuck
  | [x], .set j i z => if j < env.length then .ok .nx (setSlot (setSlot env i (some (.p (.tuple [.str z, x])))) j none) h else .stuck
  | [x], .neLen j i => match slot env i, x with
    | some (.p (.tuple ts)), .int v => if j < env.length ∧ i ≠ j then (if v = (ts.length : Int) then .ok .nx (setSlot env j none) h else .ok (.rt (.p (.bool false))) env h) else .stuck
    | _, _ => .stuck
  | _, .setH j i g => if j < env.length then .ok .nx (setSlot (setSlot env i (some (.p (g e.c)))) j none) h else .stuck
  | _, .retH j g => if j < env.length then .ok (.rt (.p (g e.c))) env h else .stuck
  | _, _ => .stuck
mutual
def evalS (cf : Calls) : S → Ev → Hi → RS
  | .set i e, env, h => (evalE cf env e h).toS env fun v h1 => .ok .nx (setSlot env i (some v)) h1
  | .newD i kvs, env, h => (evalKVs cf env kvs [] h).toS env fun es h1 => .ok .nx (setSlot env i (some (.ref h1.length))) (h1 ++ [.dct es])
  | .set2 i j a b, env, h => (evalE cf env a h).toS env fun v h1 => (evalE cf env b h1).toS env fun w h2 => .ok .nx (setSlot (setSlot env i (some v)) j (some w)) h2
  | .set3 i j l a b c, env, h => (evalE cf env a h).toS env fun u h1 => (evalE cf env b h1).toS env fun v h2 => (evalE cf env c h2).toS env fun w h3 => .ok .nx (setSlot (setSlot (setSlot env i (some u)) j (some v)) l (some w)) h3
  | .unpack t e, env, h => ((evalE cf env e h).bind unP).toS env fun d h1 => match bindT t d env with
    | some env1 => .ok .nx env1 h1
    | none => .stuck
  | .setFld i j e, env, h => ((evalE cf env e h).bind unP).toS env fun d h1 => ofH env (setFldH env i j (.p d) h1)
  | .newFld i j e, env, h => ((evalE cf env e h).bind unP).toS env fun d h1 => ofH env ((listD d).bind fun ts => setFldH env i j (.l ts) h1)
  | .setKey i k e, env, h => ((evalE cf env e h).bind unP).toS env fun d h1 => ofH env (setKeyH env i k (.p d) h1)
  | .newKey i k e, env, h => ((evalE cf env e h).bind unP).toS env fun d h1 => ofH env ((listD d).bind fun ts => setKeyH env i k (.l ts) h1)
  | .setKeyD i k e, env, h => ((evalE cf env e h).bind unP).toS env fun d h1 => ((evalE cf env k h1).bind unP).toS env fun kd h2 => ofH env ((keyOf kd).bind fun q => setKeyH env i q (.p d) h2)
  | .setIx p i e, env, h => ((evalE cf env e h).bind unP).toS env fun d h1 => match getL env h1 p with
    | none => .stuck
    | some _ => ((evalE cf env i h1).bind unP).toS env fun k h2 => ofH env (setIxH env p k d h2)
  | .setIx2 i j k l a b, env, h => ((evalE cf env a h).bind unP).toS env fun d h1 => ((evalE cf env b h1).bind unP).toS env fun d2 h2 =>
    (stIx (fun env h => evalE cf env k h) (.var i) d env h2).bind fun env2 h3 => stIx (fun env h => evalE cf env l h) (.var j) d2 env2 h3
  | .app p e, env, h => match getL env h p with
    | none => .stuck
    | some _ => ((evalE cf env e h).bind unP).toS env fun d h1 => ofH env (appH env p d h1)
  | .ext p e, env, h => match getL env h p with
    | none => .stuck
    | some _ => ((evalE cf env e h).bind unP).toS env fun d h1 => ofH env (extH env p d h1)
  | .expr e, env, h => (evalE cf env e h).toS env fun _ h1 => .ok .nx env h1
  | .if_ c a b, env, h => (evalT cf env c h).toS env fun k h1 => if k then evalSs cf a env h1 else evalSs cf b env h1
  | .for_ t src body, env, h => (evalSrc cf env src h).toS env fun items h1 => forL (evalSs cf body) (bindT t) items env h1
  | .forB t i body, env, h => match lstOf env h i with
    | none => .stuck
    | some p => forLB (fun h => stillL h p.1 p.2) (evalSs cf body) (bindT t) p.2 env h
  | .while_ c body, env, h => whileL (fun e h => evalT cf e c h) (evalSs cf body) wFuel env h
  | .ret e, env, h => (evalE cf env e h).toS env fun v h1 => .ok (.rt v) env h1
  | .brk, env, h => .ok .bk env h
  | .cont, env, h => .ok .ct env h
  | .pass, env, h => .ok .nx env h
  | .raise_ c es, env, h => (evalPs cf env es h).toS env fun ds h1 => .exc ⟨c, ds⟩ env h1
  | .raiseI c f e, env, h => match cf f [.p .none] h with
    | .ok _ _ => ((evalE cf env e h).bind unP).toS env fun d h1 => .exc ⟨c, [d]⟩ env h1
    | _ => .stuck
  | .tryAt body c k, env, h => match evalSs cf body env h with
    | .exc e env1 h1 => if subC e.c c then atK k e env1 h1 else .exc e env1 h1
    | r => r
  | .try_ body hs, env, h => match evalSs cf body env h with
    | .exc e env1 h1 => evalHs cf hs e env1 h1
    | r => r
def evalSs (cf : Calls) : List S → Ev → Hi → RS
  | [], env, h => .ok .nx env h
  | s :: r, env, h => (evalS cf s env h).bind (evalSs cf r)
def evalHs (cf : Calls) : List (Nat × List S) → Ex → Ev → Hi → RS
  | [], e, env, h => .exc e env h
  | (c, body) :: r, e, env, h => if subC e.c c then evalSs cf body env h else evalHs cf r e env h
end
structure FnD where
  np : Nat
  ns : Nat
  body : List S
def startE (d : FnD) (args : List Val) : Ev := args.map some ++ List.replicate (d.ns - args.length) none
/-- behind a call: what it made goes, where it hands back data -/
def finF (n : Nat) : RS → R Val
  | .ok (.rt (.p d)) _ h => .ok (.p d) (h.take n)
  | .ok (.rt (.ref m)) _ h => .ok (.ref m) h
  | .ok .nx _ h => .ok (.p .none) (h.take n)
  | .ok _ _ _ => .stuck
  | .exc e _ h => .exc e (h.take n)
  | .stuck => .stuck
def callF (fns : Nat → Option FnD) : Nat → Calls
  | 0, _, _, _ => .stuck
  | n + 1, f, args, h => match fns f with
    | none => .stuck
    | some d => if args.length = d.np then finF h.length (evalSs (callF fns n) d.body (startE d args) h) else .stuck
end Cd
set_option Elab.async false
set_option linter.all false
set_option maxRecDepth 100000
set_option maxHeartbeats 4000000
namespace Cd
open PySem PySem.Spec PyProof.Rows L2

/-- a list that will not change: a frozen one, or one of the written part -/
def LQ (K : PySem.W.Frag) (F : Addr → Prop) (H : Hp) (a : Addr) (xs : List V) : Prop := (F a ∧ Rd H a (.lst xs)) ∨
  ∃ (o : Obj) (its : Array Value) (n : Nat), K.lookup a = some o ∧ o.cls = .type "list" ∧ o.dict = none ∧ o.data = .seq its n ∧ its.size ≤ sizeLine ∧ Vals xs its.toList
theorem LQ.sq {K : PySem.W.Frag} {F : Addr → Prop} {H : Hp} {a : Addr} {xs : List V} (h : LQ K F H a xs) : SqL K H a xs := h.elim (fun h => .inl h.2) .inr
/-- a tuple's object: no dict -/
def TupO (o : Obj) : Prop := o.cls = .type "tuple" ∧ o.dict = none
/-- a tuple whose object is known: laid so, or one of the written part -/
def StT (K : PySem.W.Frag) (H : Hp) (a : Addr) (xs : List V) : Prop := (∃ o, TupO o ∧ H a = some (.frz o (.tup xs))) ∨
  ∃ (o : Obj) (its : Array Value) (n : Nat), K.lookup a = some o ∧ o.cls = .type "tuple" ∧ o.dict = none ∧ o.data = .seq its n ∧ its.size ≤ sizeLine ∧ Vals xs its.toList
theorem StT.sq {K : PySem.W.Frag} {H : Hp} {a : Addr} {xs : List V} (h : StT K H a xs) : SqT K H a xs := by
  rcases h with ⟨o, _, h⟩ | ⟨o, its, n, h1, h2, _, h3⟩
  · exact .inl (.inr ⟨o, h⟩)
  · exact .inr ⟨o, its, n, h1, h2, h3⟩
theorem StT.of {K : PySem.W.Frag} {H : Hp} {a : Addr} {xs : List V} {o : Obj} (c : TupO o) (h : H a = some (.frz o (.tup xs))) : StT K H a xs := .inl ⟨o, c, h⟩
theorem needT_ints (ns : List Int) : needT (ns.map .int) = false := by cases ns <;> rfl
/-- a tuple, known where that is asked -/
def NdT (K : PySem.W.Frag) (H : Hp) (a : Addr) (xs : List V) (ts : List PyData) : Prop := SqT K H a xs ∧ (needT ts = true → StT K H a xs)
theorem NdT.st {K : PySem.W.Frag} {H : Hp} {a : Addr} {xs : List V} {ts : List PyData} (h : StT K H a xs) : NdT K H a xs ts := ⟨h.sq, fun _ => h⟩
theorem NdT.lo {K : PySem.W.Frag} {H : Hp} {a : Addr} {xs : List V} {ts : List PyData} (h : SqT K H a xs) (n : needT ts = false) : NdT K H a xs ts := ⟨h, fun z => by rw [n] at z; cases z⟩
mutual
inductive RF (K : PySem.W.Frag) (F : Addr → Prop) (H : Hp) : PyData → V → Prop
  | non : RF K F H .none .non
  | bl (b : Bool) : RF K F H (.bool b) (.bl b)
  | int (i : Int) : RF K F H (.int i) (.int i)
  | str (x : Str) : RF K F H (.str x) (.str x)
  | lst {a : Addr} {xs : List V} {ts : List PyData} : LQ K F H a xs → RFs K F H ts xs → RF K F H (.list ts) (.ref a)
  | tup {a : Addr} {xs : List V} {ts : List PyData} : NdT K H a xs ts → RFs K F H ts xs → RF K F H (.tuple ts) (.ref a)
inductive RFs (K : PySem.W.Frag) (F : Addr → Prop) (H : Hp) : List PyData → List V → Prop
  | nil : RFs K F H [] []
  | cons {d : PyData} {v : V} {ds : List PyData} {vs : List V} : RF K F H d v → RFs K F H ds vs → RFs K F H (d :: ds) (v :: vs)
end

/-- the state: where the objects stand, what will not change, the small heap, the abstract heap -/
structure Sx where
  φ : Nat → Nat → Addr
  F : Addr → Prop
  h : Hi
  H : Hp
  B : Addr → Prop

/-- what frozen things lean on is kept -/
structure KeepF (F : Addr → Prop) (H : Hp) (F' : Addr → Prop) (H' : Hp) : Prop where
  up : ∀ a, F a → F' a
  fz : ∀ a o, F a → H a = some o → H' a = some o
  tp : ∀ a xs, H a = some (.tup xs) → H' a = some (.tup xs)
  zz : ∀ a o u, H a = some (.frz o u) → H' a = some (.frz o u)
theorem KeepF.refl {F : Addr → Prop} {H : Hp} : KeepF F H F H := ⟨fun _ h => h, fun _ _ _ h => h, fun _ _ h => h, fun _ _ _ h => h⟩
theorem KeepF.trans {F F' F'' : Addr → Prop} {H H' H'' : Hp} (a : KeepF F H F' H') (b : KeepF F' H' F'' H'') : KeepF F H F'' H'' :=
  ⟨fun c h => b.up c (a.up c h), fun c o f h => b.fz c o (a.up c f) (a.fz c o f h), fun c xs h => b.tp c xs (a.tp c xs h), fun c o u h => b.zz c o u (a.zz c o u h)⟩
theorem KeepF.sqT {K : PySem.W.Frag} {F F' : Addr → Prop} {H H' : Hp} (k : KeepF F H F' H') {a : Addr} {xs : List V} (h : SqT K H a xs) : SqT K H' a xs := by
  rcases h with (h | ⟨o, h⟩) | h
  · exact .inl (.inl (k.tp _ _ h))
  · exact .inl (.inr ⟨o, k.zz _ _ _ h⟩)
  · exact .inr h
theorem KeepF.stT {K : PySem.W.Frag} {F F' : Addr → Prop} {H H' : Hp} (k : KeepF F H F' H') {a : Addr} {xs : List V} (h : StT K H a xs) : StT K H' a xs := h.imp (fun ⟨o, c, h⟩ => ⟨o, c, k.zz _ _ _ h⟩) fun h => h
theorem KeepF.ndT {K : PySem.W.Frag} {F F' : Addr → Prop} {H H' : Hp} (k : KeepF F H F' H') {a : Addr} {xs : List V} {ts : List PyData} (h : NdT K H a xs ts) : NdT K H' a xs ts := ⟨k.sqT h.1, fun z => k.stT (h.2 z)⟩
theorem KeepF.sqL {F F' : Addr → Prop} {H H' : Hp} (k : KeepF F H F' H') {a : Addr} {u : HO} (f : F a) (h : Rd H a u) : Rd H' a u := by
  rcases h with h | ⟨o, h⟩
  · exact .inl (k.fz _ _ f h)
  · exact .inr ⟨o, k.zz _ _ _ h⟩
theorem KeepF.lq {K : PySem.W.Frag} {F F' : Addr → Prop} {H H' : Hp} (k : KeepF F H F' H') {a : Addr} {xs : List V} (h : LQ K F H a xs) : LQ K F' H' a xs := h.elim (fun h => .inl ⟨k.up _ h.1, k.sqL h.1 h.2⟩) .inr
mutual
theorem RF.keep {K : PySem.W.Frag} {F F' : Addr → Prop} {H H' : Hp} (k : KeepF F H F' H') : ∀ {d : PyData} {v : V}, RF K F H d v → RF K F' H' d v
  | _, _, .non => .non
  | _, _, .bl b => .bl b
  | _, _, .int i => .int i
  | _, _, .str x => .str x
  | _, _, .lst s r => .lst (k.lq s) (RFs.keep k r)
  | _, _, .tup s r => .tup (k.ndT s) (RFs.keep k r)
theorem RFs.keep {K : PySem.W.Frag} {F F' : Addr → Prop} {H H' : Hp} (k : KeepF F H F' H') : ∀ {ds : List PyData} {vs : List V}, RFs K F H ds vs → RFs K F' H' ds vs
  | _, _, .nil => .nil
  | _, _, .cons r t => .cons (RF.keep k r) (RFs.keep k t)
end
mutual
/-- the same, forgetting what is frozen -/
theorem RF.loose {K : PySem.W.Frag} {F : Addr → Prop} {H : Hp} : ∀ {d : PyData} {v : V}, RF K F H d v → RF K (fun _ => True) H d v
  | _, _, .non => .non
  | _, _, .bl b => .bl b
  | _, _, .int i => .int i
  | _, _, .str x => .str x
  | _, _, .lst s r => .lst (s.elim (fun h => .inl ⟨trivial, h.2⟩) .inr) (RFs.loose r)
  | _, _, .tup s r => .tup s (RFs.loose r)
theorem RFs.loose {K : PySem.W.Frag} {F : Addr → Prop} {H : Hp} : ∀ {ds : List PyData} {vs : List V}, RFs K F H ds vs → RFs K (fun _ => True) H ds vs
  | _, _, .nil => .nil
  | _, _, .cons r t => .cons (RF.loose r) (RFs.loose t)
end
mutual
theorem RF.dp {K : PySem.W.Frag} {F : Addr → Prop} {H : Hp} : ∀ {d : PyData} {v : V}, RF K F H d v → Dp K H v d
  | _, _, .non => .non
  | _, _, .bl b => .bl b
  | _, _, .int i => .int i
  | _, _, .str x => .str x
  | _, _, .lst s r => .lst s.sq (RFs.dp r)
  | _, _, .tup s r => .tup s.1 (RFs.dp r)
theorem RFs.dp {K : PySem.W.Frag} {F : Addr → Prop} {H : Hp} : ∀ {ds : List PyData} {vs : List V}, RFs K F H ds vs → DpAll K H vs ds
  | _, _, .nil => .nil
  | _, _, .cons r t => .cons (RF.dp r) (RFs.dp t)
end
section
variable {K : PySem.W.Frag} {F F' : Addr → Prop} {H H' : Hp}
theorem RFs.length : ∀ {ds : List PyData} {vs : List V}, RFs K F H ds vs → ds.length = vs.length
  | _, _, .nil => rfl
  | _, _, .cons _ t => by simp [RFs.length t]
theorem RFs.append : ∀ {ds es : List PyData} {vs us : List V}, RFs K F H ds vs → RFs K F H es us → RFs K F H (ds ++ es) (vs ++ us)
  | _, _, _, _, .nil, s => s
  | _, _, _, _, .cons r t, s => .cons r (RFs.append t s)
theorem RFs.get : ∀ {ds : List PyData} {vs : List V} {i : Nat} {d : PyData}, RFs K F H ds vs → ds[i]? = some d → ∃ v, vs[i]? = some v ∧ RF K F H d v
  | _, _, _, _, .nil, e => by simp at e
  | _, _, 0, _, .cons r _, e => by simp at e; subst e; exact ⟨_, rfl, r⟩
  | _, _, i + 1, d, .cons _ t, e => by
    obtain ⟨v, h1, h2⟩ := RFs.get (i := i) (d := d) t (by simpa using e)
    exact ⟨v, by simpa using h1, h2⟩
theorem RFs.get' : ∀ {ds : List PyData} {vs : List V} {i : Nat} {v : V}, RFs K F H ds vs → vs[i]? = some v → ∃ d, ds[i]? = some d ∧ RF K F H d v
  | _, _, _, _, .nil, e => by simp at e
  | _, _, 0, _, .cons r _, e => by simp at e; subst e; exact ⟨_, rfl, r⟩
  | _, _, i + 1, v, .cons _ t, e => by
    obtain ⟨d, h1, h2⟩ := RFs.get' (i := i) (v := v) t (by simpa using e)
    exact ⟨d, by simpa using h1, h2⟩
theorem RFs.set {d : PyData} {v : V} (r : RF K F H d v) : ∀ {ds : List PyData} {vs : List V} (i : Nat), RFs K F H ds vs → RFs K F H (ds.set i d) (vs.set i v)
  | _, _, _, .nil => .nil
  | _, _, 0, .cons _ t => .cons r t
  | _, _, i + 1, .cons q t => .cons q (RFs.set r i t)
theorem RFs.take : ∀ {ds : List PyData} {vs : List V} (n : Nat), RFs K F H ds vs → RFs K F H (ds.take n) (vs.take n)
  | _, _, 0, _ => by simp; exact .nil
  | _, _, _ + 1, .nil => .nil
  | _, _, n + 1, .cons r t => .cons r (RFs.take n t)
theorem RFs.drop : ∀ {ds : List PyData} {vs : List V} (n : Nat), RFs K F H ds vs → RFs K F H (ds.drop n) (vs.drop n)
  | _, _, 0, r => r
  | _, _, _ + 1, .nil => .nil
  | _, _, n + 1, .cons _ t => RFs.drop n t
theorem RFs.eraseIdx : ∀ {ds : List PyData} {vs : List V} (n : Nat), RFs K F H ds vs → RFs K F H (ds.eraseIdx n) (vs.eraseIdx n)
  | _, _, _, .nil => .nil
  | _, _, 0, .cons _ t => t
  | _, _, n + 1, .cons r t => .cons r (RFs.eraseIdx n t)
theorem RFs.reverse : ∀ {ds : List PyData} {vs : List V}, RFs K F H ds vs → RFs K F H ds.reverse vs.reverse
  | _, _, .nil => .nil
  | _, _, .cons r t => by
    rw [List.reverse_cons, List.reverse_cons]
    exact (RFs.reverse t).append (.cons r .nil)
theorem RFs.rep (n : Nat) {ds : List PyData} {vs : List V} (r : RFs K F H ds vs) : RFs K F H (List.replicate n ds).flatten (List.replicate n vs).flatten := by
  induction n with
  | zero => exact .nil
  | succ n ih => rw [List.replicate_succ, List.replicate_succ, List.flatten_cons, List.flatten_cons]; exact r.append ih
theorem RFs.ofInts : ∀ (ns : List Int), RFs K F H (ns.map .int) (ns.map V.int)
  | [] => .nil
  | n :: r => .cons (.int n) (RFs.ofInts r)
theorem RFs.ints' : ∀ {ds : List PyData} {vs : List V} {ns : List Int}, RFs K F H ds vs → intsD ds = some ns → vs = ns.map V.int ∧ ds = ns.map .int
  | _, _, _, .nil, e => by simp [intsD] at e; subst e; exact ⟨rfl, rfl⟩
  | _, _, ns, .cons (d := d) (ds := ds) r t, e => by
    cases r with
    | int i =>
      simp only [intsD, Option.map_eq_some_iff] at e
      obtain ⟨ms, e1, rfl⟩ := e
      obtain ⟨h1, h2⟩ := RFs.ints' t e1
      exact ⟨by rw [h1]; rfl, by rw [h2]; rfl⟩
    | _ => simp [intsD] at e
theorem RFs.bools' : ∀ {ds : List PyData} {vs : List V} {ns : List Bool}, RFs K F H ds vs → boolsD ds = some ns → vs = ns.map V.bl ∧ ds = ns.map .bool
  | _, _, _, .nil, e => by simp [boolsD] at e; subst e; exact ⟨rfl, rfl⟩
  | _, _, ns, .cons (d := d) (ds := ds) r t, e => by
    cases r with
    | bl i =>
      simp only [boolsD, Option.map_eq_some_iff] at e
      obtain ⟨ms, e1, rfl⟩ := e
      obtain ⟨h1, h2⟩ := RFs.bools' t e1
      exact ⟨by rw [h1]; rfl, by rw [h2]; rfl⟩
    | _ => simp [boolsD] at e
theorem RF.int_inv {i : Int} {v : V} (r : RF K F H (.int i) v) : v = .int i := by cases r; rfl
theorem RF.bl_inv {b : Bool} {v : V} (r : RF K F H (.bool b) v) : v = .bl b := by cases r; rfl
theorem RF.non_inv {v : V} (r : RF K F H .none v) : v = .non := by cases r; rfl
theorem RF.str_inv {x : Str} {v : V} (r : RF K F H (.str x) v) : v = .str x := by cases r; rfl
theorem RF.lst_inv {ts : List PyData} {v : V} (r : RF K F H (.list ts) v) : ∃ a xs, v = .ref a ∧ LQ K F H a xs ∧ RFs K F H ts xs := by cases r with | lst s r => exact ⟨_, _, rfl, s, r⟩
theorem RF.tup_inv {ts : List PyData} {v : V} (r : RF K F H (.tuple ts) v) : ∃ a xs, v = .ref a ∧ SqT K H a xs ∧ RFs K F H ts xs := by cases r with | tup s r => exact ⟨_, _, rfl, s.1, r⟩
theorem RF.tup_invN {ts : List PyData} {v : V} (r : RF K F H (.tuple ts) v) : ∃ a xs, v = .ref a ∧ NdT K H a xs ts ∧ RFs K F H ts xs := by cases r with | tup s r => exact ⟨_, _, rfl, s, r⟩
end

/-- a field, or an entry, of the object n: data, or a list of its own -/
def FlR (K : PySem.W.Frag) (s : Sx) (n j : Nat) : Fld → V → Prop
  | .p d, v => RF K s.F s.H d v
  | .l ts, v => v = .ref (s.φ n (j + 1)) ∧ ∃ xs, s.H (s.φ n (j + 1)) = some (.lst xs) ∧ RFs K s.F s.H ts xs
/-- the classes: where they stand, their fields' names -/
abbrev CInf := Nat → Option (Addr × List Str)
def ObR (K : PySem.W.Frag) (CI : CInf) (s : Sx) (n : Nat) : Ob → Prop
  | .lst ts => ∃ xs, s.H (s.φ n 0) = some (.lst xs) ∧ RFs K s.F s.H ts xs
  | .dct kvs => ∃ es : List (Key × V), s.H (s.φ n 0) = some (.dK es) ∧ es.map (·.1) = kvs.map (·.1) ∧ (kvs.map (·.1)).Nodup ∧ ∀ j k f, kvs[j]? = some (k, f) → ∃ v, es[j]? = some (k, v) ∧ FlR K s n j f v
  | .ins c fs => ∃ C names dx es, CI c = some (C, names) ∧ s.H (s.φ n 0) = some (.ins C dx es) ∧ es.map (·.1) = names.take fs.length ∧ fs.length ≤ names.length ∧
      ∀ j f, fs[j]? = some f → ∃ x v, names[j]? = some x ∧ es[j]? = some (x, v) ∧ FlR K s n j f v
  | .dead => True
/-- a place that is in use -/
def Live (h : Hi) (n : Nat) : Nat → Prop
  | 0 => ∃ o, h[n]? = some o ∧ o ≠ .dead
  | j + 1 => (∃ c fs ts, h[n]? = some (.ins c fs) ∧ fs[j]? = some (.l ts)) ∨ (∃ kvs k ts, h[n]? = some (.dct kvs) ∧ kvs[j]? = some (k, .l ts))
structure HR (K : PySem.W.Frag) (CI : CInf) (s : Sx) : Prop where
  ob : ∀ n o, s.h[n]? = some o → ObR K CI s n o
  inj : ∀ n j m k, Live s.h n j → Live s.h m k → s.φ n j = s.φ m k → n = m ∧ j = k
  nf : ∀ n j, Live s.h n j → ¬ s.F (s.φ n j)
  bt : ∀ b, s.B b → (∀ n j, Live s.h n j → s.φ n j ≠ b) ∧ ¬ s.F b ∧ ∃ o, s.H b = some o
  ft : ∀ b, s.F b → ∃ o, s.H b = some o
/-- no place of the small heap -/
def NotLive (s : Sx) (b : Addr) : Prop := ∀ n j, Live s.h n j → s.φ n j ≠ b
structure Le (s s' : Sx) : Prop where
  len : s.h.length ≤ s'.h.length
  ph : ∀ n, n < s.h.length → s'.φ n 0 = s.φ n 0
  kf : KeepF s.F s.H s'.F s'.H
  fr : ∀ b, s.B b → s'.B b ∧ s'.H b = s.H b
theorem Le.refl (s : Sx) : Le s s := ⟨Nat.le_refl _, fun _ _ => rfl, .refl, fun _ h => ⟨h, rfl⟩⟩
theorem Le.trans {s s' s'' : Sx} (a : Le s s') (b : Le s' s'') : Le s s'' :=
  ⟨Nat.le_trans a.len b.len, fun n h => (b.ph n (Nat.lt_of_lt_of_le h a.len)).trans (a.ph n h), a.kf.trans b.kf, fun c h =>
    let ⟨h1, e1⟩ := a.fr c h
    let ⟨h2, e2⟩ := b.fr c h1
    ⟨h2, e2.trans e1⟩⟩
def VR (K : PySem.W.Frag) (s : Sx) : Val → V → Prop
  | .p d, x => RF K s.F s.H d x
  | .ref n, x => n < s.h.length ∧ x = .ref (s.φ n 0)
theorem VR.le {K : PySem.W.Frag} {s s' : Sx} (l : Le s s') {v : Val} {x : V} (r : VR K s v x) : VR K s' v x := by
  cases v with
  | p d => exact RF.keep l.kf r
  | ref n => exact ⟨Nat.lt_of_lt_of_le r.1 l.len, by rw [l.ph n r.1]; exact r.2⟩
structure ER (K : PySem.W.Frag) (s : Sx) (env : Ev) (σ : L2.St) : Prop where
  len : env.length = σ.length
  at_ : ∀ i v, slot env i = some v → ∃ x, σ[i]? = some (some x) ∧ VR K s v x
theorem ER.le {K : PySem.W.Frag} {s s' : Sx} (l : Le s s') {env : Ev} {σ : L2.St} (r : ER K s env σ) : ER K s' env σ :=
  ⟨r.len, fun i v e => let ⟨x, h1, h2⟩ := r.at_ i v e; ⟨x, h1, h2.le l⟩⟩
theorem slot_set_same : ∀ {env : Ev} {i : Nat} {v : Option Val}, i < env.length → slot (setSlot env i v) i = v
  | [], _, _, h => by simp at h
  | _ :: _, 0, _, _ => rfl
  | _ :: r, i + 1, v, h => slot_set_same (env := r) (i := i) (by simpa using h)
theorem slot_set_ne : ∀ {env : Ev} {i j : Nat} {v : Option Val}, j ≠ i → slot (setSlot env i v) j = slot env j
  | [], _, _, _, _ => rfl
  | _ :: _, 0, 0, _, h => absurd rfl h
  | _ :: _, 0, j + 1, _, _ => rfl
  | _ :: _, i + 1, 0, _, _ => rfl
  | _ :: r, i + 1, j + 1, v, h => slot_set_ne (env := r) (i := i) (j := j) (fun e => h (by rw [e]))
theorem setSlot_length : ∀ {env : Ev} {i : Nat} {v : Option Val}, (setSlot env i v).length = env.length
  | [], _, _ => rfl
  | _ :: _, 0, _ => rfl
  | _ :: r, i + 1, v => by simp [setSlot, setSlot_length (env := r) (i := i) (v := v)]
theorem slot_lt : ∀ {env : Ev} {i : Nat} {v : Val}, slot env i = some v → i < env.length
  | [], _, _, h => by simp [slot] at h
  | _ :: _, 0, _, _ => by simp
  | _ :: r, i + 1, v, h => by have := slot_lt (env := r) (i := i) (v := v) h; simp; omega
theorem setSlot_out : ∀ {env : Ev} {i : Nat} {v : Option Val}, env.length ≤ i → setSlot env i v = env
  | [], _, _, _ => rfl
  | _ :: _, 0, _, h => by simp at h
  | x :: r, i + 1, v, h => by simp [setSlot, setSlot_out (env := r) (i := i) (v := v) (by simpa using h)]
theorem ER.set {K : PySem.W.Frag} {s : Sx} {env : Ev} {σ : L2.St} (r : ER K s env σ) {i : Nat} {v : Val} {x : V} (q : VR K s v x) : ER K s (setSlot env i (some v)) (σ.set i (some x)) where
  len := by rw [setSlot_length, List.length_set]; exact r.len
  at_ := fun j w e => by
    by_cases hj : j = i
    · subst hj
      by_cases hl : j < env.length
      · rw [slot_set_same hl] at e
        cases e
        exact ⟨x, by rw [List.getElem?_set_self (by rw [← r.len]; exact hl)], q⟩
      · rw [setSlot_out (by omega)] at e
        exact absurd (slot_lt e) hl
    · rw [slot_set_ne hj] at e
      obtain ⟨y, h1, h2⟩ := r.at_ j w e
      exact ⟨y, by rw [List.getElem?_set_ne (Ne.symm hj)]; exact h1, h2⟩
theorem ER.unset {K : PySem.W.Frag} {s : Sx} {env : Ev} {σ : L2.St} (r : ER K s env σ) {i : Nat} : ER K s (setSlot env i none) (σ.set i none) where
  len := by rw [setSlot_length, List.length_set]; exact r.len
  at_ := fun j w e => by
    by_cases hj : j = i
    · subst hj
      by_cases hl : j < env.length
      · rw [slot_set_same hl] at e
        cases e
      · rw [setSlot_out (by omega)] at e
        exact absurd (slot_lt e) hl
    · rw [slot_set_ne hj] at e
      obtain ⟨y, h1, h2⟩ := r.at_ j w e
      exact ⟨y, by rw [List.getElem?_set_ne (Ne.symm hj)]; exact h1, h2⟩
theorem ER.wipe {K : PySem.W.Frag} {s : Sx} {env : Ev} {σ : L2.St} (r : ER K s env σ) : ∀ vs : List Nat, ER K s (wipeE env vs) (wipe σ vs)
  | [] => r
  | v :: vs => (ER.wipe r vs).unset
/-- a new thing at p -/
def Sx.put (s : Sx) (p : Addr) (o : HO) (fz : Bool) : Sx := { s with H := upd s.H p o, F := fun a => s.F a ∨ (fz = true ∧ a = p) }
theorem KeepF.put {F : Addr → Prop} {H : Hp} {p : Addr} {o : HO} {fz : Bool} (h : H p = none) : KeepF F H (fun a => F a ∨ (fz = true ∧ a = p)) (upd H p o) where
  up := fun _ f => .inl f
  fz := fun a o' _ e => by rw [upd_ne (ne_of_none e h)]; exact e
  tp := fun a o' e => by rw [upd_ne (ne_of_none e h)]; exact e
  zz := fun a o' _ e => by rw [upd_ne (ne_of_none e h)]; exact e
section
variable {K : PySem.W.Frag} {CI : CInf} {s : Sx}
/-- what stands at a place in use -/
theorem HR.there (h : HR K CI s) {n j : Nat} (l : Live s.h n j) : ∃ o, s.H (s.φ n j) = some o := by
  cases j with
  | zero =>
    obtain ⟨o, e, nd⟩ := l
    have q := h.ob n o e
    cases o with
    | lst ts => obtain ⟨xs, e, _⟩ := q; exact ⟨_, e⟩
    | dct kvs => obtain ⟨es, e, _⟩ := q; exact ⟨_, e⟩
    | ins c fs => obtain ⟨C, names, dx, es, _, e, _⟩ := q; exact ⟨_, e⟩
    | dead => exact absurd rfl nd
  | succ j =>
    rcases l with ⟨c, fs, ts, e, ef⟩ | ⟨kvs, k, ts, e, ef⟩
    · obtain ⟨C, names, dx, es, _, _, _, _, q⟩ := h.ob n _ e
      obtain ⟨x, v, _, _, _, xs, e2, _⟩ := q j _ ef
      exact ⟨_, e2⟩
    · obtain ⟨es, _, _, _, q⟩ := h.ob n _ e
      obtain ⟨v, _, _, xs, e2, _⟩ := q j _ _ ef
      exact ⟨_, e2⟩
/-- the objects in another abstract heap, where what they lean on is kept -/
theorem FlR.move {s s' : Sx} {n j : Nat} {f : Fld} {v : V} (r : FlR K s n j f v) (k : KeepF s.F s.H s'.F s'.H)
    (ph : ∀ ts, f = .l ts → s'.φ n (j + 1) = s.φ n (j + 1) ∧ ∀ xs, s.H (s.φ n (j + 1)) = some (.lst xs) → s'.H (s.φ n (j + 1)) = some (.lst xs)) : FlR K s' n j f v := by
  cases f with
  | p d => exact RF.keep k r
  | l ts =>
    obtain ⟨e, xs, hx, q⟩ := r
    obtain ⟨e1, e2⟩ := ph ts rfl
    exact ⟨by rw [e1]; exact e, xs, by rw [e1]; exact e2 xs hx, q.keep k⟩
theorem ObR.move {s s' : Sx} {n : Nat} {o : Ob} (r : ObR K CI s n o) (k : KeepF s.F s.H s'.F s'.H) (hn : s.h[n]? = some o)
    (ph : ∀ j, Live s.h n j → s'.φ n j = s.φ n j ∧ ∀ u, s.H (s.φ n j) = some u → s'.H (s.φ n j) = some u) : ObR K CI s' n o := by
  cases o with
  | lst ts =>
    obtain ⟨xs, e, q⟩ := r
    obtain ⟨e1, e2⟩ := ph 0 ⟨_, hn, by intro z; cases z⟩
    exact ⟨xs, by rw [e1]; exact e2 _ e, q.keep k⟩
  | dct kvs =>
    obtain ⟨es, e, m, nd, q⟩ := r
    obtain ⟨e1, e2⟩ := ph 0 ⟨_, hn, by intro z; cases z⟩
    refine ⟨es, by rw [e1]; exact e2 _ e, m, nd, fun j y f ef => ?_⟩
    obtain ⟨v, h1, h2⟩ := q j y f ef
    refine ⟨v, h1, h2.move k fun ts eq => ?_⟩
    subst eq
    obtain ⟨a, b⟩ := ph (j + 1) (.inr ⟨kvs, y, ts, hn, ef⟩)
    exact ⟨a, fun xs => b _⟩
  | ins c fs =>
    obtain ⟨C, names, dx, es, ci, e, m, l, q⟩ := r
    obtain ⟨e1, e2⟩ := ph 0 ⟨_, hn, by intro z; cases z⟩
    refine ⟨C, names, dx, es, ci, by rw [e1]; exact e2 _ e, m, l, fun j f ef => ?_⟩
    obtain ⟨x, v, h0, h1, h2⟩ := q j f ef
    refine ⟨x, v, h0, h1, h2.move k fun ts eq => ?_⟩
    subst eq
    obtain ⟨a, b⟩ := ph (j + 1) (.inl ⟨c, fs, ts, hn, ef⟩)
    exact ⟨a, fun xs => b _⟩
  | dead => trivial
theorem HR.notLive (h : HR K CI s) {p : Addr} (hp : s.H p = none) : NotLive s p := fun n j l e => by
  obtain ⟨o, q⟩ := h.there l
  rw [e, hp] at q; cases q
theorem HR.put (h : HR K CI s) {p : Addr} {o : HO} {fz : Bool} (hp : s.H p = none) : HR K CI (s.put p o fz) where
  ob := fun n u e => (h.ob n u e).move (KeepF.put hp) e fun j l => ⟨rfl, fun w e => by
    show upd s.H p o (s.φ n j) = some w
    rw [upd_ne (ne_of_none e hp)]; exact e⟩
  inj := h.inj
  nf := fun n j l f => by
    rcases f with f | ⟨_, f⟩
    · exact h.nf n j l f
    · obtain ⟨u, e⟩ := h.there l
      exact ne_of_none e hp f
  bt := fun b hb => by
    obtain ⟨h1, h2, u, e⟩ := h.bt b hb
    exact ⟨h1, fun f => f.elim h2 fun z => ne_of_none e hp z.2, u, by show upd s.H p o b = some u; rw [upd_ne (ne_of_none e hp)]; exact e⟩
  ft := fun b hb => by
    rcases hb with hb | ⟨_, rfl⟩
    · obtain ⟨u, e⟩ := h.ft b hb
      exact ⟨u, by show upd s.H p o b = some u; rw [upd_ne (ne_of_none e hp)]; exact e⟩
    · exact ⟨o, upd_same⟩
theorem HR.put_le (h : HR K CI s) {p : Addr} {o : HO} {fz : Bool} (hp : s.H p = none) : Le s (s.put p o fz) := ⟨Nat.le_refl _, fun _ _ => rfl, .put hp, fun b hb => by
  obtain ⟨_, _, u, e⟩ := h.bt b hb
  exact ⟨hb, by show upd s.H p o b = s.H b; rw [upd_ne (ne_of_none e hp)]⟩⟩
end
end Cd
set_option Elab.async false
set_option linter.all false
set_option maxRecDepth 100000
set_option maxHeartbeats 4000000
namespace Cd
open PySem PySem.Spec PyProof.Rows L2

structure Inf where
  ci : CInf
  xi : Nat → Option Addr
def XR (K : PySem.W.Frag) (I : Inf) (s : Sx) (e : Ex) (cls : Value) (d : Option Addr) : Prop :=
  ∃ C, I.xi e.c = some C ∧ cls = .ref C ∧ match e.fs with
    | [] => d = none
    | [x] => ∃ dx v, d = some dx ∧ s.H dx = some (.xd [("at", v)]) ∧ RF K s.F s.H x v
    | _ => False
/-- an evaluation's end, from the state s on -/
def PR {α β : Type} (K : PySem.W.Frag) (I : Inf) (W : WX) (s : Sx) (σ : L2.St) (r : R α) (Rel : Sx → α → β → Prop) (Q : β → Hp → Prop) : Prop :=
  match r with
  | .ok a h' => ∀ s' x, Le s s' → s'.h = h' → HR K I.ci s' → Rel s' a x → Q x s'.H
  | .exc e h' => ∀ s' cls d, Le s s' → s'.h = h' → HR K I.ci s' → XR K I s' e cls d → W cls d σ s'.H
  | .stuck => False
theorem PR.le {α β : Type} {K : PySem.W.Frag} {I : Inf} {W : WX} {s s1 : Sx} {σ : L2.St} {r : R α} {Rel : Sx → α → β → Prop} {Q : β → Hp → Prop} (h : PR K I W s σ r Rel Q) (l : Le s s1) : PR K I W s1 σ r Rel Q := by
  cases r with
  | ok a h' => exact fun s' x l' => h s' x (l.trans l')
  | exc e h' => exact fun s' c d l' => h s' c d (l.trans l')
  | stuck => exact h
theorem PR.mono {α β : Type} {K : PySem.W.Frag} {I : Inf} {W : WX} {s : Sx} {σ : L2.St} {r : R α} {Rel : Sx → α → β → Prop} {Q Q' : β → Hp → Prop} (h : PR K I W s σ r Rel Q) (m : ∀ x H, Q x H → Q' x H) : PR K I W s σ r Rel Q' := by
  cases r with
  | ok a h' => exact fun s' x l e hr rel => m _ _ (h s' x l e hr rel)
  | exc e h' => exact h
  | stuck => exact h
def At {α β : Type} (K : PySem.W.Frag) (I : Inf) (W : WX) (σ : L2.St) (H : Hp) (G : Sx → Prop) (r : Ev → Hi → R α) (Rel : Sx → α → β → Prop) (Q : β → Hp → Prop) : Prop :=
  ∃ env s, s.H = H ∧ HR K I.ci s ∧ ER K s env σ ∧ G s ∧ PR K I W s σ (r env s.h) Rel Q
def tE {α β : Type} (K : PySem.W.Frag) (I : Inf) (W : WX) (r : Ev → Hi → R α) (Rel : Sx → α → β → Prop) : L2.St → Hp → (β → Hp → Prop) → Prop := fun σ H Q => At K I W σ H (fun _ => True) r Rel Q
theorem At.bind {α β γ δ : Type} {K : PySem.W.Frag} {I : Inf} {W : WX} {σ : L2.St} {H : Hp} {G G' : Sx → Prop} {ev1 : Ev → Hi → R α} {ev2 : α → Ev → Hi → R γ} {Rel1 : Sx → α → β → Prop} {Rel2 : Sx → γ → δ → Prop} {Q : δ → Hp → Prop}
    (h : At K I W σ H G (fun env h => (ev1 env h).bind fun a h1 => ev2 a env h1) Rel2 Q) (mono : ∀ s s', Le s s' → G s → G' s' := by intro _ _ _ g; exact g) :
    tE K I W ev1 Rel1 σ H (fun x H1 => ∃ a, At K I W σ H1 (fun s => G' s ∧ Rel1 s a x) (ev2 a) Rel2 Q) := by
  obtain ⟨env, s, eH, hr, er, g, pr⟩ := h
  refine ⟨env, s, eH, hr, er, trivial, ?_⟩
  replace pr : PR K I W s σ ((ev1 env s.h).bind fun a h1 => ev2 a env h1) Rel2 Q := pr
  generalize ev1 env s.h = r at pr ⊢
  cases r with
  | ok a h1 =>
    intro s' x l eh hr' rel
    subst eh
    exact ⟨a, env, s', rfl, hr', er.le l, ⟨mono s s' l g, rel⟩, PR.le (r := ev2 a env s'.h) pr l⟩
  | exc e h1 => exact pr
  | stuck => exact pr
theorem _root_.L2.PE.imp {X : Cx} {e : Expr} {t t' : TE} (h : PE X e t) (i : ∀ σ H Q, t' σ H Q → t σ H Q) : PE X e t' := ⟨fun pins s σ H Q I q => h.run pins s σ H Q I (i σ H Q q)⟩
theorem _root_.L2.PT.imp {X : Cx} {e : Expr} {t t' : TT} (h : PT X e t) (i : ∀ σ H Q, t' σ H Q → t σ H Q) : PT X e t' := ⟨fun pins s σ H Q I q => h.run pins s σ H Q I (i σ H Q q)⟩
theorem _root_.L2.PA.imp {X : Cx} {e : List Expr} {t t' : TA} (h : PA X e t) (i : ∀ σ H Q, t' σ H Q → t σ H Q) : PA X e t' := ⟨fun pos pins s σ H Q I q => h.run pos pins s σ H Q I (i σ H Q q)⟩
theorem _root_.L2.PS.imp {X : Cx} {e : Stmt} {t t' : TS} (h : PS X e t) (i : ∀ D σ H, t' D σ H → t D σ H) : PS X e t' := ⟨fun pins s σ H D I q => h.run pins s σ H D I (i D σ H q)⟩
theorem _root_.L2.PSs.imp {X : Cx} {e : List Stmt} {t t' : TS} (h : PSs X e t) (i : ∀ D σ H, t' D σ H → t D σ H) : PSs X e t' := ⟨fun pins s σ H D I q => h.run pins s σ H D I (i D σ H q)⟩
theorem _root_.L2.PI.imp {X : Cx} {tg e : Expr} {t t' : TI} (h : PI X tg e t) (i : ∀ σ H Q, t' σ H Q → t σ H Q) : PI X tg e t' := ⟨fun pins s σ H Q I q => h.run pins s σ H Q I (i σ H Q q)⟩

/-- borrowed: what is read at once -/
def RB (K : PySem.W.Frag) (s : Sx) (d : PyData) (x : V) : Prop := RF K s.F s.H d x ∨ ∃ ts a xs, d = .list ts ∧ x = .ref a ∧ Rd s.H a (.lst xs) ∧ RFs K s.F s.H ts xs
def PRl (K : PySem.W.Frag) (s : Sx) (d : PyData) (x : V) : Prop := RF K s.F s.H d x
theorem PRl.le {K : PySem.W.Frag} {s s' : Sx} {d : PyData} {x : V} (l : Le s s') (r : PRl K s d x) : PRl K s' d x := RF.keep l.kf r
theorem PR.val {K : PySem.W.Frag} {I : Inf} {W : WX} {s : Sx} {σ : L2.St} {o : Option Val} {v : Val} {x : V} {Q : V → Hp → Prop} (pr : PR K I W s σ (ofO o s.h) (VR K) Q) (hr : HR K I.ci s) (e : o = some v) (r : VR K s v x) : Q x s.H := by
  subst e
  exact pr s x (.refl s) rfl hr r
theorem PR.new {K : PySem.W.Frag} {I : Inf} {W : WX} {s : Sx} {σ : L2.St} {o : Option Val} {v : Val} {p : Addr} {u : HO} {Q : V → Hp → Prop} (pr : PR K I W s σ (ofO o s.h) (VR K) Q) (hr : HR K I.ci s) (e : o = some v) (hp : s.H p = none) (r : VR K (s.put p u true) v (.ref p)) : Q (.ref p) (upd s.H p u) := by
  subst e
  exact pr (s.put p u true) _ (hr.put_le hp) rfl (hr.put hp) r
theorem PR.isSome {K : PySem.W.Frag} {I : Inf} {W : WX} {s : Sx} {σ : L2.St} {o : Option Val} {Q : V → Hp → Prop} (pr : PR K I W s σ (ofO o s.h) (VR K) Q) : ∃ v, o = Option.some v := by
  cases o with
  | none => exact pr.elim
  | some v => exact ⟨v, rfl⟩
theorem lst_new {K : PySem.W.Frag} {s : Sx} {p : Addr} {ts : List PyData} {xs : List V} (hp : s.H p = none) (r : RFs K s.F s.H ts xs) : VR K (s.put p (.lst xs) true) (.p (.list ts)) (.ref p) :=
  .lst (.inl ⟨.inr ⟨rfl, rfl⟩, Rd.of upd_same⟩) (r.keep (KeepF.put hp))
theorem tup_new {K : PySem.W.Frag} {s : Sx} {p : Addr} {ts : List PyData} {xs : List V} {b : Bool} {o : Obj} (hp : s.H p = none) (ho : TupO o) (r : RFs K s.F s.H ts xs) : VR K (s.put p (.frz o (.tup xs)) b) (.p (.tuple ts)) (.ref p) :=
  .tup (.st (.of ho upd_same)) (r.keep (KeepF.put hp))

structure Gm where
  fns : Nat → Option FnD
  defs : List (Str × Nat)
  nobs : List Str
  cons : List (Str × PyData)
  cls : List (Str × Nat × Nat)
  meths : List (Nat × Str × Nat)
  flds : List (Nat × List Str)
  excs : List (Str × Nat)
  tabs : List (Str × List (List Int × Int)) := []
  sts : List (Nat × Str × Nat) := []
  /-- defs that are handed the exception that is handled, and ask its class alone -/
  hots : List (Str × (Nat → PyData)) := []
/-- an entry of a table of the written part: a tuple of ints, an int -/
def TabEnt (K : PySem.W.Frag) (ks : List Int) (i : Int) (e : DictEntry) : Prop := ∃ (t : Addr) (tok : Tok) (o : Obj) (items : Array Value) (n : Nat), e.key = .ref t ∧ e.val = .int i tok ∧ (∀ (P : Program) (w : World), e.hash = tupleKeyHash (mixKind P w) (ks.map Sum.inl)) ∧
  K.lookup t = some o ∧ o.cls = .type "tuple" ∧ o.data = .seq items n ∧ IntsAre items.toList ks
def TabEs (K : PySem.W.Frag) : List (List Int × Int) → List DictEntry → Prop
  | [], [] => True
  | p :: ps, e :: es => TabEnt K p.1 p.2 e ∧ TabEs K ps es
  | _, _ => False
/-- a table of the written part -/
def TabK (K : PySem.W.Frag) (a : Addr) (kvs : List (List Int × Int)) : Prop := ∃ (es : Array DictEntry) (m : Nat), K.lookup a = some ⟨.type "dict", none, .dict es m, #[]⟩ ∧ TabEs K kvs es.toList ∧ (kvs.map (·.1)).Nodup
/-- an own exception class whose __init__ keeps its one argument as at -/
structure XoSt (K : PySem.W.Frag) (C : Addr) : Prop where
  oex : OexC K C
  xf : XfC K C
  no : PySem.W.findIn K (.ref C) "at" = some none
  ex : ∃ (fI : Addr) (x qual : Str) (st : Stmt) (fd : FuncData) (p1 p2 p3 p4 : Pos), PySem.W.findIn K (.ref C) "__init__" = some (some (.ref fI)) ∧ PySem.W.typeIn K (.ref fI) = some (.type "function") ∧ Fun K x qual st fI fd ∧ Binds K fd ["self", "at"] [] ∧
    FnScope ["self", "at"] ["self", "at"] (defScope st) ∧ (defScope st).names.lookup ("self" : Str) = some .local ∧ (defScope st).names.lookup ("at" : Str) = some .local ∧ defBody st = [.Assign [.Attribute (.Name "self" p1) "at" p2] (.Name "at" p3) p4]
/-- an own exception class -/
structure XcOk (K : PySem.W.Frag) (c : Nat) (C : Addr) : Prop where
  q : c ≠ 1 → PySem.W.excIn K C [.type "ValueError", .type "Exception", .type "BaseException", .type "object"] "ValueError.__new__" = true
  kC : PySem.W.keepIn K (.ref C) = true
  sb : PySem.W.subIn K (.ref C) (.type "BaseException") = some true
  ty : PySem.W.typeIn K (.ref C) = some (.type "type")
  more : c = 1 → XoSt K C
/-- what is asked of the def f, by the interpreter -/
def spF (K : PySem.W.Frag) (I : Inf) (fns : Nat → Option FnD) (n f np : Nat) : Sp := fun vs H Q E => ∃ s args, s.H = H ∧ HR K I.ci s ∧ Paired (VR K s) args vs ∧ args.length = np ∧
  match callF fns n f args s.h with
  | .ok v h' => ∀ s' x, Le s s' → s'.h = h' → HR K I.ci s' → VR K s' v x → Q x s'.H
  | .exc e h' => ∀ s' cls d, Le s s' → s'.h = h' → HR K I.ci s' → XR K I s' e cls d → E cls d s'.H
  | .stuck => False
/-- the def f of the small program stands at a -/
def FAt (P : Program) (w : World) (K : PySem.W.Frag) (mg : Str → Option Value) (base : Heap) (I : Inf) (fns : Nat → Option FnD) (n f : Nat) (a : Addr) : Prop :=
  PySem.W.keepIn K (.ref a) = true ∧ PySem.W.isFn K (.ref a) = true ∧ ∃ fd ps d, fns f = some d ∧ ps.length = d.np ∧ Binds K fd ps [] ∧ FnOk P w K mg base (L2.CX P w) (2 * n) a fd ps (spF K I fns n f d.np)
/-- a tuple whose object is known -/
def StR (K : PySem.W.Frag) (s : Sx) (ts : List PyData) (x : V) : Prop := ∃ (a : Addr) (xs : List V) (o : Obj), x = .ref a ∧ s.H a = some (.frz o (.tup xs)) ∧ o.cls = .type "tuple" ∧ o.dict = none ∧ RFs K s.F s.H ts xs
/-- the field is a list: its own, or data -/
def FldL : Option Fld → List PyData → Prop
  | some (.l us), ts => us = ts
  | some (.p d), ts => d = .list ts
  | none, _ => False
/-- what is asked of a method that tells tuple(its field j) -/
def spS (K : PySem.W.Frag) (I : Inf) (n c j : Nat) : Sp := fun vs H Q _ => 0 < n ∧ ∃ (s : Sx) (k : Nat) (fs : List Fld) (ts : List PyData), s.H = H ∧ HR K I.ci s ∧ vs = [.ref (s.φ k 0)] ∧ insAt s.h k = some (c, fs) ∧ FldL fs[j]? ts ∧
  ∀ s' x, Le s s' → s'.h = s.h → HR K I.ci s' → StR K s' ts x → Q x s'.H
/-- a promise that hangs on the exception that is handled -/
structure FnE (P : Program) (w : World) (K : PySem.W.Frag) (mg : Str → Option Value) (base : Heap) (CX : CXT) (k : Nat) (f : Addr) (fd : FuncData) (ps : List Str) (sp : Addr → Value → Option Addr → Sp) : Prop where
  len : ∀ a cls d vs H Q E, sp a cls d vs H Q E → vs.length = ps.length
  run : ∀ (A : Around) (outer : List Env) (s : Shared) (H : Hp) (args : Args) (us : List Value) (vs : List V) (Q : VK) (E : XK) (p : Addr × Obj), L2H.RoomH k A → (∃ xs : Array Value, p.2.data = .fields xs) → L2H.PinOk outer H s p → Env0 P w K mg base A outer s H →
    BindsTo s fd args (ps.zip us) → Vals vs us → sp p.1 p.2.cls p.2.dict vs H Q E → codeAny (model P w) A (.call (.ref f) args) (CR CX outer P w H s Q E) s
/-- what is asked of such a def -/
def spE (K : PySem.W.Frag) (I : Inf) (g : Nat → PyData) (a : Addr) (cls : Value) (d : Option Addr) : Sp := fun vs H Q _ => ∃ (s : Sx) (c : Nat) (C : Addr), s.H = H ∧ HR K I.ci s ∧ vs = [.ref a] ∧ I.xi c = some C ∧ cls = .ref C ∧ (d = none ∨ ∃ dx v, d = some dx ∧ H dx = some (.xd v)) ∧ s.H a = none ∧
  ∀ s' x, Le s s' → s'.h = s.h → HR K I.ci s' → RF K s'.F s'.H (g c) x → Q x s'.H
/-- a block's names; those whose cells it has made itself -/
structure Sco where
  s : Scope
  fn : Str → Bool
  top : Bool
  /-- whether nothing guards here against running round -/
  gd : Bool
structure GX (Γ : Gm) (n : Nat) (I : Inf) (N : List Str) (sc : Sco) (W : WX) (X : Cx) : Prop where
  stk : sc.top = true → X.stack = X.env :: X.outer ∧ X.env.frame = some X.env.locals
  gd : sc.gd = true → X.A.guards = some []
  hN : X.N = N
  nd : N.Nodup
  fnc : X.fn = sc.fn
  sc : X.env.scope = sc.s
  calm : X.calm = true
  tk : Takes X W
  pass : PassesOwn (model X.prog X.w) X.A X.env X.xe
  room : Room (2 * n + 1) X.A
  fn : ∀ p ∈ Γ.defs, ∃ a, X.mg p.1 = some (.ref a) ∧ FAt X.prog X.w X.K X.mg X.base I Γ.fns n p.2 a
  nob : ∀ x ∈ Γ.nobs, X.mg x = none
  con : ∀ p ∈ Γ.cons, ∃ u v, X.mg p.1 = some u ∧ RelV v u ∧ ∀ F H, RF X.K F H p.2 v
  cl : ∀ p ∈ Γ.cls, ∃ C names a, X.mg p.1 = some (.ref C) ∧ I.ci p.2.1 = some (C, names) ∧ Mk X.K C a ∧ FAt X.prog X.w X.K X.mg X.base I Γ.fns n p.2.2 a
  mt : ∀ p ∈ Γ.meths, ∃ C names a, I.ci p.1 = some (C, names) ∧ Meth X.K C p.2.1 a ∧ p.2.1 ∉ names ∧ FAt X.prog X.w X.K X.mg X.base I Γ.fns n p.2.2 a
  fl : ∀ p ∈ Γ.flds, ∃ C, I.ci p.1 = some (C, p.2) ∧ Cls X.K C ∧ p.2.Nodup ∧ p.2.length < 1000 ∧ ∀ x ∈ p.2, NoAttr X.K C x
  ci : ∀ c C names, I.ci c = some (C, names) → (c, names) ∈ Γ.flds
  xc : ∀ p ∈ Γ.excs, ∃ C, X.mg p.1 = some (.ref C) ∧ I.xi p.2 = some C ∧ XcOk X.K p.2 C
  xm : ∀ c C c' C', I.xi c = some C → I.xi c' = some C' → PySem.W.exmOne X.K (.ref C) (.ref C') = some (subC c c')
  tb : ∀ p ∈ Γ.tabs, ∃ a, X.mg p.1 = some (.ref a) ∧ TabK X.K a p.2
  st : ∀ p ∈ Γ.sts, ∃ C names a fd, I.ci p.1 = some (C, names) ∧ Meth X.K C p.2.1 a ∧ p.2.1 ∉ names ∧ Binds X.K fd ["self"] [] ∧ FnOk X.prog X.w X.K X.mg X.base (L2.CX X.prog X.w) (2 * n) a fd ["self"] (spS X.K I n p.1 p.2.2)
  ho : ∀ p ∈ Γ.hots, ∃ a fd x, X.mg p.1 = some (.ref a) ∧ PySem.W.keepIn X.K (.ref a) = true ∧ Binds X.K fd [x] [] ∧ FnE X.prog X.w X.K X.mg X.base (L2.CX X.prog X.w) 1 a fd [x] (spE X.K I p.2)
def DE (Γ : Gm) (N : List Str) (sc : Sco) (e : Expr) (a : E) : Prop :=
  ∀ n I W X, GX Γ n I N sc W X → PE X e (tE X.K I W (fun env h => evalE (callF Γ.fns n) env a h) (VR X.K))
def DB (Γ : Gm) (N : List Str) (sc : Sco) (e : Expr) (a : E) : Prop :=
  ∀ n I W X, GX Γ n I N sc W X → PE X e (tE X.K I W (fun env h => bor env h a (evalE (callF Γ.fns n) env a h)) (RB X.K))
/-- as data that stays -/
def DV (Γ : Gm) (N : List Str) (sc : Sco) (e : Expr) (a : E) : Prop :=
  ∀ n I W X, GX Γ n I N sc W X → PE X e (tE X.K I W (fun env h => (evalE (callF Γ.fns n) env a h).bind unP) (PRl X.K))
def tP (K : PySem.W.Frag) (I : Inf) (r : Ev → Hi → R Val) : TE := fun σ H Q => ∃ env s, s.H = H ∧ HR K I.ci s ∧ ER K s env σ ∧ match r env s.h with
  | .ok (.p d) h' => h' = s.h ∧ ∀ x, RF K s.F s.H d x → Q x H
  | _ => False
/-- data that is looked up, changing nothing -/
structure DP (Γ : Gm) (N : List Str) (sc : Sco) (e : Expr) (a : E) : Prop where
  run : ∀ n I W X, GX Γ n I N sc W X → PE X e (tP X.K I (fun env h => evalE (callF Γ.fns n) env a h))
  pure : ∀ cf env h, (∃ v, evalE cf env a h = .ok v h) ∨ evalE cf env a h = .stuck
def DT (Γ : Gm) (N : List Str) (sc : Sco) (e : Expr) (a : Te) : Prop :=
  ∀ n I W X, GX Γ n I N sc W X → PT X e (tE X.K I W (fun env h => evalT (callF Γ.fns n) env a h) (fun _ a x => x = a))
section
variable {Γ : Gm} {N : List Str} {sc : Sco} {x : Expr} {a : E}
theorem DE.v (h : DE Γ N sc x a) : DV Γ N sc x a := fun n I W X g => (h n I W X g).imp fun σ H Q q => by
  obtain ⟨env, s, eH, hr, er, _, pr⟩ := q
  refine ⟨env, s, eH, hr, er, trivial, ?_⟩
  replace pr : PR X.K I W s σ ((evalE (callF Γ.fns n) env a s.h).bind unP) (PRl X.K) Q := pr
  show PR X.K I W s σ (evalE (callF Γ.fns n) env a s.h) (VR X.K) Q
  generalize evalE (callF Γ.fns n) env a s.h = r at pr ⊢
  cases r with
  | ok v h1 =>
    intro s' x l eh hr' rel
    cases v with
    | p d => exact pr s' x l eh hr' rel
    | ref m => exact False.elim pr
  | exc e h1 => exact pr
  | stuck => exact pr
theorem DV.b (h : DV Γ N sc x a) (np : ∀ env h, peek env h a = none := by intros; rfl) : DB Γ N sc x a := fun n I W X g => (h n I W X g).imp fun σ H Q q => by
  obtain ⟨env, s, eH, hr, er, _, pr⟩ := q
  refine ⟨env, s, eH, hr, er, trivial, ?_⟩
  replace pr : PR X.K I W s σ (bor env s.h a (evalE (callF Γ.fns n) env a s.h)) (RB X.K) Q := pr
  show PR X.K I W s σ ((evalE (callF Γ.fns n) env a s.h).bind unP) (PRl X.K) Q
  simp only [bor, np] at pr
  generalize (evalE (callF Γ.fns n) env a s.h).bind unP = r at pr ⊢
  cases r with
  | ok v h1 => exact fun s' y l eh hr' rel => pr s' y l eh hr' (.inl rel)
  | exc e h1 => exact pr
  | stuck => exact pr
theorem DP.v (h : DP Γ N sc x a) : DV Γ N sc x a := fun n I W X g => (h.run n I W X g).imp fun σ H Q q => by
  obtain ⟨env, s, eH, hr, er, _, pr⟩ := q
  refine ⟨env, s, eH, hr, er, ?_⟩
  replace pr : PR X.K I W s σ ((evalE (callF Γ.fns n) env a s.h).bind unP) (PRl X.K) Q := pr
  show (match evalE (callF Γ.fns n) env a s.h with
  | .ok (.p d) h' => h' = s.h ∧ ∀ x, RF X.K s.F s.H d x → Q x H
  | _ => False)
  rcases h.pure (callF Γ.fns n) env s.h with ⟨v, e⟩ | e
  · rw [e] at pr ⊢
    cases v with
    | p d => exact ⟨rfl, fun y r => by rw [← eH]; exact pr s y (.refl s) rfl hr r⟩
    | ref m => exact False.elim pr
  · rw [e] at pr
    exact False.elim pr
end
section
variable {K : PySem.W.Frag} {s : Sx}
theorem RB.dp {d : PyData} {x : V} (r : RB K s d x) : Dp K s.H x d := by
  rcases r with r | ⟨ts, a, xs, rfl, rfl, h, t⟩
  · exact r.dp
  · exact .lst (.inl h) t.dp
theorem RB.strict {d : PyData} {x : V} (r : RB K s d x) (n : ∀ ts, d ≠ .list ts) : RF K s.F s.H d x := by
  rcases r with r | ⟨ts, a, xs, rfl, rfl, h, t⟩
  · exact r
  · exact absurd rfl (n ts)
theorem RB.lst {ts : List PyData} {x : V} (r : RB K s (.list ts) x) : ∃ a xs, x = .ref a ∧ SqL K s.H a xs ∧ RFs K s.F s.H ts xs := by
  rcases r with r | ⟨ts', a, xs, e, rfl, h, t⟩
  · obtain ⟨a, xs, e, h, t⟩ := r.lst_inv
    exact ⟨a, xs, e, h.sq, t⟩
  · cases e
    exact ⟨a, xs, rfl, .inl h, t⟩
theorem RB.tup {ts : List PyData} {x : V} (r : RB K s (.tuple ts) x) : ∃ a xs, x = .ref a ∧ SqT K s.H a xs ∧ RFs K s.F s.H ts xs := (r.strict (fun _ z => nomatch z)).tup_inv
theorem RB.tupN {ts : List PyData} {x : V} (r : RB K s (.tuple ts) x) : ∃ a xs, x = .ref a ∧ NdT K s.H a xs ts ∧ RFs K s.F s.H ts xs := (r.strict (fun _ z => nomatch z)).tup_invN
theorem RB.int {i : Int} {x : V} (r : RB K s (.int i) x) : x = .int i := (r.strict (fun _ z => nomatch z)).int_inv
theorem RB.bl {i : Bool} {x : V} (r : RB K s (.bool i) x) : x = .bl i := (r.strict (fun _ z => nomatch z)).bl_inv
theorem RB.str {i : Str} {x : V} (r : RB K s (.str i) x) : x = .str i := (r.strict (fun _ z => nomatch z)).str_inv
theorem RB.non {x : V} (r : RB K s .none x) : x = .non := (r.strict (fun _ z => nomatch z)).non_inv
end
/-- an operation's end: data that was there, or a new thing -/
def Fin (K : PySem.W.Frag) (s : Sx) (d : PyData) (Q : VK) : Prop :=
  (∀ z, RF K s.F s.H d z → Q z s.H) ∧ ∀ p u, s.H p = none → VR K (s.put p u true) (.p d) (.ref p) → Q (.ref p) (upd s.H p u)
theorem PR.fin {K : PySem.W.Frag} {I : Inf} {W : WX} {s : Sx} {σ : L2.St} {o : Option PyData} {Q : V → Hp → Prop} (pr : PR K I W s σ (ofO (o.map Val.p) s.h) (VR K) Q) (hr : HR K I.ci s) : ∃ d, o = some d ∧ Fin K s d Q := by
  cases o with
  | none => exact False.elim pr
  | some d => exact ⟨d, rfl, fun z r => PR.val (v := .p d) pr hr rfl r, fun p u hp r => PR.new (v := .p d) pr hr rfl hp r⟩
def Op1Ok (K : PySem.W.Frag) (r : V → Hp → VK → Prop) (o : O1) : Prop := ∀ (s : Sx) d1 d x (Q : VK), RB K s d1 x → opf1 o d1 = some d → Fin K s d Q → r x s.H Q
def Op2Ok (K : PySem.W.Frag) (r : R2) (o : O2) : Prop := ∀ (s : Sx) d1 d2 d x y (Q : VK), RB K s d1 x → RB K s d2 y → opf2 o d1 d2 = some d → Fin K s d Q → r x y s.H Q
section
variable {Γ : Gm} {N : List Str} {sc : Sco} {e ea eb ec : Expr} {a b c : E} {o : O2}
theorem op1_imp {o : O1} {r : V → Hp → VK → Prop} {n : Nat} {I : Inf} {W : WX} {X : Cx} (ok : Op1Ok X.K r o) {σ : L2.St} {H : Hp} {Q : VK} (q : tE X.K I W (fun env h => evalE (callF Γ.fns n) env (.op1 o a) h) (VR X.K) σ H Q) :
    tUn r (tE X.K I W (fun env h => bor env h a (evalE (callF Γ.fns n) env a h)) (RB X.K)) σ H Q := by
    obtain ⟨env, s, eH, hr, er, _, pr⟩ := At.bind (Rel1 := RB X.K) (ev2 := fun x env h => ofO ((opf1 o x).map Val.p) h) q
    refine ⟨env, s, eH, hr, er, trivial, ?_⟩
    refine PR.mono pr fun x H1 ⟨d, env, s, e, hr, er, ⟨_, rb⟩, pr⟩ => ?_
    subst e
    obtain ⟨d', e1, f⟩ := PR.fin (o := opf1 o d) pr hr
    exact ok s d d' x Q rb e1 f
theorem de_op1 {o : O1} {r : Cx → V → Hp → VK → Prop} (hpe : ∀ n I W X, GX Γ n I N sc W X → ∀ ta, PE X ea ta → PE X e (tUn (r X) ta)) (ok : ∀ n I W X, GX Γ n I N sc W X → Op1Ok X.K (r X) o) (ha : DB Γ N sc ea a) : DE Γ N sc e (.op1 o a) := fun n I W X g =>
  (hpe n I W X g _ (ha n I W X g)).imp fun σ H Q q => op1_imp (ok n I W X g) q
theorem op2_imp {r : R2} {n : Nat} {I : Inf} {W : WX} {X : Cx} (ok : Op2Ok X.K r o) {σ : L2.St} {H : Hp} {Q : VK} (q : tE X.K I W (fun env h => evalE (callF Γ.fns n) env (.op2 o a b) h) (VR X.K) σ H Q) :
    tOp r (tE X.K I W (fun env h => (evalE (callF Γ.fns n) env a h).bind unP) (PRl X.K)) (tE X.K I W (fun env h => bor env h b (evalE (callF Γ.fns n) env b h)) (RB X.K)) σ H Q := by
    obtain ⟨env, s, eH, hr, er, _, pr⟩ := At.bind (Rel1 := PRl X.K) (ev2 := fun x env h => (bor env h b (evalE (callF Γ.fns n) env b h)).bind fun y h2 => ofO ((opf2 o x y).map Val.p) h2) q
    refine ⟨env, s, eH, hr, er, trivial, ?_⟩
    refine PR.mono pr fun x H1 ⟨d, q⟩ => ?_
    obtain ⟨env, s, eH, hr, er, _, pr⟩ := At.bind (Rel1 := RB X.K) (G' := fun s => PRl X.K s d x) (ev2 := fun y env h2 => ofO ((opf2 o d y).map Val.p) h2) q (fun s s' l g => g.2.le l)
    refine ⟨env, s, eH, hr, er, trivial, ?_⟩
    refine PR.mono pr fun y H2 ⟨d2, env, s, e, hr, er, ⟨r1, r2⟩, pr⟩ => ?_
    subst e
    obtain ⟨d', e1, f⟩ := PR.fin (o := opf2 o d d2) pr hr
    exact ok s d d2 d' x y Q (.inl r1) r2 e1 f
theorem de_op2 {r : Cx → R2} (hpe : ∀ n I W X, GX Γ n I N sc W X → ∀ ta tb, PE X ea ta → PE X eb tb → PE X e (tOp (r X) ta tb)) (ok : ∀ n I W X, GX Γ n I N sc W X → Op2Ok X.K (r X) o) (ha : DV Γ N sc ea a) (hb : DB Γ N sc eb b) :
    DE Γ N sc e (.op2 o a b) := fun n I W X g =>
  (hpe n I W X g _ _ (ha n I W X g) (hb n I W X g)).imp fun σ H Q q => op2_imp (ok n I W X g) q
theorem op2b_imp {r : R2} {n : Nat} {I : Inf} {W : WX} {X : Cx} (ok : Op2Ok X.K r o) (hb : ∀ cf env h, (∃ v, evalE cf env b h = .ok v h) ∨ evalE cf env b h = .stuck) {σ : L2.St} {H : Hp} {Q : VK} (q : tE X.K I W (fun env h => evalE (callF Γ.fns n) env (.op2b o a b) h) (VR X.K) σ H Q) :
    tOp r (tE X.K I W (fun env h => bor env h a (evalE (callF Γ.fns n) env a h)) (RB X.K)) (tP X.K I (fun env h => evalE (callF Γ.fns n) env b h)) σ H Q := by
    obtain ⟨env, s, eH, hr, er, _, pr⟩ := At.bind (Rel1 := RB X.K) (ev2 := fun x env h => ((evalE (callF Γ.fns n) env b h).bind unP).bind fun y h2 => ofO ((opf2 o x y).map Val.p) h2) q
    refine ⟨env, s, eH, hr, er, trivial, ?_⟩
    refine PR.mono pr fun x H1 ⟨d, env, s, eH, hr, er, ⟨_, rb⟩, pr⟩ => ?_
    refine ⟨env, s, eH, hr, er, ?_⟩
    replace pr : PR X.K I W s σ (((evalE (callF Γ.fns n) env b s.h).bind unP).bind fun y h2 => ofO ((opf2 o d y).map Val.p) h2) (VR X.K) Q := pr
    show (match evalE (callF Γ.fns n) env b s.h with
    | .ok (.p d2) h' => h' = s.h ∧ ∀ y, RF X.K s.F s.H d2 y → r x y H1 Q
    | _ => False)
    rcases hb (callF Γ.fns n) env s.h with ⟨v, e⟩ | e
    · rw [e] at pr ⊢
      cases v with
      | p d2 =>
        refine ⟨rfl, fun y ry => ?_⟩
        obtain ⟨d', e1, f⟩ := PR.fin (o := opf2 o d d2) pr hr
        rw [← eH]
        exact ok s d d2 d' x y Q rb (.inl ry) e1 f
      | ref m => exact False.elim pr
    · rw [e] at pr
      exact False.elim pr
theorem de_op2b {r : Cx → R2} (hpe : ∀ n I W X, GX Γ n I N sc W X → ∀ ta tb, PE X ea ta → PE X eb tb → PE X e (tOp (r X) ta tb)) (ok : ∀ n I W X, GX Γ n I N sc W X → Op2Ok X.K (r X) o) (ha : DB Γ N sc ea a) (hb : DP Γ N sc eb b) :
    DE Γ N sc e (.op2b o a b) := fun n I W X g =>
  (hpe n I W X g _ _ (ha n I W X g) (hb.run n I W X g)).imp fun σ H Q q => op2b_imp (ok n I W X g) hb.pure q
/-- operations that make nothing -/
def Op2Pu (K : PySem.W.Frag) (r : R2) (o : O2) : Prop := ∀ (s : Sx) d1 d2 d x y (Q : VK), RB K s d1 x → RB K s d2 y → opf2 o d1 d2 = some d → (∀ z, RF K s.F s.H d z → Q z s.H) → r x y s.H Q
theorem Op2Pu.ok {K : PySem.W.Frag} {r : R2} (h : Op2Pu K r o) : Op2Ok K r o := fun s d1 d2 d x y Q r1 r2 e f => h s d1 d2 d x y Q r1 r2 e f.1
theorem de_op2d {r : Cx → R2} (hpe : ∀ n I W X, GX Γ n I N sc W X → ∀ ta tb, PE X ea ta → PE X eb tb → PE X e (tOp (r X) ta tb)) (ok : ∀ n I W X, GX Γ n I N sc W X → Op2Ok X.K (r X) o) (ha : DV Γ N sc ea a) (hb : DV Γ N sc eb b) :
    DE Γ N sc e (.op2d o a b) := fun n I W X g =>
  (hpe n I W X g _ _ (ha n I W X g) (hb n I W X g)).imp fun σ H Q q => by
    obtain ⟨env, s, eH, hr, er, _, pr⟩ := At.bind (Rel1 := PRl X.K) (ev2 := fun x env h => ((evalE (callF Γ.fns n) env b h).bind unP).bind fun y h2 => ofO ((opf2 o x y).map Val.p) h2) q
    refine ⟨env, s, eH, hr, er, trivial, ?_⟩
    refine PR.mono pr fun x H1 ⟨d, q⟩ => ?_
    obtain ⟨env, s, eH, hr, er, _, pr⟩ := At.bind (Rel1 := PRl X.K) (G' := fun s => PRl X.K s d x) (ev2 := fun y env h2 => ofO ((opf2 o d y).map Val.p) h2) q (fun s s' l g => g.2.le l)
    refine ⟨env, s, eH, hr, er, trivial, ?_⟩
    refine PR.mono pr fun y H2 ⟨d2, env, s, e, hr, er, ⟨r1, r2⟩, pr⟩ => ?_
    subst e
    obtain ⟨d', e1, f⟩ := PR.fin (o := opf2 o d d2) pr hr
    exact ok n I W X g s d d2 d' x y Q (.inl r1) (.inl r2) e1 f
theorem dp_op2d {r : Cx → R2} (hpe : ∀ n I W X, GX Γ n I N sc W X → ∀ ta tb, PE X ea ta → PE X eb tb → PE X e (tOp (r X) ta tb)) (ok : ∀ n I W X, GX Γ n I N sc W X → Op2Pu X.K (r X) o) (ha : DP Γ N sc ea a) (hb : DP Γ N sc eb b) : DP Γ N sc e (.op2d o a b) where
  run := fun n I W X g => (hpe n I W X g _ _ (ha.run n I W X g) (hb.run n I W X g)).imp fun σ H Q q => by
    obtain ⟨env, s, eH, hr, er, pr⟩ := q
    refine ⟨env, s, eH, hr, er, ?_⟩
    replace pr : (match ((evalE (callF Γ.fns n) env a s.h).bind unP).bind (fun x h1 => ((evalE (callF Γ.fns n) env b h1).bind unP).bind fun y h2 => ofO ((opf2 o x y).map Val.p) h2) with
      | .ok (.p d) h' => h' = s.h ∧ ∀ x, RF X.K s.F s.H d x → Q x H
      | _ => False) := pr
    show (match evalE (callF Γ.fns n) env a s.h with
    | .ok (.p d2) h' => h' = s.h ∧ ∀ y, RF X.K s.F s.H d2 y → tP X.K I (fun env h => evalE (callF Γ.fns n) env b h) σ H (fun y H2 => r X _ y H2 Q)
    | _ => False)
    rcases ha.pure (callF Γ.fns n) env s.h with ⟨v, e⟩ | e
    · rw [e] at pr ⊢
      cases v with
      | p d1 =>
        refine ⟨rfl, fun x rx => ⟨env, s, eH, hr, er, ?_⟩⟩
        simp only [R.bind_ok, unP] at pr
        show (match evalE (callF Γ.fns n) env b s.h with
        | .ok (.p d2) h' => h' = s.h ∧ ∀ y, RF X.K s.F s.H d2 y → r X x y H Q
        | _ => False)
        rcases hb.pure (callF Γ.fns n) env s.h with ⟨v, e⟩ | e
        · rw [e] at pr ⊢
          cases v with
          | p d2 =>
            refine ⟨rfl, fun y ry => ?_⟩
            simp only [R.bind_ok, unP] at pr
            cases e1 : opf2 o d1 d2 with
            | none => rw [e1] at pr; exact False.elim pr
            | some d' =>
              rw [e1] at pr
              rw [← eH]
              exact ok n I W X g s d1 d2 d' x y Q (.inl rx) (.inl ry) e1 fun z rz => by rw [eH]; exact pr.2 z rz
          | ref m => exact False.elim pr
        · rw [e] at pr
          exact False.elim pr
      | ref m => exact False.elim pr
    · rw [e] at pr
      exact False.elim pr
  pure := fun cf env h => by
    show (∃ v, ((evalE cf env a h).bind unP).bind (fun x h1 => ((evalE cf env b h1).bind unP).bind fun y h2 => ofO ((opf2 o x y).map Val.p) h2) = .ok v h) ∨ ((evalE cf env a h).bind unP).bind (fun x h1 => ((evalE cf env b h1).bind unP).bind fun y h2 => ofO ((opf2 o x y).map Val.p) h2) = .stuck
    rcases ha.pure cf env h with ⟨v, e⟩ | e
    · rw [e]
      cases v with
      | p d1 =>
        simp only [R.bind_ok, unP]
        rcases hb.pure cf env h with ⟨v, e⟩ | e
        · rw [e]
          cases v with
          | p d2 =>
            simp only [R.bind_ok, unP]
            cases opf2 o d1 d2 with
            | none => exact .inr rfl
            | some d => exact .inl ⟨_, rfl⟩
          | ref m => exact .inr rfl
        · rw [e]; exact .inr rfl
      | ref m => exact .inr rfl
    · rw [e]; exact .inr rfl
end
end Cd
set_option Elab.async false
set_option linter.all false
set_option maxRecDepth 100000
set_option maxHeartbeats 4000000
namespace Cd
open PySem PySem.Spec PyProof.Rows L2

structure VOk (N : List Str) (sc : Sco) (i : Nat) (x : Str) : Prop where
  hN : N[i]? = some x
  hv : Vis sc.s x
  hd : (x == ("__debug__" : Str)) = false
  hc : (x == ("__classdict__" : Str)) = false
structure GOk (sc : Sco) (x : Str) : Prop where
  gl : sc.s.names.lookup x = some .globalImplicit
  db : (x == ("__debug__" : Str)) = false
  nm : x ≠ "__name__"
section
variable {Γ : Gm} {N : List Str} {sc : Sco} {n : Nat} {I : Inf} {W : WX} {X : Cx} {i : Nat} {x : Str} {pos : Pos}
theorem VOk.pe (v : VOk N sc i x) (g : GX Γ n I N sc W X) : PE X (.Name x pos) (tVar i) := pe_var (by rw [g.hN]; exact v.hN) (by rw [g.sc]; exact v.hv) v.hd v.hc
theorem GOk.g (v : GOk sc x) (g : GX Γ n I N sc W X) : Gl X x := by
  unfold Gl Env.kindOf
  rw [g.sc]; exact v.gl
theorem de_var (v : VOk N sc i x) : DE Γ N sc (.Name x pos) (.var i) := fun n I W X g => (v.pe g).imp fun σ H Q q => by
  obtain ⟨env, s, eH, hr, er, _, pr⟩ := q
  obtain ⟨v, e⟩ := PR.isSome (o := slot env i) pr
  obtain ⟨y, h1, h2⟩ := er.at_ i v e
  exact ⟨y, h1, by rw [← eH]; exact PR.val (o := slot env i) pr hr e h2⟩
theorem dp_var (v : VOk N sc i x) : DP Γ N sc (.Name x pos) (.var i) where
  run := fun n I W X g => (v.pe g).imp fun σ H Q q => by
    obtain ⟨env, s, eH, hr, er, pr⟩ := q
    replace pr : (match ofO (slot env i) s.h with
      | .ok (.p d) h' => h' = s.h ∧ ∀ x, RF X.K s.F s.H d x → Q x H
      | _ => False) := pr
    cases e : slot env i with
    | none => rw [e] at pr; exact False.elim pr
    | some v =>
      rw [e] at pr
      cases v with
      | p d =>
        obtain ⟨y, h1, h2⟩ := er.at_ i _ e
        exact ⟨y, h1, pr.2 y h2⟩
      | ref m => exact False.elim pr
  pure := fun cf env h => by
    show (∃ v, ofO (slot env i) h = .ok v h) ∨ ofO (slot env i) h = .stuck
    cases slot env i with
    | none => exact .inr rfl
    | some v => exact .inl ⟨v, rfl⟩
theorem slotRef_of {env : Ev} {i n : Nat} (e : slotRef env i = some n) : slot env i = some (.ref n) := by
  unfold slotRef at e
  split at e
  · cases e; assumption
  · cases e
theorem listAt_of {h : Hi} {n : Nat} {ts : List PyData} (e : listAt h n = some ts) : h[n]? = some (.lst ts) := by
  unfold listAt at e
  split at e
  · cases e; assumption
  · cases e
theorem insAt_of {h : Hi} {n : Nat} {p : Nat × List Fld} (e : insAt h n = some p) : h[n]? = some (.ins p.1 p.2) := by
  unfold insAt at e
  split at e
  · cases e; assumption
  · cases e
theorem db_var (v : VOk N sc i x) : DB Γ N sc (.Name x pos) (.var i) := fun n I W X g => (v.pe g).imp fun σ H Q q => by
  obtain ⟨env, s, eH, hr, er, _, pr⟩ := q
  replace pr : PR X.K I W s σ (bor env s.h (.var i) (ofO (slot env i) s.h)) (RB X.K) Q := pr
  cases e : slot env i with
  | none =>
    have e2 : slotRef env i = none := by unfold slotRef; rw [e]
    simp only [bor, peek, lstOf, e2, e, ofO_none, Option.bind_none, Option.map_none, R.bind_stuck] at pr
    exact False.elim pr
  | some v =>
    obtain ⟨y, h1, h2⟩ := er.at_ i v e
    refine ⟨y, h1, ?_⟩
    cases v with
    | p d =>
      have e2 : slotRef env i = none := by unfold slotRef; rw [e]
      simp only [bor, peek, lstOf, e2, e, ofO_some, Option.bind_none, Option.map_none, R.bind_ok, unP] at pr
      rw [← eH]
      exact pr s y (.refl s) rfl hr (.inl h2)
    | ref m =>
      have e2 : slotRef env i = some m := by unfold slotRef; rw [e]
      cases e3 : listAt s.h m with
      | none =>
        simp only [bor, peek, lstOf, e2, e, e3, ofO_some, Option.bind_some, Option.map_none, R.bind_ok, unP] at pr
        exact False.elim pr
      | some ts =>
        simp only [bor, peek, lstOf, e2, e, e3, ofO_some, Option.bind_some, Option.map_some, R.bind_ok, unP] at pr
        obtain ⟨xs, q1, q2⟩ := hr.ob m _ (listAt_of e3)
        rw [← eH]
        exact pr s y (.refl s) rfl hr (.inr ⟨ts, _, xs, rfl, h2.2, Rd.of q1, q2⟩)
theorem dp_c {e : Expr} {d : PyData} {v : V} (hpe : ∀ X, PE X e (tC v)) (hd : ∀ K F H, RF K F H d v) : DP Γ N sc e (.lit d) where
  run := fun n I W X g => (hpe X).imp fun σ H Q ⟨env, s, eH, hr, er, pr⟩ => pr.2 v (hd _ _ _)
  pure := fun cf env h => .inl ⟨_, rfl⟩
theorem dp_int {i : Int} {j : Nat} {pos : Pos} : DP Γ N sc (.Constant (.int i) j pos) (.lit (.int i)) := dp_c (fun _ => pe_int) fun _ _ _ => .int _
theorem dp_bool {b : Bool} {j : Nat} {pos : Pos} : DP Γ N sc (.Constant (.bool b) j pos) (.lit (.bool b)) := dp_c (fun _ => pe_bl) fun _ _ _ => .bl _
theorem dp_none {j : Nat} {pos : Pos} : DP Γ N sc (.Constant .none j pos) (.lit .none) := dp_c (fun _ => pe_non) fun _ _ _ => .non
theorem dp_str {y : Str} {j : Nat} {pos : Pos} : DP Γ N sc (.Constant (.str y) j pos) (.lit (.str y)) := dp_c (fun _ => pe_str) fun _ _ _ => .str _
theorem dp_con {d : PyData} (v : GOk sc x) (hm : (x, d) ∈ Γ.cons) : DP Γ N sc (.Name x pos) (.lit d) where
  run := fun n I W X g => by
    obtain ⟨u, y, h1, h2, h3⟩ := g.con _ hm
    exact (pe_glob (v.g g) h1 h2 v.db).imp fun σ H Q ⟨env, s, eH, hr, er, pr⟩ => pr.2 y (h3 _ _)
  pure := fun cf env h => .inl ⟨_, rfl⟩
end
section
variable {Γ : Gm} {N : List Str} {sc : Sco} {e : Expr} {a : E}
theorem DP.b (h : DP Γ N sc e a) (np : ∀ env h, peek env h a = none := by intros; rfl) : DB Γ N sc e a := h.v.b np
end
section
variable {X : Cx} {pins : List (Addr × Obj)} {σ : L2.St} {H : Hp} {s : Shared} {p : Addr} {xs : List V}
def rCatR (K : PySem.W.Frag) : R2 := fun x y H Q => ∃ p q xs ys, x = .ref p ∧ y = .ref q ∧ SqL K H p xs ∧ SqL K H q ys ∧ xs.length + ys.length ≤ sizeLine ∧ ∀ l, H l = none → Q (.ref l) (upd H l (.lst (xs ++ ys)))
theorem op_catR : OpR X (binaryOp .Add) (rCatR X.K) := fun pins s σ H x y v u Q I rx ry ⟨p, q, xs, ys, ex, ey, hp, hq, hz, k⟩ => by
  subst ex ey
  obtain rfl : v = .ref p := rx
  obtain rfl : u = .ref q := ry
  obtain ⟨us, ru, pu, _⟩ := I.list hp
  obtain ⟨ws, rw', pw, _⟩ := I.list hq
  obtain ⟨⟨c1, d1, t1, l1⟩, m1, o1, k1, k2, k3⟩ := pu
  obtain ⟨⟨c2, d2, t2, l2⟩, m2, o2, k4, k5, k6⟩ := pw
  simp only at k1 k2 k3 k4 k5 k6
  subst k1 k2 k3 k4 k5 k6
  have h1 := ru.length
  have h2 := rw'.length
  refine concat_meets ⟨_, o1, rfl⟩ ⟨_, o2, rfl⟩ noFill_list_add seq_list_add PySem.F.slot_list_add PySem.F.entry_list_add (PySem.F.args_list_add_2 _ _) (list_addW p q us.toArray ws.toArray m1 m2 none none l1 l2 (by simp only [List.size_toArray]; omega)) ⟨o1, o2, ?_⟩
  rw [List.append_toArray]
  exact ⟨.ref _, _, I.lnew (ru.append rw') (by simp only [List.length_append]; omega), rfl, k _ I.fresh⟩
end
section
variable {K : PySem.W.Frag} {X : Cx}
theorem ok_sub : Op2Pu K (rI0 fun i j => .int (i - j)) .sub := fun s d1 d2 d x y Q r1 r2 e f => by
  replace e : subD d1 d2 = some d := e
  unfold subD at e
  split at e
  · cases e; rw [r1.int, r2.int]; exact ⟨_, _, rfl, rfl, f _ (.int _)⟩
  · cases e
def rModN : R2 := rI (fun _ j => j ≠ 0) fun i j => .int (i.fmod j)
theorem ok_mod : Op2Pu K rModN .mod := fun s d1 d2 d x y Q r1 r2 e f => by
  replace e : modD d1 d2 = some d := e
  unfold modD at e
  split at e
  · split at e
    · cases e
    · rename_i h
      cases e; rw [r1.int, r2.int]; exact ⟨_, _, rfl, rfl, h, f _ (.int _)⟩
  · cases e
def rDivN : R2 := rI CDivN fun i j => .int (i.fdiv j)
theorem ok_fdiv : Op2Pu K rDivN .fdiv := fun s d1 d2 d x y Q r1 r2 e f => by
  replace e : fdivD d1 d2 = some d := e
  unfold fdivD at e
  split at e
  · split at e
    · rename_i h
      simp only [Bool.and_eq_true, decide_eq_true_eq] at h
      cases e; rw [r1.int, r2.int]; exact ⟨_, _, rfl, rfl, h, f _ (.int _)⟩
    · cases e
  · cases e
/-- t + u, what it lays known -/
def rCatS (K : PySem.W.Frag) : R2 := fun x y H Q => ∃ a b xs ys, x = .ref a ∧ y = .ref b ∧ SqT K H a xs ∧ SqT K H b ys ∧ xs.length + ys.length ≤ sizeLine ∧
  (xs = [] → Q (.ref b) H) ∧ (xs ≠ [] → ys = [] → Q (.ref a) H) ∧ (xs ≠ [] → ys ≠ [] → ∀ p o, H p = none → TupO o → Q (.ref p) (upd H p (.frz o (.tup (xs ++ ys)))))
theorem op_catS {X : Cx} : OpR X (binaryOp .Add) (rCatS X.K) := by
  intro pins s σ H x y v u Q I rx ry h
  obtain ⟨a, b, xs, ys, rfl, rfl, ha, hb, hz, q0, q1, q2⟩ := h
  by_cases hx : xs = []
  · exact op_catA pins s σ H _ _ v u Q I rx ry ⟨a, b, xs, ys, rfl, rfl, ha, hb, hz, q0, fun z => absurd hx z, fun z => absurd hx z⟩
  · cases rx
    cases ry
    obtain ⟨its, r1, p1, _⟩ := I.tuple ha
    obtain ⟨its2, r2, p2, _⟩ := I.tuple hb
    refine HT.cat_tup p1 p2 (fun z => hx (r1.nil_iff.mp z)) (fun z => ⟨.ref a, H, I, rfl, q1 hx (r2.nil_iff.mp z)⟩) (fun z => ?_) (by rw [← r1.length, ← r2.length]; exact hz)
    refine ⟨.ref s.heap.objs.size, _, I.laid (t' := s.toks) (o := .frz { cls := .type "tuple", data := .seq (its ++ its2).toArray } (.tup (xs ++ ys))) (fun b ob q => Heap.get?_push_of_some _ q) (Nat.le_refl _) ?_, rfl, q2 hx (fun w => z (r2.nil_iff.mpr w)) _ _ (I.hok.fresh (Nat.le_refl _)) ⟨rfl, rfl⟩⟩
    exact ⟨Heap.get?_push_size _ rfl, by rw [List.length_append]; exact hz, _, r1.append r2, IsTup.new _ _⟩
/-- ints, texts, tuples, lists -/
def rAdd (K : PySem.W.Frag) : R2 := fun x y H Q => (((rI0 fun i j => .int (i + j)) x y H Q ∨ (∃ i j, x = .str i ∧ y = .str j ∧ i.length + j.length ≤ sizeLine ∧ Q (.str (i ++ j)) H)) ∨ rCatS K x y H Q) ∨ rCatR K x y H Q
theorem op_addA : OpR X (binaryOp .Add) (rAdd X.K) := ((op_add.or op_add_str).or op_catS).or op_catR
theorem ok_add : Op2Ok K (rAdd K) .add := fun s d1 d2 d x y Q r1 r2 e f => by
  replace e : addD d1 d2 = some d := e
  unfold addD at e
  split at e
  · cases e; rw [r1.int, r2.int]; exact .inl (.inl (.inl ⟨_, _, rfl, rfl, f.1 _ (.int _)⟩))
  · split at e
    · rename_i h
      cases e; rw [r1.str, r2.str]; exact .inl (.inl (.inr ⟨_, _, rfl, rfl, h, f.1 _ (.str _)⟩))
    · cases e
  · split at e
    · rename_i h
      cases e
      obtain ⟨a, xs, rfl, h1, q1⟩ := r1.tupN
      obtain ⟨b, ys, rfl, h2, q2⟩ := r2.tupN
      refine .inl (.inr ⟨a, b, xs, ys, rfl, rfl, h1.1, h2.1, by rw [← q1.length, ← q2.length]; exact h, fun e => ?_, fun _ e => ?_, fun _ _ p o hp ho => f.2 p _ hp (tup_new hp ho (q1.append q2))⟩)
      · subst e
        cases q1
        exact f.1 _ (.tup h2 q2)
      · subst e
        cases q2
        rw [List.append_nil] at f
        exact f.1 _ (.tup h1 q1)
    · cases e
  · split at e
    · rename_i h
      cases e
      obtain ⟨a, xs, rfl, h1, q1⟩ := r1.lst
      obtain ⟨b, ys, rfl, h2, q2⟩ := r2.lst
      exact .inr ⟨a, b, xs, ys, rfl, rfl, h1, h2, by rw [← q1.length, ← q2.length]; exact h, fun p hp => f.2 p _ hp (lst_new hp (q1.append q2))⟩
    · cases e
  · cases e
def rAddI : R2 := rI0 fun i j => .int (i + j)
theorem small64_of {i : Int} (h : small64 i = true) : -(2 ^ 64) < i ∧ i < 2 ^ 64 := by
  unfold small64 at h
  rw [decide_eq_true_eq] at h
  omega
theorem ok_mul : Op2Pu K (rI CMul fun i j => .int (i * j)) .mul := fun s d1 d2 d x y Q r1 r2 e f => by
  replace e : mulD d1 d2 = some d := e
  unfold mulD at e
  split at e
  · split at e
    · rename_i h
      cases e
      rw [r1.int, r2.int]
      refine ⟨_, _, rfl, rfl, ?_, f _ (.int _)⟩
      rcases Bool.or_eq_true _ _ ▸ h with h | h
      · exact .inl (small64_of h)
      · exact .inr (small64_of h)
    · cases e
  · cases e
def rCmpD (K : PySem.W.Frag) (f : PyData → PyData → Bool) : R2 := fun x y H Q => ∃ d e, Dp K H x d ∧ Dp K H y e ∧ cmpOk d e = true ∧ Q (.bl (f d e)) H
theorem cmpOk_of {d e : PyData} (h : cmpOk d e = true) : PySem.W.alike d e = true ∧ d ≠ .none ∧ min d.depth e.depth ≤ 64 := by
  unfold cmpOk at h
  simp only [Bool.and_eq_true, decide_eq_true_eq] at h
  refine ⟨h.1.1, fun z => ?_, h.2⟩
  rw [z] at h
  simp [isNoneD] at h
theorem op_ltG (hu : X.A.units + 64 < cLine) : OpR X (compareOp .Lt) (rCmpD X.K fun d e => PySem.W.dataLt d e) := by
  intro pins s σ H x y v u Q I rx ry h
  obtain ⟨d, e, hd, he, c, q⟩ := h
  obtain ⟨as, r1⟩ := Dp.reads I d x v hd rx
  obtain ⟨bs, r2⟩ := Dp.reads I e y u he ry
  obtain ⟨c1, c2, c3⟩ := cmpOk_of c
  exact PySem.W.lt_data r1 r2 c1 c2 (by omega) ⟨.bl _, H, I, rfl, q⟩
theorem op_gtG (hu : X.A.units + 64 < cLine) : OpR X (compareOp .Gt) (rCmpD X.K fun d e => PySem.W.dataLt e d) := by
  intro pins s σ H x y v u Q I rx ry h
  obtain ⟨d, e, hd, he, c, q⟩ := h
  obtain ⟨as, r1⟩ := Dp.reads I d x v hd rx
  obtain ⟨bs, r2⟩ := Dp.reads I e y u he ry
  obtain ⟨c1, c2, c3⟩ := cmpOk_of c
  exact PySem.W.gt_data r1 r2 c1 c2 (by omega) ⟨.bl _, H, I, rfl, q⟩
theorem op_leG (hu : X.A.units + 64 < cLine) : OpR X (compareOp .LtE) (rCmpD X.K fun d e => !PySem.W.dataLt e d) := by
  intro pins s σ H x y v u Q I rx ry h
  obtain ⟨d, e, hd, he, c, q⟩ := h
  obtain ⟨as, r1⟩ := Dp.reads I d x v hd rx
  obtain ⟨bs, r2⟩ := Dp.reads I e y u he ry
  obtain ⟨c1, c2, c3⟩ := cmpOk_of c
  exact PySem.W.le_data r1 r2 c1 c2 (by omega) ⟨.bl _, H, I, rfl, q⟩
theorem op_geG (hu : X.A.units + 64 < cLine) : OpR X (compareOp .GtE) (rCmpD X.K fun d e => !PySem.W.dataLt d e) := by
  intro pins s σ H x y v u Q I rx ry h
  obtain ⟨d, e, hd, he, c, q⟩ := h
  obtain ⟨as, r1⟩ := Dp.reads I d x v hd rx
  obtain ⟨bs, r2⟩ := Dp.reads I e y u he ry
  obtain ⟨c1, c2, c3⟩ := cmpOk_of c
  exact PySem.W.ge_data r1 r2 c1 c2 (by omega) ⟨.bl _, H, I, rfl, q⟩
/-- ints, or data -/
def rCmp (K : PySem.W.Frag) (p : Int → Int → Bool) (f : PyData → PyData → Bool) : R2 := fun x y H Q => (rI0 fun i j => .bl (p i j)) x y H Q ∨ rCmpD K f x y H Q
theorem ok_cmp {p : Int → Int → Bool} {f : PyData → PyData → Bool} {o : O2} (ho : ∀ x y, opf2 o x y = cmpD p f x y) : Op2Pu K (rCmp K p f) o := fun s d1 d2 d x y Q r1 r2 e q => by
  rw [ho] at e
  unfold cmpD at e
  split at e
  · cases e; rw [r1.int, r2.int]; exact .inl ⟨_, _, rfl, rfl, q _ (.bl _)⟩
  · split at e
    · rename_i c
      cases e
      exact .inr ⟨_, _, r1.dp, r2.dp, c, q _ (.bl _)⟩
    · cases e
def rEqA (K : PySem.W.Frag) : R2 := fun x y H Q => rEq x y H Q ∨ rEqD K x y H Q
def rNeA (K : PySem.W.Frag) : R2 := fun x y H Q => rNe x y H Q ∨ rNeD K x y H Q
theorem op_eqA (hu : X.A.units + 64 < cLine) : OpR X (compareOp .Eq) (rEqA X.K) := op_eq.or (op_eqD hu)
theorem op_neA (hu : X.A.units + 64 < cLine) : OpR X (compareOp .NotEq) (rNeA X.K) := op_ne.or (op_neD hu)
theorem eqD_cases {d1 d2 : PyData} {b : Bool} (e : eqD d1 d2 = some b) : b = PyData.eqv d1 d2 ∧ ((scalD d1 = true ∧ scalD d2 = true) ∨ (SeqAt.shaped d1 = true ∧ SeqAt.shaped d2 = true)) := by
  unfold eqD at e
  split at e
  · rename_i h
    rw [Bool.and_eq_true] at h
    cases e
    exact ⟨rfl, .inl h⟩
  · split at e
    · rename_i h
      rw [Bool.and_eq_true] at h
      cases e
      exact ⟨rfl, .inr h⟩
    · cases e
theorem scal_eq {s : Sx} {d1 d2 : PyData} {x y : V} (h1 : scalD d1 = true) (h2 : scalD d2 = true) (r1 : RB K s d1 x) (r2 : RB K s d2 y) : (scal x y = true ∧ PyData.eqv d1 d2 = decide (x = y)) ∨ (SeqAt.shaped d1 = true ∧ SeqAt.shaped d2 = true) := by
  cases d1 with
  | none =>
    rw [r1.non]
    cases d2 with
    | none => rw [r2.non]; exact .inl ⟨rfl, rfl⟩
    | bool b => rw [r2.bl]; exact .inl ⟨rfl, rfl⟩
    | int b => rw [r2.int]; exact .inl ⟨rfl, rfl⟩
    | str b => rw [r2.str]; exact .inl ⟨rfl, rfl⟩
    | _ => cases h2
  | bool a =>
    rw [r1.bl]
    cases d2 with
    | none => rw [r2.non]; exact .inl ⟨rfl, rfl⟩
    | bool b => rw [r2.bl]; exact .inl ⟨rfl, by rw [dec_bl]; rfl⟩
    | int b => exact .inr ⟨rfl, rfl⟩
    | str b => rw [r2.str]; exact .inl ⟨rfl, rfl⟩
    | _ => cases h2
  | int a =>
    rw [r1.int]
    cases d2 with
    | none => rw [r2.non]; exact .inl ⟨rfl, rfl⟩
    | bool b => exact .inr ⟨rfl, rfl⟩
    | int b => rw [r2.int]; exact .inl ⟨rfl, by rw [dec_int]; rfl⟩
    | str b => rw [r2.str]; exact .inl ⟨rfl, rfl⟩
    | _ => cases h2
  | str a =>
    rw [r1.str]
    cases d2 with
    | none => rw [r2.non]; exact .inl ⟨rfl, rfl⟩
    | bool b => rw [r2.bl]; exact .inl ⟨rfl, rfl⟩
    | int b => rw [r2.int]; exact .inl ⟨rfl, rfl⟩
    | str b => rw [r2.str]; exact .inl ⟨rfl, by rw [dec_str]; rfl⟩
    | _ => cases h2
  | _ => cases h1
theorem ok_eq : Op2Pu K (rEqA K) .eq := fun s d1 d2 d x y Q r1 r2 e f => by
  replace e : (eqD d1 d2).map PyData.bool = some d := e
  rw [Option.map_eq_some_iff] at e
  obtain ⟨b, e, rfl⟩ := e
  obtain ⟨rfl, h⟩ := eqD_cases e
  have sh : SeqAt.shaped d1 = true ∧ SeqAt.shaped d2 = true → rEqA K x y s.H Q := fun h => .inr ⟨_, _, r1.dp, r2.dp, h.1, h.2, f _ (.bl _)⟩
  rcases h with ⟨h1, h2⟩ | h
  · rcases scal_eq h1 h2 r1 r2 with ⟨a, b⟩ | h
    · exact .inl ⟨a, by rw [← b]; exact f _ (.bl _)⟩
    · exact sh h
  · exact sh h
theorem ok_ne : Op2Pu K (rNeA K) .ne := fun s d1 d2 d x y Q r1 r2 e f => by
  replace e : (eqD d1 d2).map (fun b => PyData.bool !b) = some d := e
  rw [Option.map_eq_some_iff] at e
  obtain ⟨b, e, rfl⟩ := e
  obtain ⟨rfl, h⟩ := eqD_cases e
  have sh : SeqAt.shaped d1 = true ∧ SeqAt.shaped d2 = true → rNeA K x y s.H Q := fun h => .inr ⟨_, _, r1.dp, r2.dp, h.1, h.2, f _ (.bl _)⟩
  rcases h with ⟨h1, h2⟩ | h
  · rcases scal_eq h1 h2 r1 r2 with ⟨a, b⟩ | h
    · exact .inl ⟨a, by rw [← b]; exact f _ (.bl _)⟩
    · exact sh h
  · exact sh h
theorem RFs.atI {F : Addr → Prop} {H : Hp} {ts : List PyData} {xs : List V} (r : RFs K F H ts xs) {i : Int} {d : PyData} (e : L2.atI ts i = some d) : ∃ v, L2.atI xs i = some v ∧ RF K F H d v := by
  unfold L2.atI at e ⊢
  rw [r.length] at e
  cases h : ixN xs.length i with
  | none => rw [h] at e; cases e
  | some j =>
    rw [h] at e
    exact r.get e
theorem ok_ix : Op2Pu K (rIx K) .ix := fun s d1 d2 d x y Q r1 r2 e f => by
  replace e : ixD d1 d2 = some d := e
  unfold ixD at e
  split at e
  · obtain ⟨a, xs, rfl, h1, q1⟩ := r1.lst
    rw [r2.int]
    obtain ⟨v, e1, rv⟩ := q1.atI e
    exact .inl ⟨a, xs, _, v, rfl, rfl, h1, e1, f v rv⟩
  · obtain ⟨a, xs, rfl, h1, q1⟩ := r1.tup
    rw [r2.int]
    obtain ⟨v, e1, rv⟩ := q1.atI e
    exact .inr (.inl ⟨a, xs, _, v, rfl, rfl, h1, e1, f v rv⟩)
  · unfold strAt at e
    split at e
    · rename_i hz
      rw [Option.map_eq_some_iff] at e
      obtain ⟨c, e, rfl⟩ := e
      rw [r1.str, r2.int]
      exact .inr (.inr ⟨_, _, c, rfl, rfl, hz, e, f _ (.str _)⟩)
    · cases e
  · cases e
end
end Cd
set_option Elab.async false
set_option linter.all false
set_option maxRecDepth 100000
set_option maxHeartbeats 4000000
namespace Cd
open PySem PySem.Spec PyProof.Rows L2
section
variable {K : PySem.W.Frag} {X : Cx}
abbrev one (r : List V → Hp → VK → Prop) : V → Hp → VK → Prop := fun x H Q => r [x] H Q
theorem ok_len : Op1Ok K (one fun xs H Q => ∃ x n, xs = [x] ∧ LenV K x H n ∧ Q (.int n) H) .len := fun s d1 d x Q r e f => by
  replace e : lenD d1 = some d := e
  unfold lenD at e
  split at e
  · cases e
    obtain ⟨a, xs, rfl, h1, q1⟩ := r.lst
    exact ⟨_, _, rfl, .inl ⟨xs, h1, rfl⟩, by rw [← q1.length]; exact f.1 _ (.int _)⟩
  · cases e
    obtain ⟨a, xs, rfl, h1, q1⟩ := r.tup
    exact ⟨_, _, rfl, .inr ⟨xs, h1, rfl⟩, by rw [← q1.length]; exact f.1 _ (.int _)⟩
  · split at e
    · rename_i hz
      cases e
      rw [r.str]
      exact ⟨_, _, rfl, ⟨hz, rfl⟩, f.1 _ (.int _)⟩
    · cases e
  · cases e
theorem vals_get' : ∀ {xs : List V} {us : List Value} {i : Nat} {u : Value}, Vals xs us → us[i]? = some u → ∃ x, xs[i]? = some x ∧ RelV x u
  | _, _, _, _, .nil, e => by simp at e
  | _, _, 0, _, .cons r _, e => by simp at e; subst e; exact ⟨_, rfl, r⟩
  | _, _, i + 1, x, .cons _ t, e => by
    obtain ⟨u, h1, h2⟩ := vals_get' (i := i) (u := x) t (by simpa using e)
    exact ⟨u, by simpa using h1, h2⟩
theorem ok_any : Op1Ok K (one (rAny K)) .any := fun s d1 d x Q r e f => by
  replace e : anyS d1 = some d := e
  unfold anyS at e
  split at e
  · rw [Option.map_eq_some_iff] at e
    obtain ⟨ns, e, rfl⟩ := e
    obtain ⟨a, xs, rfl, h1, q1⟩ := r.lst
    obtain ⟨rfl, _⟩ := q1.bools' e
    exact ⟨a, ns, rfl, h1, f.1 _ (.bl _)⟩
  · cases e
theorem ok_all : Op1Ok K (one (rAll K)) .all := fun s d1 d x Q r e f => by
  replace e : allS d1 = some d := e
  unfold allS at e
  split at e
  · rw [Option.map_eq_some_iff] at e
    obtain ⟨ns, e, rfl⟩ := e
    obtain ⟨a, xs, rfl, h1, q1⟩ := r.lst
    obtain ⟨rfl, _⟩ := q1.bools' e
    exact ⟨a, ns, rfl, h1, f.1 _ (.bl _)⟩
  · cases e
/-- tuple(x), what it lays known -/
def rTupS (K : PySem.W.Frag) : List V → Hp → VK → Prop := fun xs H Q => ∃ p ys, xs = [.ref p] ∧ ((SqL K H p ys ∧ ∀ l o, H l = none → TupO o → Q (.ref l) (upd H l (.frz o (.tup ys)))) ∨ (SqT K H p ys ∧ Q (.ref p) H))
theorem call_tuple_S {X : Cx} : CallR X (.type "tuple") (rTupS X.K) := by
  intro pins s σ H xs us Q I r h
  obtain ⟨p, ys, rfl, h⟩ := h
  obtain ⟨u, rfl, rx⟩ := vals1 r
  cases rx
  rcases h with ⟨hq, q⟩ | ⟨hq, q⟩
  · obtain ⟨its, r', pl, hz⟩ := I.list hq
    have hlen := r'.length
    refine call_tuple_list pl.isList (fun h' kp => ?_) (by simp only [List.size_toArray] <;> omega)
    have I1 : Inv _ pins σ H { s with heap := h' } := I.kept (t' := s.toks) kp
    have I2 : Inv _ pins σ (upd H h'.objs.size (.frz { cls := .type "tuple", data := .seq its.toArray } (.tup ys))) { s with heap := h'.push { cls := .type "tuple", data := .seq its.toArray } } :=
      I1.laid (t' := s.toks) (fun b o e => Heap.get?_push_of_some _ e) (Nat.le_refl _) (show ObjOk _ _ _ _ _ (.frz _ (.tup ys)) from ⟨Heap.get?_push_size _ rfl, hz, its, r', IsTup.new _ _⟩)
    exact ⟨.ref h'.objs.size, _, I2, rfl, q _ _ (I1.hok.fresh (Nat.le_refl _)) ⟨rfl, rfl⟩⟩
  · obtain ⟨its, r', pl, hz⟩ := I.tuple hq
    exact call_tuple_same pl ⟨.ref p, H, I, rfl, q⟩
theorem ok_tuple : Op1Ok K (one (rTupS K)) .tuple := fun s d1 d x Q r e f => by
  replace e : tupleS d1 = some d := e
  unfold tupleS at e
  split at e
  · cases e
    obtain ⟨a, xs, rfl, h1, q1⟩ := r.lst
    exact ⟨a, xs, rfl, .inl ⟨h1, fun p o hp ho => f.2 p _ hp (tup_new hp ho q1)⟩⟩
  · cases e
    obtain ⟨a, xs, rfl, h1, q1⟩ := r.tupN
    exact ⟨a, xs, rfl, .inr ⟨h1.1, f.1 _ (.tup h1 q1)⟩⟩
  · cases e
/-- a new list of a list's, a tuple's, a text's -/
def rListA (K : PySem.W.Frag) : List V → Hp → VK → Prop := fun xs H Q => (∃ p ys, xs = [.ref p] ∧ (SqL K H p ys ∨ SqT K H p ys) ∧ ∀ l, H l = none → Q (.ref l) (upd H l (.lst ys))) ∨ (∃ z : Str, xs = [.str z] ∧ z.cps.size ≤ sizeLine ∧ ∀ l, H l = none → Q (.ref l) (upd H l (.lst (z.cps.toList.map fun c => V.str ⟨#[c]⟩))))
theorem vals_at : ∀ (xs : List V) (us : List Value), us.length = xs.length → (∀ (j : Nat) (u : Value), us[j]? = some u → ∃ x, xs[j]? = some x ∧ RelV x u) → Vals xs us
  | [], [], _, _ => .nil
  | [], _ :: _, h, _ => by cases h
  | _ :: _, [], h, _ => by cases h
  | x :: xs, u :: us, h, k => by
    refine .cons ?_ (vals_at xs us (by simpa using h) fun j w e => k (j + 1) w e)
    obtain ⟨y, e, r⟩ := k 0 u rfl
    cases e
    exact r
theorem call_list_txt {X : Cx} (hc : X.calm = true) : CallR X (.type "list") (fun xs H Q => ∃ z : Str, xs = [.str z] ∧ z.cps.size ≤ sizeLine ∧ ∀ l, H l = none → Q (.ref l) (upd H l (.lst (z.cps.toList.map fun c => V.str ⟨#[c]⟩)))) := by
  intro pins s σ H xs us Q I r h
  obtain ⟨z, rfl, hz, q⟩ := h
  obtain ⟨u, rfl, rx⟩ := vals1 r
  obtain ⟨t, rfl⟩ := rx
  refine call_list_str (I.ok.hd hc) z t (fun h' tk acc c' kp e ia => ?_) hz
  have ln : acc.toList.length = (z.cps.toList.map fun c => V.str ⟨#[c]⟩).length := by rw [List.length_map, Array.length_toList, Array.length_toList]; exact ia.1
  have rv : Vals (z.cps.toList.map fun c => V.str ⟨#[c]⟩) acc.toList := vals_at _ _ ln fun j w ew => by
    rw [Array.getElem?_toList] at ew
    obtain ⟨c, tk', e1, e2⟩ := ia.2 j w ew
    refine ⟨.str ⟨#[c]⟩, ?_, ?_⟩
    · rw [List.getElem?_map, Array.getElem?_toList, e1]; rfl
    · rw [e2]; exact ⟨_, rfl⟩
  exact ⟨.ref s.heap.objs.size, _, I.laid (t' := tk) kp (Nat.le_refl _) (show ObjOk X.prog X.w _ h' _ (.lst (z.cps.toList.map fun c => V.str ⟨#[c]⟩)) from ⟨by rw [← ln, Array.length_toList, ia.1]; exact hz, acc.toList, c', rv, e⟩), rfl, q _ (I.hok.fresh (Nat.le_refl _))⟩
theorem none_iff {s : Sx} {d : PyData} {x : V} (r : RB K s d x) : isNoneD d = decide (x = .non) := by
  rcases r with r | ⟨ts, a, xs, rfl, rfl, h, t⟩
  · cases r <;> rfl
  · rfl
theorem ok_isNone : Op1Ok K (fun x H Q => Q (.bl (decide (x = .non))) H) .isNone := fun s d1 d x Q r e f => by
  replace e : some (PyData.bool (isNoneD d1)) = some d := e
  cases e
  show Q (.bl (decide (x = .non))) s.H
  rw [← none_iff r]
  exact f.1 _ (.bl _)
theorem insI_perm (x : Int) : ∀ l : List Int, (insI x l).Perm (x :: l)
  | [] => .refl _
  | y :: r => by
    unfold insI
    split
    · exact .refl _
    · exact ((insI_perm x r).cons y).trans (.swap x y r)
theorem insI_sorted (x : Int) : ∀ l : List Int, l.Pairwise (· ≤ ·) → (insI x l).Pairwise (· ≤ ·)
  | [], _ => by simp [insI]
  | y :: r, h => by
    unfold insI
    rw [List.pairwise_cons] at h
    split
    · rename_i hx
      refine List.pairwise_cons.mpr ⟨fun z hz => ?_, List.pairwise_cons.mpr h⟩
      rcases List.mem_cons.mp hz with rfl | hz
      · exact hx
      · exact Int.le_trans hx (h.1 z hz)
    · rename_i hx
      refine List.pairwise_cons.mpr ⟨fun z hz => ?_, insI_sorted x r h.2⟩
      rcases List.mem_cons.mp ((insI_perm x r).mem_iff.mp hz) with rfl | hz
      · omega
      · exact h.1 z hz
theorem sortI_perm : ∀ l : List Int, (sortI l).Perm l
  | [] => .refl _
  | x :: r => (insI_perm x (sortI r)).trans ((sortI_perm r).cons x)
theorem sortI_sorted : ∀ l : List Int, (sortI l).Pairwise (· ≤ ·)
  | [] => .nil
  | x :: r => insI_sorted x _ (sortI_sorted r)
theorem sorted_uniq {l m : List Int} (p : l.Perm m) (h1 : l.Pairwise (· ≤ ·)) (h2 : m.Pairwise (· ≤ ·)) : l = m := p.eq_of_pairwise (fun _ _ _ _ a b => Int.le_antisymm a b) h1 h2
end
end Cd
set_option Elab.async false
set_option linter.all false
set_option maxRecDepth 100000
set_option maxHeartbeats 4000000
namespace Cd
open PySem PySem.Spec PyProof.Rows L2
section
variable {Γ : Gm} {N : List Str} {sc : Sco} {e ea eb ec : Expr} {a b c : E} {o : O2} {pos p p2 : Pos}
structure NB (Γ : Gm) (sc : Sco) (x : Str) : Prop where
  g : GOk sc x
  m : x ∈ Γ.nobs
theorem GX.hu {n : Nat} {I : Inf} {W : WX} {X : Cx} (g : GX Γ n I N sc W X) : X.A.units + 64 < cLine := g.room.units
theorem de_addD (ha : DV Γ N sc ea a) (hb : DV Γ N sc eb b) : DE Γ N sc (.BinOp ea .Add eb pos) (.op2d .add a b) := de_op2d (r := fun X => rAdd X.K) (fun _ _ _ X g ta tb h1 h2 => pe_op op_addA h1 h2) (fun _ _ _ X g => ok_add) ha hb
theorem de_subD (ha : DV Γ N sc ea a) (hb : DV Γ N sc eb b) : DE Γ N sc (.BinOp ea .Sub eb pos) (.op2d .sub a b) := de_op2d (fun _ _ _ X g ta tb h1 h2 => pe_op op_sub h1 h2) (fun _ _ _ X g => ok_sub.ok) ha hb
theorem de_mulD (ha : DV Γ N sc ea a) (hb : DV Γ N sc eb b) : DE Γ N sc (.BinOp ea .Mult eb pos) (.op2d .mul a b) := de_op2d (fun _ _ _ X g ta tb h1 h2 => pe_op op_mul h1 h2) (fun _ _ _ X g => ok_mul.ok) ha hb
theorem de_divD (ha : DV Γ N sc ea a) (hb : DV Γ N sc eb b) : DE Γ N sc (.BinOp ea .FloorDiv eb pos) (.op2d .fdiv a b) := de_op2d (r := fun _ => rDivN) (fun _ _ _ X g ta tb h1 h2 => pe_op op_fdivN h1 h2) (fun _ _ _ X g => ok_fdiv.ok) ha hb
theorem de_modD (ha : DV Γ N sc ea a) (hb : DV Γ N sc eb b) : DE Γ N sc (.BinOp ea .Mod eb pos) (.op2d .mod a b) := de_op2d (r := fun _ => rModN) (fun _ _ _ X g ta tb h1 h2 => pe_op op_modN h1 h2) (fun _ _ _ X g => ok_mod.ok) ha hb
/-- the sum of ints alone -/
theorem ok_addP {K : PySem.W.Frag} : Op2Pu K rAddI .addI := fun s d1 d2 d x y Q r1 r2 e f => by
  replace e : addI d1 d2 = some d := e
  unfold addI at e
  split at e
  · cases e; rw [r1.int, r2.int]; exact ⟨_, _, rfl, rfl, f _ (.int _)⟩
  · cases e
theorem dp_add (ha : DP Γ N sc ea a) (hb : DP Γ N sc eb b) : DP Γ N sc (.BinOp ea .Add eb pos) (.op2d .addI a b) := dp_op2d (r := fun _ => rAddI) (fun _ _ _ X g ta tb h1 h2 => pe_op op_add h1 h2) (fun _ _ _ X g => ok_addP) ha hb
theorem de_gt (ha : DV Γ N sc ea a) (hb : DB Γ N sc eb b) : DE Γ N sc (.Compare ea [.Gt] [eb] pos) (.op2 .gt a b) := de_op2 (r := fun X => rCmp X.K (fun i j => decide (j < i)) fun d e => PySem.W.dataLt e d) (fun _ _ _ X g ta tb h1 h2 => pe_cmpR (op_gt.or (op_gtG g.hu)) h1 h2 (nomark _)) (fun _ _ _ X g => (ok_cmp fun _ _ => rfl).ok) ha hb
theorem de_ge (ha : DV Γ N sc ea a) (hb : DB Γ N sc eb b) : DE Γ N sc (.Compare ea [.GtE] [eb] pos) (.op2 .ge a b) := de_op2 (r := fun X => rCmp X.K (fun i j => decide (j ≤ i)) fun d e => !PySem.W.dataLt d e) (fun _ _ _ X g ta tb h1 h2 => pe_cmpR (op_ge.or (op_geG g.hu)) h1 h2 (nomark _)) (fun _ _ _ X g => (ok_cmp fun _ _ => rfl).ok) ha hb
theorem de_eq (ha : DV Γ N sc ea a) (hb : DB Γ N sc eb b) : DE Γ N sc (.Compare ea [.Eq] [eb] pos) (.op2 .eq a b) := de_op2 (r := fun X => rEqA X.K) (fun _ _ _ X g ta tb h1 h2 => pe_cmpR (op_eqA g.hu) h1 h2 (nomark _)) (fun _ _ _ X g => ok_eq.ok) ha hb
theorem de_ix (ha : DV Γ N sc ea a) (hb : DB Γ N sc eb b) (hs : PlainIx eb := by exact fun _ _ => rfl) : DE Γ N sc (.Subscript ea eb pos) (.op2 .ix a b) := de_op2 (r := fun X => rIx X.K) (fun _ _ _ X g ta tb h1 h2 => pe_ix ix_seq h1 h2 hs) (fun _ _ _ X g => ok_ix.ok) ha hb
theorem de_ixB (ha : DB Γ N sc ea a) (hb : DP Γ N sc eb b) (hs : PlainIx eb := by exact fun _ _ => rfl) : DE Γ N sc (.Subscript ea eb pos) (.op2b .ix a b) := de_op2b (r := fun X => rIx X.K) (fun _ _ _ X g ta tb h1 h2 => pe_ix ix_seq h1 h2 hs) (fun _ _ _ X g => ok_ix.ok) ha hb
theorem dp_ix (ha : DP Γ N sc ea a) (hb : DP Γ N sc eb b) (hs : PlainIx eb := by exact fun _ _ => rfl) : DP Γ N sc (.Subscript ea eb pos) (.op2d .ix a b) := dp_op2d (r := fun X => rIx X.K) (fun _ _ _ X g ta tb h1 h2 => pe_ix ix_seq h1 h2 hs) (fun _ _ _ X g => ok_ix) ha hb
abbrev Se1 (e : Expr) : Prop := ∀ env, starEach [e] env = (false, eval e env) :: starEach [] env
abbrev Se2 (e f : Expr) : Prop := ∀ env, starEach [e, f] env = (false, eval e env) :: starEach [f] env
theorem pe_bi1 {n : Nat} {I : Inf} {W : WX} {X : Cx} {x : Str} {id : String} {r : List V → Hp → VK → Prop} {ta : TE} (g : GX Γ n I N sc W X) (hc : CallR X (.builtin id) r) (v : NB Γ sc x) (hv : bootBuiltins x = some (.builtin id)) (h : PE X ea ta) (se : Se1 ea) :
    PE X (.Call (.Name x p) [ea] [] pos) (tUn (one r) ta) := pe_callB hc (v.g.g g) (g.nob _ v.m) hv (pa_cons h pa_nil (se _)) v.g.nm v.g.db (se _)
theorem pe_ty1 {n : Nat} {I : Inf} {W : WX} {X : Cx} {x : Str} {id : String} {r : List V → Hp → VK → Prop} {ta : TE} (g : GX Γ n I N sc W X) (hc : CallR X (.type id) r) (v : NB Γ sc x) (hv : bootBuiltins x = some (.type id)) (h : PE X ea ta) (se : Se1 ea) :
    PE X (.Call (.Name x p) [ea] [] pos) (tUn (one r) ta) := pe_callTy hc (v.g.g g) (g.nob _ v.m) hv (pa_cons h pa_nil (se _)) v.g.nm v.g.db (se _)
theorem de_len (v : NB Γ sc "len") (ha : DB Γ N sc ea a) (se : Se1 ea := by intro _; rfl) : DE Γ N sc (.Call (.Name "len" p) [ea] [] pos) (.op1 .len a) := de_op1 (fun _ _ _ X g ta h => pe_bi1 g call_len v boot_len h se) (fun _ _ _ X g => ok_len) ha
theorem de_any (v : NB Γ sc "any") (ha : DB Γ N sc ea a) (se : Se1 ea := by intro _; rfl) : DE Γ N sc (.Call (.Name "any" p) [ea] [] pos) (.op1 .any a) := de_op1 (fun _ _ _ X g ta h => pe_bi1 g (cr_any g.calm) v (by decide +kernel) h se) (fun _ _ _ X g => ok_any) ha
theorem de_all (v : NB Γ sc "all") (ha : DB Γ N sc ea a) (se : Se1 ea := by intro _; rfl) : DE Γ N sc (.Call (.Name "all" p) [ea] [] pos) (.op1 .all a) := de_op1 (fun _ _ _ X g ta h => pe_bi1 g (cr_all g.calm) v (by decide +kernel) h se) (fun _ _ _ X g => ok_all) ha
theorem de_tuple (v : NB Γ sc "tuple") (ha : DB Γ N sc ea a) (se : Se1 ea := by intro _; rfl) : DE Γ N sc (.Call (.Name "tuple" p) [ea] [] pos) (.op1 .tuple a) := de_op1 (fun _ _ _ X g ta h => pe_ty1 g call_tuple_S v (by decide +kernel) h se) (fun _ _ _ X g => ok_tuple) ha
theorem de_isNone {j : Nat} (ha : DB Γ N sc ea a) : DE Γ N sc (.Compare ea [.Is] [.Constant .none j p] pos) (.op1 .isNone a) := de_op1 (r := fun _ x H Q => Q (.bl (decide (x = .non))) H) (fun _ _ _ X g ta h => pe_cmp (pc_isN h) (nobehind _ (by decide) (by decide))) (fun _ _ _ X g => ok_isNone) ha
end
section
variable {Γ : Gm} {N : List Str} {sc : Sco} {e ea eb ec : Expr} {a b c : E} {ta tb : Te} {pos p p2 : Pos} {rest : List Expr}
theorem truth_rb {K : PySem.W.Frag} {s : Sx} {d : PyData} {x : V} {k : Bool} (r : RB K s d x) (e : truthD d = some k) : TruV K x s.H k := by
  unfold truthD at e
  split at e
  · cases e; rw [r.non]; rfl
  · cases e; rw [r.bl]; rfl
  · cases e; rw [r.int]; rfl
  · cases e
    obtain ⟨a, xs, rfl, h, q⟩ := r.lst
    exact .inl ⟨xs, h, by cases q <;> rfl⟩
  · cases e
    obtain ⟨a, xs, rfl, h, q⟩ := r.tup
    exact .inr (.inl ⟨xs, h, by cases q <;> rfl⟩)
  · split at e
    · rename_i hz
      cases e; rw [r.str]; exact ⟨hz, rfl⟩
    · cases e
  · cases e
/-- an expression as a test -/
theorem dt_val (ha : DB Γ N sc ea a) (he : ∀ env whole, isTrue ea env whole = (do let v ← whole; standAt ea.pos; holding [v] (truthy v)) := by intro _ _; rfl) : DT Γ N sc ea (.val a) := fun n I W X g =>
  (pt_truth (ha n I W X g) (he _)).imp fun σ H Q q => by
    obtain ⟨env, s, eH, hr, er, _, pr⟩ := At.bind (Rel1 := RB X.K) (ev2 := fun x env h => ofO (truthD x) h) q
    refine ⟨env, s, eH, hr, er, trivial, ?_⟩
    refine PR.mono pr fun x H1 ⟨d, env, s, e, hr, er, ⟨_, rb⟩, pr⟩ => ?_
    replace pr : PR X.K I W s σ (ofO (truthD d) s.h) _ Q := pr
    cases e1 : truthD d with
    | none => rw [e1] at pr; exact False.elim pr
    | some k =>
      rw [e1] at pr
      subst e
      exact ⟨k, truth_rb rb e1, pr s k (.refl s) rfl hr rfl⟩
def BoolE (a : E) : Prop := ∀ cf env h v h', evalE cf env a h = .ok v h' → ∃ k, v = .p (.bool k)
theorem boolR {α : Type} {r : R α} {k : α → Hi → R Val} {v : Val} {h' : Hi} (hk : ∀ x h, k x h = .ok v h' → ∃ b, v = .p (.bool b)) (e : r.bind k = .ok v h') : ∃ b, v = .p (.bool b) := by
  cases r with
  | ok a h => exact hk a h e
  | exc e2 h => cases e
  | stuck => cases e
theorem bool_ofO {o : Option PyData} {h h' : Hi} {v : Val} (hb : ∀ d, o = some d → ∃ k, d = .bool k) (e : ofO (o.map Val.p) h = .ok v h') : ∃ b, v = .p (.bool b) := by
  cases o with
  | none => cases e
  | some d =>
    obtain ⟨k, rfl⟩ := hb d rfl
    cases e
    exact ⟨k, rfl⟩
theorem cmp_bool {p : Int → Int → Bool} {f : PyData → PyData → Bool} {x y d : PyData} (e : cmpD p f x y = some d) : ∃ k, d = .bool k := by
  unfold cmpD at e
  split at e
  · cases e; exact ⟨_, rfl⟩
  · split at e
    · cases e; exact ⟨_, rfl⟩
    · cases e
theorem eq_bool {o : Option Bool} {f : Bool → Bool} {d : PyData} (e : o.map (fun b => PyData.bool (f b)) = some d) : ∃ k, d = .bool k := by
  rw [Option.map_eq_some_iff] at e
  obtain ⟨b, _, rfl⟩ := e
  exact ⟨_, rfl⟩
theorem boolE_op1 {o : O1} (hb : ∀ x d, opf1 o x = some d → ∃ k, d = .bool k) : BoolE (.op1 o a) := fun cf env h v h' e => boolR (r := bor env h a (evalE cf env a h)) (k := fun x h1 => ofO ((opf1 o x).map Val.p) h1) (fun x h1 e => bool_ofO (hb x) e) e
theorem boolE_op2 {o : O2} (hb : ∀ x y d, opf2 o x y = some d → ∃ k, d = .bool k) : BoolE (.op2 o a b) := fun cf env h v h' e => boolR (r := (evalE cf env a h).bind unP) (k := fun x h1 => (bor env h1 b (evalE cf env b h1)).bind fun y h2 => ofO ((opf2 o x y).map Val.p) h2)
  (fun x h1 e => boolR (k := fun y h2 => ofO ((opf2 o x y).map Val.p) h2) (fun y h2 e => bool_ofO (hb x y) e) e) e
theorem test_imp {n : Nat} {I : Inf} {W : WX} {X : Cx} (hb : BoolE a) (np : ∀ env h, peek env h a = none) {σ : L2.St} {H : Hp} {Q : Bool → Hp → Prop} (q : tE X.K I W (fun env h => evalT (callF Γ.fns n) env (.val a) h) (fun _ a x => x = a) σ H Q) :
    tE X.K I W (fun env h => evalE (callF Γ.fns n) env a h) (VR X.K) σ H (fun z H1 => ∃ k, z = .bl k ∧ Q k H1) := by
  obtain ⟨env, s, eH, hr, er, _, pr⟩ := q
  refine ⟨env, s, eH, hr, er, trivial, ?_⟩
  replace pr : PR X.K I W s σ ((bor env s.h a (evalE (callF Γ.fns n) env a s.h)).bind fun d h1 => ofO (truthD d) h1) (fun _ a x => x = a) Q := pr
  simp only [bor, np] at pr
  have hb' := hb (callF Γ.fns n) env s.h
  show PR X.K I W s σ (evalE (callF Γ.fns n) env a s.h) (VR X.K) _
  generalize evalE (callF Γ.fns n) env a s.h = r at pr hb' ⊢
  cases r with
  | ok v h1 =>
    obtain ⟨k, rfl⟩ := hb' v h1 rfl
    intro s' x l eh hr' rv
    exact ⟨k, RF.bl_inv rv, pr s' k l eh hr' rfl⟩
  | exc e h1 => exact pr
  | stuck => exact pr
theorem dt_op1 {o : O1} {r : Cx → V → Hp → VK → Prop} (hpt : ∀ n I W X, GX Γ n I N sc W X → ∀ t, PE X ea t → PT X e (fun σ H Q => tUn (r X) t σ H fun z H1 => ∃ k, z = .bl k ∧ Q k H1)) (ok : ∀ n I W X, GX Γ n I N sc W X → Op1Ok X.K (r X) o) (hb : ∀ x d, opf1 o x = some d → ∃ k, d = .bool k) (ha : DB Γ N sc ea a) : DT Γ N sc e (.val (.op1 o a)) := fun n I W X g =>
  (hpt n I W X g _ (ha n I W X g)).imp fun σ H Q q => op1_imp (ok n I W X g) (test_imp (boolE_op1 hb) (fun _ _ => rfl) q)
theorem dt_op2 {o : O2} {r : Cx → R2} (hpt : ∀ n I W X, GX Γ n I N sc W X → ∀ t t2, PE X ea t → PE X eb t2 → PT X e (tTest (tOp (r X) t t2))) (ok : ∀ n I W X, GX Γ n I N sc W X → Op2Ok X.K (r X) o) (hb : ∀ x y d, opf2 o x y = some d → ∃ k, d = .bool k) (ha : DV Γ N sc ea a) (hb2 : DB Γ N sc eb b) : DT Γ N sc e (.val (.op2 o a b)) := fun n I W X g =>
  (hpt n I W X g _ _ (ha n I W X g) (hb2 n I W X g)).imp fun σ H Q q => op2_imp (ok n I W X g) (test_imp (boolE_op2 hb) (fun _ _ => rfl) q)
theorem dt_lt (ha : DV Γ N sc ea a) (hb : DB Γ N sc eb b) : DT Γ N sc (.Compare ea [.Lt] [eb] pos) (.val (.op2 .lt a b)) := dt_op2 (r := fun X => rCmp X.K (fun i j => decide (i < j)) fun d e => PySem.W.dataLt d e) (fun _ _ _ X g ta tb h1 h2 => pt_cmpR (op_lt.or (op_ltG g.hu)) h1 h2 (nomark _)) (fun _ _ _ X g => (ok_cmp fun _ _ => rfl).ok) (fun _ _ _ e => cmp_bool e) ha hb
theorem dt_gt (ha : DV Γ N sc ea a) (hb : DB Γ N sc eb b) : DT Γ N sc (.Compare ea [.Gt] [eb] pos) (.val (.op2 .gt a b)) := dt_op2 (r := fun X => rCmp X.K (fun i j => decide (j < i)) fun d e => PySem.W.dataLt e d) (fun _ _ _ X g ta tb h1 h2 => pt_cmpR (op_gt.or (op_gtG g.hu)) h1 h2 (nomark _)) (fun _ _ _ X g => (ok_cmp fun _ _ => rfl).ok) (fun _ _ _ e => cmp_bool e) ha hb
theorem dt_eq (ha : DV Γ N sc ea a) (hb : DB Γ N sc eb b) : DT Γ N sc (.Compare ea [.Eq] [eb] pos) (.val (.op2 .eq a b)) := dt_op2 (r := fun X => rEqA X.K) (fun _ _ _ X g ta tb h1 h2 => pt_cmpR (op_eqA g.hu) h1 h2 (nomark _)) (fun _ _ _ X g => ok_eq.ok) (fun _ _ _ e => eq_bool (f := id) e) ha hb
theorem dt_ne (ha : DV Γ N sc ea a) (hb : DB Γ N sc eb b) : DT Γ N sc (.Compare ea [.NotEq] [eb] pos) (.val (.op2 .ne a b)) := dt_op2 (r := fun X => rNeA X.K) (fun _ _ _ X g ta tb h1 h2 => pt_cmpR (op_neA g.hu) h1 h2 (nomark _)) (fun _ _ _ X g => ok_ne.ok) (fun _ _ _ e => eq_bool (f := not) e) ha hb
theorem dt_isNone {j : Nat} (ha : DB Γ N sc ea a) : DT Γ N sc (.Compare ea [.Is] [.Constant .none j p] pos) (.val (.op1 .isNone a)) := dt_op1 (r := fun _ x H Q => Q (.bl (decide (x = .non))) H) (fun _ _ _ X g ta h => pt_cmp (pc_isN h) (nobehind _ (by decide) (by decide))) (fun _ _ _ X g => ok_isNone) (fun x d e => by cases e; exact ⟨_, rfl⟩) ha
theorem dt_not (ha : DT Γ N sc ea ta) : DT Γ N sc (.UnaryOp .Not ea pos) (.not_ ta) := fun n I W X g =>
  (pt_not (ha n I W X g)).imp fun σ H Q q => by
    obtain ⟨env, s, eH, hr, er, _, pr⟩ := At.bind (Rel1 := fun _ a x => x = a) (ev2 := fun x env h => R.ok (!x) h) q
    refine ⟨env, s, eH, hr, er, trivial, ?_⟩
    refine PR.mono pr fun x H1 ⟨d, env, s, e, hr, er, ⟨_, rb⟩, pr⟩ => ?_
    subst e rb
    exact pr s _ (.refl s) rfl hr rfl
/-- and, or: what stands between -/
def DW (Γ : Gm) (N : List Str) (sc : Sco) (e : Expr) (a : Te) : Prop :=
  ∀ n I W X, GX Γ n I N sc W X → PW X e (tE X.K I W (fun env h => evalT (callF Γ.fns n) env a h) (fun _ a x => x = a))
theorem DW.t (h : DW Γ N sc ea ta) : DT Γ N sc ea ta := fun n I W X g => (h n I W X g).pt
theorem _root_.L2.PW.imp {X : Cx} {e : Expr} {t t' : TT} (h : PW X e t) (i : ∀ σ H Q, t' σ H Q → t σ H Q) : PW X e t' := ⟨fun w pins s σ H Q I q => h.run w pins s σ H Q I (i σ H Q q)⟩
theorem dw_or1 (ha : DT Γ N sc ea ta) : DW Γ N sc (.BoolOp .Or [ea] pos) ta := fun n I W X g => pw_or1 (ha n I W X g)
theorem dw_or (ha : DT Γ N sc ea ta) (hb : DW Γ N sc (.BoolOp .Or (eb :: rest) pos) tb) : DW Γ N sc (.BoolOp .Or (ea :: eb :: rest) pos) (.or_ ta tb) := fun n I W X g =>
  (pw_or (ha n I W X g) (hb n I W X g)).imp fun σ H Q q => by
    obtain ⟨env, s, eH, hr, er, _, pr⟩ := At.bind (Rel1 := fun _ a x => x = a) (ev2 := fun k env h1 => ifK (fun h2 => .ok true h2) (fun h2 => evalT (callF Γ.fns n) env tb h2) k h1) q
    refine ⟨env, s, eH, hr, er, trivial, ?_⟩
    refine PR.mono pr fun x H1 ⟨d, env, s, e, hr, er, ⟨_, rb⟩, pr⟩ => ?_
    subst rb
    cases x with
    | true => subst e; exact pr s _ (.refl s) rfl hr rfl
    | false => exact ⟨env, s, e, hr, er, trivial, pr⟩
/-- the same as values -/
theorem de_not (ha : DE Γ N sc ea a) : DE Γ N sc (.UnaryOp .Not ea pos) (.not_ a) := fun n I W X g =>
  (pe_not (ha n I W X g)).imp fun σ H Q q => by
    obtain ⟨env, s, eH, hr, er, _, pr⟩ := At.bind (Rel1 := VR X.K) (ev2 := fun v env h1 => notK v h1) q
    refine ⟨env, s, eH, hr, er, trivial, ?_⟩
    refine PR.mono pr fun x H1 ⟨v, env, s, e, hr, er, ⟨_, rb⟩, pr⟩ => ?_
    subst e
    cases v with
    | ref m => exact False.elim pr
    | p d =>
      cases d with
      | bool k =>
        obtain rfl : x = .bl k := RF.bl_inv rb
        exact ⟨k, rfl, pr s _ (.refl s) rfl hr (.bl _)⟩
      | _ => exact False.elim pr
theorem de_one {op : BoolOp} (ha : DE Γ N sc ea a) : DE Γ N sc (.BoolOp op [ea] pos) a := fun n I W X g => pe_one (ha n I W X g)
theorem de_and (ha : DE Γ N sc ea a) (hb : DE Γ N sc (.BoolOp .And (eb :: rest) pos) b) : DE Γ N sc (.BoolOp .And (ea :: eb :: rest) pos) (.and_ a b) := fun n I W X g =>
  (pe_and (ha n I W X g) (hb n I W X g)).imp fun σ H Q q => by
    obtain ⟨env, s, eH, hr, er, _, pr⟩ := At.bind (Rel1 := VR X.K) (ev2 := fun v env h1 => andK (fun h2 => evalE (callF Γ.fns n) env b h2) v h1) q
    refine ⟨env, s, eH, hr, er, trivial, ?_⟩
    refine PR.mono pr fun x H1 ⟨v, env, s, e, hr, er, ⟨_, rb⟩, pr⟩ => ?_
    cases v with
    | ref m => exact False.elim pr
    | p d =>
      cases d with
      | bool k =>
        obtain rfl : x = .bl k := RF.bl_inv rb
        refine ⟨k, rfl, ?_⟩
        cases k with
        | true => exact ⟨env, s, e, hr, er, trivial, pr⟩
        | false => subst e; exact pr s _ (.refl s) rfl hr (.bl _)
      | _ => exact False.elim pr
theorem de_ite (hc : DT Γ N sc ec ta) (ha : DE Γ N sc ea a) (hb : DE Γ N sc eb b) : DE Γ N sc (.IfExp ec ea eb pos) (.ite ta a b) := fun n I W X g =>
  (pe_ifExp (hc n I W X g) (ha n I W X g) (hb n I W X g)).imp fun σ H Q q => by
    obtain ⟨env, s, eH, hr, er, _, pr⟩ := At.bind (Rel1 := fun _ a x => x = a) (ev2 := fun (k : Bool) env h1 => ifK (fun h2 => evalE (callF Γ.fns n) env a h2) (fun h2 => evalE (callF Γ.fns n) env b h2) k h1) q
    refine ⟨env, s, eH, hr, er, trivial, ?_⟩
    refine PR.mono pr fun x H1 ⟨d, env, s, e, hr, er, ⟨_, rb⟩, pr⟩ => ?_
    subst rb
    cases x with
    | true => exact ⟨env, s, e, hr, er, trivial, pr⟩
    | false => exact ⟨env, s, e, hr, er, trivial, pr⟩
def DPs (Γ : Gm) (N : List Str) (sc : Sco) (es : List Expr) (as : List E) : Prop :=
  ∀ n I W X, GX Γ n I N sc W X → PA X es (tE X.K I W (fun env h => evalPs (callF Γ.fns n) env as h) (fun s ds vs => RFs X.K s.F s.H ds vs ∧ ds.length = as.length))
def DAs (Γ : Gm) (N : List Str) (sc : Sco) (es : List Expr) (as : List E) : Prop :=
  ∀ n I W X, GX Γ n I N sc W X → PA X es (tE X.K I W (fun env h => evalEs (callF Γ.fns n) env as h) (fun s ds vs => Paired (VR X.K s) ds vs ∧ ds.length = as.length))
abbrev Sec (e : Expr) (es : List Expr) : Prop := ∀ env, starEach (e :: es) env = (false, eval e env) :: starEach es env
variable {es : List Expr} {as : List E}
theorem dps_nil : DPs Γ N sc [] [] := fun n I W X g => pa_nil.imp fun σ H Q ⟨env, s, eH, hr, er, _, pr⟩ => by
  subst eH
  exact pr s [] (.refl s) rfl hr ⟨.nil, rfl⟩
theorem dps_cons (ha : DV Γ N sc ea a) (hs : DPs Γ N sc es as) (se : Sec ea es := by intro _; rfl) : DPs Γ N sc (ea :: es) (a :: as) := fun n I W X g =>
  (pa_cons (ha n I W X g) (hs n I W X g) (se _)).imp fun σ H Q q => by
    obtain ⟨env, s, eH, hr, er, _, pr⟩ := At.bind (Rel1 := PRl X.K) (ev2 := fun v env h1 => (evalPs (callF Γ.fns n) env as h1).bind fun vs h2 => .ok (v :: vs) h2) q
    refine ⟨env, s, eH, hr, er, trivial, ?_⟩
    refine PR.mono pr fun x H1 ⟨d, q⟩ => ?_
    obtain ⟨env, s, eH, hr, er, _, pr⟩ := At.bind (Rel1 := fun s ds vs => RFs X.K s.F s.H ds vs ∧ ds.length = as.length) (G' := fun s => PRl X.K s d x) (ev2 := fun vs env h2 => R.ok (d :: vs) h2) q (fun s s' l g => g.2.le l)
    refine ⟨env, s, eH, hr, er, trivial, ?_⟩
    refine PR.mono pr fun ys H2 ⟨ds, env, s, e, hr, er, ⟨r1, r2⟩, pr⟩ => ?_
    subst e
    exact pr s _ (.refl s) rfl hr ⟨.cons r1 r2.1, by simp [r2.2]⟩
theorem das_nil : DAs Γ N sc [] [] := fun n I W X g => pa_nil.imp fun σ H Q ⟨env, s, eH, hr, er, _, pr⟩ => by
  subst eH
  exact pr s [] (.refl s) rfl hr ⟨.nil, rfl⟩
theorem das_cons (ha : DE Γ N sc ea a) (hs : DAs Γ N sc es as) (se : Sec ea es := by intro _; rfl) : DAs Γ N sc (ea :: es) (a :: as) := fun n I W X g =>
  (pa_cons (ha n I W X g) (hs n I W X g) (se _)).imp fun σ H Q q => by
    obtain ⟨env, s, eH, hr, er, _, pr⟩ := At.bind (Rel1 := VR X.K) (ev2 := fun v env h1 => (evalEs (callF Γ.fns n) env as h1).bind fun vs h2 => .ok (v :: vs) h2) q
    refine ⟨env, s, eH, hr, er, trivial, ?_⟩
    refine PR.mono pr fun x H1 ⟨d, q⟩ => ?_
    obtain ⟨env, s, eH, hr, er, _, pr⟩ := At.bind (Rel1 := fun s ds vs => Paired (VR X.K s) ds vs ∧ ds.length = as.length) (G' := fun s => VR X.K s d x) (ev2 := fun vs env h2 => R.ok (d :: vs) h2) q (fun s s' l g => g.2.le l)
    refine ⟨env, s, eH, hr, er, trivial, ?_⟩
    refine PR.mono pr fun ys H2 ⟨ds, env, s, e, hr, er, ⟨r1, r2⟩, pr⟩ => ?_
    subst e
    exact pr s _ (.refl s) rfl hr ⟨.cons r1 r2.1, by simp [r2.2]⟩
def tTupS (t : TA) : TE := fun σ H Q => t σ H fun xs H1 => xs.length ≤ sizeLine ∧ ∀ p o, H1 p = none → TupO o → Q (.ref p) (upd H1 p (.frz o (.tup xs)))
theorem pe_tupS {X : Cx} {es : List Expr} {t : TA} {pos : Pos} {x1} (h : PA X es t) : PE X (.Tuple es x1 pos) (tTupS t) := by
  refine ⟨fun pins s σ H Q I hq => ?_⟩
  refine wpAny_Tuple_spliced (thn (h.run pos pins s σ H _ I hq) fun us s1 ⟨xs, H1, I1, r, z, q⟩ => ⟨by rw [← r.length]; exact z, ?_⟩)
  have hf : H1 s1.heap.objs.size = none := I1.hok.fresh (Nat.le_refl _)
  refine ⟨.ref s1.heap.objs.size, _, I1.laid (t' := s1.toks) (o := .frz { cls := .type "tuple", data := .seq us.toArray } (.tup xs)) (fun b u e => Heap.get?_push_of_some _ e) (Nat.le_refl _) ?_, rfl, q _ _ hf ⟨rfl, rfl⟩⟩
  exact ⟨Heap.get?_push_size _ rfl, z, us, r, ⟨_, Heap.get?_push_size _ rfl, rfl, _, rfl⟩⟩
theorem de_tup {k : Nat} (hs : DPs Γ N sc es as) (hz : as.length ≤ sizeLine := by decide) : DE Γ N sc (.Tuple es k pos) (.tup as) := fun n I W X g =>
  (pe_tupS (hs n I W X g)).imp fun σ H Q q => by
    obtain ⟨env, s, eH, hr, er, _, pr⟩ := At.bind (Rel1 := fun s ds vs => RFs X.K s.F s.H ds vs ∧ ds.length = as.length) (ev2 := fun ds env h1 => R.ok (Val.p (.tuple ds)) h1) q
    refine ⟨env, s, eH, hr, er, trivial, ?_⟩
    refine PR.mono pr fun xs H1 ⟨ds, env, s, e, hr, er, ⟨_, rb, rl⟩, pr⟩ => ?_
    subst e
    exact ⟨by rw [← rb.length, rl]; exact hz, fun p o hp ho => PR.new (o := some (.p (.tuple ds))) pr hr rfl hp (tup_new hp ho rb)⟩
end
end Cd
set_option Elab.async false
set_option linter.all false
set_option maxRecDepth 100000
set_option maxHeartbeats 4000000
namespace Cd
open PySem PySem.Spec PyProof.Rows L2
theorem ofO_unP {h : Hi} : ∀ o : Option PyData, (Cd.ofO (o.map Val.p) h).bind unP = Cd.ofO o h
  | none => rfl
  | some _ => rfl
/-- a new list, that nothing else knows -/
def RN (K : PySem.W.Frag) (s : Sx) (d : PyData) (x : V) : Prop := ∃ ts a xs, d = .list ts ∧ x = .ref a ∧ s.H a = some (.lst xs) ∧ RFs K s.F s.H ts xs ∧ ¬ s.F a ∧ NotLive s a ∧ ¬ s.B a
def DN (Γ : Gm) (N : List Str) (sc : Sco) (e : Expr) (a : E) : Prop :=
  ∀ n I W X, GX Γ n I N sc W X → PE X e (tE X.K I W (fun env h => (evalE (callF Γ.fns n) env a h).bind unP) (RN X.K))
/-- frozen -/
def Sx.fz (s : Sx) (a : Addr) : Sx := { s with F := fun b => s.F b ∨ b = a }
theorem fz_keep {s : Sx} {a : Addr} : KeepF s.F s.H (s.fz a).F (s.fz a).H := ⟨fun _ f => .inl f, fun b o f h => h, fun _ _ h => h, fun _ _ _ h => h⟩
theorem fz_le {s : Sx} {a : Addr} : Le s (s.fz a) := ⟨Nat.le_refl _, fun _ _ => rfl, fz_keep, fun _ h => ⟨h, rfl⟩⟩
theorem HR.fz {K : PySem.W.Frag} {CI : CInf} {s : Sx} (h : HR K CI s) {a : Addr} (ha : ∃ o, s.H a = some o) (nl : NotLive s a) (nb : ¬ s.B a) : HR K CI (s.fz a) where
  ob := fun n u e => (h.ob n u e).move fz_keep e fun j l => ⟨rfl, fun w e => e⟩
  inj := h.inj
  nf := fun n j l f => f.elim (h.nf n j l) (nl n j l)
  bt := fun b hb => let ⟨h1, h2, h3⟩ := h.bt b hb; ⟨h1, fun f => f.elim h2 fun z => nb (z ▸ hb), h3⟩
  ft := fun b hb => hb.elim (h.ft b) fun z => z ▸ ha
section
variable {Γ : Gm} {N : List Str} {sc : Sco} {e ea eb ec : Expr} {a b c : E} {o : O2} {pos p p2 : Pos} {es : List Expr} {as : List E}
theorem HR.fresh {K : PySem.W.Frag} {CI : CInf} {s : Sx} (hr : HR K CI s) {l : Addr} (hp : s.H l = none) : ¬ s.F l ∧ NotLive s l ∧ ¬ s.B l := by
  refine ⟨fun f => ?_, hr.notLive hp, fun hb => ?_⟩
  · obtain ⟨u, e⟩ := hr.ft l f
    rw [hp] at e; cases e
  · obtain ⟨_, _, u, e⟩ := hr.bt l hb
    rw [hp] at e; cases e
theorem RN.new {K : PySem.W.Frag} {CI : CInf} {s : Sx} {l : Addr} {ts : List PyData} {xs : List V} (hr : HR K CI s) (hp : s.H l = none) (r : RFs K s.F s.H ts xs) : RN K (s.put l (.lst xs) false) (.list ts) (.ref l) := by
  refine ⟨ts, l, xs, rfl, rfl, upd_same, r.keep (KeepF.put hp), fun f => ?_, (hr.fresh hp).2.1, (hr.fresh hp).2.2⟩
  rcases f with f | ⟨f, _⟩
  · exact (hr.fresh hp).1 f
  · cases f
/-- a new list is data like any other, once it is frozen -/
theorem DN.v (h : DN Γ N sc e a) : DV Γ N sc e a := fun n I W X g => (h n I W X g).imp fun σ H Q q => by
  obtain ⟨env, s, eH, hr, er, _, pr⟩ := q
  refine ⟨env, s, eH, hr, er, trivial, ?_⟩
  replace pr : PR X.K I W s σ ((evalE (callF Γ.fns n) env a s.h).bind unP) (PRl X.K) Q := pr
  show PR X.K I W s σ ((evalE (callF Γ.fns n) env a s.h).bind unP) (RN X.K) Q
  generalize (evalE (callF Γ.fns n) env a s.h).bind unP = r at pr ⊢
  cases r with
  | ok d h1 =>
    rintro s' x l eh hr' ⟨ts, p, xs, rfl, rfl, hp, q, nf, nl, nb⟩
    exact pr (s'.fz p) _ (l.trans fz_le) eh (hr'.fz ⟨_, hp⟩ nl nb) (.lst (.inl ⟨.inr rfl, Rd.of hp⟩) (q.keep fz_keep))
  | exc e h1 => exact pr
  | stuck => exact pr
theorem DV.toE (h : DV Γ N sc e a) (nr : ∀ cf env h, (∃ d h', evalE cf env a h = .ok (.p d) h') ∨ (∀ v h', evalE cf env a h ≠ .ok v h')) : DE Γ N sc e a := fun n I W X g => (h n I W X g).imp fun σ H Q q => by
  obtain ⟨env, s, eH, hr, er, _, pr⟩ := q
  refine ⟨env, s, eH, hr, er, trivial, ?_⟩
  replace pr : PR X.K I W s σ (evalE (callF Γ.fns n) env a s.h) (VR X.K) Q := pr
  show PR X.K I W s σ ((evalE (callF Γ.fns n) env a s.h).bind unP) (PRl X.K) Q
  rcases nr (callF Γ.fns n) env s.h with ⟨d, h', e⟩ | ne
  · rw [e] at pr ⊢
    exact fun s' x l eh hr' rel => pr s' x l eh hr' rel
  · generalize evalE (callF Γ.fns n) env a s.h = r at pr ne ⊢
    cases r with
    | ok v h1 => exact absurd rfl (ne v h1)
    | exc e h1 => exact pr
    | stuck => exact pr
theorem PR.ofO {K : PySem.W.Frag} {I : Inf} {W : WX} {s : Sx} {σ : L2.St} {d : PyData} {x : V} {Rel : Sx → PyData → V → Prop} {Q : V → Hp → Prop} (pr : PR K I W s σ (R.ok d s.h) Rel Q) (hr : HR K I.ci s) {s' : Sx} (l : Le s s') (hr' : HR K I.ci s') (eh : s'.h = s.h) (r : Rel s' d x) : Q x s'.H := pr s' x l eh hr' r
theorem dn_lst (hs : DPs Γ N sc es as) (hz : as.length ≤ sizeLine := by decide) : DN Γ N sc (.List es pos) (.lst as) := fun n I W X g =>
  (pe_lst (hs n I W X g)).imp fun σ H Q q => by
    have q' : tE X.K I W (fun env h => (evalPs (callF Γ.fns n) env as h).bind fun ds h1 => R.ok (PyData.list ds) h1) (RN X.K) σ H Q := by
      obtain ⟨env, s, eH, hr, er, _, pr⟩ := q
      refine ⟨env, s, eH, hr, er, trivial, ?_⟩
      replace pr : PR X.K I W s σ (((evalPs (callF Γ.fns n) env as s.h).bind fun ds h1 => .ok (Val.p (.list ds)) h1).bind unP) (RN X.K) Q := pr
      show PR X.K I W s σ ((evalPs (callF Γ.fns n) env as s.h).bind fun ds h1 => R.ok (PyData.list ds) h1) (RN X.K) Q
      generalize evalPs (callF Γ.fns n) env as s.h = r at pr ⊢
      cases r with
      | ok ds h1 => exact pr
      | exc e h1 => exact pr
      | stuck => exact pr
    obtain ⟨env, s, eH, hr, er, _, pr⟩ := At.bind (Rel1 := fun s ds vs => RFs X.K s.F s.H ds vs ∧ ds.length = as.length) (ev2 := fun ds env h1 => R.ok (PyData.list ds) h1) q'
    refine ⟨env, s, eH, hr, er, trivial, ?_⟩
    refine PR.mono pr fun xs H1 ⟨ds, env, s, e, hr, er, ⟨_, rb, rl⟩, pr⟩ => ?_
    subst e
    exact ⟨by rw [← rb.length, rl]; exact hz, fun p hp => pr (s.put p (.lst xs) false) _ (hr.put_le hp) rfl (hr.put hp) (RN.new hr hp rb)⟩
/-- an operation that makes a list: new each time -/
def Op1N (K : PySem.W.Frag) (r : V → Hp → VK → Prop) (o : O1) : Prop := ∀ (s : Sx) d1 d x (Q : VK), RB K s d1 x → opf1 o d1 = some d → (∀ p xs ts, d = .list ts → RFs K s.F s.H ts xs → s.H p = none → Q (.ref p) (upd s.H p (.lst xs))) → r x s.H Q
theorem dn_op1 {o : O1} {r : Cx → V → Hp → VK → Prop} (hpe : ∀ n I W X, GX Γ n I N sc W X → ∀ ta, PE X ea ta → PE X e (tUn (r X) ta)) (ok : ∀ n I W X, GX Γ n I N sc W X → Op1N X.K (r X) o) (ha : DB Γ N sc ea a) : DN Γ N sc e (.op1 o a) := fun n I W X g =>
  (hpe n I W X g _ (ha n I W X g)).imp fun σ H Q q => by
    have q' : tE X.K I W (fun env h => (bor env h a (evalE (callF Γ.fns n) env a h)).bind fun x h1 => Cd.ofO (opf1 o x) h1) (RN X.K) σ H Q := by
      obtain ⟨env, s, eH, hr, er, _, pr⟩ := q
      refine ⟨env, s, eH, hr, er, trivial, ?_⟩
      replace pr : PR X.K I W s σ (((bor env s.h a (evalE (callF Γ.fns n) env a s.h)).bind fun x h1 => Cd.ofO ((opf1 o x).map .p) h1).bind unP) (RN X.K) Q := pr
      show PR X.K I W s σ ((bor env s.h a (evalE (callF Γ.fns n) env a s.h)).bind fun x h1 => Cd.ofO (opf1 o x) h1) (RN X.K) Q
      generalize bor env s.h a (evalE (callF Γ.fns n) env a s.h) = r at pr ⊢
      cases r with
      | ok d h1 =>
        simp only [R.bind_ok] at pr ⊢
        rw [ofO_unP] at pr
        exact pr
      | exc e h1 => exact pr
      | stuck => exact pr
    obtain ⟨env, s, eH, hr, er, _, pr⟩ := At.bind (Rel1 := RB X.K) (ev2 := fun x env h => Cd.ofO (opf1 o x) h) q'
    refine ⟨env, s, eH, hr, er, trivial, ?_⟩
    refine PR.mono pr fun x H1 ⟨d, env, s, e, hr, er, ⟨_, rb⟩, pr⟩ => ?_
    subst e
    replace pr : PR X.K I W s σ (Cd.ofO (opf1 o d) s.h) (RN X.K) Q := pr
    cases e1 : opf1 o d with
    | none => rw [e1] at pr; exact False.elim pr
    | some d' =>
      rw [e1] at pr
      refine ok n I W X g s d d' x Q rb e1 fun p xs ts ed rf hp => ?_
      subst ed
      exact pr (s.put p (.lst xs) false) _ (hr.put_le hp) rfl (hr.put hp) (RN.new hr hp rf)
theorem okn_list {K : PySem.W.Frag} : Op1N K (one (rListA K)) .list := fun s d1 d x Q r e f => by
  replace e : listS d1 = some d := e
  unfold listS at e
  split at e
  · cases e
    obtain ⟨a, xs, rfl, h1, q1⟩ := r.lst
    exact .inl ⟨a, xs, rfl, .inl h1, fun p hp => f p _ _ rfl q1 hp⟩
  · cases e
    obtain ⟨a, xs, rfl, h1, q1⟩ := r.tup
    exact .inl ⟨a, xs, rfl, .inr h1, fun p hp => f p _ _ rfl q1 hp⟩
  · split at e
    · rename_i z hz
      cases e
      rw [r.str]
      refine .inr ⟨z, rfl, hz, fun p hp => f p _ _ rfl ?_ hp⟩
      generalize z.cps.toList = l
      induction l with
      | nil => exact .nil
      | cons c l ih => exact .cons (.str _) ih
    · cases e
  · cases e
theorem dn_list (v : NB Γ sc "list") (ha : DB Γ N sc ea a) (se : Se1 ea := by intro _; rfl) : DN Γ N sc (.Call (.Name "list" p) [ea] [] pos) (.op1 .list a) := dn_op1 (fun _ _ _ X g ta h => pe_ty1 g (call_list_of.or (call_list_txt g.calm)) v (by decide +kernel) h se) (fun _ _ _ X g => okn_list) ha
/-- [..] * k, k looked up -/
theorem dn_rep (ha : DN Γ N sc ea a) (hb : DP Γ N sc eb b) (np : ∀ env h, peek env h a = none := by intros; rfl) : DN Γ N sc (.BinOp ea .Mult eb pos) (.op2b .rep a b) := fun n I W X g =>
  (pe_op op_rep (ha n I W X g) (hb.run n I W X g)).imp fun σ H Q q => by
    have q' : tE X.K I W (fun env h => ((evalE (callF Γ.fns n) env a h).bind unP).bind fun x h1 => ((evalE (callF Γ.fns n) env b h1).bind unP).bind fun y h2 => Cd.ofO (repD x y) h2) (RN X.K) σ H Q := by
      obtain ⟨env, s, eH, hr, er, _, pr⟩ := q
      refine ⟨env, s, eH, hr, er, trivial, ?_⟩
      replace pr : PR X.K I W s σ (((bor env s.h a (evalE (callF Γ.fns n) env a s.h)).bind fun x h1 => ((evalE (callF Γ.fns n) env b h1).bind unP).bind fun y h2 => Cd.ofO ((repD x y).map .p) h2).bind unP) (RN X.K) Q := pr
      show PR X.K I W s σ (((evalE (callF Γ.fns n) env a s.h).bind unP).bind fun x h1 => ((evalE (callF Γ.fns n) env b h1).bind unP).bind fun y h2 => Cd.ofO (repD x y) h2) (RN X.K) Q
      simp only [bor, np] at pr
      generalize (evalE (callF Γ.fns n) env a s.h).bind unP = r at pr ⊢
      cases r with
      | ok d h1 =>
        simp only [R.bind_ok] at pr ⊢
        generalize (evalE (callF Γ.fns n) env b h1).bind unP = r at pr ⊢
        cases r with
        | ok d2 h2 =>
          simp only [R.bind_ok] at pr ⊢
          rw [ofO_unP] at pr
          exact pr
        | exc e h1 => exact pr
        | stuck => exact pr
      | exc e h1 => exact pr
      | stuck => exact pr
    obtain ⟨env, s, eH, hr, er, _, pr⟩ := At.bind (Rel1 := RN X.K) (ev2 := fun x env h1 => ((evalE (callF Γ.fns n) env b h1).bind unP).bind fun y h2 => Cd.ofO (repD x y) h2) q'
    refine ⟨env, s, eH, hr, er, trivial, ?_⟩
    refine PR.mono pr fun x H1 ⟨d, env, s, eH, hr, er, ⟨_, rb⟩, pr⟩ => ?_
    refine ⟨env, s, eH, hr, er, ?_⟩
    replace pr : PR X.K I W s σ (((evalE (callF Γ.fns n) env b s.h).bind unP).bind fun y h2 => Cd.ofO (repD d y) h2) (RN X.K) Q := pr
    show (match evalE (callF Γ.fns n) env b s.h with
    | .ok (.p d2) h' => h' = s.h ∧ ∀ y, RF X.K s.F s.H d2 y → rRep x y H1 Q
    | _ => False)
    rcases hb.pure (callF Γ.fns n) env s.h with ⟨v, e⟩ | e
    · rw [e] at pr ⊢
      cases v with
      | p d2 =>
        refine ⟨rfl, fun y ry => ?_⟩
        simp only [R.bind_ok, unP] at pr
        obtain ⟨ts, l, xs, rfl, rfl, hl, q, nf, nl, nb⟩ := rb
        cases d2 with
        | int k =>
          obtain rfl : y = .int k := ry.int_inv
          simp only [repD] at pr
          split at pr
          · rename_i hz
            simp only [Bool.and_eq_true, decide_eq_true_eq] at hz
            rw [← eH]
            exact ⟨l, k, xs, rfl, rfl, hl, by omega, by omega, by rw [← q.length]; exact hz.2, fun p hp => pr (s.put p (.lst _) false) _ (hr.put_le hp) rfl (hr.put hp) (RN.new hr hp (q.rep _))⟩
          · exact False.elim pr
        | _ => exact False.elim pr
      | ref m => exact False.elim pr
    · rw [e] at pr
      exact False.elim pr
end
end Cd
set_option Elab.async false
set_option linter.all false
set_option maxRecDepth 100000
set_option maxHeartbeats 4000000
namespace Cd
open PySem PySem.Spec PyProof.Rows L2
theorem lookup_nd {κ β : Type} [BEq κ] [LawfulBEq κ] : ∀ {l : List (κ × β)} {j : Nat} {x : κ} {v : β}, (l.map (·.1)).Nodup → l[j]? = some (x, v) → l.lookup x = some v
  | [], _, _, _, _, e => by simp at e
  | (y, w) :: r, 0, x, v, nd, e => by
    simp at e
    obtain ⟨rfl, rfl⟩ := e
    simp
  | (y, w) :: r, j + 1, x, v, nd, e => by
    have e' : r[j]? = some (x, v) := by simpa using e
    have nd' : y ∉ r.map (·.1) ∧ (r.map (·.1)).Nodup := by simpa using nd
    have hm : x ∈ r.map (·.1) := List.mem_map.mpr ⟨_, List.mem_of_getElem? e', rfl⟩
    have ne : (x == y) = false := by
      rw [beq_eq_false_iff_ne]
      rintro rfl
      exact nd'.1 hm
    rw [List.lookup_cons, ne]
    exact lookup_nd nd'.2 e'
theorem nd_take {α : Type} {l : List α} (h : l.Nodup) (n : Nat) : (l.take n).Nodup := h.sublist (List.take_sublist n l)
section
variable {Γ : Gm} {N : List Str} {sc : Sco} {e ea eb ec : Expr} {a b c : E} {o : O2} {pos p p2 : Pos} {es : List Expr} {as : List E} {i j : Nat} {x f : Str} {cl : Nat} {names : List Str}
theorem insOf_of {env : Ev} {h : Hi} {i : Nat} {q : Nat × Nat × List Fld} (e : insOf env h i = some q) : slot env i = some (.ref q.1) ∧ h[q.1]? = some (.ins q.2.1 q.2.2) := by
  unfold insOf at e
  rw [Option.bind_eq_some_iff] at e
  obtain ⟨n, e1, e2⟩ := e
  rw [Option.map_eq_some_iff] at e2
  obtain ⟨p, e2, rfl⟩ := e2
  exact ⟨slotRef_of e1, insAt_of e2⟩
theorem lstOf_of {env : Ev} {h : Hi} {i : Nat} {q : Nat × List PyData} (e : lstOf env h i = some q) : slot env i = some (.ref q.1) ∧ h[q.1]? = some (.lst q.2) := by
  unfold lstOf at e
  rw [Option.bind_eq_some_iff] at e
  obtain ⟨n, e1, e2⟩ := e
  rw [Option.map_eq_some_iff] at e2
  obtain ⟨p, e2, rfl⟩ := e2
  exact ⟨slotRef_of e1, listAt_of e2⟩
/-- the only class with fields -/
structure FOk (Γ : Gm) (cl : Nat) (names : List Str) (j : Nat) (f : Str) : Prop where
  fl : Γ.flds = [(cl, names)]
  at_ : names[j]? = some f
abbrev Ab (x : Str) (p : Pos) (f : Str) : Prop := ∀ env, attributeBase (.Name x p) f env (eval (.Name x p) env) = eval (.Name x p) env
/-- what a field's name tells -/
theorem fld_at {n : Nat} {I : Inf} {W : WX} {X : Cx} {s : Sx} {env : Ev} {σ : L2.St} (g : GX Γ n I N sc W X) (hr : HR X.K I.ci s) (er : ER X.K s env σ) (hf : FOk Γ cl names j f) {q : Nat × Nat × List Fld} (e : insOf env s.h i = some q) {u : Fld} (eu : q.2.2[j]? = some u) :
    ∃ C dx es v, σ[i]? = some (some (.ref (s.φ q.1 0))) ∧ s.H (s.φ q.1 0) = some (.ins C dx es) ∧ Cls X.K C ∧ NoAttr X.K C f ∧ es.lookup f = some v ∧ FlR X.K s q.1 j u v := by
  obtain ⟨e1, e2⟩ := insOf_of e
  obtain ⟨y, h1, _, rfl⟩ := er.at_ i _ e1
  obtain ⟨C, nms, dx, es, ci, h3, h4, h5, h6⟩ := hr.ob _ _ e2
  have hm := g.ci _ _ _ ci
  obtain ⟨C', ci', k, nd, _, na⟩ := g.fl (cl, names) (by rw [hf.fl]; exact List.mem_singleton.mpr rfl)
  rw [hf.fl] at hm
  have hm' := List.mem_singleton.mp hm
  obtain ⟨hc, hn⟩ := Prod.mk.inj hm'
  rw [hc] at ci
  subst hn
  rw [ci] at ci'
  cases ci'
  obtain ⟨y, v, e3, e4, r⟩ := h6 j u eu
  rw [hf.at_] at e3
  cases e3
  refine ⟨C, dx, es, v, h1, h3, k, na _ (List.mem_of_getElem? hf.at_), lookup_nd (by rw [h4]; exact nd_take nd _) e4, r⟩
def tgSlots : Tg → List Nat
  | .name i => [i]
  | .tup ts => tgSlotsL ts
where tgSlotsL : List Tg → List Nat
  | [] => []
  | t :: ts => tgSlots t ++ tgSlotsL ts
def tG (K : PySem.W.Frag) (CI : CInf) (t : Tg) : TG := fun v σ H Q => ∃ env s d env1, s.H = H ∧ HR K CI s ∧ ER K s env σ ∧ RF K s.F s.H d v ∧ bindT t d env = some env1 ∧
  ∀ σ1, ER K s env1 σ1 → (σ1.length = σ.length ∧ ∀ k, k ∉ tgSlots t → σ1[k]? = σ[k]?) → Q σ1 H
def tGs (K : PySem.W.Frag) (CI : CInf) (ts : List Tg) : TGs := fun vs σ H Q => ∃ env s ds env1, s.H = H ∧ HR K CI s ∧ ER K s env σ ∧ RFs K s.F s.H ds vs ∧ bindTs ts ds env = some env1 ∧
  ∀ σ1, ER K s env1 σ1 → (σ1.length = σ.length ∧ ∀ k, k ∉ tgSlots.tgSlotsL ts → σ1[k]? = σ[k]?) → Q σ1 H
def DG (Γ : Gm) (N : List Str) (sc : Sco) (e : Expr) (t : Tg) : Prop := ∀ n I W X, GX Γ n I N sc W X → PG X e (tG X.K I.ci t)
def DGs (Γ : Gm) (N : List Str) (sc : Sco) (e : List Expr) (t : List Tg) : Prop := ∀ n I W X, GX Γ n I N sc W X → PGs X e (tGs X.K I.ci t)
theorem _root_.L2.PG.imp {X : Cx} {e : Expr} {t t' : TG} (h : PG X e t) (i : ∀ v σ H Q, t' v σ H Q → t v σ H Q) : PG X e t' := ⟨fun pins s σ H v u Q I r q => h.run pins s σ H v u Q I r (i v σ H Q q)⟩
theorem _root_.L2.PGs.imp {X : Cx} {e : List Expr} {t t' : TGs} (h : PGs X e t) (i : ∀ v σ H Q, t' v σ H Q → t v σ H Q) : PGs X e t' := ⟨fun pins s σ H v u Q I r q => h.run pins s σ H v u Q I r (i v σ H Q q)⟩
/-- a name that may be stored -/
structure TOk (N : List Str) (sc : Sco) (i : Nat) (x : Str) : Prop where
  hN : N[i]? = some x
  loc : Loc sc.s x
  fn : sc.fn x = true ∨ sc.s.names.lookup x = some .local
theorem dg_name (v : TOk N sc i x) : DG Γ N sc (.Name x pos) (.name i) := fun n I W X g =>
  (pg_name (i := i) (by rw [g.hN]; exact g.nd) (by rw [g.hN]; exact v.hN) (by rw [g.sc]; exact v.loc) (by rw [g.fnc, g.sc]; exact v.fn)).imp fun y σ H Q ⟨env, s, d, env1, eH, hr, er, r, e, q⟩ => by
    cases e
    refine q _ (er.set (v := .p d) r) ⟨by simp, fun k hk => ?_⟩
    rw [List.getElem?_set_ne]
    rintro rfl
    exact hk (by simp [tgSlots])
theorem dgs_nil : DGs Γ N sc [] [] := fun n I W X g => pgs_nil.imp fun y σ H Q ⟨env, s, ds, env1, eH, hr, er, r, e, q⟩ => by
  cases r with
  | nil =>
    cases e
    exact ⟨rfl, q _ er ⟨rfl, fun _ _ => rfl⟩⟩
  | cons _ _ => cases e
theorem dgs_cons {t : Tg} {ts : List Tg} (ha : DG Γ N sc ea t) (hs : DGs Γ N sc es ts) (hq : ∀ env, (assignEach (ea :: es) env).map (·.2) = assign ea env :: (assignEach es env).map (·.2) := by intro _; rfl) : DGs Γ N sc (ea :: es) (t :: ts) := fun n I W X g =>
  (pgs_cons (ha n I W X g) (hs n I W X g) (hq _)).imp fun y σ H Q ⟨env, s, ds, env1, eH, hr, er, r, e, q⟩ => by
    cases r with
    | nil => cases e
    | @cons d v0 ds vs0 r1 r2 =>
      have e' : (bindT t d env).bind (bindTs ts ds) = some env1 := e
      rw [Option.bind_eq_some_iff] at e'
      obtain ⟨env2, e1, e2⟩ := e'
      refine ⟨_, _, rfl, env, s, d, env2, eH, hr, er, r1, e1, fun σ1 er1 k1 => ?_⟩
      refine ⟨env2, s, ds, env1, eH, hr, er1, r2, e2, fun σ2 er2 k2 => q σ2 er2 ⟨k2.1.trans k1.1, fun k hk => ?_⟩⟩
      have hk' : k ∉ tgSlots t ∧ k ∉ tgSlots.tgSlotsL ts := by
        unfold tgSlots.tgSlotsL at hk
        simpa using hk
      rw [k2.2 k hk'.2, k1.2 k hk'.1]
theorem bindTs_len : ∀ {ts : List Tg} {ds : List PyData} {env env1 : Ev}, bindTs ts ds env = some env1 → ds.length = ts.length
  | [], [], _, _, _ => rfl
  | [], _ :: _, _, _, e => by cases e
  | _ :: _, [], _, _, e => by cases e
  | t :: ts, d :: ds, env, env1, e => by
    have e' : (bindT t d env).bind (bindTs ts ds) = some env1 := e
    rw [Option.bind_eq_some_iff] at e'
    obtain ⟨env2, e1, e2⟩ := e'
    simp [bindTs_len e2]
theorem dg_tup {k m : Nat} {ts : List Tg} (hs : DGs Γ N sc es ts) (hm : ts.length = m := by rfl) (hn : ∀ env, (assignEach es env).length = m := by intro _; rfl) (hst : ∀ env, (assignEach es env).findIdx? (·.1) = none := by intro _; rfl) : DG Γ N sc (.Tuple es k pos) (.tup ts) := fun n I W X g =>
  (pg_tup (n := m) g.calm (hs n I W X g) (hn _) (hst _)).imp fun y σ H Q ⟨env, s, d, env1, eH, hr, er, r, e, q⟩ => by
    cases d with
    | tuple ds =>
      obtain ⟨p, xs, rfl, h1, q1⟩ := r.tup_inv
      have e' : bindTs ts ds env = some env1 := e
      refine ⟨p, xs, rfl, by rw [← eH]; exact h1, ?_, env, s, ds, env1, eH, hr, er, q1, e', q⟩
      rw [← q1.length, bindTs_len e', hm]
    | _ => cases e
end
end Cd
set_option Elab.async false
set_option linter.all false
set_option maxRecDepth 100000
set_option maxHeartbeats 4000000
namespace Cd
open PySem PySem.Spec PyProof.Rows L2
def charsV (x : Str) : List V := x.cps.toList.map fun c => .str ⟨#[c]⟩
/-- v stands for the things xs, wherever C holds -/
structure SeqV (K : PySem.W.Frag) (v : Value) (xs : List V) (C : Hp → Prop) (own : List Addr) (T : Addr → Nat → Heap → Prop) : Prop where
  beg : ∀ (X : Cx) (pins : List (Addr × Obj)) (σ : L2.St) (H : Hp) (s : Shared), X.K = K → Inv X pins σ H s → C H → ∃ (o : Obj) (Pre : Heap → Prop), Begins v o Pre ∧ Pre s.heap ∧ (∀ h it, h.get? it = some o → T it 0 h) ∧ ∀ b ∈ own, b < s.heap.objs.size
  drw : ∀ (X : Cx) (pins : List (Addr × Obj)) (σ : L2.St) (H : Hp) (s : Shared) (A : Around) (it : Addr), X.K = K → Inv X pins σ H s → C H → A.handled = none → it ∉ own →
    ∃ (Pre : Heap → Prop) (Pn : Nat → Value → Prop), Pre s.heap ∧ Draws X.prog X.w A it (it :: own) xs.length Pn (fun i h => T it i h ∧ Pre h) ∧ ∀ i u, Pn i u → ∃ y, xs[i]? = some y ∧ RelV y u
  at_ : ∀ it i h h', T it i h → (∀ o, h.get? it = some o → h'.get? it = some o) → T it i h'
  ob : ∀ it i h, T it i h → ∃ o, h.get? it = some o ∧ ∀ v, o.data ≠ .cell v
theorem seq_list {K : PySem.W.Frag} (a : Addr) (xs : List V) : SeqV K (.ref a) xs (fun H => SqL K H a xs) [a] (fun it i h => h.IsListIter it a i) where
  beg := fun X pins σ H s eK I c => by
    subst eK
    obtain ⟨its, rv, p, _⟩ := I.list c
    exact ⟨_, _, begins_list a its.toArray, p.isList, fun h it e => ⟨_, e, rfl, rfl⟩, fun b hb => by rw [List.mem_singleton.mp hb]; exact p.lt⟩
  drw := fun X pins σ H s A it eK I c hh ne => by
    subst eK
    obtain ⟨its, rv, p, _⟩ := I.list c
    have D := Draws.list (prog := X.prog) (w := X.w) hh it a (fun e => ne (by simp [e])) its.toArray
    rw [List.size_toArray, ← rv.length] at D
    exact ⟨_, _, p.isList, D, fun i u e => vals_get' rv (by simpa using e)⟩
  at_ := fun it i h h' t k => t.at k
  ob := fun it i h ⟨o, e, _, d⟩ => ⟨o, e, fun v q => by rw [d] at q; cases q⟩
theorem seq_tup {K : PySem.W.Frag} (a : Addr) (xs : List V) : SeqV K (.ref a) xs (fun H => SqT K H a xs) [a] (fun it i h => h.IsTupleIter it a i) where
  beg := fun X pins σ H s eK I c => by
    subst eK
    obtain ⟨its, rv, p, _⟩ := I.tuple c
    exact ⟨_, _, begins_tuple a its.toArray, p, fun h it e => ⟨_, e, rfl, rfl⟩, fun b hb => by rw [List.mem_singleton.mp hb]; exact p.lt⟩
  drw := fun X pins σ H s A it eK I c hh ne => by
    subst eK
    obtain ⟨its, rv, p, _⟩ := I.tuple c
    have D := Draws.tuple (prog := X.prog) (w := X.w) hh it a (fun e => ne (by simp [e])) its.toArray
    rw [List.size_toArray, ← rv.length] at D
    exact ⟨_, _, p, D, fun i u e => vals_get' rv (by simpa using e)⟩
  at_ := fun it i h h' t k => t.at k
  ob := fun it i h ⟨o, e, _, d⟩ => ⟨o, e, fun v q => by rw [d] at q; cases q⟩
theorem seq_str {K : PySem.W.Frag} (x : Str) (t : Tok) : SeqV K (.str x t) (charsV x) (fun _ => True) [] (fun it i h => h.IsStrIter it (strIterType x) x t i) where
  beg := fun X pins σ H s eK I c => ⟨_, _, begins_text x t, trivial, fun h it e => ⟨_, e, rfl, rfl⟩, fun b hb => nomatch hb⟩
  drw := fun X pins σ H s A it eK I c hh ne => by
    have D := Draws.text (prog := X.prog) (w := X.w) hh it x t
    have e : x.cps.size = (charsV x).length := by simp [charsV]
    rw [e] at D
    refine ⟨fun _ => True, _, trivial, ⟨fun i h st => D.live i h st.1, fun i h h' st k => ⟨D.frame i h h' st.1 k, trivial⟩, fun i s Q E hi st hQ => D.item i s Q E hi st.1 fun x h' tk hP st' sb => hQ x h' tk hP ⟨st', trivial⟩ sb, fun s Q E st hE => D.done s Q E st.1 hE⟩, fun i u ⟨c, u', e1, e2⟩ => ?_⟩
    subst e2
    refine ⟨.str ⟨#[c]⟩, ?_, _, rfl⟩
    unfold charsV
    rw [List.getElem?_map, Array.getElem?_toList, e1]
    rfl
  at_ := fun it i h h' ⟨o, e, r⟩ k => ⟨o, k o e, r⟩
  ob := fun it i h ⟨o, e, _, d⟩ => ⟨o, e, fun v q => by rw [d] at q; cases q⟩
/-- the kinds of sequences -/
inductive Kd where
  | l (a : Addr)
  | t (a : Addr)
  | s (y : Str)
/-- x is a sequence of xs, of the kind k -/
def SqK (K : PySem.W.Frag) (k : Kd) (x : V) (xs : List V) (H : Hp) : Prop := match k with
  | .l a => x = .ref a ∧ SqL K H a xs
  | .t a => x = .ref a ∧ SqT K H a xs
  | .s y => x = .str y ∧ xs = charsV y
theorem seq_of {K : PySem.W.Frag} {k : Kd} {H : Hp} {x : V} {xs : List V} {v : Value} (h : SqK K k x xs H) (r : RelV x v) : ∃ (own : List Addr) (T : Addr → Nat → Heap → Prop), SeqV K v xs (SqK K k x xs) own T := by
  cases k with
  | l a =>
    obtain ⟨rfl, h⟩ := h
    obtain rfl : v = .ref a := r
    have S := seq_list (K := K) a xs
    exact ⟨_, _, ⟨fun X p σ H s e I c => S.beg X p σ H s e I c.2, fun X p σ H s A it e I c => S.drw X p σ H s A it e I c.2, S.at_, S.ob⟩⟩
  | t a =>
    obtain ⟨rfl, h⟩ := h
    obtain rfl : v = .ref a := r
    have S := seq_tup (K := K) a xs
    exact ⟨_, _, ⟨fun X p σ H s e I c => S.beg X p σ H s e I c.2, fun X p σ H s A it e I c => S.drw X p σ H s A it e I c.2, S.at_, S.ob⟩⟩
  | s y =>
    obtain ⟨rfl, rfl⟩ := h
    obtain ⟨t, rfl⟩ := r
    have S := seq_str (K := K) y t
    exact ⟨_, _, ⟨fun X p σ H s e I c => S.beg X p σ H s e I trivial, fun X p σ H s A it e I c => S.drw X p σ H s A it e I trivial, S.at_, S.ob⟩⟩
/-- zip's next and the loop's own care of the pair: the pair's object known -/
theorem zip2_goesS {prog : Program} {w : World} {A : Around} {elts : List Expr} {x1 : Nat} {pos : Pos} {z TI TO i1 i2 : Addr} {fp1 fp2 : List Addr} {n1 n2 : Nat} {P1 P2 : Nat → Value → Prop} {St1 St2 : Nat → Heap → Prop} (S : ZipSep2 z TI TO i1 i2 fp1 fp2) (D1 : Draws prog w A.in1 i1 fp1 n1 P1 St1) (D2 : Draws prog w A.in1 i2 fp2 n2 P2 St2)
    (i : Nat) (s : Shared) (Q : Value → Shared → Prop) (E : Value → Shared → Prop) (hi : i < min n1 n2) (st : IsZip s.heap z TI TO .none ∧ IsTupOf2 s.heap TI (.ref i1) (.ref i2) ∧ (∃ a1 a2, IsTupOf2 s.heap TO a1 a2) ∧ St1 i s.heap ∧ St2 i s.heap)
    (hQ : ∀ v h' tk, (∃ T x y, v = .ref T ∧ s.heap.objs.size ≤ T ∧ P1 i x ∧ P2 i y ∧ IsTupOf2 h' T x y) → (IsZip h' z TI TO .none ∧ IsTupOf2 h' TI (.ref i1) (.ref i2) ∧ (∃ a1 a2, IsTupOf2 h' TO a1 a2) ∧ St1 (i + 1) h' ∧ St2 (i + 1) h') →
      (∀ b o, b ∉ [z, TO, i1, i2] → s.heap.get? b = some o → h'.get? b = some o) → s.toks ≤ tk → Q v { s with heap := h', toks := tk }) :
    wpAny (model prog w) A (pyNext (.ref z)) (fun r s₁ => ∃ v, r = some v ∧ wpAny (model prog w) A (letOwnedTupleGo (.Tuple elts x1 pos) (.ref z) v) (fun _ s₂ => Q v s₂) E s₁) E s := by
  obtain ⟨hz, hTI, ⟨a1, a2, hTO⟩, st1, st2⟩ := st
  refine wpAny_with_toks (n := s.toks) (Nat.le_refl _) (wpAny_pyNext_zipD2_item S D1 D2 hz hTI hTO st1 st2 (by omega) (by omega) fun y1 y2 h' tk p1 p2 b1 b2 d1 d2 b5 b6 hk htk => ?_)
  have lt : ∀ {c o}, s.heap.get? c = some o → s.heap.objs.size ≠ c := fun e => Nat.ne_of_gt (Heap.lt_size e)
  have l1 : s.heap.objs.size ≠ i1 := by obtain ⟨_, e⟩ := D1.live _ _ st1; exact lt e
  have l2 : s.heap.objs.size ≠ i2 := by obtain ⟨_, e⟩ := D2.live _ _ st2; exact lt e
  have mid : IsZip h' z TI TO (rawInt s.heap.objs.size) ∧ IsTupOf2 h' TI (.ref i1) (.ref i2) ∧ (∃ a1 a2, IsTupOf2 h' TO a1 a2) ∧ St1 (i + 1) h' ∧ St2 (i + 1) h' ∧ s.heap.objs.size ≠ z ∧ s.heap.objs.size ≠ TO ∧ s.heap.objs.size ≠ i1 ∧ s.heap.objs.size ≠ i2 :=
    ⟨b1, hk _ _ S.TIz S.TITO S.TIi1 S.TIi2 hTI, ⟨_, _, b2⟩, d1, d2, lt hz, lt hTO, l1, l2⟩
  have W := WalksT.zipD2 (prog := prog) (w := w) (A := A) S D1 D2
  refine ⟨.ref s.heap.objs.size, rfl, W.go elts x1 pos i s.heap.objs.size { s with heap := h', toks := tk } _ _ mid fun h₂ st₂ hk₂ => ?_⟩
  refine hQ (.ref s.heap.objs.size) h₂ tk ⟨_, y1, y2, rfl, Nat.le_refl _, p1, p2, hk₂ _ _ (W.apart i _ h' mid) b5⟩ st₂ (fun b o hb e => hk₂ b o hb (hk b o (fun x => hb (by simp [x])) (fun x => hb (by simp [x])) (fun x => hb (by simp [x])) (fun x => hb (by simp [x])) e)) htk

def ItZ (C1 C2 : Hp → Prop) (xs ys : List V) : It :=
  ⟨fun i H => C1 H ∧ C2 H ∧ i < min xs.length ys.length,
    fun i H v H' => ∃ T o x y, v = .ref T ∧ H T = none ∧ TupO o ∧ H' = upd H T (.frz o (.tup [x, y])) ∧ xs[i]? = some x ∧ ys[i]? = some y,
    fun i H => C1 H ∧ C2 H ∧ i = min xs.length ys.length⟩
theorem turn_zipS {P : Program} {w : World} {K : PySem.W.Frag} {elts : List Expr} {kk : Nat} {tpos : Pos} {z TI TO i1 i2 : Addr} {v1 v2 : Value} {xs ys : List V} {C1 C2 : Hp → Prop} {own1 own2 : List Addr} {T1 T2 : Addr → Nat → Heap → Prop}
    (S1 : SeqV K v1 xs C1 own1 T1) (S2 : SeqV K v2 ys C2 own2 T2) (Z : ZipSep2 z TI TO i1 i2 (i1 :: own1) (i2 :: own2)) (n1 : i1 ∉ own1) (n2 : i2 ∉ own2) :
    Turn P w K (.Tuple elts kk tpos) (ItZ C1 C2 xs ys) [z, TI, TO, i1, i2] z (fun i h => IsZip h z TI TO .none ∧ IsTupOf2 h TI (.ref i1) (.ref i2) ∧ (∃ a b, IsTupOf2 h TO a b) ∧ T1 i1 i h ∧ T2 i2 i h) where
  mem := by simp
  obj := fun i h st b hb => by
    obtain ⟨hz, e1, ⟨a, c, e2⟩, t1, t2⟩ := st
    simp only [List.mem_cons, List.not_mem_nil, or_false] at hb
    rcases hb with rfl | rfl | rfl | rfl | rfl
    · exact ⟨_, hz, fun v q => nomatch q⟩
    · exact ⟨_, e1, fun v q => nomatch q⟩
    · exact ⟨_, e2, fun v q => nomatch q⟩
    · exact S1.ob _ _ _ t1
    · exact S2.ob _ _ _ t2
  keep := fun i h h' st k => by
    obtain ⟨hz, e1, ⟨a, c, e2⟩, t1, t2⟩ := st
    exact ⟨k z (by simp) _ hz, k TI (by simp) _ e1, ⟨a, c, k TO (by simp) _ e2⟩, S1.at_ _ _ _ _ t1 (fun o e => k i1 (by simp) o e), S2.at_ _ _ _ _ t2 (fun o e => k i2 (by simp) o e)⟩
  item := by
    intro X hP hw hK hc i pins s σ H E I hf st hg
    subst hP hw hK
    obtain ⟨hz, hTI, hTO, t1, t2⟩ := st
    obtain ⟨c1, c2, hi⟩ := hg
    have hh := I.ok.hd hc
    obtain ⟨P1, Q1, p1, D1, m1⟩ := S1.drw X pins σ H s X.A.in1 i1 rfl I c1 (by simp [hh]) n1
    obtain ⟨P2, Q2, p2, D2, m2⟩ := S2.drw X pins σ H s X.A.in1 i2 rfl I c2 (by simp [hh]) n2
    refine zip2_goesS (elts := elts) (x1 := kk) (pos := tpos) Z D1 D2 i s _ E hi ⟨hz, hTI, hTO, ⟨t1, p1⟩, ⟨t2, p2⟩⟩ fun v h' tk hY st' hk htk => ?_
    obtain ⟨T, x, y, rfl, hnew, hx, hy, hT⟩ := hY
    obtain ⟨x', ex, rx⟩ := m1 i x hx
    obtain ⟨y', ey, ry⟩ := m2 i y hy
    obtain ⟨hz', hTI', hTO', ⟨t1', _⟩, ⟨t2', _⟩⟩ := st'
    have new : ObjOk X.prog X.w (upd H T (.frz { cls := .type "tuple", data := .seq #[x, y] } (.tup [x', y']))) h' T (.frz { cls := .type "tuple", data := .seq #[x, y] } (.tup [x', y'])) := ⟨hT, by show 2 ≤ sizeLine; decide, [x, y], .cons rx (.cons ry .nil), ⟨_, hT, rfl, _, rfl⟩⟩
    have I1 : Inv X pins σ (upd H T (.frz { cls := .type "tuple", data := .seq #[x, y] } (.tup [x', y']))) { s with heap := h', toks := tk } :=
      I.turnedNew (ch := [z, TI, TO, i1, i2]) (fun b o hb q => hk b o (fun m => hb (by simp only [List.mem_cons, List.not_mem_nil, or_false] at m ⊢; rcases m with m | m | m | m <;> simp [m])) q) hf hnew new
    refine ⟨.ref T, _, I1, rfl, ⟨T, _, x', y', rfl, I.hok.fresh hnew, ⟨rfl, rfl⟩, rfl, ex, ey⟩, ⟨hz', hTI', hTO', t1', t2'⟩, fun b hb => ?_⟩
    obtain ⟨o, ho, _⟩ : ∃ o, s.heap.get? b = some o ∧ ∀ v, o.data ≠ .cell v := by
      simp only [List.mem_cons, List.not_mem_nil, or_false] at hb
      rcases hb with rfl | rfl | rfl | rfl | rfl
      · exact ⟨_, hz, fun v q => nomatch q⟩
      · exact ⟨_, hTI, fun v q => nomatch q⟩
      · obtain ⟨_, _, e2⟩ := hTO
        exact ⟨_, e2, fun v q => nomatch q⟩
      · exact S1.ob _ _ _ t1
      · exact S2.ob _ _ _ t2
    rw [upd_ne (Nat.ne_of_lt (Nat.lt_of_lt_of_le (Heap.lt_size ho) hnew))]
    exact (hf b hb).1
  done := by
    intro X hP hw hK hc i pins s σ H E I hf st hg
    subst hP hw hK
    obtain ⟨hz, hTI, hTO, t1, t2⟩ := st
    obtain ⟨c1, c2, hi⟩ := hg
    have hh := I.ok.hd hc
    obtain ⟨P1, Q1, p1, D1, m1⟩ := S1.drw X pins σ H s X.A.in1 i1 rfl I c1 (by simp [hh]) n1
    obtain ⟨P2, Q2, p2, D2, m2⟩ := S2.drw X pins σ H s X.A.in1 i2 rfl I c2 (by simp [hh]) n2
    subst hi
    refine (GoesN.zip2 (elts := elts) (x1 := kk) (pos := tpos) Z D1 D2).stops s _ E ⟨hz, hTI, hTO, ⟨t1, p1⟩, ⟨t2, p2⟩⟩ fun h' tk hk htk => ?_
    exact I.turnedL (ch := [z, TI, TO, i1, i2]) (fun b o hb q => hk b o (fun m => hb (by simp only [List.mem_cons, List.not_mem_nil, or_false] at m ⊢; rcases m with m | m | m | m <;> simp [m])) q) hf
  self := fun A i s Q E st h => wpAny_pyIter_zip st.1 h
/-- what zip walks: two sequences -/
def iZipS (K : PySem.W.Frag) (ta : TA) : TI := fun σ H R => ta σ H fun vs H1 => ∃ k l x y xs ys, vs = [x, y] ∧ SqK K k x xs H1 ∧ SqK K l y ys H1 ∧ R (ItZ (SqK K k x xs) (SqK K l y ys) xs ys) H1
theorem pi_zipS {X : Cx} {e e2 : Expr} {ta : TA} {p pos tpos : Pos} {elts : List Expr} {kk : Nat} (hg : Gl X "zip") (hm : X.mg "zip" = none) (ha : PA X [e, e2] ta)
    (hs : starEach [e, e2] X.env = (false, eval e X.env) :: starEach [e2] X.env) (hpl : (backTo pos (starEach [e2] X.env)).any (·.1) = false) :
    PI X (.Tuple elts kk tpos) (.Call (.Name "zip" p) [e, e2] [] pos) (iZipS X.K ta) := ⟨fun pins s σ H R I h => by
  refine Call_ (ld_blt I hg hm PyProof.Rows.boot_zip (PyProof.Rows.callWith_type1 (thn (ha.run pos pins s σ H _ I h) fun us s1 ⟨vs, H1, I1, r1, k, l, x, y, xs, ys, ex, hx, hy, q⟩ => ?_) hs hpl))
  subst ex
  obtain ⟨u1, u2, rfl, rx, ry⟩ := vals2 r1
  obtain ⟨own1, T1, S1⟩ := seq_of hx rx
  obtain ⟨own2, T2, S2⟩ := seq_of hy ry
  obtain ⟨o1, Pre1, B1, p1, st1, l1⟩ := S1.beg X pins σ H1 s1 rfl I1 hx
  obtain ⟨o2, Pre2, B2, p2, st2, l2⟩ := S2.beg X pins σ H1 s1 rfl I1 hy
  refine zip_begins2 B1 B2 p1 p2 fun h' hz hTI hTO h1 h2 hsz hk => wpAny_pyIter_zip hz ?_
  have I2 : Inv X pins σ H1 { s1 with heap := h' } := I1.kept (t' := s1.toks) hk
  have f1 : s1.heap.objs.size ∉ own1 := fun m => Nat.lt_irrefl _ (l1 _ m)
  have f2 : s1.heap.objs.size + 1 ∉ own2 := fun m => Nat.lt_irrefl _ (Nat.lt_of_succ_lt (l2 _ m))
  refine ⟨s1.heap.objs.size + 4, [s1.heap.objs.size + 4, s1.heap.objs.size + 2, s1.heap.objs.size + 3, s1.heap.objs.size, s1.heap.objs.size + 1], _, _, H1, rfl, I2, turn_zipS S1 S2 (zip_sep2 l1 l2) f1 f2, ⟨hz, hTI, ⟨_, _, hTO⟩, st1 _ _ h1, st2 _ _ h2⟩, fun c hc => ?_, q⟩
  have hle : s1.heap.objs.size ≤ c := by
    simp only [List.mem_cons, List.not_mem_nil, or_false] at hc
    rcases hc with rfl | rfl | rfl | rfl | rfl
    all_goals first | exact Nat.le_refl _ | exact Nat.le_add_right _ _
  exact I1.fpOk hle (I1.hok.fresh hle)⟩
/-- a list, a tuple or a text, walked -/
def iSeq (K : PySem.W.Frag) (te : TE) : TI := fun σ H R => te σ H fun x H1 => (∃ a xs, x = .ref a ∧ SqL K H1 a xs ∧ R (Itl K a) H1) ∨ (∃ a xs, x = .ref a ∧ SqT K H1 a xs ∧ R (Itt K a) H1) ∨ ∃ y, x = .str y ∧ R (Its y) H1
theorem pi_seq {X : Cx} {tg e : Expr} {te : TE} (he : PE X e te) : PI X tg e (iSeq X.K te) := ⟨fun pins s σ H R I h => by
  refine thn (he.run pins s σ H _ I h) fun v s1 ⟨x, H1, I1, r, q⟩ => ?_
  rcases q with ⟨a, xs, rfl, hq, q⟩ | ⟨a, xs, rfl, hq, q⟩ | ⟨y, rfl, q⟩
  · obtain rfl : v = .ref a := r
    obtain ⟨its, rv, p, _⟩ := I1.list hq
    exact wpAny_pyIter_list p.isList (pi_one (tk := s1.toks) I1 _ (turn_list a _) ⟨_, Heap.get?_push_size _ rfl, rfl, rfl⟩ q)
  · obtain rfl : v = .ref a := r
    obtain ⟨its, rv, p, _⟩ := I1.tuple hq
    exact wpAny_pyIter_tuple (show s1.heap.IsTuple a its.toArray from p) (pi_one (tk := s1.toks) I1 _ (turn_tuple a _) ⟨_, Heap.get?_push_size _ rfl, rfl, rfl⟩ q)
  · obtain ⟨t, rfl⟩ := r
    cases ha : y.cps.all (· < 128)
    · exact wpAny_pyIter_wide ha (pi_one (tk := s1.toks) I1 _ (turn_str _ y t "str_iterator" (.inr rfl)) ⟨_, Heap.get?_push_size _ rfl, rfl, rfl⟩ q)
    · exact wpAny_pyIter_ascii ha (pi_one (tk := s1.toks) I1 _ (turn_str _ y t "str_ascii_iterator" (.inl rfl)) ⟨_, Heap.get?_push_size _ rfl, rfl, rfl⟩ q)⟩
/-- the iterator J walks the items -/
def JR (K : PySem.W.Frag) (CI : CInf) (s : Sx) (items : List PyData) (J : It) : Prop := ∀ s', Le s s' → HR K CI s' → ∀ i,
  (i < items.length → J.go i s'.H) ∧ (i = items.length → J.stop i s'.H) ∧ ∀ x H', i < items.length → J.yld i s'.H x H' → ∃ d s'', items[i]? = some d ∧ s''.H = H' ∧ Le s' s'' ∧ s''.h = s'.h ∧ HR K CI s'' ∧ RF K s''.F H' d x
theorem JR.le {K : PySem.W.Frag} {CI : CInf} {s s1 : Sx} {items : List PyData} {J : It} (l : Le s s1) (h : JR K CI s items J) : JR K CI s1 items J := fun s' l' => h s' (l.trans l')
def DI (Γ : Gm) (N : List Str) (sc : Sco) (tg e : Expr) (src : Src) : Prop :=
  ∀ n I W X, GX Γ n I N sc W X → PI X tg e (tE X.K I W (fun env h => evalSrc (callF Γ.fns n) env src h) (JR X.K I.ci))
section
variable {K : PySem.W.Frag} {CI : CInf} {s : Sx}
theorem rf_seq {ts : List PyData} {d : PyData} {x : V} (e : itemsOf d = some ts) (r : RF K s.F s.H d x) : ∃ k xs, SqK K k x xs s.H ∧ RFs K s.F s.H ts xs ∧ ∀ s', Le s s' → SqK K k x xs s'.H := by
  cases d with
  | list us =>
    cases e
    obtain ⟨a, xs, rfl, h, q⟩ := r.lst_inv
    exact ⟨.l a, xs, ⟨rfl, h.sq⟩, q, fun s' l => ⟨rfl, (l.kf.lq h).sq⟩⟩
  | tuple us =>
    cases e
    obtain ⟨a, xs, rfl, h, q⟩ := r.tup_inv
    exact ⟨.t a, xs, ⟨rfl, h⟩, q, fun s' l => ⟨rfl, l.kf.sqT h⟩⟩
  | str y =>
    cases e
    obtain rfl := r.str_inv
    refine ⟨.s y, charsV y, ⟨rfl, rfl⟩, ?_, fun s' l => ⟨rfl, rfl⟩⟩
    unfold charsV
    generalize y.cps.toList = l
    induction l with
    | nil => exact .nil
    | cons c l ih => exact .cons (.str _) ih
  | _ => cases e
theorem same_step {H' : Hp} {s' : Sx} {d : PyData} {x : V} (hr : HR K CI s') (r : RF K s'.F s'.H d x) (e : H' = s'.H) {o : Option PyData} (eo : o = some d) : ∃ d s'', o = some d ∧ s''.H = H' ∧ Le s' s'' ∧ s''.h = s'.h ∧ HR K CI s'' ∧ RF K s''.F H' d x :=
  ⟨d, s', eo, e.symm, .refl _, rfl, hr, by rw [e]; exact r⟩
/-- a sequence's own walk -/
theorem jr_seq {X : Cx} {ts : List PyData} {d : PyData} {x : V} (hk : X.K = K) (e : itemsOf d = some ts) (r : RF K s.F s.H d x) {R : It → Hp → Prop} (q : ∀ J, JR K CI s ts J → R J s.H) :
    (∃ a xs, x = .ref a ∧ SqL X.K s.H a xs ∧ R (Itl X.K a) s.H) ∨ (∃ a xs, x = .ref a ∧ SqT X.K s.H a xs ∧ R (Itt X.K a) s.H) ∨ ∃ y, x = .str y ∧ R (Its y) s.H := by
  subst hk
  cases d with
  | list us =>
    cases e
    obtain ⟨a, xs, rfl, h, t⟩ := r.lst_inv
    refine .inl ⟨a, xs, rfl, h.sq, q _ fun s' l hr' i => ⟨fun hi => ?_, fun hi => ?_, fun y H' _ hy => ?_⟩⟩
    · have := t.length
      exact ⟨xs, xs[i]'(by omega), (l.kf.lq h).sq, List.getElem?_eq_getElem _⟩
    · exact ⟨xs, (l.kf.lq h).sq, by have := t.length; omega⟩
    · obtain ⟨rfl, hy⟩ := hy
      obtain ⟨d, e1, rd⟩ := (t.keep l.kf).get' (hy xs (l.kf.lq h).sq)
      exact same_step hr' rd rfl e1
  | tuple us =>
    cases e
    obtain ⟨a, xs, rfl, h, t⟩ := r.tup_inv
    refine .inr (.inl ⟨a, xs, rfl, h, q _ fun s' l hr' i => ⟨fun hi => ?_, fun hi => ?_, fun y H' _ hy => ?_⟩⟩)
    · have := t.length
      exact ⟨xs, xs[i]'(by omega), l.kf.sqT h, List.getElem?_eq_getElem _⟩
    · exact ⟨xs, l.kf.sqT h, by have := t.length; omega⟩
    · obtain ⟨rfl, hy⟩ := hy
      obtain ⟨d, e1, rd⟩ := (t.keep l.kf).get' (hy xs (l.kf.sqT h))
      exact same_step hr' rd rfl e1
  | str y =>
    cases e
    obtain rfl := r.str_inv
    refine .inr (.inr ⟨y, rfl, q _ fun s' l hr' i => ⟨fun hi => ?_, fun hi => ?_, fun z H' _ hz => ?_⟩⟩)
    · show i < y.cps.size
      simpa using hi
    · have : i = y.cps.size := by simpa using hi
      exact Nat.le_of_eq this.symm
    · obtain ⟨rfl, c, e1, rfl⟩ := hz
      exact same_step hr' (.str _) rfl (by rw [List.getElem?_map, Array.getElem?_toList, e1]; rfl)
  | _ => cases e
theorem rangeD_get {lo : Int} {n : Nat} {c : Int} {i : Nat} (h : i < n) : (rangeD lo n c)[i]? = some (.int (lo + (i : Int) * c)) := by
  unfold rangeD
  rw [List.getElem?_map, List.getElem?_range h]
  rfl
theorem rangeD_len {lo : Int} {n : Nat} {c : Int} : (rangeD lo n c).length = n := by simp [rangeD]
theorem jr_rng {lo : Int} {n : Nat} : JR K CI s (rangeD lo n 1) (Itr lo n) := fun s' l hr' i => by
  rw [rangeD_len]
  refine ⟨fun hi => hi, fun hi => Nat.le_of_eq hi.symm, fun x H' hi hy => ?_⟩
  obtain ⟨rfl, rfl⟩ := hy
  exact same_step hr' (.int _) rfl (by rw [rangeD_get hi, Int.mul_one])
theorem jr_rngC {lo c : Int} {n : Nat} : JR K CI s (rangeD lo n c) (Itc lo c n) := fun s' l hr' i => by
  rw [rangeD_len]
  refine ⟨fun hi => hi, fun hi => Nat.le_of_eq hi.symm, fun x H' hi hy => ?_⟩
  obtain ⟨rfl, rfl⟩ := hy
  exact same_step hr' (.int _) rfl (rangeD_get hi)
theorem zipD_len : ∀ (ts us : List PyData), (zipD ts us).length = min ts.length us.length
  | [], us => by simp [zipD]
  | _ :: _, [] => by simp [zipD]
  | t :: ts, u :: us => by simp only [zipD, List.length_cons, zipD_len ts us]; omega
theorem zipD_get : ∀ {ts us : List PyData} {i : Nat} {a b : PyData}, ts[i]? = some a → us[i]? = some b → (zipD ts us)[i]? = some (.tuple [a, b])
  | [], _, _, _, _, e, _ => by simp at e
  | _ :: _, [], _, _, _, _, e => by simp at e
  | t :: ts, u :: us, 0, a, b, e, f => by simp at e f; subst e f; rfl
  | t :: ts, u :: us, i + 1, a, b, e, f => by
    have := zipD_get (ts := ts) (us := us) (i := i) (by simpa using e) (by simpa using f)
    simpa [zipD] using this
theorem jr_zip {ts us : List PyData} {xs ys : List V} {x y : V} {k l : Kd} (r1 : RFs K s.F s.H ts xs) (r2 : RFs K s.F s.H us ys) (k1 : ∀ s', Le s s' → SqK K k x xs s'.H) (k2 : ∀ s', Le s s' → SqK K l y ys s'.H) :
    JR K CI s (zipD ts us) (ItZ (SqK K k x xs) (SqK K l y ys) xs ys) := fun s' le hr' i => by
  rw [zipD_len, r1.length, r2.length]
  refine ⟨fun hi => ⟨k1 s' le, k2 s' le, hi⟩, fun hi => ⟨k1 s' le, k2 s' le, hi⟩, fun v H' hi hy => ?_⟩
  obtain ⟨T, o, a, b, rfl, hT, ho, rfl, ea, eb⟩ := hy
  obtain ⟨d, e1, rd⟩ := (r1.keep le.kf).get' ea
  obtain ⟨e, e2, re⟩ := (r2.keep le.kf).get' eb
  exact ⟨_, s'.put T (.frz o (.tup [a, b])) false, zipD_get e1 e2, rfl, hr'.put_le hT, rfl, hr'.put hT, tup_new (K := K) (s := s') hT ho (.cons rd (.cons re .nil))⟩
end
section
variable {Γ : Gm} {N : List Str} {sc : Sco} {e tg ea eb ec : Expr} {a b c : E} {o : O2} {pos p p2 : Pos} {es : List Expr} {as : List E} {i j : Nat} {x f : Str}
theorem di_e (ha : DV Γ N sc ea a) : DI Γ N sc tg ea (.e a) := fun n I W X g => (pi_seq (ha n I W X g)).imp fun σ H R q => by
  obtain ⟨env, s, eH, hr, er, _, pr⟩ := At.bind (Rel1 := PRl X.K) (ev2 := fun d env h1 => ofO (itemsOf d) h1) q
  refine ⟨env, s, eH, hr, er, trivial, ?_⟩
  refine PR.mono pr fun x H1 ⟨d, env, s, e, hr, er, ⟨_, rb⟩, pr⟩ => ?_
  replace pr : PR X.K I W s σ (ofO (itemsOf d) s.h) (JR X.K I.ci) R := pr
  cases e1 : itemsOf d with
  | none => rw [e1] at pr; exact False.elim pr
  | some ts =>
    rw [e1] at pr
    subst e
    exact jr_seq rfl e1 rb fun J j => pr s J (.refl s) rfl hr j
theorem rngOk_of {j : Int} (h : rngOk j = true) : -(2 ^ 62) ≤ j ∧ j < 2 ^ 62 := by
  unfold rngOk at h
  rw [decide_eq_true_eq] at h
  omega
theorem rng2K_inv (d e : PyData) (h : Hi) : (∃ i j, d = .int i ∧ e = .int j ∧ rngOk i = true ∧ rngOk j = true ∧ rng2K d e h = .ok (rangeD i (j - i).toNat 1) h) ∨ rng2K d e h = .stuck := by
  unfold rng2K
  split
  · split
    · rename_i q
      exact .inl ⟨_, _, rfl, rfl, q.1, q.2, rfl⟩
    · exact .inr rfl
  · exact .inr rfl
theorem rng3K_inv (d e : PyData) (h : Hi) : (∃ i j, d = .int i ∧ e = .int j ∧ rngOk i = true ∧ rngOk j = true ∧ rng3K d e h = .ok (rangeD i (i - j).toNat (-1)) h) ∨ rng3K d e h = .stuck := by
  unfold rng3K
  split
  · split
    · rename_i q
      exact .inl ⟨_, _, rfl, rfl, q.1, q.2, rfl⟩
    · exact .inr rfl
  · exact .inr rfl
theorem di_rng1 (v : NB Γ sc "range") (ha : DV Γ N sc ea a) (se : ∀ env, starEach [ea] env = [(false, eval ea env)] := by intro _; rfl) : DI Γ N sc tg (.Call (.Name "range" p) [ea] [] pos) (.rng1 a) := fun n I W X g =>
  (pi_range1 (v.g.g g) (g.nob _ v.m) (pa_cons (ha n I W X g) pa_nil (se _)) (se _)).imp fun σ H R q => by
    obtain ⟨env, s, eH, hr, er, _, pr⟩ := At.bind (Rel1 := PRl X.K) (ev2 := fun d env h1 => rng1K d h1) q
    refine ⟨env, s, eH, hr, er, trivial, ?_⟩
    refine PR.mono pr fun x H1 ⟨d, env, s, e, hr, er, ⟨_, rb⟩, pr⟩ => ?_
    subst e
    replace pr : PR X.K I W s σ (rng1K d s.h) (JR X.K I.ci) R := pr
    unfold rng1K at pr
    cases d with
    | int k =>
      simp only at pr
      split at pr
      · rename_i h
        obtain rfl : x = .int k := RF.int_inv rb
        obtain ⟨h1, h2⟩ := rngOk_of h
        exact ⟨k, rfl, h1, h2, pr s _ (.refl s) rfl hr jr_rng⟩
      · exact False.elim pr
    | _ => exact False.elim pr
theorem di_rng2 (v : NB Γ sc "range") (ha : DV Γ N sc ea a) (hb : DV Γ N sc eb b) (se : ∀ env, starEach [ea, eb] env = [(false, eval ea env), (false, eval eb env)] := by intro _; rfl) (se2 : ∀ env, starEach [eb] env = [(false, eval eb env)] := by intro _; rfl) :
    DI Γ N sc tg (.Call (.Name "range" p) [ea, eb] [] pos) (.rng2 a b) := fun n I W X g =>
  (pi_range2 (v.g.g g) (g.nob _ v.m) (pa_cons (ha n I W X g) (pa_cons (hb n I W X g) pa_nil (se2 _)) (by rw [se, se2])) (se _) (se2 _)).imp fun σ H R q => by
    obtain ⟨env, s, eH, hr, er, _, pr⟩ := At.bind (Rel1 := PRl X.K) (ev2 := fun d env h1 => ((evalE (callF Γ.fns n) env b h1).bind unP).bind fun e h2 => rng2K d e h2) q
    refine ⟨env, s, eH, hr, er, trivial, ?_⟩
    refine PR.mono pr fun x H1 ⟨d, q⟩ => ?_
    obtain ⟨env, s, eH, hr, er, _, pr⟩ := At.bind (Rel1 := PRl X.K) (G' := fun s => PRl X.K s d x) (ev2 := fun e env h2 => rng2K d e h2) q (fun s s' l g => g.2.le l)
    refine ⟨env, s, eH, hr, er, trivial, ?_⟩
    refine PR.mono pr fun y H2 ⟨d2, env, s, e, hr, er, ⟨r1, r2⟩, pr2⟩ => ?_
    subst e
    replace pr2 : PR X.K I W s σ (rng2K d d2 s.h) (JR X.K I.ci) R := pr2
    rcases rng2K_inv d d2 s.h with ⟨i, j, rfl, rfl, g1, g2, e⟩ | e
    · rw [e] at pr2
      obtain rfl := RF.int_inv r1
      obtain rfl := RF.int_inv r2
      obtain ⟨h1, h2⟩ := rngOk_of g1
      obtain ⟨h3, h4⟩ := rngOk_of g2
      exact ⟨i, j, rfl, ⟨h1, h2, h3, h4⟩, pr2 s _ (.refl s) rfl hr jr_rng⟩
    · rw [e] at pr2
      exact False.elim pr2
theorem di_zip {elts : List Expr} {kk : Nat} {tpos : Pos} (v : NB Γ sc "zip") (ha : DV Γ N sc ea a) (hb : DV Γ N sc eb b) (se : Se2 ea eb := by intro _; rfl) (se2 : Se1 eb := by intro _; rfl) (hpl : ∀ env, (backTo pos (starEach [eb] env)).any (·.1) = false := by intro _; rfl) :
    DI Γ N sc (.Tuple elts kk tpos) (.Call (.Name "zip" p) [ea, eb] [] pos) (.zip a b) := fun n I W X g =>
  (pi_zipS (v.g.g g) (g.nob _ v.m) (pa_cons (ha n I W X g) (pa_cons (hb n I W X g) pa_nil (se2 _)) (se _)) (se _) (hpl _)).imp fun σ H R q => by
    obtain ⟨env, s, eH, hr, er, _, pr⟩ := At.bind (Rel1 := PRl X.K) (ev2 := fun d env h1 => ((evalE (callF Γ.fns n) env b h1).bind unP).bind fun e h2 => ofO ((itemsOf d).bind fun xs => (itemsOf e).map fun ys => zipD xs ys) h2) q
    refine ⟨env, s, eH, hr, er, trivial, ?_⟩
    refine PR.mono pr fun x H1 ⟨d, q⟩ => ?_
    obtain ⟨env, s, eH, hr, er, _, pr⟩ := At.bind (Rel1 := PRl X.K) (G' := fun s => PRl X.K s d x) (ev2 := fun e env h2 => ofO ((itemsOf d).bind fun xs => (itemsOf e).map fun ys => zipD xs ys) h2) q (fun s s' l g => g.2.le l)
    refine ⟨env, s, eH, hr, er, trivial, ?_⟩
    refine PR.mono pr fun y H2 ⟨d2, env, s, e, hr, er, ⟨r1, r2⟩, pr2⟩ => ?_
    subst e
    replace pr2 : PR X.K I W s σ (ofO ((itemsOf d).bind fun xs => (itemsOf d2).map fun ys => zipD xs ys) s.h) (JR X.K I.ci) R := pr2
    cases e1 : itemsOf d with
    | none => rw [e1] at pr2; exact False.elim pr2
    | some ts =>
      cases e2 : itemsOf d2 with
      | none => rw [e1, e2] at pr2; exact False.elim pr2
      | some us =>
        rw [e1, e2] at pr2
        obtain ⟨k, xs, h1, q1, k1⟩ := rf_seq e1 r1
        obtain ⟨l, ys, h2, q2, k2⟩ := rf_seq e2 r2
        exact ⟨k, l, x, y, xs, ys, rfl, h1, h2, pr2 s _ (.refl s) rfl hr (jr_zip q1 q2 k1 k2)⟩
end
end Cd
set_option Elab.async false
set_option linter.all false
set_option maxRecDepth 100000
set_option maxHeartbeats 4000000
namespace Cd
open PySem PySem.Spec PyProof.Rows L2
/-- the names within a comprehension -/
def blkS (sc : Sco) (scope : Scope) : Sco := ⟨relS scope sc.s, fun x => scope.names.lookup x == some .cell, false, sc.gd⟩
section
variable {Γ : Gm} {N : List Str} {sc : Sco} {n : Nat} {I : Inf} {W : WX} {X : Cx}
theorem GX.blk (g : GX Γ n I N sc W X) (scope : Scope) (s : Shared) (H : Hp) (C : Addr) (cl : List (Str × Addr)) (fp : List Addr) : GX Γ n I N (blkS sc scope) (fun _ _ _ _ => False) (X.blk s H scope (compEnvC scope cl C X.env) fp) where
  hN := g.hN
  nd := g.nd
  fnc := rfl
  sc := by
    show relabel scope X.env = relS scope sc.s
    rw [← g.sc]
    rfl
  calm := g.calm
  tk := takes0
  pass := PassesOwn.never
  room := g.room
  fn := g.fn
  nob := g.nob
  con := g.con
  cl := g.cl
  mt := g.mt
  fl := g.fl
  ci := g.ci
  xc := g.xc
  xm := g.xm
  tb := g.tb
  st := g.st
  ho := g.ho
  stk := fun z => by cases z
  gd := g.gd
end
def DTs (Γ : Gm) (N : List Str) (sc : Sco) (es : List Expr) (ts : List Te) : Prop :=
  ∀ n I W X, GX Γ n I N sc W X → PTs X es (tE X.K I W (fun env h => evalTs (callF Γ.fns n) env ts h) (fun _ a x => x = a))
theorem _root_.L2.PTs.imp {X : Cx} {e : List Expr} {t t' : TT} (h : PTs X e t) (i : ∀ σ H Q, t' σ H Q → t σ H Q) : PTs X e t' := ⟨fun pins s σ H Q I q => h.run pins s σ H Q I (i σ H Q q)⟩
section
variable {Γ : Gm} {N : List Str} {sc : Sco} {e tg ea eb ec : Expr} {a b c : E} {ta : Te} {o : O2} {pos p p2 : Pos} {es : List Expr} {as : List E} {i j : Nat} {x f : Str} {t : Tg} {src : Src}
theorem dts_nil : DTs Γ N sc [] [] := fun n I W X g => pts_nil.imp fun σ H Q ⟨env, s, eH, hr, er, _, pr⟩ => by
  subst eH
  exact pr s true (.refl s) rfl hr rfl
theorem dts_one (h : DT Γ N sc ea ta) : DTs Γ N sc [ea] [ta] := fun n I W X g => (pts_one (h n I W X g)).imp fun σ H Q ⟨env, s, eH, hr, er, _, pr⟩ => by
  refine ⟨env, s, eH, hr, er, trivial, ?_⟩
  have pr' : PR X.K I W s σ ((evalT (callF Γ.fns n) env ta s.h).bind fun k h1 => ifK (fun h2 => R.ok true h2) (fun h2 => .ok false h2) k h1) (fun _ a x => x = a) Q := pr
  show PR X.K I W s σ (evalT (callF Γ.fns n) env ta s.h) (fun _ a x => x = a) Q
  generalize evalT (callF Γ.fns n) env ta s.h = r at pr' ⊢
  cases r with
  | ok k h1 => cases k <;> exact pr'
  | exc e h1 => exact pr'
  | stuck => exact pr'
theorem wipe_in {σ : L2.St} : ∀ {vs : List Nat} {k : Nat}, k ∈ vs → k < σ.length → (wipe σ vs)[k]? = some none
  | v :: vs, k, h, l => by
    show ((wipe σ vs).set v none)[k]? = some none
    by_cases e : k = v
    · subst e
      rw [List.getElem?_set_self (by rw [wipe_length]; exact l)]
    · rw [List.getElem?_set_ne (Ne.symm e)]
      exact wipe_in (by simpa [e] using h) l
theorem wipe_eq {σ σ' : L2.St} {vs : List Nat} (hl : σ'.length = σ.length) (h : ∀ k, k ∉ vs → σ'[k]? = σ[k]?) : wipe σ' vs = wipe σ vs := by
  apply List.ext_getElem?
  intro k
  by_cases hk : k ∈ vs
  · by_cases l : k < σ.length
    · rw [wipe_in hk l, wipe_in hk (by rw [hl]; exact l)]
    · rw [List.getElem?_eq_none (by rw [wipe_length]; omega), List.getElem?_eq_none (by rw [wipe_length]; omega)]
  · rw [wipe_out hk, wipe_out hk, h k hk]
/-- a list under construction gets its next content -/
def Sx.wr (s : Sx) (D : Addr) (xs : List V) : Sx := { s with H := upd s.H D (.lst xs) }
section
variable {K : PySem.W.Frag} {CI : CInf} {s s0 : Sx} {D : Addr} {ys xs : List V}
theorem wr_keep (hr : HR K CI s) (hb : s.B D) (hD : s.H D = some (.lst ys)) : KeepF s.F s.H (s.wr D xs).F (s.wr D xs).H where
  up := fun _ h => h
  fz := fun a o f h => by
    show upd s.H D _ a = some o
    rw [upd_ne (fun e => by subst e; exact (hr.bt a hb).2.1 f)]; exact h
  tp := fun a o h => by
    show upd s.H D _ a = some _
    rw [upd_ne (fun e => by rw [e, hD] at h; cases h)]; exact h
  zz := fun a o u h => by
    show upd s.H D _ a = some _
    rw [upd_ne (fun e => by rw [e, hD] at h; cases h)]; exact h
theorem HR.wr (hr : HR K CI s) (hb : s.B D) (hD : s.H D = some (.lst ys)) : HR K CI (s.wr D xs) where
  ob := fun n o e => (hr.ob n o e).move (wr_keep hr hb hD) e fun j l => ⟨rfl, fun u h => by
    show upd s.H D _ (s.φ n j) = some u
    rw [upd_ne ((hr.bt D hb).1 n j l)]; exact h⟩
  inj := hr.inj
  nf := hr.nf
  bt := fun b h => by
    obtain ⟨h1, h2, u, h3⟩ := hr.bt b h
    refine ⟨h1, h2, ?_⟩
    by_cases e : b = D
    · exact ⟨.lst xs, by show upd s.H D _ b = _; rw [e]; exact upd_same⟩
    · exact ⟨u, by show upd s.H D _ b = some u; rw [upd_ne e]; exact h3⟩
  ft := fun b h => by
    obtain ⟨u, h3⟩ := hr.ft b h
    exact ⟨u, by show upd s.H D _ b = some u; rw [upd_ne (fun e => by subst e; exact (hr.bt b hb).2.1 h)]; exact h3⟩
theorem wr_le (l : Le s0 s) (h0 : s0.H D = none) (hr0 : HR K CI s0) : Le s0 (s.wr D xs) where
  len := l.len
  ph := l.ph
  kf := ⟨l.kf.up, fun a o f h => by show upd s.H D _ a = some o; rw [upd_ne (ne_of_none h h0)]; exact l.kf.fz a o f h,
    fun a o h => by show upd s.H D _ a = some _; rw [upd_ne (ne_of_none h h0)]; exact l.kf.tp a o h,
    fun a o u h => by show upd s.H D _ a = some _; rw [upd_ne (ne_of_none h h0)]; exact l.kf.zz a o u h⟩
  fr := fun b h => by
    obtain ⟨h1, h2⟩ := l.fr b h
    obtain ⟨_, _, u, e⟩ := hr0.bt b h
    exact ⟨h1, by show upd s.H D _ b = s0.H b; rw [upd_ne (ne_of_none e h0)]; exact h2⟩
end
/-- with D kept apart -/
def Sx.guard (s : Sx) (D : Addr) : Sx := { s.put D (.lst []) false with B := fun b => s.B b ∨ b = D }
theorem HR.guard {K : PySem.W.Frag} {CI : CInf} {s : Sx} {D : Addr} (hr : HR K CI s) (h : s.H D = none) : HR K CI (s.guard D) := by
  have r := hr.put (o := .lst []) (fz := false) h
  refine ⟨r.ob, r.inj, r.nf, fun b hb => ?_, r.ft⟩
  rcases hb with hb | hb
  · exact r.bt b hb
  · subst hb
    refine ⟨(hr.fresh h).2.1, fun f => ?_, _, upd_same⟩
    rcases f with f | ⟨f, _⟩
    · exact (hr.fresh h).1 f
    · cases f
theorem guard_le {K : PySem.W.Frag} {CI : CInf} {s : Sx} {D : Addr} (hr : HR K CI s) (h : s.H D = none) : Le s (s.guard D) :=
  have l := hr.put_le (o := .lst []) (fz := false) h
  ⟨l.len, l.ph, l.kf, fun b hb => ⟨.inl hb, (l.fr b hb).2⟩⟩
def Sx.unguard (s : Sx) (B : Addr → Prop) : Sx := { s with B := B }
theorem compK_inv {r : R (List PyData)} : (∃ ys h, r = .ok ys h ∧ compK r = .ok (.p (.list ys)) h) ∨ compK r = .stuck := by
  cases r with
  | ok ys h => exact .inl ⟨ys, h, rfl, rfl⟩
  | _ => exact .inr rfl
abbrev snds (own : List (Str × Nat)) : List Nat := own.map fun p => p.2
/-- what a comprehension's row asks, from what its small program does -/
theorem lc_imp {n : Nat} {I : Inf} {W : WX} {X : Cx} {conds : List Te} {own : List (Str × Nat)} (hsub : ∀ k, k ∈ tgSlots t → k ∈ snds own) {σ : L2.St} {H : Hp} {Q : VK}
    (q : tE X.K I W (fun env h => (evalE (callF Γ.fns n) env (.comp (snds own) t src conds a) h).bind unP) (RN X.K) σ H Q) :
    tLc (tE X.K I W (fun env h => evalSrc (callF Γ.fns n) env src h) (JR X.K I.ci)) (tG X.K I.ci t) (tE X.K I (fun _ _ _ _ => False) (fun env h => evalTs (callF Γ.fns n) env conds h) (fun _ a x => x = a))
      (tE X.K I (fun _ _ _ _ => False) (fun env h => (evalE (callF Γ.fns n) env a h).bind unP) (PRl X.K)) (own.map (·.2)) σ H Q := by
  have q' : tE X.K I W (fun env h => (evalSrc (callF Γ.fns n) env src h).bind fun items h1 => (compK2 (compL (fun e h => (evalE (callF Γ.fns n) e a h).bind unP) (fun e h => evalTs (callF Γ.fns n) e conds h) (fun x e => bindT t x e) (wipeE env (snds own))) items h1).bind unP) (RN X.K) σ H Q := by
    obtain ⟨env, s, eH, hr, er, _, pr⟩ := q
    refine ⟨env, s, eH, hr, er, trivial, ?_⟩
    have pr' : PR X.K I W s σ (((evalSrc (callF Γ.fns n) env src s.h).bind fun items h1 => compK2 (compL (fun e h => (evalE (callF Γ.fns n) e a h).bind unP) (fun e h => evalTs (callF Γ.fns n) e conds h) (fun x e => bindT t x e) (wipeE env (snds own))) items h1).bind unP) (RN X.K) Q := pr
    show PR X.K I W s σ ((evalSrc (callF Γ.fns n) env src s.h).bind fun items h1 => (compK2 (compL (fun e h => (evalE (callF Γ.fns n) e a h).bind unP) (fun e h => evalTs (callF Γ.fns n) e conds h) (fun x e => bindT t x e) (wipeE env (snds own))) items h1).bind unP) (RN X.K) Q
    generalize evalSrc (callF Γ.fns n) env src s.h = r at pr' ⊢
    cases r with
    | ok items h1 => exact pr'
    | exc e h1 => exact pr'
    | stuck => exact pr'
  obtain ⟨env, s, eH, hr, er, _, pr⟩ := At.bind (Rel1 := JR X.K I.ci) (ev2 := fun items env h1 => (compK2 (compL (fun e h => (evalE (callF Γ.fns n) e a h).bind unP) (fun e h => evalTs (callF Γ.fns n) e conds h) (fun x e => bindT t x e) (wipeE env (snds own))) items h1).bind unP) q'
  refine ⟨env, s, eH, hr, er, trivial, ?_⟩
  refine PR.mono pr fun J H1 ⟨items, env, s, e, hr, er, ⟨_, jr⟩, pr⟩ => ?_
  clear q' q
  intro D hD
  subst e
  replace pr : PR X.K I W s σ ((compK2 (compL (fun e h => (evalE (callF Γ.fns n) e a h).bind unP) (fun e h => evalTs (callF Γ.fns n) e conds h) (fun x e => bindT t x e) (wipeE env (snds own))) items s.h).bind unP) (RN X.K) Q := pr
  unfold compK2 at pr
  by_cases hz : items.length < sizeLine
  · rw [if_pos hz] at pr
    rcases compK_inv (r := compL (fun e h => (evalE (callF Γ.fns n) e a h).bind unP) (fun e h => evalTs (callF Γ.fns n) e conds h) (fun x e => bindT t x e) (wipeE env (snds own)) items s.h) with ⟨ys, h2, e1, e2⟩ | e2
    · rw [e2] at pr
      replace pr : PR X.K I W s σ (R.ok (PyData.list ys) h2) (RN X.K) Q := pr
      have hD0 : s.H D = none := hD
      refine ⟨fun i m H' => i ≤ items.length ∧ m = items.length - i ∧ ∃ s' acc accT rest, s'.H = H' ∧ HR X.K I.ci s' ∧ Le s s' ∧ s'.B D ∧ s'.H D = some (.lst acc) ∧ RFs X.K s'.F s'.H accT acc ∧ accT.length ≤ i ∧
        compL (fun e h => (evalE (callF Γ.fns n) e a h).bind unP) (fun e h => evalTs (callF Γ.fns n) e conds h) (fun x e => bindT t x e) (wipeE env (snds own)) (items.drop i) s'.h = .ok rest h2 ∧ accT ++ rest = ys,
        ⟨_, Nat.zero_le _, rfl, s.guard D, [], [], ys, rfl, hr.guard hD0, guard_le hr hD0, .inr rfl, upd_same, .nil, Nat.le_refl _, by rw [List.drop_zero]; exact e1, rfl⟩, ?_⟩
      rintro i m H' ⟨hi, rfl, s', acc, accT, rest, rfl, hr', l', hB, hDa, ra, hla, er1, er2⟩
      have hlen := ra.length
      by_cases hin : i = items.length
      · left
        refine ⟨(jr s' l' hr' i).2.1 hin, ?_⟩
        subst hin
        rw [List.drop_length] at er1
        cases er1
        rw [List.append_nil] at er2
        subst er2
        refine pr (s'.unguard s.B) (.ref D) ⟨l'.len, l'.ph, l'.kf, fun b hb => ⟨hb, (l'.fr b hb).2⟩⟩ rfl ⟨hr'.ob, hr'.inj, hr'.nf, fun b hb => hr'.bt b (l'.fr b hb).1, hr'.ft⟩ ?_
        exact ⟨accT, D, acc, rfl, rfl, hDa, ra, (hr'.bt D hB).2.1, (hr'.bt D hB).1, (hr.fresh hD0).2.2⟩
      · right
        have hlt : i < items.length := by omega
        refine ⟨(jr s' l' hr' i).1 hlt, fun H'' => i + 1 ≤ items.length ∧ ∃ s' acc accT rest, s'.H = H'' ∧ HR X.K I.ci s' ∧ Le s s' ∧ s'.B D ∧ s'.H D = some (.lst acc) ∧ RFs X.K s'.F s'.H accT acc ∧ accT.length ≤ i + 1 ∧
          compL (fun e h => (evalE (callF Γ.fns n) e a h).bind unP) (fun e h => evalTs (callF Γ.fns n) e conds h) (fun x e => bindT t x e) (wipeE env (snds own)) (items.drop (i + 1)) s'.h = .ok rest h2 ∧ accT ++ rest = ys,
          fun H'' ⟨h1, h3⟩ => ⟨items.length - (i + 1), by omega, h1, rfl, h3⟩, fun x H2 hy => ?_⟩
        obtain ⟨d, s2, ed, e2, l2, eh2, hr2, rd⟩ := (jr s' l' hr' i).2.2 x H2 hlt hy
        subst e2
        have edr : items.drop i = d :: items.drop (i + 1) := by
          obtain ⟨h, e⟩ := List.getElem?_eq_some_iff.mp ed
          rw [List.drop_eq_getElem_cons h, e]
        rw [edr] at er1
        unfold compL at er1
        cases eb : bindT t d (wipeE env (snds own)) with
        | none => simp only [eb] at er1; cases er1
        | some env1 =>
          simp only [eb] at er1
          refine ⟨wipeE env (snds own), s2, d, env1, rfl, hr2, ((er.le l').le l2).wipe _, rd, eb, fun σ1 er' ⟨k1, k2⟩ => ⟨?_, ?_⟩⟩
          · exact (wipe_eq (k1.trans (wipe_length _ _)) fun k hk => by rw [k2 k (fun z => hk (hsub k z)), wipe_out hk])
          · refine ⟨env1, s2, rfl, hr2, er', trivial, ?_⟩
            rw [← eh2] at er1
            show PR X.K I (fun _ _ _ _ => False) s2 σ1 (evalTs (callF Γ.fns n) env1 conds s2.h) _ _
            cases ec : evalTs (callF Γ.fns n) env1 conds s2.h with
            | exc e h => rw [ec] at er1; cases er1
            | stuck => rw [ec] at er1; cases er1
            | ok k h3 =>
              rw [ec] at er1
              rintro s3 k' l3 eh3 hr3 rfl
              subst eh3
              have l23 := l2.trans l3
              have hB3 : s3.B D ∧ s3.H D = some (.lst acc) := by
                obtain ⟨b1, b2⟩ := l23.fr D hB
                exact ⟨b1, b2.trans hDa⟩
              cases k' with
              | false =>
                simp only [R.bind_ok, Bool.false_eq_true, if_false] at er1 ⊢
                exact ⟨by omega, s3, acc, accT, rest, rfl, hr3, l'.trans l23, hB3.1, hB3.2, ra.keep l23.kf, by omega, er1, er2⟩
              | true =>
                simp only [R.bind_ok, if_true] at er1 ⊢
                refine ⟨env1, s3, rfl, hr3, er'.le l3, trivial, ?_⟩
                show PR X.K I (fun _ _ _ _ => False) s3 σ1 ((evalE (callF Γ.fns n) env1 a s3.h).bind unP) _ _
                cases ev : (evalE (callF Γ.fns n) env1 a s3.h).bind unP with
                | exc e h => rw [ev] at er1; cases er1
                | stuck => rw [ev] at er1; cases er1
                | ok y h4 =>
                  rw [ev] at er1
                  simp only [R.bind_ok] at er1
                  intro s4 z l4 eh4 hr4 rz
                  subst eh4
                  have hB4 : s4.B D ∧ s4.H D = some (.lst acc) := by
                    obtain ⟨b1, b2⟩ := l4.fr D hB3.1
                    exact ⟨b1, b2.trans hB3.2⟩
                  have l24 := l23.trans l4
                  cases er3 : compL (fun e h => (evalE (callF Γ.fns n) e a h).bind unP) (fun e h => evalTs (callF Γ.fns n) e conds h) (fun x e => bindT t x e) (wipeE env (snds own)) (items.drop (i + 1)) s4.h with
                  | exc e h => rw [er3] at er1; cases er1
                  | stuck => rw [er3] at er1; cases er1
                  | ok rest2 h5 =>
                    rw [er3] at er1
                    cases er1
                    refine ⟨acc, hB4.2, by omega, by omega, s4.wr D (acc ++ [z]), acc ++ [z], accT ++ [y], rest2, rfl, hr4.wr hB4.1 hB4.2, wr_le (l'.trans l24) hD0 hr, hB4.1, upd_same, ?_, by simp; omega, er3, by rw [List.append_assoc]; exact er2⟩
                    exact ((ra.keep l24.kf).append (.cons rz .nil)).keep (wr_keep hr4 hB4.1 hB4.2)
    · rw [e2] at pr
      exact False.elim pr
  · rw [if_neg hz] at pr
    exact False.elim pr
theorem dn_comp {iter elt : Expr} {ifs : List Expr} {scope : Scope} {own : List (Str × Nat)} {conds : List Te} (hi : DI Γ N sc tg iter src) (ok : BlkOk N sc.s scope own) (ht : DG Γ N (blkS sc scope) tg t) (hc : DTs Γ N (blkS sc scope) ifs conds) (he : DV Γ N (blkS sc scope) elt a)
    (hsub : ∀ k, k ∈ tgSlots t → k ∈ snds own) (hs : ∀ env x, foldedSetIterable iter env x = pure x := by intro _ _; rfl) : DN Γ N sc (.ListComp elt [⟨tg, iter, ifs, 0⟩] scope pos) (.comp (snds own) t src conds a) := fun n I W X g =>
  (pe_lc (own := own) (wi := tE X.K I W (fun env h => evalSrc (callF Γ.fns n) env src h) (JR X.K I.ci)) (g := tG X.K I.ci t) (tt := tE X.K I (fun _ _ _ _ => False) (fun env h => evalTs (callF Γ.fns n) env conds h) (fun _ a x => x = a))
    (te := tE X.K I (fun _ _ _ _ => False) (fun env h => (evalE (callF Γ.fns n) env a h).bind unP) (PRl X.K)) g.calm (by rw [g.hN]; exact g.nd) (hi n I W X g) (by rw [g.hN, g.sc]; exact ok)
    (fun s H C cl fp => ht n I _ _ (g.blk scope s H C cl fp)) (fun s H C cl fp => hc n I _ _ (g.blk scope s H C cl fp)) (fun s H C cl fp => he n I _ _ (g.blk scope s H C cl fp)) (hs _)).imp fun σ H Q q => lc_imp hsub q
end
end Cd
set_option Elab.async false
set_option linter.all false
set_option maxRecDepth 100000
set_option maxHeartbeats 4000000
namespace Cd
open PySem PySem.Spec PyProof.Rows L2
def PSt (K : PySem.W.Frag) (I : Inf) (W : WX) (D : Ends) (s : Sx) (r : RS) : Prop := match r with
  | .ok .nx env' h' => ∀ s' σ', Le s s' → s'.h = h' → HR K I.ci s' → ER K s' env' σ' → D.nx σ' s'.H
  | .ok .bk env' h' => ∀ s' σ', Le s s' → s'.h = h' → HR K I.ci s' → ER K s' env' σ' → D.bk σ' s'.H
  | .ok .ct env' h' => ∀ s' σ', Le s s' → s'.h = h' → HR K I.ci s' → ER K s' env' σ' → D.ct σ' s'.H
  | .ok (.rt v) _ h' => ∀ s' x, Le s s' → s'.h = h' → HR K I.ci s' → VR K s' v x → D.rt x s'.H
  | .exc e env' h' => ∀ s' σ' cls d, Le s s' → s'.h = h' → HR K I.ci s' → ER K s' env' σ' → XR K I s' e cls d → W cls d σ' s'.H
  | .stuck => False
theorem PSt.le {K : PySem.W.Frag} {I : Inf} {W : WX} {D : Ends} {s s1 : Sx} {r : RS} (h : PSt K I W D s r) (l : Le s s1) : PSt K I W D s1 r := by
  cases r with
  | ok f env h' => cases f <;> exact fun s' x l' => h s' x (l.trans l')
  | exc e env h' => exact fun s' σ' c d l' => h s' σ' c d (l.trans l')
  | stuck => exact h
def AtS (K : PySem.W.Frag) (I : Inf) (W : WX) (D : Ends) (σ : L2.St) (H : Hp) (G : Sx → Prop) (r : Ev → Hi → RS) : Prop :=
  ∃ env s, s.H = H ∧ HR K I.ci s ∧ ER K s env σ ∧ G s ∧ PSt K I W D s (r env s.h)
def tS (K : PySem.W.Frag) (I : Inf) (W : WX) (r : Ev → Hi → RS) : TS := fun D σ H => AtS K I W D σ H (fun _ => True) r
theorem AtS.bind {α β : Type} {K : PySem.W.Frag} {I : Inf} {W : WX} {D : Ends} {σ : L2.St} {H : Hp} {G G' : Sx → Prop} {ev1 : Ev → Hi → R α} {k : α → Ev → Hi → RS} {Rel1 : Sx → α → β → Prop}
    (h : AtS K I W D σ H G (fun env h => (ev1 env h).toS env fun a h1 => k a env h1)) (mono : ∀ s s', Le s s' → G s → G' s' := by intro _ _ _ g; exact g) :
    tE K I W ev1 Rel1 σ H (fun x H1 => ∃ a, AtS K I W D σ H1 (fun s => G' s ∧ Rel1 s a x) (k a)) := by
  obtain ⟨env, s, eH, hr, er, g, pr⟩ := h
  refine ⟨env, s, eH, hr, er, trivial, ?_⟩
  replace pr : PSt K I W D s ((ev1 env s.h).toS env fun a h1 => k a env h1) := pr
  generalize ev1 env s.h = r at pr ⊢
  cases r with
  | ok a h1 =>
    intro s' x l eh hr' rel
    subst eh
    exact ⟨a, env, s', rfl, hr', er.le l, ⟨mono s s' l g, rel⟩, PSt.le (r := k a env s'.h) pr l⟩
  | exc e h1 => exact fun s' cls d l eh hr' xr => pr s' σ cls d l eh hr' (er.le l) xr
  | stuck => exact pr
def DS (Γ : Gm) (N : List Str) (sc : Sco) (e : Stmt) (a : S) : Prop :=
  ∀ n I W X, GX Γ n I N sc W X → PS X e (tS X.K I W (fun env h => evalS (callF Γ.fns n) a env h))
def DSs (Γ : Gm) (N : List Str) (sc : Sco) (e : List Stmt) (a : List S) : Prop :=
  ∀ n I W X, GX Γ n I N sc W X → PSs X e (tS X.K I W (fun env h => evalSs (callF Γ.fns n) a env h))
section
variable {Γ : Gm} {N : List Str} {sc : Sco} {e tg ea eb ec : Expr} {a b c : E} {ta : Te} {o : O2} {pos p p2 : Pos} {es : List Expr} {as : List E} {i j : Nat} {x y f : Str} {t : Tg} {src : Src} {st : Stmt} {sts sus : List Stmt} {sa : S} {ss us : List S}
theorem dss_nil : DSs Γ N sc [] [] := fun n I W X g => pss_nil.imp fun D σ H ⟨env, s, eH, hr, er, _, pr⟩ => by
  subst eH
  exact pr s σ (.refl s) rfl hr er
theorem dss_cons (h : DS Γ N sc st sa) (hs : DSs Γ N sc sts ss) : DSs Γ N sc (st :: sts) (sa :: ss) := fun n I W X g => (pss_cons (h n I W X g) (hs n I W X g)).imp fun D σ H ⟨env, s, eH, hr, er, _, pr⟩ => by
  refine ⟨env, s, eH, hr, er, trivial, ?_⟩
  replace pr : PSt X.K I W D s ((evalS (callF Γ.fns n) sa env s.h).bind (evalSs (callF Γ.fns n) ss)) := pr
  show PSt X.K I W _ s (evalS (callF Γ.fns n) sa env s.h)
  generalize evalS (callF Γ.fns n) sa env s.h = r at pr ⊢
  cases r with
  | ok fl env1 h1 =>
    cases fl with
    | nx =>
      intro s' σ' l eh hr' er'
      subst eh
      exact ⟨env1, s', rfl, hr', er', trivial, PSt.le (r := evalSs (callF Γ.fns n) ss env1 s'.h) pr l⟩
    | bk => exact pr
    | ct => exact pr
    | rt v => exact pr
  | exc e env1 h1 => exact pr
  | stuck => exact pr
theorem ds_ret (ha : DE Γ N sc ea a) : DS Γ N sc (.Return (some ea) pos) (.ret a) := fun n I W X g => (ps_ret (ha n I W X g)).imp fun D σ H q => by
  obtain ⟨env, s, eH, hr, er, _, pr⟩ := AtS.bind (Rel1 := VR X.K) (k := fun v env h1 => .ok (.rt v) env h1) q
  refine ⟨env, s, eH, hr, er, trivial, PR.mono pr fun x H1 ⟨v, env, s, e, hr, er, ⟨_, r⟩, pr⟩ => ?_⟩
  subst e
  exact pr s x (.refl s) rfl hr r
theorem ds_set (v : TOk N sc i x) (ha : DE Γ N sc ea a) (hs : ∀ env, swapsWith ea (some (.Name x p)) pos.line env = pure false := by intro _; rfl) : DS Γ N sc (.Assign [.Name x p] ea pos) (.set i a) := fun n I W X g =>
  (ps_set (i := i) (by rw [g.hN]; exact g.nd) (by rw [g.hN]; exact v.hN) (by rw [g.sc]; exact v.loc) (ha n I W X g) (hs _) (by rw [g.fnc, g.sc]; exact v.fn)).imp fun D σ H q => by
    obtain ⟨env, s, eH, hr, er, _, pr⟩ := AtS.bind (Rel1 := VR X.K) (k := fun v env h1 => .ok .nx (setSlot env i (some v)) h1) q
    refine ⟨env, s, eH, hr, er, trivial, PR.mono pr fun x H1 ⟨v, env, s, e, hr, er, ⟨_, r⟩, pr⟩ => ?_⟩
    subst e
    exact pr s _ (.refl s) rfl hr (er.set r)
/-- a list of the heap that is new -/
def Sx.mkL (s : Sx) (a : Addr) (ts : List PyData) : Sx := { s with h := s.h ++ [.lst ts], φ := fun m k => if m = s.h.length then a else s.φ m k }
theorem get_app {h : Hi} {o : Ob} {m : Nat} {u : Ob} (e : (h ++ [o])[m]? = some u) : (m < h.length ∧ h[m]? = some u) ∨ (m = h.length ∧ u = o) := by
  by_cases l : m < h.length
  · rw [List.getElem?_append_left l] at e
    exact .inl ⟨l, e⟩
  · rw [List.getElem?_append_right (by omega)] at e
    have e0 : m - h.length = 0 := by
      by_cases z : m - h.length = 0
      · exact z
      · rw [List.getElem?_eq_none (by simp; omega)] at e; cases e
    rw [e0] at e
    simp at e
    exact .inr ⟨by omega, e.symm⟩
theorem live_app {h : Hi} {ts : List PyData} {m k : Nat} (l : Live (h ++ [.lst ts]) m k) : (m < h.length ∧ Live h m k) ∨ (m = h.length ∧ k = 0) := by
  cases k with
  | zero =>
    obtain ⟨o, e, nd⟩ := l
    rcases get_app e with ⟨h1, h2⟩ | ⟨h1, h2⟩
    · exact .inl ⟨h1, o, h2, nd⟩
    · exact .inr ⟨h1, rfl⟩
  | succ k =>
    rcases l with ⟨c, fs, us, e, ef⟩ | ⟨kvs, q, us, e, ef⟩
    · rcases get_app e with ⟨h1, h2⟩ | ⟨h1, h2⟩
      · exact .inl ⟨h1, .inl ⟨c, fs, us, h2, ef⟩⟩
      · cases h2
    · rcases get_app e with ⟨h1, h2⟩ | ⟨h1, h2⟩
      · exact .inl ⟨h1, .inr ⟨kvs, q, us, h2, ef⟩⟩
      · cases h2
theorem live_lt {h : Hi} {m k : Nat} (l : Live h m k) : m < h.length := by
  cases k with
  | zero => obtain ⟨o, e, _⟩ := l; exact (List.getElem?_eq_some_iff.mp e).1
  | succ k =>
    rcases l with ⟨c, fs, us, e, ef⟩ | ⟨kvs, q, us, e, ef⟩
    all_goals exact (List.getElem?_eq_some_iff.mp e).1
theorem HR.mkL {K : PySem.W.Frag} {CI : CInf} {s : Sx} {a : Addr} {ts : List PyData} {xs : List V} (hr : HR K CI s) (ha : s.H a = some (.lst xs)) (r : RFs K s.F s.H ts xs) (nf : ¬ s.F a) (nl : NotLive s a) (nb : ¬ s.B a) : HR K CI (s.mkL a ts) where
  ob := fun m u e => by
    rcases get_app e with ⟨h1, h2⟩ | ⟨h1, h2⟩
    · exact (hr.ob m u h2).move (s' := s.mkL a ts) .refl h2 fun j l => ⟨if_neg (Nat.ne_of_lt h1), fun w e => e⟩
    · subst h1; subst h2
      refine ⟨xs, ?_, r⟩
      show s.H (if s.h.length = s.h.length then a else s.φ s.h.length 0) = some (.lst xs)
      rw [if_pos rfl]; exact ha
  inj := fun m j q k l1 l2 e => by
    have e' : (if m = s.h.length then a else s.φ m j) = (if q = s.h.length then a else s.φ q k) := e
    rcases live_app l1 with ⟨h1, h2⟩ | ⟨h1, h2⟩ <;> rcases live_app l2 with ⟨h3, h4⟩ | ⟨h3, h4⟩
    · rw [if_neg (Nat.ne_of_lt h1), if_neg (Nat.ne_of_lt h3)] at e'
      exact hr.inj _ _ _ _ h2 h4 e'
    · rw [if_neg (Nat.ne_of_lt h1), if_pos h3] at e'
      exact absurd e' (nl _ _ h2)
    · rw [if_pos h1, if_neg (Nat.ne_of_lt h3)] at e'
      exact absurd e'.symm (nl _ _ h4)
    · exact ⟨h1.trans h3.symm, h2.trans h4.symm⟩
  nf := fun m j l => by
    show ¬ s.F (if m = s.h.length then a else s.φ m j)
    rcases live_app l with ⟨h1, h2⟩ | ⟨h1, h2⟩
    · rw [if_neg (Nat.ne_of_lt h1)]; exact hr.nf _ _ h2
    · rw [if_pos h1]; exact nf
  bt := fun b hb => by
    obtain ⟨h1, h2, h3⟩ := hr.bt b hb
    refine ⟨fun m j l => ?_, h2, h3⟩
    show (if m = s.h.length then a else s.φ m j) ≠ b
    rcases live_app l with ⟨k1, k2⟩ | ⟨k1, k2⟩
    · rw [if_neg (Nat.ne_of_lt k1)]; exact h1 _ _ k2
    · rw [if_pos k1]; rintro rfl; exact nb hb
  ft := hr.ft
theorem mkL_le {s : Sx} {a : Addr} {ts : List PyData} : Le s (s.mkL a ts) := ⟨by show s.h.length ≤ (s.h ++ [_]).length; simp, fun n h => if_neg (Nat.ne_of_lt h), .refl, fun _ h => ⟨h, rfl⟩⟩
/-- a new list gets a place of its own -/
theorem mk_imp {K : PySem.W.Frag} {I : Inf} {W : WX} {ev : Ev → Hi → R PyData} {σ : L2.St} {H : Hp} {Q : VK} (q : tE K I W (fun env h => (ev env h).bind mkK) (VR K) σ H Q) : tE K I W ev (RN K) σ H Q := by
  obtain ⟨env, s, eH, hr, er, _, pr⟩ := q
  refine ⟨env, s, eH, hr, er, trivial, ?_⟩
  replace pr : PR K I W s σ ((ev env s.h).bind mkK) (VR K) Q := pr
  generalize ev env s.h = r at pr ⊢
  cases r with
  | ok d h1 =>
    rintro s' x l eh hr' ⟨ts, p, xs, rfl, rfl, hp, q, nf, nl, nb⟩
    subst eh
    exact pr (s'.mkL p ts) _ (l.trans mkL_le) rfl (hr'.mkL hp q nf nl nb) ⟨by show s'.h.length < (s'.h ++ [_]).length; simp, by show _ = V.ref (if s'.h.length = s'.h.length then p else _); rw [if_pos rfl]⟩
  | exc e h1 => exact pr
  | stuck => exact pr
theorem fz_imp {K : PySem.W.Frag} {I : Inf} {W : WX} {ev : Ev → Hi → R PyData} {σ : L2.St} {H : Hp} {Q : VK} (q : tE K I W ev (PRl K) σ H Q) : tE K I W ev (RN K) σ H Q := by
  obtain ⟨env, s, eH, hr, er, _, pr⟩ := q
  refine ⟨env, s, eH, hr, er, trivial, ?_⟩
  replace pr : PR K I W s σ (ev env s.h) (PRl K) Q := pr
  generalize ev env s.h = r at pr ⊢
  cases r with
  | ok d h1 =>
    rintro s' x l eh hr' ⟨ts, p, xs, rfl, rfl, hp, q, nf, nl, nb⟩
    exact pr (s'.fz p) _ (l.trans fz_le) eh (hr'.fz ⟨_, hp⟩ nl nb) (.lst (.inl ⟨.inr rfl, Rd.of hp⟩) (q.keep fz_keep))
  | exc e h1 => exact pr
  | stuck => exact pr
theorem de_mk (ha : DN Γ N sc ea a) : DE Γ N sc ea (.mk a) := fun n I W X g => (ha n I W X g).imp fun σ H Q q => mk_imp (ev := fun env h => (evalE (callF Γ.fns n) env a h).bind unP) q
/-- a name gets a comprehension's list, in one line -/
structure SwOk (N : List Str) (sc : Sco) (i : Nat) (y : Str) (scope : Scope) (pos py : Pos) (l : Nat) : Prop where
  hN : N[i]? = some y
  kind : sc.s.kind = .function
  loc : sc.s.names.lookup y = some .local
  line : (py.line == pos.line) = true
  same : l = py.line
  own : (scope.names.any fun (n, k) => n == y && (k == .local || k == .cell)) = false
section
variable {iter elt : Expr} {ifs : List Expr} {scope : Scope} {own : List (Str × Nat)} {conds : List Te} {py : Pos}
theorem ps_comp {n : Nat} {I : Inf} {W : WX} {X : Cx} (g : GX Γ n I N sc W X) (w : SwOk N sc i y scope pos py p.line) (hi : DI Γ N sc tg iter src) (ok : BlkOk N sc.s scope own) (ht : DG Γ N (blkS sc scope) tg t) (hc : DTs Γ N (blkS sc scope) ifs conds) (he : DV Γ N (blkS sc scope) elt a)
    (hsub : ∀ k, k ∈ tgSlots t → k ∈ snds own) (hs : ∀ env x, foldedSetIterable iter env x = pure x) : PS X (.Assign [.Name y py] (.ListComp elt [⟨tg, iter, ifs, 0⟩] scope pos) p) (fun D σ H => tE X.K I W (fun env h => (evalE (callF Γ.fns n) env (.comp (snds own) t src conds a) h).bind unP) (RN X.K) σ H fun x H1 => D.nx (σ.set i (some x)) H1) :=
  (ps_setLc (i := i) (own := own) (wi := tE X.K I W (fun env h => evalSrc (callF Γ.fns n) env src h) (JR X.K I.ci)) (g := tG X.K I.ci t) (tt := tE X.K I (fun _ _ _ _ => False) (fun env h => evalTs (callF Γ.fns n) env conds h) (fun _ a x => x = a))
    (te := tE X.K I (fun _ _ _ _ => False) (fun env h => (evalE (callF Γ.fns n) env a h).bind unP) (PRl X.K)) g.calm (by rw [g.hN]; exact g.nd) (by rw [g.hN]; exact w.hN) (by rw [g.sc]; exact w.loc)
    (sw_true (by rw [g.sc]; exact w.kind) (by rw [g.sc]; exact w.loc) w.line w.own) (hi n I W X g) (by rw [g.hN, g.sc]; exact ok)
    (fun s H C cl fp => ht n I _ _ (g.blk scope s H C cl fp)) (fun s H C cl fp => hc n I _ _ (g.blk scope s H C cl fp)) (fun s H C cl fp => he n I _ _ (g.blk scope s H C cl fp)) (hs _)).imp fun D σ H q => lc_imp hsub q
theorem ds_comp (w : SwOk N sc i y scope pos py p.line) (hi : DI Γ N sc tg iter src) (ok : BlkOk N sc.s scope own) (ht : DG Γ N (blkS sc scope) tg t) (hc : DTs Γ N (blkS sc scope) ifs conds) (he : DV Γ N (blkS sc scope) elt a)
    (hsub : ∀ k, k ∈ tgSlots t → k ∈ snds own) (hs : ∀ env x, foldedSetIterable iter env x = pure x := by intro _ _; rfl) : DS Γ N sc (.Assign [.Name y py] (.ListComp elt [⟨tg, iter, ifs, 0⟩] scope pos) p) (.set i (.comp (snds own) t src conds a)) := fun n I W X g =>
  (ps_comp g w hi ok ht hc he hsub hs).imp fun D σ H q => fz_imp (by
    have q' : AtS X.K I W D σ H (fun _ => True) (fun env h => ((evalE (callF Γ.fns n) env (.comp (snds own) t src conds a) h).bind unP).toS env fun d h1 => .ok .nx (setSlot env i (some (.p d))) h1) := by
      obtain ⟨env, s, eH, hr, er, _, pr⟩ := q
      refine ⟨env, s, eH, hr, er, trivial, ?_⟩
      replace pr : PSt X.K I W D s ((evalE (callF Γ.fns n) env (.comp (snds own) t src conds a) s.h).toS env fun v h1 => .ok .nx (setSlot env i (some v)) h1) := pr
      show PSt X.K I W D s (((evalE (callF Γ.fns n) env (.comp (snds own) t src conds a) s.h).bind unP).toS env fun d h1 => .ok .nx (setSlot env i (some (.p d))) h1)
      have hcc : ∀ r : R (List PyData), (compK r = .stuck) ∨ ∃ d h, compK r = .ok (.p d) h := by
        intro r
        cases r with
        | ok ys h => exact .inr ⟨_, _, rfl⟩
        | exc e h => exact .inl rfl
        | stuck => exact .inl rfl
      have hc2 : ∀ (run : List PyData → Hi → R (List PyData)) (items : List PyData) (h : Hi), (compK2 run items h = .stuck) ∨ ∃ d h', compK2 run items h = .ok (.p d) h' := by
        intro run items h
        unfold compK2
        split
        · exact hcc _
        · exact .inl rfl
      unfold evalE at pr ⊢
      generalize evalSrc (callF Γ.fns n) env src s.h = r at pr ⊢
      cases r with
      | ok items h1 =>
        simp only [R.bind_ok] at pr ⊢
        rcases hc2 (compL (fun e h => (evalE (callF Γ.fns n) e a h).bind unP) (fun e h => evalTs (callF Γ.fns n) e conds h) (fun x e => bindT t x e) (wipeE env (snds own))) items h1 with e | ⟨d, h2, e⟩
        · rw [e] at pr ⊢; exact pr
        · rw [e] at pr ⊢; exact pr
      | exc e h1 => exact pr
      | stuck => exact pr
    obtain ⟨env, s, eH, hr, er, _, pr⟩ := AtS.bind (Rel1 := PRl X.K) (k := fun d env h1 => .ok .nx (setSlot env i (some (.p d))) h1) q'
    refine ⟨env, s, eH, hr, er, trivial, PR.mono pr fun x H1 ⟨v, env, s, e, hr, er, ⟨_, r⟩, pr⟩ => ?_⟩
    subst e
    exact pr s _ (.refl s) rfl hr (er.set (v := .p v) r))
end
theorem ds_unpack (ht : DG Γ N sc tg t) (ha : DV Γ N sc ea a) (hs : ∀ env, swapsWithSole [tg] ea pos.line env = pure false := by intro _; rfl) (hw : ∀ n I W X, GX Γ n I N sc W X → swappedStores [tg] ea X.env = pure none := by intro _ _ _ _ _; rfl)
    (h1 : ∀ env, (assignEach [tg] env).map (·.2) = [assign tg env] := by intro _; rfl) : DS Γ N sc (.Assign [tg] ea pos) (.unpack t a) := fun n I W X g => (ps_asg (ha n I W X g) (ht n I W X g) (hs _) (hw n I W X g) (h1 _)).imp fun D σ H q => by
  obtain ⟨env, s, eH, hr, er, _, pr⟩ := AtS.bind (Rel1 := PRl X.K) (k := fun d env h1 => match bindT t d env with
    | some env1 => .ok .nx env1 h1
    | none => .stuck) q
  refine ⟨env, s, eH, hr, er, trivial, PR.mono pr fun x H1 ⟨d, env, s, e, hr, er, ⟨_, r⟩, pr⟩ => ?_⟩
  subst e
  replace pr : PSt X.K I W D s (match bindT t d env with
    | some env1 => .ok .nx env1 s.h
    | none => .stuck) := pr
  cases eb : bindT t d env with
  | none => rw [eb] at pr; exact False.elim pr
  | some env1 =>
    rw [eb] at pr
    exact ⟨env, s, d, env1, rfl, hr, er, r, eb, fun σ1 er1 _ => pr s σ1 (.refl s) rfl hr er1⟩
theorem ds_if (hc : DT Γ N sc ec ta) (ha : DSs Γ N sc sts ss) (hb : DSs Γ N sc sus us) : DS Γ N sc (.If ec sts sus pos) (.if_ ta ss us) := fun n I W X g => (ps_if (hc n I W X g) (ha n I W X g) (hb n I W X g)).imp fun D σ H q => by
  obtain ⟨env, s, eH, hr, er, _, pr⟩ := AtS.bind (Rel1 := fun _ (a x : Bool) => x = a) (ev1 := fun env h => evalT (callF Γ.fns n) env ta h) (k := fun (k : Bool) env h1 => if k = true then evalSs (callF Γ.fns n) ss env h1 else evalSs (callF Γ.fns n) us env h1) q
  refine ⟨env, s, eH, hr, er, trivial, PR.mono pr fun k H1 ⟨k', env, s, e, hr, er, ⟨_, r⟩, pr⟩ => ?_⟩
  subst e
  subst r
  cases k with
  | true => exact ⟨env, s, rfl, hr, er, trivial, pr⟩
  | false => exact ⟨env, s, rfl, hr, er, trivial, pr⟩
theorem ds_for (hi : DI Γ N sc tg ea src) (ht : DG Γ N sc tg t) (hb : DSs Γ N sc sts ss) (hs : ∀ env x, foldedSetIterable ea env x = pure x := by intro _ _; rfl) : DS Γ N sc (.For tg ea sts [] pos) (.for_ t src ss) := fun n I W X g =>
  (ps_for g.pass g.calm (hi n I W X g) (ht n I W X g) (hb n I W X g) (hs _)).imp fun D σ H q => by
    obtain ⟨env, s, eH, hr, er, _, pr⟩ := AtS.bind (Rel1 := JR X.K I.ci) (k := fun items env h1 => forL (evalSs (callF Γ.fns n) ss) (bindT t) items env h1) q
    refine ⟨env, s, eH, hr, er, trivial, PR.mono pr fun J H1 ⟨items, env, s, e, hr, er, ⟨_, jr⟩, pr⟩ => ?_⟩
    subst e
    refine ⟨fun i m σ' H' => i ≤ items.length ∧ m = items.length - i ∧ ∃ env' s', s'.H = H' ∧ HR X.K I.ci s' ∧ ER X.K s' env' σ' ∧ Le s s' ∧ PSt X.K I W D s' (forL (evalSs (callF Γ.fns n) ss) (bindT t) (items.drop i) env' s'.h),
      ⟨_, Nat.zero_le _, rfl, env, s, rfl, hr, er, .refl s, by rw [List.drop_zero]; exact pr⟩, ?_⟩
    rintro i m σ' H' ⟨hi, rfl, env', s', rfl, hr', er', l', pr'⟩
    by_cases hin : i = items.length
    · left
      refine ⟨(jr s' l' hr' i).2.1 hin, ?_⟩
      rw [hin, List.drop_length] at pr'
      exact pr' s' _ (.refl _) rfl hr' er'
    · right
      have hlt : i < items.length := by omega
      refine ⟨(jr s' l' hr' i).1 hlt, fun σ2 H2 => i + 1 ≤ items.length ∧ ∃ env2 s2, s2.H = H2 ∧ HR X.K I.ci s2 ∧ ER X.K s2 env2 σ2 ∧ Le s s2 ∧ PSt X.K I W D s2 (forL (evalSs (callF Γ.fns n) ss) (bindT t) (items.drop (i + 1)) env2 s2.h),
        fun σ2 H2 ⟨h1, h2⟩ => ⟨items.length - (i + 1), by omega, h1, rfl, h2⟩, fun x H2 hy => ?_⟩
      obtain ⟨d, s2, ed, e2, l2, eh2, hr2, rd⟩ := (jr s' l' hr' i).2.2 x H2 hlt hy
      subst e2
      have edr : items.drop i = d :: items.drop (i + 1) := by
        obtain ⟨h, e⟩ := List.getElem?_eq_some_iff.mp ed
        rw [List.drop_eq_getElem_cons h, e]
      rw [edr] at pr'
      unfold forL at pr'
      cases eb : bindT t d env' with
      | none => simp only [eb] at pr'; exact False.elim pr'
      | some env1 =>
        simp only [eb] at pr'
        refine ⟨env', s2, d, env1, rfl, hr2, er'.le l2, rd, eb, fun σ1 er1 _ => ⟨env1, s2, rfl, hr2, er1, trivial, ?_⟩⟩
        show PSt X.K I W _ s2 (evalSs (callF Γ.fns n) ss env1 s2.h)
        rw [← eh2] at pr'
        generalize evalSs (callF Γ.fns n) ss env1 s2.h = r at pr' ⊢
        cases r with
        | ok fl env2 h2 =>
          cases fl with
          | nx =>
            intro s3 σ3 l3 eh3 hr3 er3
            subst eh3
            exact ⟨by omega, env2, s3, rfl, hr3, er3, l'.trans (l2.trans l3), PSt.le pr' (l2.trans l3)⟩
          | ct =>
            intro s3 σ3 l3 eh3 hr3 er3
            subst eh3
            exact ⟨by omega, env2, s3, rfl, hr3, er3, l'.trans (l2.trans l3), PSt.le pr' (l2.trans l3)⟩
          | bk => exact PSt.le (r := .ok .nx env2 h2) pr' l2
          | rt v => exact PSt.le (r := .ok (.rt v) env2 h2) pr' l2
        | exc e env2 h2 => exact PSt.le (r := .exc e env2 h2) pr' l2
        | stuck => exact pr'
end
end Cd
set_option Elab.async false
set_option linter.all false
set_option maxRecDepth 100000
set_option maxHeartbeats 4000000
namespace Cd
open PySem PySem.Spec PyProof.Rows L2
section
variable {K : PySem.W.Frag} {CI : CInf} {s : Sx} {n j : Nat} {xs xs' : List V} {h' : Hi} {ob' : Ob}
theorem own_keep {H' : Hp} {a : Addr} {u : HO} (hr : HR K CI s) (hl : Live s.h n j) (ha : a = s.φ n j) (hx : s.H a = some u) (nt : ∀ ys, u ≠ .tup ys) (nz : ∀ o v, u ≠ .frz o v) (e : H' = upd s.H a ob) : KeepF s.F s.H s.F H' := by
  subst e
  refine ⟨fun _ h => h, fun b o f e => ?_, fun b ys e => ?_, fun b o v e => ?_⟩
  · rw [upd_ne]; exact e
    rintro rfl
    exact hr.nf n j hl (ha ▸ f)
  · rw [upd_ne]; exact e
    rintro rfl
    rw [hx] at e; cases e
    exact nt _ rfl
  · rw [upd_ne]; exact e
    rintro rfl
    rw [hx] at e; cases e
    exact nz _ _ rfl
/-- the same places, one of them written: the object n gets the form ob' -/
theorem HR.wrO {o : HO} {u : HO} (hr : HR K CI s) (hl : Live s.h n j) (hx : s.H (s.φ n j) = some u) (nt : ∀ ys, u ≠ .tup ys) (nz : ∀ o v, u ≠ .frz o v)
    (hlive : ∀ m k, Live h' m k → Live s.h m k) (hoth : ∀ m, m ≠ n → h'[m]? = s.h[m]?) (hn : ∀ w, h'[n]? = some w → w = ob') (hob : ObR K CI { s with h := h', H := upd s.H (s.φ n j) o } n ob') : HR K CI { s with h := h', H := upd s.H (s.φ n j) o } where
  ob := fun m w e => by
    by_cases hm : m = n
    · subst hm
      rw [hn w e]; exact hob
    · have e' : s.h[m]? = some w := by rw [← hoth m hm]; exact e
      refine (hr.ob m w e').move (s' := { s with h := h', H := upd s.H (s.φ n j) o }) (own_keep hr hl rfl hx nt nz rfl) e' fun k l => ⟨rfl, fun v q => ?_⟩
      show upd s.H (s.φ n j) o (s.φ m k) = some v
      rw [upd_ne]; exact q
      intro z
      exact hm (hr.inj _ _ _ _ l hl z).1
  inj := fun m a q b l1 l2 e => hr.inj m a q b (hlive _ _ l1) (hlive _ _ l2) e
  nf := fun m a l => hr.nf m a (hlive _ _ l)
  bt := fun b hb => by
    obtain ⟨h1, h2, w, h3⟩ := hr.bt b hb
    exact ⟨fun m a l => h1 m a (hlive _ _ l), h2, w, by show upd s.H (s.φ n j) o b = _; rw [upd_ne (fun e => h1 n j hl e.symm)]; exact h3⟩
  ft := fun b hb => by
    obtain ⟨w, h3⟩ := hr.ft b hb
    exact ⟨w, by show upd s.H (s.φ n j) o b = _; rw [upd_ne (fun e => by subst e; exact hr.nf n j hl hb)]; exact h3⟩
theorem wrO_le {o : HO} {u : HO} (hr : HR K CI s) (hl : Live s.h n j) (hx : s.H (s.φ n j) = some u) (nt : ∀ ys, u ≠ .tup ys) (nz : ∀ o v, u ≠ .frz o v) (hlen : h'.length = s.h.length) : Le s { s with h := h', H := upd s.H (s.φ n j) o } :=
  ⟨by show s.h.length ≤ h'.length; omega, fun _ _ => rfl, own_keep hr hl rfl hx nt nz rfl, fun b hb => ⟨hb, by show upd s.H (s.φ n j) o b = _; rw [upd_ne (fun e => (hr.bt b hb).1 n j hl e.symm)]⟩⟩
theorem get_set {h : Hi} {n m : Nat} {o w : Ob} (e : (h.set n o)[m]? = some w) : (m = n ∧ w = o) ∨ (m ≠ n ∧ h[m]? = some w) := by
  by_cases hm : m = n
  · subst hm
    have hl : m < h.length := by simpa using (List.getElem?_eq_some_iff.mp e).1
    rw [List.getElem?_set_self hl] at e
    exact .inl ⟨rfl, by cases e; rfl⟩
  · rw [List.getElem?_set_ne (Ne.symm hm)] at e
    exact .inr ⟨hm, e⟩
theorem live_set {h : Hi} {n m k : Nat} {o : Ob} (l : Live (h.set n o) m k) : (m ≠ n ∧ Live h m k) ∨ (m = n ∧ Live (List.replicate n .dead ++ [o]) n k) := by
  have rep : (List.replicate n Ob.dead ++ [o])[n]? = some o := by
    rw [List.getElem?_append_right (by simp)]; simp
  cases k with
  | zero =>
    obtain ⟨w, e, nd⟩ := l
    rcases get_set e with ⟨h1, h2⟩ | ⟨h1, h2⟩
    · subst h2; exact .inr ⟨h1, _, rep, nd⟩
    · exact .inl ⟨h1, w, h2, nd⟩
  | succ k =>
    rcases l with ⟨c, fs, us, e, ef⟩ | ⟨kvs, q, us, e, ef⟩
    · rcases get_set e with ⟨h1, h2⟩ | ⟨h1, h2⟩
      · subst h2; exact .inr ⟨h1, .inl ⟨c, fs, us, rep, ef⟩⟩
      · exact .inl ⟨h1, .inl ⟨c, fs, us, h2, ef⟩⟩
    · rcases get_set e with ⟨h1, h2⟩ | ⟨h1, h2⟩
      · subst h2; exact .inr ⟨h1, .inr ⟨kvs, q, us, rep, ef⟩⟩
      · exact .inl ⟨h1, .inr ⟨kvs, q, us, h2, ef⟩⟩
theorem rep_get {n : Nat} {o w : Ob} (e : (List.replicate n Ob.dead ++ [o])[n]? = some w) : w = o := by
  rw [List.getElem?_append_right (by simp)] at e
  simpa using e.symm
/-- where the list of p is, and that it may be written -/
structure OwnL (K : PySem.W.Frag) (CI : CInf) (s : Sx) (env : Ev) (p : E) (a : Addr) (ts : List PyData) : Prop where
  ex : ∃ xs, s.H a = some (.lst xs) ∧ RFs K s.F s.H ts xs
  wr : ∀ ts' xs' h', storeL env s.h p ts' = some h' → RFs K s.F s.H ts' xs' → ∃ s', s'.H = upd s.H a (.lst xs') ∧ s'.h = h' ∧ HR K CI s' ∧ Le s s'
theorem own_var {env : Ev} {i : Nat} {ts : List PyData} (hr : HR K CI s) (e : getL env s.h (.var i) = some ts) : ∃ n, slot env i = some (.ref n) ∧ s.h[n]? = some (.lst ts) ∧ OwnL K CI s env (.var i) (s.φ n 0) ts := by
  simp only [getL, peek] at e
  cases e1 : lstOf env s.h i with
  | none => rw [e1] at e; cases e
  | some q =>
    rw [e1] at e
    simp only [Option.map_some, Option.some.injEq] at e
    obtain ⟨h1, h2⟩ := lstOf_of e1
    rw [e] at h2
    refine ⟨q.1, h1, h2, ?_, fun ts' xs' h' es r => ?_⟩
    · obtain ⟨xs, h3, h4⟩ := hr.ob _ _ h2
      exact ⟨xs, h3, h4⟩
    · obtain ⟨xs, h3, h4⟩ := hr.ob _ _ h2
      have hl : Live s.h q.1 0 := ⟨_, h2, by intro z; cases z⟩
      have es' : (slotRef env i).map (fun n => s.h.set n (.lst ts')) = some h' := es
      have e3 : slotRef env i = some q.1 := by unfold slotRef; rw [h1]
      rw [e3] at es'
      cases es'
      have kp := own_keep (ob := .lst xs') hr hl rfl h3 (by intro _ z; cases z) (by intro _ _ z; cases z) rfl
      refine ⟨{ s with h := s.h.set q.1 (.lst ts'), H := upd s.H (s.φ q.1 0) (.lst xs') }, rfl, rfl, hr.wrO hl h3 (by intro _ z; cases z) (by intro _ _ z; cases z) (fun m k l => ?_) (fun m hm => ?_) (fun w e => ?_) (ob' := .lst ts') ⟨xs', upd_same, r.keep kp⟩, wrO_le hr hl h3 (by intro _ z; cases z) (by intro _ _ z; cases z) (by simp)⟩
      · rcases live_set l with ⟨_, z⟩ | ⟨rfl, z⟩
        · exact z
        · cases k with
          | zero => exact hl
          | succ k =>
            rcases z with ⟨c, fs, us, e, ef⟩ | ⟨kvs, q, us, e, ef⟩
            all_goals cases rep_get e
      · rw [List.getElem?_set_ne (Ne.symm hm)]
      · rcases get_set e with ⟨_, z⟩ | ⟨z, _⟩
        · exact z
        · exact absurd rfl z
end
section
variable {Γ : Gm} {N : List Str} {sc : Sco} {e tg ea eb ec : Expr} {a b c : E} {ta : Te} {o : O2} {pos p p2 apos : Pos} {es : List Expr} {as : List E} {i j : Nat} {x y f : Str} {t : Tg} {src : Src} {cl : Nat} {names : List Str}
theorem ref_addr {K : PySem.W.Frag} {s : Sx} {env : Ev} {σ : L2.St} (er : ER K s env σ) {n : Nat} (e : slot env i = some (.ref n)) : σ[i]? = some (some (.ref (s.φ n 0))) ∧ n < s.h.length := by
  obtain ⟨x, h1, h2, rfl⟩ := er.at_ i _ e
  exact ⟨h1, h2⟩
/-- the form of a call of a list's method, in one line -/
structure MOk (pos apos : Pos) : Prop where
  line : (apos.endLine == pos.line) = true
abbrev Few (e : Expr) (pos : Pos) : Prop := ∀ env, ((backTo pos (starEach [e] env)).all (fun x => !x.1) && (backToKw pos (keywordEach [] env)).all (fun x => x.1.isSome)
      && decide ([e].length + ([] : List Keyword).length + (if ([] : List Keyword).isEmpty then 0 else 1) < 30)) = true
theorem ds_app {q : Pos} (v : VOk N sc i x) (ha : DV Γ N sc ea a) (m : MOk p apos) (hs : ∀ env, swapsWith (.Call (.Attribute (.Name x q) "append" apos) [ea] [] p) none pos.line env = pure false := by intro _; rfl)
    (hb : Ab x q "append" := by intro _; rfl) (hf : Few ea p := by intro _; rfl) (se : Se1 ea := by intro _; rfl) : DS Γ N sc (.Expr (.Call (.Attribute (.Name x q) "append" apos) [ea] [] p) pos) (.app (.var i) a) := fun n I W X g =>
  (ps_expr (pe_bm PySem.F.plainAttrs_list PySem.F.slot_list_append PySem.F.type_list_append mt_append (v.pe g) (pa_cons (ha n I W X g) pa_nil (se _)) (hb _) (hf _) m.line (se _) rfl) (hs _)).imp fun D σ H q => by
    obtain ⟨env, s, eH, hr, er, _, pr⟩ := q
    replace pr : PSt X.K I W D s (match getL env s.h (.var i) with
      | none => .stuck
      | some _ => ((evalE (callF Γ.fns n) env a s.h).bind unP).toS env fun d h1 => ofH env (appH env (.var i) d h1)) := pr
    cases e0 : getL env s.h (.var i) with
    | none => rw [e0] at pr; exact False.elim pr
    | some ts0 =>
      rw [e0] at pr
      obtain ⟨m0, k1, k2, k3⟩ := own_var hr e0
      obtain ⟨xs0, k4, k5⟩ := k3.ex
      obtain ⟨k6, k7⟩ := ref_addr er k1
      refine ⟨_, k6, .inl ⟨rfl, xs0, .inl (by rw [← eH]; exact Rd.of k4)⟩, ?_⟩
      have q' : AtS X.K I W D σ H (fun s' => s'.φ m0 0 = s.φ m0 0) (fun env' h => ((evalE (callF Γ.fns n) env' a h).bind unP).toS env' fun d h1 => ofH env' (appH env' (.var i) d h1)) := ⟨env, s, eH, hr, er, rfl, pr⟩
      obtain ⟨env1, s1, eH1, hr1, er1, _, pr1⟩ := AtS.bind (Rel1 := PRl X.K) (ev1 := fun env h => (evalE (callF Γ.fns n) env a h).bind unP) (G := fun s' => s'.φ m0 0 = s.φ m0 0 ∧ σ[i]? = some (some (.ref (s'.φ m0 0))) ∧ m0 < s'.h.length) (G' := fun s' => s'.φ m0 0 = s.φ m0 0 ∧ σ[i]? = some (some (.ref (s'.φ m0 0)))) (k := fun d env h1 => ofH env (appH env (.var i) d h1))
        ⟨env, s, eH, hr, er, (⟨rfl, k6, k7⟩ : s.φ m0 0 = s.φ m0 0 ∧ σ[i]? = some (some (.ref (s.φ m0 0))) ∧ m0 < s.h.length), pr⟩ (fun s' s2 l g => by
          obtain ⟨g1, g2, g3⟩ := g
          rw [l.ph m0 g3]; exact ⟨g1, g2⟩)
      refine ⟨env1, s1, eH1, hr1, er1, trivial, PR.mono pr1 fun y H1 ⟨d, env2, s2, e2, hr2, er2, ⟨⟨g1, g2⟩, r⟩, pr2⟩ => ?_⟩
      subst e2
      replace pr2 : PSt X.K I W D s2 (ofH env2 ((getL env2 s2.h (.var i)).bind fun ts => if ts.length < sizeLine then storeL env2 s2.h (.var i) (ts ++ [d]) else none)) := pr2
      cases e3 : getL env2 s2.h (.var i) with
      | none => rw [e3] at pr2; exact False.elim pr2
      | some ts =>
        rw [e3, Option.bind_some] at pr2
        split at pr2
        · rename_i hz
          cases e4 : storeL env2 s2.h (.var i) (ts ++ [d]) with
          | none => rw [e4] at pr2; exact False.elim pr2
          | some h' =>
            rw [e4] at pr2
            obtain ⟨m2, j1, j2, j3⟩ := own_var hr2 e3
            obtain ⟨xs, j4, j5⟩ := j3.ex
            obtain ⟨j6, j7⟩ := ref_addr er2 j1
            rw [g2] at j6
            have j8 : s2.φ m0 0 = s2.φ m2 0 := by simpa using j6
            obtain ⟨s3, eH3, eh3, hr3, l3⟩ := j3.wr _ (xs ++ [y]) _ e4 (j5.append (.cons r .nil))
            refine ⟨_, xs, y, by rw [← g1, j8], rfl, j4, by rw [← j5.length]; exact hz, ?_⟩
            rw [← eH3]
            exact pr2 s3 σ l3 eh3 hr3 (er2.le l3)
        · exact False.elim pr2
theorem setIx_inv {env : Ev} {p : E} {k d : PyData} {h h' : Hi} (e : setIxH env p k d h = some h') : ∃ k' ts j, k = .int k' ∧ getL env h p = some ts ∧ ixN ts.length k' = some j ∧ storeL env h p (ts.set j d) = some h' := by
  unfold setIxH at e
  split at e
  · rename_i k'
    rw [Option.bind_eq_some_iff] at e
    obtain ⟨ts, e1, e2⟩ := e
    rw [Option.bind_eq_some_iff] at e2
    obtain ⟨j, e2, e3⟩ := e2
    exact ⟨k', ts, j, rfl, e1, e2, e3⟩
  · cases e
theorem ds_setIx {q : Pos} (v : VOk N sc i x) (hv : DV Γ N sc ea a) (hi : DV Γ N sc eb b) (hs : ∀ env, swapsWithSole [.Subscript (.Name x q) eb p] ea pos.line env = pure false := by intro _; rfl) (hw : ∀ env, swappedStores [.Subscript (.Name x q) eb p] ea env = pure none := by intro _; rfl)
    (h1 : ∀ env, (assignEach [.Subscript (.Name x q) eb p] env).map (·.2) = [assign (.Subscript (.Name x q) eb p) env] := by intro _; rfl)
    (ha : ∀ env v, assign (.Subscript (.Name x q) eb p) env v = (do
      let ov ← holding [v] (eval (.Name x q) env)
      let iv ← holding [v, ov] (eval eb env)
      standAt p
      holding [v, ov, iv] (setItem ov iv v)
      release [v, ov, iv] []) := by intro _ _; rfl) : DS Γ N sc (.Assign [.Subscript (.Name x q) eb p] ea pos) (.setIx (.var i) b a) := fun n I W X g =>
  (ps_asg (hv n I W X g) (pg_sub (v.pe g) (hi n I W X g) set_list (ha _)) (hs _) (hw _) (h1 _)).imp fun D σ H q => by
    obtain ⟨env, s, eH, hr, er, _, pr⟩ := AtS.bind (Rel1 := PRl X.K) (k := fun d env h1 => match getL env h1 (.var i) with
      | none => .stuck
      | some _ => ((evalE (callF Γ.fns n) env b h1).bind unP).toS env fun k h2 => ofH env (setIxH env (.var i) k d h2)) q
    refine ⟨env, s, eH, hr, er, trivial, PR.mono pr fun y H1 ⟨d, env, s, e, hr, er, ⟨_, r⟩, pr⟩ => ?_⟩
    subst e
    replace pr : PSt X.K I W D s (match getL env s.h (.var i) with
      | none => .stuck
      | some _ => ((evalE (callF Γ.fns n) env b s.h).bind unP).toS env fun k h2 => ofH env (setIxH env (.var i) k d h2)) := pr
    cases e0 : getL env s.h (.var i) with
    | none => rw [e0] at pr; exact False.elim pr
    | some ts0 =>
      rw [e0] at pr
      obtain ⟨m0, k1, k2, k3⟩ := own_var hr e0
      obtain ⟨k6, k7⟩ := ref_addr er k1
      refine ⟨_, k6, ?_⟩
      obtain ⟨env1, s1, eH1, hr1, er1, _, pr1⟩ := AtS.bind (Rel1 := PRl X.K) (ev1 := fun env h => (evalE (callF Γ.fns n) env b h).bind unP) (G := fun s' => (s'.φ m0 0 = s.φ m0 0 ∧ σ[i]? = some (some (.ref (s'.φ m0 0))) ∧ m0 < s'.h.length) ∧ PRl X.K s' d y) (G' := fun s' => (s'.φ m0 0 = s.φ m0 0 ∧ σ[i]? = some (some (.ref (s'.φ m0 0)))) ∧ PRl X.K s' d y) (k := fun k env h1 => ofH env (setIxH env (.var i) k d h1))
        ⟨env, s, rfl, hr, er, (⟨⟨rfl, k6, k7⟩, r⟩ : (s.φ m0 0 = s.φ m0 0 ∧ σ[i]? = some (some (.ref (s.φ m0 0))) ∧ m0 < s.h.length) ∧ PRl X.K s d y), pr⟩ (fun s' s2 l g => by
          obtain ⟨⟨g1, g2, g3⟩, g4⟩ := g
          rw [l.ph m0 g3]; exact ⟨⟨g1, g2⟩, g4.le l⟩)
      refine ⟨env1, s1, eH1, hr1, er1, trivial, PR.mono pr1 fun z H1 ⟨k, env2, s2, e2, hr2, er2, ⟨⟨⟨g1, g2⟩, g4⟩, r2⟩, pr2⟩ => ?_⟩
      subst e2
      replace pr2 : PSt X.K I W D s2 (ofH env2 (setIxH env2 (.var i) k d s2.h)) := pr2
      cases e3 : setIxH env2 (.var i) k d s2.h with
      | none => rw [e3] at pr2; exact False.elim pr2
      | some h' =>
        rw [e3] at pr2
        obtain ⟨k', ts, j, rfl, e4, e5, e6⟩ := setIx_inv e3
        obtain rfl := RF.int_inv r2
        obtain ⟨m2, j1, j2, j3⟩ := own_var hr2 e4
        obtain ⟨xs, j4, j5⟩ := j3.ex
        obtain ⟨j6, j7⟩ := ref_addr er2 j1
        rw [g2] at j6
        have j8 : s2.φ m0 0 = s2.φ m2 0 := by simpa using j6
        obtain ⟨s3, eH3, eh3, hr3, l3⟩ := j3.wr _ (xs.set j y) _ e6 (j5.set g4 j)
        refine ⟨_, xs, k', j, by rw [← g1, j8], rfl, j4, by rw [← j5.length]; exact e5, ?_⟩
        rw [← eH3]
        exact pr2 s3 σ l3 eh3 hr3 (er2.le l3)
/-- xs.pop(k) of a list of the heap -/
theorem ixN_eq {n : Nat} {k : Int} {j : Nat} (h : ixN n k = some j) : seqIndex? k n = some j := (ixN_seq h).1
theorem pop_inv {env : Ev} {i : Nat} {d : PyData} {h : Hi} : popK env i d h = .stuck ∨ ∃ p k j x, lstOf env h i = some p ∧ d = .int k ∧ ixN p.2.length k = some j ∧ p.2[j]? = some x ∧ (-(2 ^ 63) ≤ k ∧ k < 2 ^ 63) ∧ popK env i d h = .ok (.p x) (h.set p.1 (.lst (p.2.eraseIdx j))) := by
  unfold popK
  cases e1 : lstOf env h i with
  | none => exact .inl rfl
  | some p =>
    cases d with
    | int k =>
      simp only
      cases e2 : ixN p.2.length k with
      | none => exact .inl rfl
      | some j =>
        simp only
        cases e3 : p.2[j]? with
        | none => exact .inl rfl
        | some x =>
          simp only
          split
          · rename_i hz
            exact .inr ⟨p, k, j, x, rfl, rfl, e2, e3, by omega, rfl⟩
          · exact .inl rfl
    | _ => exact .inl rfl
theorem de_pop {q : Pos} (v : VOk N sc i x) (ha : DV Γ N sc ea a) (m : MOk p apos) (hb : Ab x q "pop" := by intro _; rfl) (hf : Few ea p := by intro _; rfl) (se : Se1 ea := by intro _; rfl) : DE Γ N sc (.Call (.Attribute (.Name x q) "pop" apos) [ea] [] p) (.pop i a) := fun n I W X g =>
  (pe_bm PySem.F.plainAttrs_list PySem.F.slot_list_pop PySem.F.type_list_pop mt_popAt (v.pe g) (pa_cons (ha n I W X g) pa_nil (se _)) (hb _) (hf _) m.line (se _) rfl).imp fun σ H Q q => by
    obtain ⟨env, s, eH, hr, er, _, pr⟩ := q
    replace pr : PR X.K I W s σ (match lstOf env s.h i with
      | none => .stuck
      | some _ => ((evalE (callF Γ.fns n) env a s.h).bind unP).bind fun d h1 => popK env i d h1) (VR X.K) Q := pr
    cases e0 : lstOf env s.h i with
    | none => rw [e0] at pr; exact False.elim pr
    | some p0 =>
      rw [e0] at pr
      have e0' : getL env s.h (.var i) = some p0.2 := by simp only [getL, peek, e0, Option.map_some]
      obtain ⟨m0, k1, k2, k3⟩ := own_var hr e0'
      obtain ⟨xs0, k4, k5⟩ := k3.ex
      obtain ⟨k6, k7⟩ := ref_addr er k1
      refine ⟨_, k6, .inl ⟨rfl, xs0, .inl (by rw [← eH]; exact Rd.of k4)⟩, ?_⟩
      obtain ⟨env1, s1, eH1, hr1, er1, _, pr1⟩ := At.bind (Rel1 := PRl X.K) (ev1 := fun env h => (evalE (callF Γ.fns n) env a h).bind unP) (G := fun s' => s'.φ m0 0 = s.φ m0 0 ∧ σ[i]? = some (some (.ref (s'.φ m0 0))) ∧ m0 < s'.h.length) (G' := fun s' => s'.φ m0 0 = s.φ m0 0 ∧ σ[i]? = some (some (.ref (s'.φ m0 0)))) (ev2 := fun d env h1 => popK env i d h1)
        ⟨env, s, eH, hr, er, (⟨rfl, k6, k7⟩ : s.φ m0 0 = s.φ m0 0 ∧ σ[i]? = some (some (.ref (s.φ m0 0))) ∧ m0 < s.h.length), pr⟩ (fun s' s2 l g => by
          obtain ⟨g1, g2, g3⟩ := g
          rw [l.ph m0 g3]; exact ⟨g1, g2⟩)
      refine ⟨env1, s1, eH1, hr1, er1, trivial, PR.mono pr1 fun y H1 ⟨d, env2, s2, e2, hr2, er2, ⟨⟨g1, g2⟩, r⟩, pr2⟩ => ?_⟩
      subst e2
      replace pr2 : PR X.K I W s2 σ (popK env2 i d s2.h) (VR X.K) Q := pr2
      rcases pop_inv (env := env2) (i := i) (d := d) (h := s2.h) with e3 | ⟨p, k, j, z, e3, rfl, e4, e5, e6, e7⟩
      · rw [e3] at pr2; exact False.elim pr2
      · rw [e7] at pr2
        obtain rfl := RF.int_inv r
        have e8 : getL env2 s2.h (.var i) = some p.2 := by simp only [getL, peek, e3, Option.map_some]
        obtain ⟨m2, j1, j2, j3⟩ := own_var hr2 e8
        obtain ⟨xs, j4, j5⟩ := j3.ex
        obtain ⟨j6, j7⟩ := ref_addr er2 j1
        rw [g2] at j6
        have j8 : s2.φ m0 0 = s2.φ m2 0 := by simpa using j6
        obtain ⟨w, hw, rw'⟩ := j5.get e5
        have e9 : storeL env2 s2.h (.var i) (p.2.eraseIdx j) = some (s2.h.set p.1 (.lst (p.2.eraseIdx j))) := by
          have : slotRef env2 i = some p.1 := by unfold slotRef; rw [(lstOf_of e3).1]
          simp only [storeL, this, Option.map_some]
        obtain ⟨s3, eH3, eh3, hr3, l3⟩ := j3.wr _ (xs.eraseIdx j) _ e9 (j5.eraseIdx j)
        refine ⟨_, xs, k, j, w, by rw [← g1, j8], rfl, j4, e6.1, e6.2, by rw [← j5.length]; exact ixN_eq e4, hw, ?_⟩
        rw [← eH3]
        exact pr2 s3 w l3 eh3 hr3 (RF.keep l3.kf rw')
end
end Cd
set_option Elab.async false
set_option linter.all false
set_option maxRecDepth 100000
set_option maxHeartbeats 4000000
namespace Cd
open PySem PySem.Spec PyProof.Rows L2
theorem callF_np {fns : Nat → Option FnD} {n f : Nat} {d : FnD} {args : List Val} {h : Hi} (e : fns f = some d) : args.length = d.np ∨ callF fns n f args h = .stuck := by
  cases n with
  | zero => exact .inr rfl
  | succ n =>
    unfold callF
    rw [e]
    by_cases z : args.length = d.np
    · exact .inl z
    · refine .inr ?_
      show (if args.length = d.np then _ else R.stuck) = R.stuck
      exact if_neg z
section
variable {Γ : Gm} {N : List Str} {sc : Sco} {e tg ea eb ec : Expr} {a b c : E} {ta : Te} {o : O2} {pos p p2 apos : Pos} {es : List Expr} {as : List E} {i j fi : Nat} {x y f m : Str} {t : Tg} {src : Src} {cl : Nat} {names : List Str}
/-- what a callee is asked -/
theorem sp_of {K : PySem.W.Frag} {I : Inf} {W : WX} {s : Sx} {σ : L2.St} {fns : Nat → Option FnD} {n : Nat} {d : FnD} {args : List Val} {vs : List V} {Q : V → Hp → Prop} (e : fns fi = some d) (hr : HR K I.ci s) (rel : Paired (VR K s) args vs) (pr : PR K I W s σ (callF fns n fi args s.h) (VR K) Q) :
    spF K I fns n fi d.np vs s.H Q (WE W σ) := by
  rcases callF_np (fns := fns) (n := n) (f := fi) (args := args) (h := s.h) e with h | h
  · refine ⟨s, args, rfl, hr, rel, h, ?_⟩
    generalize callF fns n fi args s.h = r at pr ⊢
    cases r with
    | ok v h1 => exact pr
    | exc e h1 => exact pr
    | stuck => exact pr
  · rw [h] at pr; exact False.elim pr
abbrev Pl (es : List Expr) (pos : Pos) : Prop := ∀ env, (backTo pos (starEach es env)).any (·.1) = false
theorem de_call (v : GOk sc x) (hf : (x, fi) ∈ Γ.defs) (ha : DAs Γ N sc (ea :: es) as) (he : Sec ea es := by intro _; rfl) (hpl : Pl es pos := by intro _; rfl) : DE Γ N sc (.Call (.Name x p) (ea :: es) [] pos) (.call fi as) := fun n I W X g => by
  obtain ⟨a, hm, hk, hfn, fd, ps, d, e1, e2, hb, F⟩ := g.fn _ hf
  refine (pe_callS (E := WE W) F (g.room.mono (by omega)) (v.g g) hm hk hb (fun σ => passAt g.tk σ) (ha n I W X g) v.db (he _) (hpl _)).imp fun σ H Q q => ?_
  obtain ⟨env, s, eH, hr, er, _, pr⟩ := At.bind (Rel1 := fun s ds vs => Paired (VR X.K s) ds vs ∧ ds.length = as.length) (ev2 := fun vs env h1 => callF Γ.fns n fi vs h1) q
  refine ⟨env, s, eH, hr, er, trivial, PR.mono pr fun vs H1 ⟨args, env, s, eH, hr, er, ⟨_, rel⟩, pr⟩ => ?_⟩
  subst eH
  exact sp_of e1 hr rel.1 pr
end
section
variable {K : PySem.W.Frag} {CI : CInf} {s : Sx} {x dx C : Addr} {c : Nat} {names : List Str}
end
section
variable {Γ : Gm} {N : List Str} {sc : Sco} {ea : Expr} {pos p : Pos} {es : List Expr} {as : List E} {fi : Nat} {x : Str} {cl : Nat}
end
end Cd
set_option Elab.async false
set_option linter.all false
set_option maxRecDepth 100000
set_option maxHeartbeats 4000000
namespace Cd
open PySem PySem.Spec PyProof.Rows L2
section
variable {Γ : Gm} {N : List Str} {sc : Sco} {e tg ea eb ec : Expr} {a b c : E} {ta : Te} {o : O2} {pos p p2 apos : Pos} {es : List Expr} {as : List E} {i j fi : Nat} {x y f m : Str} {t : Tg} {src : Src} {cl : Nat} {names : List Str}
theorem dp_neg (ha : DP Γ N sc ea a) (np : ∀ env h, peek env h a = none := by intros; rfl) : DP Γ N sc (.UnaryOp .USub ea pos) (.op1 .neg a) where
  run := fun n I W X g => (pe_un un_neg (ha.run n I W X g)).imp fun σ H Q ⟨env, s, eH, hr, er, pr⟩ => by
    refine ⟨env, s, eH, hr, er, ?_⟩
    replace pr : (match (bor env s.h a (evalE (callF Γ.fns n) env a s.h)).bind (fun x h1 => Cd.ofO ((negS x).map Val.p) h1) with
      | .ok (.p d) h' => h' = s.h ∧ ∀ x, RF X.K s.F s.H d x → Q x H
      | _ => False) := pr
    simp only [bor, np] at pr
    show (match evalE (callF Γ.fns n) env a s.h with
    | .ok (.p d2) h' => h' = s.h ∧ ∀ y, RF X.K s.F s.H d2 y → rU (fun i => .int (-i)) y H Q
    | _ => False)
    rcases ha.pure (callF Γ.fns n) env s.h with ⟨v, e⟩ | e
    · rw [e] at pr ⊢
      cases v with
      | p d =>
        simp only [R.bind_ok, unP] at pr
        refine ⟨rfl, fun y ry => ?_⟩
        cases d with
        | int k =>
          obtain rfl := ry.int_inv
          exact ⟨k, rfl, pr.2 _ (.int _)⟩
        | _ => exact False.elim pr
      | ref m => exact False.elim pr
    · rw [e] at pr
      exact False.elim pr
  pure := fun cf env h => by
    show (∃ v, (bor env h a (evalE cf env a h)).bind (fun x h1 => Cd.ofO ((negS x).map Val.p) h1) = .ok v h) ∨ (bor env h a (evalE cf env a h)).bind (fun x h1 => Cd.ofO ((negS x).map Val.p) h1) = .stuck
    simp only [bor, np]
    rcases ha.pure cf env h with ⟨v, e⟩ | e
    · rw [e]
      cases v with
      | p d =>
        simp only [R.bind_ok, unP]
        cases negS d with
        | none => exact .inr rfl
        | some z => exact .inl ⟨_, rfl⟩
      | ref m => exact .inr rfl
    · rw [e]; exact .inr rfl
def tO (K : PySem.W.Frag) (I : Inf) (l : Bool) (r : Ev → Hi → R Val) : TO := fun σ H Q => ∃ env s, s.H = H ∧ HR K I.ci s ∧ ER K s env σ ∧ match r env s.h with
  | .ok (.p d) h' => h' = s.h ∧ ∃ o, partD l d = some o ∧ Q o H
  | _ => False
structure DO (Γ : Gm) (N : List Str) (sc : Sco) (l : Bool) (e : Option Expr) (a : E) : Prop where
  run : ∀ n I W X, GX Γ n I N sc W X → PO X e (tO X.K I l (fun env h => evalE (callF Γ.fns n) env a h))
  pure : ∀ cf env h, (∃ v, evalE cf env a h = .ok v h) ∨ evalE cf env a h = .stuck
theorem _root_.L2.PO.imp {X : Cx} {e : Option Expr} {t t' : TO} (h : PO X e t) (i : ∀ σ H Q, t' σ H Q → t σ H Q) : PO X e t' := ⟨fun pins s σ H Q I q => h.run pins s σ H Q I (i σ H Q q)⟩
theorem do_none : DO Γ N sc false none (.lit .none) where
  run := fun n I W X g => po_none.imp fun σ H Q ⟨env, s, eH, hr, er, _, o, e, q⟩ => by
    cases e
    exact q
  pure := fun cf env h => .inl ⟨_, rfl⟩
theorem do_some (ha : DP Γ N sc ea a) : DO Γ N sc true (some ea) a where
  run := fun n I W X g => (po_some (ha.run n I W X g)).imp fun σ H Q ⟨env, s, eH, hr, er, pr⟩ => by
    refine ⟨env, s, eH, hr, er, ?_⟩
    replace pr : (match evalE (callF Γ.fns n) env a s.h with
      | .ok (.p d) h' => h' = s.h ∧ ∃ o, partD true d = some o ∧ Q o H
      | _ => False) := pr
    show (match evalE (callF Γ.fns n) env a s.h with
    | .ok (.p d2) h' => h' = s.h ∧ ∀ y, RF X.K s.F s.H d2 y → ∃ i, y = .int i ∧ Q (some i) H
    | _ => False)
    generalize evalE (callF Γ.fns n) env a s.h = r at pr ⊢
    cases r with
    | ok v h1 =>
      cases v with
      | p d =>
        obtain ⟨e0, o, e1, q⟩ := pr
        refine ⟨e0, fun y ry => ?_⟩
        cases d with
        | int k =>
          obtain rfl := ry.int_inv
          cases e1
          exact ⟨k, rfl, q⟩
        | _ => cases e1
      | ref m => exact pr
    | exc e h1 => exact pr
    | stuck => exact pr
  pure := ha.pure
theorem opf3_inv {l u : Bool} {d x y z : PyData} (e : opf3 (.slice l u) d x y = some z) : ∃ ts lo hi, partD l x = some lo ∧ partD u y = some hi ∧ ((d = .list ts ∧ z = .list (cutD ts lo hi)) ∨ (d = .tuple ts ∧ z = .tuple (cutD ts lo hi))) := by
  cases d with
  | list ts =>
    have e' : ((partD l x).bind fun lo => (partD u y).map fun hi => PyData.list (cutD ts lo hi)) = some z := e
    rw [Option.bind_eq_some_iff] at e'
    obtain ⟨lo, e1, e2⟩ := e'
    rw [Option.map_eq_some_iff] at e2
    obtain ⟨hi, e2, rfl⟩ := e2
    exact ⟨ts, lo, hi, e1, e2, .inl ⟨rfl, rfl⟩⟩
  | tuple ts =>
    have e' : ((partD l x).bind fun lo => (partD u y).map fun hi => PyData.tuple (cutD ts lo hi)) = some z := e
    rw [Option.bind_eq_some_iff] at e'
    obtain ⟨lo, e1, e2⟩ := e'
    rw [Option.map_eq_some_iff] at e2
    obtain ⟨hi, e2, rfl⟩ := e2
    exact ⟨ts, lo, hi, e1, e2, .inr ⟨rfl, rfl⟩⟩
  | _ => cases e
theorem RFs.cut {K : PySem.W.Frag} {F : Addr → Prop} {H : Hp} {ts : List PyData} {xs : List V} (r : RFs K F H ts xs) (lo hi : Option Int) : RFs K F H (cutD ts lo hi) (cutV xs lo hi) := by
  unfold cutD cutV
  rw [r.length]
  exact (r.drop _).take _
theorem cutD_all {ts : List PyData} {lo hi : Option Int} (h : HT.sIx ts.length 0 lo = 0 ∧ HT.sIx ts.length ts.length hi = ts.length) : cutD ts lo hi = ts := by
  unfold cutD
  rw [h.1, h.2]
  simp
/-- t[lo:hi], what it lays known -/
def rSlTk (K : PySem.W.Frag) : V → Option Int → Option Int → Hp → VK → Prop := fun x lo hi H Q => ∃ a xs, x = .ref a ∧ SqT K H a xs ∧
  (HT.sIx xs.length 0 lo = 0 ∧ HT.sIx xs.length xs.length hi = xs.length → Q (.ref a) H) ∧ (¬ (HT.sIx xs.length 0 lo = 0 ∧ HT.sIx xs.length xs.length hi = xs.length) → ∀ p o, H p = none → TupO o → Q (.ref p) (upd H p (.frz o (.tup (cutV xs lo hi)))))
theorem sl_tupS {X : Cx} : SlR X (rSlTk X.K) := by
  intro pins s σ H x v vl vu lo hi sl Q I rx hs pl pu h
  obtain ⟨a, xs, rfl, hx, q1, q2⟩ := h
  by_cases hw : HT.sIx xs.length 0 lo = 0 ∧ HT.sIx xs.length xs.length hi = xs.length
  · exact sl_tupA pins s σ H _ v vl vu lo hi sl Q I rx hs pl pu ⟨a, xs, rfl, hx, q1, fun z => absurd hw z⟩
  · cases rx
    obtain ⟨its, r, ht, hz⟩ := I.tuple hx
    have hlen : its.toArray.size = xs.length := by rw [List.size_toArray]; exact r.length.symm
    refine ⟨"tuple", _, PyProof.Rows.slot_tuple_getitem.lookup, ht.typeIs, ?_⟩
    refine HT.getItem_tuple_cut ht hs pl pu (by rw [hlen]; exact hw) ?_ (by rw [hlen]; exact hz)
    rw [hlen]
    refine ⟨.ref s.heap.objs.size, _, I.laid (t' := s.toks) (o := .frz { cls := .type "tuple", data := .seq ((its.drop (HT.sIx xs.length 0 lo)).take (HT.sIx xs.length xs.length hi - HT.sIx xs.length 0 lo)).toArray } (.tup (cutV xs lo hi))) (fun b ob q => Heap.get?_push_of_some _ q) (Nat.le_refl _) ?_, rfl, q2 hw _ _ (I.hok.fresh (Nat.le_refl _)) ⟨rfl, rfl⟩⟩
    exact ⟨Heap.get?_push_size _ rfl, Nat.le_trans (cutV_length xs lo hi) hz, _, (r.drop (HT.sIx xs.length 0 lo)).take (HT.sIx xs.length xs.length hi - HT.sIx xs.length 0 lo), IsTup.new _ _⟩
theorem de_slice {l u : Bool} {lo hi : Option Expr} (ha : DB Γ N sc ea a) (hl : DO Γ N sc l lo b) (hu : DO Γ N sc u hi c) : DE Γ N sc (.Subscript ea (.Slice lo hi none p2) pos) (.op3b (.slice l u) a b c) := fun n I W X g =>
  (pe_slice (sl_list.or sl_tupS) (ha n I W X g) (hl.run n I W X g) (hu.run n I W X g)).imp fun σ H Q q => by
    obtain ⟨env, s, eH, hr, er, _, pr⟩ := At.bind (Rel1 := RB X.K) (ev1 := fun env h => bor env h a (evalE (callF Γ.fns n) env a h)) (ev2 := fun x env h => ((evalE (callF Γ.fns n) env b h).bind unP).bind fun y h2 => ((evalE (callF Γ.fns n) env c h2).bind unP).bind fun z h3 => ofO ((opf3 (.slice l u) x y z).map Val.p) h3) q
    refine ⟨env, s, eH, hr, er, trivial, ?_⟩
    refine PR.mono pr fun x H1 ⟨d, env, s, eH, hr, er, ⟨_, rb⟩, pr⟩ => ?_
    refine ⟨env, s, eH, hr, er, ?_⟩
    replace pr : PR X.K I W s σ (((evalE (callF Γ.fns n) env b s.h).bind unP).bind fun y h2 => ((evalE (callF Γ.fns n) env c h2).bind unP).bind fun z h3 => ofO ((opf3 (.slice l u) d y z).map Val.p) h3) (VR X.K) Q := pr
    show (match evalE (callF Γ.fns n) env b s.h with
    | .ok (.p d) h' => h' = s.h ∧ ∃ o, partD l d = some o ∧ tO X.K I u (fun env h => evalE (callF Γ.fns n) env c h) σ H1 _
    | _ => False)
    rcases hl.pure (callF Γ.fns n) env s.h with ⟨v, e⟩ | e
    · rw [e] at pr ⊢
      cases v with
      | ref m => exact False.elim pr
      | p d1 =>
        simp only [R.bind_ok, unP] at pr
        rcases hu.pure (callF Γ.fns n) env s.h with ⟨v2, e2⟩ | e2
        · rw [e2] at pr
          cases v2 with
          | ref m => exact False.elim pr
          | p d2 =>
            simp only [R.bind_ok, unP] at pr
            obtain ⟨z, e3, fin⟩ := PR.fin (o := opf3 (.slice l u) d d1 d2) pr hr
            obtain ⟨ts, lo', hi', e4, e5, ez⟩ := opf3_inv e3
            refine ⟨rfl, lo', e4, env, s, eH, hr, er, ?_⟩
            show (match evalE (callF Γ.fns n) env c s.h with
            | .ok (.p d) h' => h' = s.h ∧ ∃ o, partD u d = some o ∧ _
            | _ => False)
            rw [e2]
            refine ⟨rfl, hi', e5, ?_⟩
            subst eH
            rcases ez with ⟨rfl, rfl⟩ | ⟨rfl, rfl⟩
            · obtain ⟨p0, xs, rfl, h1, q1⟩ := rb.lst
              exact .inl ⟨p0, xs, rfl, h1, fun p' hp => fin.2 p' _ hp (lst_new hp (q1.cut lo' hi'))⟩
            · obtain ⟨p0, xs, rfl, h1, q1⟩ := rb.tupN
              refine .inr ⟨p0, xs, rfl, h1.1, fun w => ?_, fun _ p' o hp ho => fin.2 p' _ hp (tup_new hp ho (q1.cut lo' hi'))⟩
              rw [← q1.length] at w
              refine fin.1 _ ?_
              rw [cutD_all w]
              exact .tup h1 q1
        · rw [e2] at pr; exact False.elim pr
    · rw [e] at pr; exact False.elim pr
def tyName : Ty → String
  | .int => "int"
  | .bool => "bool"
  | .str => "str"
  | .tuple => "tuple"
  | .list => "list"
  | .exc _ => ""
def dTy : PyData → Option String
  | .none => some "NoneType"
  | .bool _ => some "bool"
  | .int _ => some "int"
  | .str _ => some "str"
  | .list _ => some "list"
  | .tuple _ => some "tuple"
  | _ => none
theorem rf_tyx {K : PySem.W.Frag} {s : Sx} {d : PyData} {v : V} (r : RF K s.F s.H d v) : ∃ T, dTy d = some T ∧ TyX K s.H v (.type T) := by
  cases r with
  | non => exact ⟨_, rfl, .base .non⟩
  | bl b => exact ⟨_, rfl, .base (.bl b)⟩
  | int i => exact ⟨_, rfl, .base (.int i)⟩
  | str y => exact ⟨_, rfl, .base (.str y)⟩
  | lst h q =>
    rcases h with ⟨_, h | ⟨o, h⟩⟩ | ⟨o, _, _, h1, h2, _⟩
    · exact ⟨_, rfl, .base (.lst h)⟩
    · exact ⟨_, rfl, .base (.frz h)⟩
    · exact ⟨_, rfl, .kList h1 h2⟩
  | tup h q =>
    obtain ⟨h, _⟩ := h
    rcases h with (h | ⟨o, h⟩) | h
    · exact ⟨_, rfl, .base (.tup h)⟩
    · exact ⟨_, rfl, .fTuple h⟩
    · obtain ⟨o, _, _, h1, h2, _⟩ := h
      exact ⟨_, rfl, .kTuple h1 h2⟩
theorem kit_all : ∀ t : Ty, (∀ c, t ≠ .exc c) → ∀ T ∈ ["NoneType", "bool", "int", "str", "list", "tuple"], kitB T (tyName t) = some (T == tyName t || (T == "bool" && tyName t == "int")) := by
  intro t h T hT
  cases t with
  | exc c => exact absurd rfl (h c)
  | _ => revert T; decide +kernel
theorem isTy_of {t : Ty} {d : PyData} {T : String} (h : ∀ c, t ≠ .exc c) (e : dTy d = some T) : isTy t d = (T == tyName t || (T == "bool" && tyName t == "int")) := by
  cases d <;> cases e <;> cases t <;> first | rfl | exact absurd rfl (h _)
theorem dTy_mem {d : PyData} {T : String} (e : dTy d = some T) : T ∈ ["NoneType", "bool", "int", "str", "list", "tuple"] := by
  cases d <;> cases e <;> decide
theorem de_isi {ty : Ty} {T : Str} {q : Pos} (v : NB Γ sc "isinstance") (v2 : NB Γ sc T) (ha : DV Γ N sc ea a) (hT : bootBuiltins T = some (.type (tyName ty))) (hx : ∀ c, ty ≠ .exc c := by intro _ z; cases z) (hnm : T ≠ "__name__" := by decide) (hdb : (T == ("__debug__" : Str)) = false := by decide)
    (se : Se2 ea (.Name T q) := by intro _; rfl) (se1 : Se1 (.Name T q) := by intro _; rfl) (hpl : Pl [.Name T q] pos := by intro _; rfl) : DE Γ N sc (.Call (.Name "isinstance" p) [ea, .Name T q] [] pos) (.isi a ty) := fun n I W X g =>
  (pe_callB (id := "isinstance") call_isi (v.g.g g) (g.nob _ v.m) (by decide +kernel) (pa_cons (ha n I W X g) (pa_cons (pe_bltn (v := .ty (tyName ty)) (v2.g.g g) (g.nob _ v2.m) hT rfl hnm hdb) pa_nil (se1 _)) (se _)) (by decide) (by decide) (se _) (hpl _)).imp fun σ H Q q => by
    obtain ⟨env, s, eH, hr, er, _, pr⟩ := At.bind (Rel1 := PRl X.K) (ev2 := fun d env h1 => R.ok (Val.p (.bool (isTy ty d))) h1) q
    refine ⟨env, s, eH, hr, er, trivial, PR.mono pr fun x H1 ⟨d, env, s, e, hr, er, ⟨_, rb⟩, pr⟩ => ?_⟩
    subst e
    obtain ⟨T', e1, ty'⟩ := rf_tyx rb
    refine ⟨x, .ty (tyName ty), .type T', .type (tyName ty), isTy ty d, rfl, .ty _, ty', kit_ty ?_, pr s _ (.refl s) rfl hr (.bl _)⟩
    rw [isTy_of hx e1]
    exact kit_all ty hx T' (dTy_mem e1)
end
end Cd
set_option Elab.async false
set_option linter.all false
set_option maxRecDepth 100000
set_option maxHeartbeats 4000000
namespace Cd
open PySem PySem.Spec PyProof.Rows L2
/-- the heap back to its length -/
def Sx.cut (s : Sx) (n : Nat) : Sx := { s with h := s.h.take n }
theorem live_take {h : Hi} {n m k : Nat} (l : Live (h.take n) m k) : Live h m k := by
  have g : ∀ {m : Nat} {o : Ob}, (h.take n)[m]? = some o → h[m]? = some o := fun {m o} e => by
    rw [List.getElem?_take] at e
    split at e
    · exact e
    · cases e
  cases k with
  | zero => obtain ⟨o, e, nd⟩ := l; exact ⟨o, g e, nd⟩
  | succ k =>
    rcases l with ⟨c, fs, us, e, ef⟩ | ⟨kvs, q, us, e, ef⟩
    · exact .inl ⟨c, fs, us, g e, ef⟩
    · exact .inr ⟨kvs, q, us, g e, ef⟩
theorem HR.cut {K : PySem.W.Frag} {CI : CInf} {s : Sx} (hr : HR K CI s) (n : Nat) : HR K CI (s.cut n) where
  ob := fun m o e => by
    have e' : s.h[m]? = some o := by
      have e2 : (s.h.take n)[m]? = some o := e
      rw [List.getElem?_take] at e2
      split at e2
      · exact e2
      · cases e2
    exact (hr.ob m o e').move (s' := s.cut n) .refl e' fun j l => ⟨rfl, fun u h => h⟩
  inj := fun m j q k l1 l2 e => hr.inj m j q k (live_take l1) (live_take l2) e
  nf := fun m j l => hr.nf m j (live_take l)
  bt := fun b hb => let ⟨h1, h2, h3⟩ := hr.bt b hb; ⟨fun m j l => h1 m j (live_take l), h2, h3⟩
  ft := hr.ft
theorem cut_le {s s' : Sx} (l : Le s s') : Le s (s'.cut s.h.length) := ⟨by show s.h.length ≤ (s'.h.take s.h.length).length; rw [List.length_take]; have := l.len; omega, l.ph, l.kf, l.fr⟩
theorem slot_get : ∀ {env : Ev} {i : Nat} {v : Val}, slot env i = some v → env[i]? = some (some v)
  | [], _, _, h => by simp [slot] at h
  | x :: _, 0, v, h => by
    have e : x = some v := h
    rw [e]; rfl
  | _ :: r, i + 1, v, h => by
    have := slot_get (env := r) (i := i) (v := v) h
    simpa using this
theorem paired_get {α β : Type} {R : α → β → Prop} : ∀ {xs : List α} {ys : List β} {i : Nat} {x : α}, Paired R xs ys → xs[i]? = some x → ∃ y, ys[i]? = some y ∧ R x y
  | _, _, _, _, .nil, e => by simp at e
  | _, _, 0, _, .cons r _, e => by simp at e; subst e; exact ⟨_, rfl, r⟩
  | _, _, i + 1, x, .cons _ t, e => by
    obtain ⟨y, h1, h2⟩ := paired_get (i := i) (x := x) t (by simpa using e)
    exact ⟨y, by simpa using h1, h2⟩
theorem er_start {K : PySem.W.Frag} {s : Sx} {N : List Str} {d : FnD} {args : List Val} {vs : List V} (hN : N.length = d.ns) (r : Paired (VR K s) args vs) : ER K s (startE d args) (L2.start N vs) where
  len := by
    have := r.length
    unfold startE L2.start
    simp only [List.length_append, List.length_map, List.length_replicate]
    omega
  at_ := fun i v e => by
    have e1 := slot_get e
    have hl := r.length
    unfold startE at e1
    by_cases h : i < args.length
    · rw [List.getElem?_append_left (by simpa using h), List.getElem?_map] at e1
      cases e2 : args[i]? with
      | none => rw [e2] at e1; cases e1
      | some w =>
        rw [e2] at e1
        have e3 : w = v := by simpa using e1
        subst e3
        obtain ⟨x, h1, h2⟩ := paired_get r e2
        refine ⟨x, ?_, h2⟩
        unfold L2.start
        rw [List.getElem?_append_left (by simp; omega), List.getElem?_map, h1]
        rfl
    · rw [List.getElem?_append_right (by simp; omega), List.getElem?_replicate] at e1
      split at e1
      · cases e1
      · cases e1
/-- what the top tells, at the interpreter's fuel n -/
structure GD (P : Program) (w : World) (K : PySem.W.Frag) (mg : Str → Option Value) (base : Heap) (I : Inf) (Γ : Gm) (n : Nat) : Prop where
  fn : ∀ p ∈ Γ.defs, ∃ a, mg p.1 = some (.ref a) ∧ FAt P w K mg base I Γ.fns n p.2 a
  nob : ∀ x ∈ Γ.nobs, mg x = none
  con : ∀ p ∈ Γ.cons, ∃ u v, mg p.1 = some u ∧ RelV v u ∧ ∀ F H, RF K F H p.2 v
  cl : ∀ p ∈ Γ.cls, ∃ C names a, mg p.1 = some (.ref C) ∧ I.ci p.2.1 = some (C, names) ∧ Mk K C a ∧ FAt P w K mg base I Γ.fns n p.2.2 a
  mt : ∀ p ∈ Γ.meths, ∃ C names a, I.ci p.1 = some (C, names) ∧ Meth K C p.2.1 a ∧ p.2.1 ∉ names ∧ FAt P w K mg base I Γ.fns n p.2.2 a
  fl : ∀ p ∈ Γ.flds, ∃ C, I.ci p.1 = some (C, p.2) ∧ Cls K C ∧ p.2.Nodup ∧ p.2.length < 1000 ∧ ∀ x ∈ p.2, NoAttr K C x
  ci : ∀ c C names, I.ci c = some (C, names) → (c, names) ∈ Γ.flds
  xc : ∀ p ∈ Γ.excs, ∃ C, mg p.1 = some (.ref C) ∧ I.xi p.2 = some C ∧ XcOk K p.2 C
  xm : ∀ c C c' C', I.xi c = some C → I.xi c' = some C' → PySem.W.exmOne K (.ref C) (.ref C') = some (subC c c')
  tb : ∀ p ∈ Γ.tabs, ∃ a, mg p.1 = some (.ref a) ∧ TabK K a p.2
  st : ∀ p ∈ Γ.sts, ∃ C names a fd, I.ci p.1 = some (C, names) ∧ Meth K C p.2.1 a ∧ p.2.1 ∉ names ∧ Binds K fd ["self"] [] ∧ FnOk P w K mg base (L2.CX P w) (2 * n) a fd ["self"] (spS K I n p.1 p.2.2)
  ho : ∀ p ∈ Γ.hots, ∃ a fd x, mg p.1 = some (.ref a) ∧ PySem.W.keepIn K (.ref a) = true ∧ Binds K fd [x] [] ∧ FnE P w K mg base (L2.CX P w) 1 a fd [x] (spE K I p.2)
def fnSco (st : Stmt) : Sco := ⟨defScope st, fun _ => true, true, false⟩
section
variable {P : Program} {w : World} {K : PySem.W.Frag} {mg : Str → Option Value} {base : Heap} {I : Inf} {Γ : Gm} {n fi : Nat}
theorem gx_of {N : List Str} {qual : Str} {st : Stmt} {f : Addr} {cdv : Value} {A : Around} {outer : List Env} {s : Shared} {H : Hp} {E : XK} (G : GD P w K mg base I Γ n) (nd : N.Nodup) (hr : Room (2 * n + 1) (A.deeper (envOfC qual (defScope st) s.heap.objs.size f cdv))) :
    GX Γ n I N (fnSco st) (fun cls d _ H => E cls d H) (cxOf (L2.CX P w) P w K mg base N qual (defScope st) f cdv A outer s H E) where
  hN := rfl
  nd := nd
  fnc := rfl
  sc := rfl
  calm := rfl
  tk := takes_of rfl rfl rfl rfl
  pass := passes_of rfl
  room := hr
  fn := G.fn
  nob := G.nob
  con := G.con
  cl := G.cl
  mt := G.mt
  fl := G.fl
  ci := G.ci
  xc := G.xc
  xm := G.xm
  tb := G.tb
  st := G.st
  ho := G.ho
  stk := fun _ => ⟨rfl, rfl⟩
  gd := fun z => by cases z
/-- a def that stands at a, with its small program -/
structure FnSt (Γ : Gm) (K : PySem.W.Frag) (fi : Nat) (a : Addr) : Prop where
  kp : PySem.W.keepIn K (.ref a) = true
  isf : PySem.W.isFn K (.ref a) = true
  ex : ∃ (x qual : Str) (st : Stmt) (fd : FuncData) (N ps : List Str) (d : FnD), Fun K x qual st a fd ∧ FnScope N ps (defScope st) ∧ Binds K fd ps [] ∧ Γ.fns fi = some d ∧ ps.length = d.np ∧ N.length = d.ns ∧ DSs Γ N (fnSco st) (defBody st) d.body
theorem fn_sound {x qual : Str} {st : Stmt} {a : Addr} {fd : FuncData} {N ps : List Str} {d : FnD} (G : GD P w K mg base I Γ n) (F : Fun K x qual st a fd) (S : FnScope N ps (defScope st)) (e : Γ.fns fi = some d) (hp : ps.length = d.np) (hns : N.length = d.ns)
    (hb : DSs Γ N (fnSco st) (defBody st) d.body) : FnOk P w K mg base (L2.CX P w) (2 * (n + 1)) a fd ps (spF K I Γ.fns (n + 1) fi d.np) := by
  refine F.okX (k := 2 * n + 1) S (fun vs H Q E ⟨s, args, _, _, r, hl, _⟩ => by rw [← r.length, hl, hp]) fun cdv A outer s0 H vs Q E hr ⟨s, args, eH, hR, r, hl, h⟩ => ?_
  refine ⟨_, hb n I _ _ (gx_of G S.nd hr), startE d args, s, eH, hR, er_start hns r, trivial, ?_⟩
  have h' : (match finF s.h.length (evalSs (callF Γ.fns n) d.body (startE d args) s.h) with
    | .ok v h' => ∀ s' x, Le s s' → s'.h = h' → HR K I.ci s' → VR K s' v x → Q x s'.H
    | .exc e h' => ∀ s' cls d, Le s s' → s'.h = h' → HR K I.ci s' → XR K I s' e cls d → E cls d s'.H
    | .stuck => False) := by
    have h2 := h
    unfold callF at h2
    rw [e] at h2
    simp only [hl, if_true] at h2
    exact h2
  show PSt K I (fun cls d _ H => E cls d H) _ s (evalSs (callF Γ.fns n) d.body (startE d args) s.h)
  generalize evalSs (callF Γ.fns n) d.body (startE d args) s.h = rs at h' ⊢
  cases rs with
  | ok fl env1 h1 =>
    cases fl with
    | nx =>
      intro s' σ' l eh hr' er'
      subst eh
      exact h' (s'.cut s.h.length) .non (cut_le l) rfl (hr'.cut _) .non
    | bk => exact False.elim h'
    | ct => exact False.elim h'
    | rt v =>
      cases v with
      | p dd =>
        intro s' y l eh hr' rv
        subst eh
        exact h' (s'.cut s.h.length) y (cut_le l) rfl (hr'.cut _) rv
      | ref m =>
        intro s' y l eh hr' rv
        subst eh
        exact h' s' y l rfl hr' rv
  | exc e2 env1 h1 =>
    intro s' σ' cls dx l eh hr' er' xr
    subst eh
    exact h' (s'.cut s.h.length) cls dx (cut_le l) rfl (hr'.cut _) xr
  | stuck => exact h'
/-- a method that tells tuple(its field): its text -/
def StSt (Γ : Gm) (K : PySem.W.Frag) (c j : Nat) (a : Addr) : Prop := ∃ (x qual f : Str) (st : Stmt) (fd : FuncData) (names : List Str) (p q p2 p3 p4 : Pos), Fun K x qual st a fd ∧ FnScope ["self"] ["self"] (defScope st) ∧ Binds K fd ["self"] [] ∧ FOk Γ c names j f ∧
  NB Γ (fnSco st) "tuple" ∧ VOk ["self"] (fnSco st) 0 "self" ∧ defBody st = [.Return (some (.Call (.Name "tuple" p) [.Attribute (.Name "self" q) f p2] [] p3)) p4] ∧ Ab "self" q f
theorem call_tuple_st {X : Cx} : CallR X (.type "tuple") (fun xs H Q => ∃ p ys, xs = [.ref p] ∧ SqL X.K H p ys ∧ ∀ (l : Addr) (o : Obj), H l = none → o.cls = .type "tuple" → o.dict = none → Q (.ref l) (upd H l (.frz o (.tup ys)))) := by
  intro pins s σ H xs us Q I r h
  obtain ⟨p, ys, rfl, hq, q⟩ := h
  obtain ⟨u, rfl, rx⟩ := vals1 r
  cases rx
  obtain ⟨its, r', pl, hz⟩ := I.list hq
  have hlen := r'.length
  refine call_tuple_list pl.isList (fun h' kp => ?_) (by simp only [List.size_toArray] <;> omega)
  have I1 : Inv _ pins σ H { s with heap := h' } := I.kept (t' := s.toks) kp
  have I2 : Inv _ pins σ (upd H h'.objs.size (.frz { cls := .type "tuple", data := .seq its.toArray } (.tup ys))) { s with heap := h'.push { cls := .type "tuple", data := .seq its.toArray } } :=
    I1.laid (t' := s.toks) (fun b o e => Heap.get?_push_of_some _ e) (Nat.le_refl _) (show ObjOk _ _ _ _ _ (.frz _ (.tup ys)) from ⟨Heap.get?_push_size _ rfl, hz, its, r', IsTup.new _ _⟩)
  exact ⟨.ref h'.objs.size, _, I2, rfl, q _ _ (I1.hok.fresh (Nat.le_refl _)) rfl rfl⟩
/-- a field that is a list -/
theorem fldL_at {n : Nat} {I : Inf} {N : List Str} {sc : Sco} {W : WX} {X : Cx} {s : Sx} {k c j : Nat} {names : List Str} {f : Str} {fs : List Fld} {ts : List PyData} (g : GX Γ n I N sc W X) (hr : HR X.K I.ci s) (hf : FOk Γ c names j f) (e1 : insAt s.h k = some (c, fs)) (e2 : FldL fs[j]? ts) :
    k < s.h.length ∧ ∃ C dx es b xs, s.H (s.φ k 0) = some (.ins C dx es) ∧ Cls X.K C ∧ NoAttr X.K C f ∧ es.lookup f = some (.ref b) ∧ SqL X.K s.H b xs ∧ RFs X.K s.F s.H ts xs := by
  have lt : k < s.h.length := by
    unfold insAt at e1
    cases e : s.h[k]? with
    | none => rw [e] at e1; cases e1
    | some o => exact (List.getElem?_eq_some_iff.mp e).1
  refine ⟨lt, ?_⟩
  have er : ER X.K s [some (.ref k)] [some (.ref (s.φ k 0))] := ⟨rfl, fun i v e => by
    cases i with
    | zero => cases e; exact ⟨_, rfl, lt, rfl⟩
    | succ i => simp [slot] at e⟩
  have ei : insOf [some (.ref k)] s.h 0 = some (k, c, fs) := by
    unfold insOf
    show (insAt s.h k).map _ = _
    rw [e1]; rfl
  cases eu : fs[j]? with
  | none => rw [eu] at e2; exact False.elim e2
  | some u =>
    rw [eu] at e2
    obtain ⟨C, dx, es, y, h1, h2, h3, h4, h5, h6⟩ := fld_at g hr er hf ei eu
    cases u with
    | l us =>
      obtain rfl : us = ts := e2
      obtain ⟨rfl, xs, h7, h8⟩ := h6
      exact ⟨C, dx, es, _, xs, h2, h3, h4, h5, SqL.of h7, h8⟩
    | p d =>
      obtain rfl : d = .list ts := e2
      obtain ⟨a, xs, rfl, h7, h8⟩ := RF.lst_inv h6
      exact ⟨C, dx, es, _, xs, h2, h3, h4, h5, h7.sq, h8⟩
theorem st_body {n : Nat} {I : Inf} {sc : Sco} {W : WX} {X : Cx} {c j : Nat} {names : List Str} {f : Str} {p q p2 p3 p4 : Pos} (g : GX Γ n I ["self"] sc W X) (v : VOk ["self"] sc 0 "self") (nb : NB Γ sc "tuple") (hf : FOk Γ c names j f) (hb : Ab "self" q f) :
    PSs X [.Return (some (.Call (.Name "tuple" p) [.Attribute (.Name "self" q) f p2] [] p3)) p4] (fun D σ H => ∃ (s : Sx) (k : Nat) (fs : List Fld) (ts : List PyData), s.H = H ∧ HR X.K I.ci s ∧ σ = [some (.ref (s.φ k 0))] ∧ insAt s.h k = some (c, fs) ∧ FldL fs[j]? ts ∧
      ∀ s' x, Le s s' → s'.h = s.h → HR X.K I.ci s' → StR X.K s' ts x → D.rt x s'.H) :=
  (pss_cons (ps_ret (pe_ty1 g call_tuple_st nb (by decide +kernel) (pe_fld (v.pe g) (hb _)) (by intro _; rfl))) pss_nil).imp fun D σ H ⟨s, k, fs, ts, eH, hr, eσ, e1, e2, h⟩ => by
    subst eH eσ
    obtain ⟨lt, C, dx, es, b, xs, h1, h2, h3, h4, h5, h6⟩ := fldL_at g hr hf e1 e2
    exact ⟨_, rfl, _, C, dx, es, _, rfl, h1, h2, h3, h4, b, xs, rfl, h5, fun l o hl hc hd =>
      h (s.put l (.frz o (.tup xs)) true) (.ref l) (hr.put_le hl) rfl (hr.put hl) ⟨l, xs, o, rfl, upd_same, hc, hd, h6.keep (KeepF.put hl)⟩⟩
theorem st_sound {c j : Nat} {a : Addr} (h : StSt Γ K c j a) (G : ∀ m, n = m + 1 → GD P w K mg base I Γ m) : ∃ fd, Binds K fd ["self"] [] ∧ FnOk P w K mg base (L2.CX P w) (2 * n) a fd ["self"] (spS K I n c j) := by
  obtain ⟨x, qual, f, st, fd, names, p, q, p2, p3, p4, F, S, B, hf, nb, v, eb, hab⟩ := h
  refine ⟨fd, B, ?_⟩
  cases n with
  | zero => exact ⟨fun vs H Q E ⟨z, _⟩ => absurd z (Nat.lt_irrefl _), fun A outer s H args us vs Q E hr he hb hv ⟨z, _⟩ => absurd z (Nat.lt_irrefl _)⟩
  | succ m =>
    refine F.okX (k := 2 * m + 1) S (fun vs H Q E ⟨_, s, k, fs, ts, _, _, e, _⟩ => by rw [e]; rfl) fun cdv A outer s0 H vs Q E hr ⟨_, s, k, fs, ts, eH, hR, ev, e1, e2, h⟩ => ?_
    refine ⟨_, eb ▸ st_body (p := p) (p2 := p2) (p3 := p3) (p4 := p4) (gx_of (G m rfl) S.nd hr) v nb hf hab, s, k, fs, ts, eH, hR, ?_, e1, e2, h⟩
    subst ev
    rfl
/-- what the top has written -/
structure GS (K : PySem.W.Frag) (mg : Str → Option Value) (I : Inf) (Γ : Gm) : Prop where
  fn : ∀ p ∈ Γ.defs, ∃ a, mg p.1 = some (.ref a) ∧ FnSt Γ K p.2 a
  nob : ∀ x ∈ Γ.nobs, mg x = none
  con : ∀ p ∈ Γ.cons, ∃ u v, mg p.1 = some u ∧ RelV v u ∧ ∀ F H, RF K F H p.2 v
  cl : ∀ p ∈ Γ.cls, ∃ C names a, mg p.1 = some (.ref C) ∧ I.ci p.2.1 = some (C, names) ∧ Mk K C a ∧ FnSt Γ K p.2.2 a
  mt : ∀ p ∈ Γ.meths, ∃ C names a, I.ci p.1 = some (C, names) ∧ Meth K C p.2.1 a ∧ p.2.1 ∉ names ∧ FnSt Γ K p.2.2 a
  fl : ∀ p ∈ Γ.flds, ∃ C, I.ci p.1 = some (C, p.2) ∧ Cls K C ∧ p.2.Nodup ∧ p.2.length < 1000 ∧ ∀ x ∈ p.2, NoAttr K C x
  ci : ∀ c C names, I.ci c = some (C, names) → (c, names) ∈ Γ.flds
  xc : ∀ p ∈ Γ.excs, ∃ C, mg p.1 = some (.ref C) ∧ I.xi p.2 = some C ∧ XcOk K p.2 C
  xm : ∀ c C c' C', I.xi c = some C → I.xi c' = some C' → PySem.W.exmOne K (.ref C) (.ref C') = some (subC c c')
  tb : ∀ p ∈ Γ.tabs, ∃ a, mg p.1 = some (.ref a) ∧ TabK K a p.2
  st : ∀ p ∈ Γ.sts, ∃ C names a, I.ci p.1 = some (C, names) ∧ Meth K C p.2.1 a ∧ p.2.1 ∉ names ∧ StSt Γ K p.1 p.2.2 a
  ho : ∀ p ∈ Γ.hots, ∃ a fd x, mg p.1 = some (.ref a) ∧ PySem.W.keepIn K (.ref a) = true ∧ Binds K fd [x] [] ∧ ∀ (P : Program) (w : World) (base : Heap), FnE P w K mg base (L2.CX P w) 1 a fd [x] (spE K I p.2)
theorem fat_of {a : Addr} (h : FnSt Γ K fi a) (G : ∀ m, n = m + 1 → GD P w K mg base I Γ m) : FAt P w K mg base I Γ.fns n fi a := by
  obtain ⟨x, qual, st, fd, N, ps, d, F, S, B, e, hp, hns, hb⟩ := h.ex
  refine ⟨h.kp, h.isf, fd, ps, d, e, hp, B, ?_⟩
  cases n with
  | zero =>
    refine ⟨fun vs H Q E ⟨s, args, _, _, r, hl, h⟩ => False.elim h, fun A outer s H args us vs Q E hr he hb hv hs => ?_⟩
    obtain ⟨s, args, _, _, r, hl, h⟩ := hs
    exact False.elim h
  | succ m => exact fn_sound (G m rfl) F S e hp hns hb
theorem gd_all (g : GS K mg I Γ) : ∀ n, GD P w K mg base I Γ n := by
  intro n
  induction n with
  | zero => exact ⟨fun p hp => let ⟨a, h1, h2⟩ := g.fn p hp; ⟨a, h1, fat_of h2 fun m e => by cases e⟩, g.nob, g.con, fun p hp => let ⟨C, nm, a, h1, h2, h3, h4⟩ := g.cl p hp; ⟨C, nm, a, h1, h2, h3, fat_of h4 fun m e => by cases e⟩,
      fun p hp => let ⟨C, nm, a, h1, h2, h3, h4⟩ := g.mt p hp; ⟨C, nm, a, h1, h2, h3, fat_of h4 fun m e => by cases e⟩, g.fl, g.ci, g.xc, g.xm, g.tb, fun p hp => let ⟨C, nm, a, h1, h2, h3, h4⟩ := g.st p hp; let ⟨fd, h5, h6⟩ := st_sound h4 (fun m e => by cases e); ⟨C, nm, a, fd, h1, h2, h3, h5, h6⟩, fun p hp => let ⟨a, fd, x, h1, h2, h3, h4⟩ := g.ho p hp; ⟨a, fd, x, h1, h2, h3, h4 P w base⟩⟩
  | succ n ih => exact ⟨fun p hp => let ⟨a, h1, h2⟩ := g.fn p hp; ⟨a, h1, fat_of h2 fun m e => by cases e; exact ih⟩, g.nob, g.con, fun p hp => let ⟨C, nm, a, h1, h2, h3, h4⟩ := g.cl p hp; ⟨C, nm, a, h1, h2, h3, fat_of h4 fun m e => by cases e; exact ih⟩,
      fun p hp => let ⟨C, nm, a, h1, h2, h3, h4⟩ := g.mt p hp; ⟨C, nm, a, h1, h2, h3, fat_of h4 fun m e => by cases e; exact ih⟩, g.fl, g.ci, g.xc, g.xm, g.tb, fun p hp => let ⟨C, nm, a, h1, h2, h3, h4⟩ := g.st p hp; let ⟨fd, h5, h6⟩ := st_sound h4 (fun m e => by cases e; exact ih); ⟨C, nm, a, fd, h1, h2, h3, h5, h6⟩, fun p hp => let ⟨a, fd, x, h1, h2, h3, h4⟩ := g.ho p hp; ⟨a, fd, x, h1, h2, h3, h4 P w base⟩⟩
end
def okTrue : R Val → Bool
  | .ok (.p (.bool true)) _ => true
  | _ => false
/-- the script as data -/
abbrev scriptD (ns : List Int) : Val := .p (.list (ns.map .int))
theorem law_sp {K : PySem.W.Frag} {I : Inf} {Γ : Gm} {n fi : Nat} {H : Hp} {a : Addr} {ns : List Int} (hH : SqL K H a (ns.map V.int)) (h : okTrue (callF Γ.fns n fi [scriptD ns] []) = true) :
    spF K I Γ.fns n fi 1 [.ref a] H (fun v _ => v = .bl true) fun _ _ _ => False := by
  refine ⟨⟨fun _ _ => 0, fun b => b = a ∧ ∃ o, H b = some o, [], H, fun _ => False⟩, [scriptD ns], rfl, ⟨fun n o e => by simp at e, fun n j m k l => by have := live_lt l; simp at this, fun n j l => by have := live_lt l; simp at this, fun b hb => hb.elim, fun b hb => hb.2⟩, .cons (.lst ?_ (.ofInts ns)) .nil, rfl, ?_⟩
  · rcases hH with h | h
    · exact .inl ⟨⟨rfl, h.elim (fun h => ⟨_, h⟩) fun ⟨o, h⟩ => ⟨_, h⟩⟩, h⟩
    · exact .inr h
  · show (match callF Γ.fns n fi [scriptD ns] [] with
    | .ok v h' => ∀ s' x, _ → s'.h = h' → HR K I.ci s' → VR K s' v x → x = .bl true
    | .exc e h' => ∀ s' cls d, _ → s'.h = h' → HR K I.ci s' → XR K I s' e cls d → False
    | .stuck => False)
    generalize callF Γ.fns n fi [scriptD ns] [] = r at h ⊢
    cases r with
    | ok v h1 =>
      cases v with
      | p d =>
        cases d with
        | bool b =>
          cases b with
          | true => exact fun s' x _ _ _ rv => RF.bl_inv rv
          | false => cases h
        | _ => cases h
      | ref m => cases h
    | exc e h1 => cases h
    | stuck => cases h
theorem fn_calm {P : Program} {w : World} {K : PySem.W.Frag} {mg : Str → Option Value} {base : Heap} {k : Nat} {a : Addr} {fd : FuncData} {ps : List Str} {sp : Sp} (F : FnOk P w K mg base (L2.CX P w) k a fd ps sp) : FnOk P w K mg base CX0 k a fd ps (fun vs H Q _ => sp vs H Q fun _ _ _ => False) where
  len := fun vs H Q _ h => F.len _ _ _ _ h
  run := fun A outer s H args us vs Q E hr he hb hv hs => codeAny_mono (F.run A outer s H args us vs Q _ hr he hb hv hs) fun r s' h => by
    cases r with
    | error e =>
      obtain ⟨_, _, _, _, _, _, _, _, _, _, _, _, z⟩ := h
      exact z.elim
    | ok fl => cases fl <;> exact h
/-- THE END: the interpreter says True for every script -/
theorem walk_end {l : PySem.W.OpenLaw} {m : Nat} {q : Program} {loose : List Str} {XP : (Str → Option Value) → Heap → Prop} {YP : World → Heap → Prop} {d : DefRec} {Γ : Gm} {fi n : Nat} (x : Str)
    (hn : l.most = some m) (hn2 : m ≤ sizeLine) (hdf : d.params.defaults = []) (hr : Room (2 * (n + 1)) callerA) (hm : ∀ ns : List Int, ns.length ≤ m → okTrue (callF Γ.fns (n + 1) fi [scriptD ns] []) = true)
    (F : ∀ (w : World) (mg : Str → Option Value) (fa : Addr) (h : Heap), YP w h → h.Ns mainGlobals mg → mg d.name = some (.ref fa) →
      ∃ (K : PySem.W.Frag) (I : Inf) (fd : FuncData), K.In h ∧ (∀ (s : Shared) (u : Value), BindsTo s fd ⟨[u], []⟩ [(x, u)]) ∧ GS K mg I Γ ∧ ∃ (x' qual : Str) (st : Stmt) (N : List Str) (dd : FnD), Fun K x' qual st fa fd ∧ FnScope N [x] (defScope st) ∧ Γ.fns fi = some dd ∧ dd.np = 1 ∧ N.length = dd.ns ∧ DSs Γ N (fnSco st) (defBody st) dd.body) :
    PySem.W.WalkO q loose XP YP l.row.toRowW d [] (fun f vs => PySem.call f vs) := by
  refine walk_ofE (n := m) (k := 2 * (n + 1)) (x := x) (CX := CX0) hn hn2 hdf hr (fun w mg fa h Y G hmg => ?_) fun _ _ _ _ z => z
  obtain ⟨K, I, fd, KX, hb, g, x', qual, st, N, dd, hF, S, e, hp, hns, ds⟩ := F w mg fa h Y G hmg
  refine ⟨K, fd, _, KX, hb, fun H a ns hl _ hS => ?_, fun base _ _ => fn_calm (fn_sound (n := n) (I := I) (gd_all g n) hF S e (by rw [hp]; rfl) hns ds)⟩
  rw [hp]
  exact law_sp hS (hm ns hl)
end Cd
set_option Elab.async false
set_option linter.all false
set_option maxRecDepth 100000
set_option maxHeartbeats 4000000
namespace Cd
open PySem PySem.Spec PyProof.Rows L2
section
variable {P : Program} {w : World} {A : Around} {E : Value → Shared → Prop} {s : Shared}
/-- what stands after set.__init__ -/
def SetDone (w : World) (s : Shared) (ns : List Int) (r : Value) (s2 : Shared) : Prop := r = .none ∧ ∃ h' tk c, s2 = { s with heap := h', toks := tk } ∧ SetR w h' s.heap.objs.size (fun j => decide (j ∈ ns)) c ∧ c ≤ ns.length ∧ ∀ b o, s.heap.get? b = some o → h'.get? b = some o
end
end Cd
set_option Elab.async false
set_option linter.all false
set_option maxRecDepth 100000
set_option maxHeartbeats 4000000
namespace Cd
open PySem PySem.Spec PyProof.Rows L2
section
variable {Γ : Gm} {N : List Str} {sc : Sco} {e tg ea eb ec : Expr} {a b c : E} {ta : Te} {o : O2} {pos p p2 apos : Pos} {es : List Expr} {as : List E} {i j fi : Nat} {x y f m : Str} {t : Tg} {src : Src} {cl : Nat} {names : List Str}
theorem DP.toE (h : DP Γ N sc ea a) (nr : ∀ cf env h n, evalE cf env a h ≠ .ok (.ref n) h := by intro _ _ _ _ z; cases z) : DE Γ N sc ea a := fun n I W X g => (h.run n I W X g).imp fun σ H Q q => by
  obtain ⟨env, s, eH, hr, er, _, pr⟩ := q
  refine ⟨env, s, eH, hr, er, ?_⟩
  replace pr : PR X.K I W s σ (evalE (callF Γ.fns n) env a s.h) (VR X.K) Q := pr
  show (match evalE (callF Γ.fns n) env a s.h with
    | .ok (.p d) h' => h' = s.h ∧ ∀ x, RF X.K s.F s.H d x → Q x H
    | _ => False)
  rcases h.pure (callF Γ.fns n) env s.h with ⟨v, e⟩ | e
  · have nr' := nr (callF Γ.fns n) env s.h
    rw [e] at pr nr' ⊢
    cases v with
    | p d => exact ⟨rfl, fun x rx => by rw [← eH]; exact pr s x (.refl s) rfl hr rx⟩
    | ref m => exact absurd rfl (nr' m)
  · rw [e] at pr; exact False.elim pr
/-- ends with data, where it ends well -/
def Dat (a : E) : Prop := ∀ cf env h, (∃ d h', evalE cf env a h = .ok (.p d) h') ∨ (∀ v h', evalE cf env a h ≠ .ok v h')
theorem dat_bind {α : Type} {r : R α} {k : α → Hi → R Val} (hk : ∀ x h, (∃ d h', k x h = .ok (.p d) h') ∨ (∀ v h', k x h ≠ .ok v h')) : (∃ d h', r.bind k = .ok (.p d) h') ∨ (∀ v h', r.bind k ≠ .ok v h') := by
  cases r with
  | ok a h => exact hk a h
  | exc e h => exact .inr fun v h' z => by cases z
  | stuck => exact .inr fun v h' z => by cases z
theorem dat_ofO {o : Option PyData} {h : Hi} : (∃ d h', Cd.ofO (o.map Val.p) h = .ok (.p d) h') ∨ (∀ v h', Cd.ofO (o.map Val.p) h ≠ .ok v h') := by
  cases o with
  | none => exact .inr fun v h' z => by cases z
  | some d => exact .inl ⟨d, h, rfl⟩
theorem dat_op1 {o : O1} : Dat (.op1 o a) := fun cf env h => dat_bind fun x h1 => dat_ofO
theorem dat_lst : Dat (.lst as) := fun cf env h => dat_bind fun x h1 => .inl ⟨_, _, rfl⟩
theorem DN.toE (h : DN Γ N sc ea a) (d : Dat a) : DE Γ N sc ea a := h.v.toE d
def e0 (sc : Scope) : Env := { scope := sc, locals := 0, globals := 0, cells := [] }
structure LOk (N : List Str) (sc : Sco) (i : Nat) (x : Str) : Prop where
  hN : N[i]? = some x
  loc : sc.s.names.lookup x = some .local
end
def voB (N : List Str) (sc : Sco) (i : Nat) (x : Str) : Bool := N[i]? == some x && (sc.s.names.lookup x == some .local || sc.s.names.lookup x == some .cell || sc.s.names.lookup x == some .free) && !(x == ("__debug__" : Str)) && !(x == ("__classdict__" : Str))
theorem vo {N : List Str} {sc : Sco} {i : Nat} {x : Str} (h : voB N sc i x = true) : VOk N sc i x := by
  simp only [voB, Bool.and_eq_true, Bool.or_eq_true, beq_iff_eq, Bool.not_eq_true'] at h
  exact ⟨h.1.1.1, by rcases h.1.1.2 with (h | h) | h; exact .inl h; exact .inr (.inl h); exact .inr (.inr h), h.1.2, h.2⟩
def goB (sc : Sco) (x : Str) : Bool := sc.s.names.lookup x == some .globalImplicit && !(x == ("__debug__" : Str)) && !(x == ("__name__" : Str))
theorem go {sc : Sco} {x : Str} (h : goB sc x = true) : GOk sc x := by
  simp only [goB, Bool.and_eq_true, beq_iff_eq, Bool.not_eq_true'] at h
  exact ⟨h.1.1, h.1.2, by have := h.2; simpa using this⟩
theorem nb {Γ : Gm} {sc : Sco} {x : Str} (h : (goB sc x && decide (x ∈ Γ.nobs)) = true) : NB Γ sc x := by
  simp only [Bool.and_eq_true, decide_eq_true_eq] at h
  exact ⟨go h.1, h.2⟩
def toB (N : List Str) (sc : Sco) (i : Nat) (x : Str) : Bool := N[i]? == some x && ((sc.s.names.lookup x == some .local) || (sc.s.names.lookup x == some .cell && sc.fn x))
theorem to {N : List Str} {sc : Sco} {i : Nat} {x : Str} (h : toB N sc i x = true) : TOk N sc i x := by
  simp only [toB, Bool.and_eq_true, Bool.or_eq_true, beq_iff_eq] at h
  rcases h with ⟨h1, h2 | ⟨h2, h3⟩⟩
  · exact ⟨h1, .inl h2, .inr h2⟩
  · exact ⟨h1, .inr h2, .inl h3⟩
def loB (N : List Str) (sc : Sco) (i : Nat) (x : Str) : Bool := N[i]? == some x && (sc.s.names.lookup x == some .local)
theorem lo {N : List Str} {sc : Sco} {i : Nat} {x : Str} (h : loB N sc i x = true) : LOk N sc i x := by
  simp only [loB, Bool.and_eq_true, beq_iff_eq] at h
  exact ⟨h.1, h.2⟩
def blkB (N : List Str) (sc scope : Scope) (own : List (Str × Nat)) : Bool := scope.kind == .function && scope.names.all (fun y => scope.names.lookup y.1 == some y.2) && own.all (fun p => N[p.2]? == some p.1) &&
  scope.names.all (fun y => !(y.2 == .free) || (sc.names.lookup y.1 == some .cell || sc.names.lookup y.1 == some .free)) && scope.names.all (fun y => !(y.2 == .local || y.2 == .cell) || (decide (y.1 ∈ own.map (·.1)) || !decide (y.1 ∈ N)))
theorem bo {N : List Str} {sc scope : Scope} {own : List (Str × Nat)} (h : blkB N sc scope own = true) : BlkOk N sc scope own := by
  simp only [blkB, Bool.and_eq_true, List.all_eq_true, beq_iff_eq, Bool.or_eq_true, Bool.not_eq_true', decide_eq_true_eq, decide_eq_false_iff_not] at h
  obtain ⟨⟨⟨⟨h1, h2⟩, h3⟩, h4⟩, h5⟩ := h
  refine ⟨h1, h2, h3, fun y hy e => ?_, fun y hy e => ?_⟩
  · rcases h4 y hy with z | z
    · rw [e] at z; cases z
    · exact z
  · rcases h5 y hy with z | z
    · rcases e with e | e <;> (rw [e] at z; cases z)
    · exact z
def swB (N : List Str) (sc : Sco) (i : Nat) (y : Str) (scope : Scope) (pos py : Pos) (l : Nat) : Bool := N[i]? == some y && sc.s.kind == .function && sc.s.names.lookup y == some .local && py.line == pos.line && l == py.line && !(scope.names.any fun (n, k) => n == y && (k == .local || k == .cell))
theorem so {N : List Str} {sc : Sco} {i : Nat} {y : Str} {scope : Scope} {pos py : Pos} {l : Nat} (h : swB N sc i y scope pos py l = true) : SwOk N sc i y scope pos py l := by
  simp only [swB, Bool.and_eq_true, beq_iff_eq, Bool.not_eq_true'] at h
  obtain ⟨⟨⟨⟨⟨h1, h2⟩, h3⟩, h4⟩, h5⟩, h6⟩ := h
  exact ⟨h1, h2, h3, by rw [h4]; exact beq_self_eq_true _, h5, h6⟩
theorem mo {α : Type} [DecidableEq α] {x : α} {l : List α} (h : decide (x ∈ l) = true) : x ∈ l := of_decide_eq_true h
end Cd
namespace Cd
open PySem PySem.Spec PyProof.Rows L2
def fsB (N P : List Str) (sc : Scope) : Bool := sc.kind == .function && !sc.isCoroutine && !sc.isGenerator && decide N.Nodup && decide (N.take P.length = P) && P.all (fun x => sc.names.lookup x == some .local || sc.names.lookup x == some .cell) && sc.names.all fun y => !(y.2 == .free)
theorem fs {N P : List Str} {sc : Scope} (h : fsB N P sc = true) : FnScope N P sc := by
  simp only [fsB, Bool.and_eq_true, List.all_eq_true, beq_iff_eq, Bool.or_eq_true, Bool.not_eq_true', decide_eq_true_eq] at h
  obtain ⟨⟨⟨⟨⟨⟨h1, h2⟩, h3⟩, h4⟩, h5⟩, h6⟩, h7⟩ := h
  exact ⟨h1, h2, h3, h4, h5, h6, fun y hy e => by have := h7 y hy; rw [e] at this; cases this⟩
theorem walk_endK {l : PySem.W.OpenLaw} {m : Nat} {q : Program} {loose : List Str} {XP : (Str → Option Value) → Heap → Prop} {YP : World → Heap → Prop} {d : DefRec} {Γ : Gm} {fi n : Nat} {K : Params → PySem.W.Frag} (x : Str)
    (hn : l.most = some m) (hn2 : m ≤ sizeLine) (hdf : d.params.defaults = []) (hr : Room (2 * (n + 1)) callerA) (hm : ∀ ns : List Int, ns.length ≤ m → okTrue (callF Γ.fns (n + 1) fi [scriptD ns] []) = true) (hY : ∀ (w : World) (h : Heap), YP w h → (K w.params).In h)
    (F : ∀ (w : World) (mg : Str → Option Value) (fa : Addr) (h : Heap), (K w.params).In h → h.Ns mainGlobals mg → mg d.name = some (.ref fa) →
      ∃ (I : Inf) (fd : FuncData), (∀ (s : Shared) (u : Value), BindsTo s fd ⟨[u], []⟩ [(x, u)]) ∧ GS (K w.params) mg I Γ ∧ ∃ (x' qual : Str) (st : Stmt) (N : List Str) (dd : FnD), Fun (K w.params) x' qual st fa fd ∧ FnScope N [x] (defScope st) ∧ Γ.fns fi = some dd ∧ dd.np = 1 ∧ N.length = dd.ns ∧ DSs Γ N (fnSco st) (defBody st) dd.body) :
    PySem.W.WalkO q loose XP YP l.row.toRowW d [] (fun f vs => PySem.call f vs) :=
  walk_end x hn hn2 hdf hr hm fun w mg fa h Y G hmg => by
    obtain ⟨I, fd, hb, g, r⟩ := F w mg fa h (hY w h Y) G hmg
    exact ⟨_, I, fd, hY w h Y, hb, g, r⟩
end Cd
set_option Elab.async false
set_option linter.all false
set_option maxRecDepth 100000
set_option maxHeartbeats 4000000
namespace Cd
open PySem PySem.Spec PyProof.Rows L2
theorem scal_plain {d : PyData} (h : scalD d = true) : d.plain = true ∧ d.depth = 0 := by
  cases d <;> first | exact ⟨rfl, rfl⟩ | cases h
theorem scal_plainAll : ∀ {ds : List PyData}, ds.all scalD = true → PyData.plainAll ds = true
  | [], _ => by simp [PyData.plainAll]
  | d :: ds, h => by
    simp only [List.all_cons, Bool.and_eq_true] at h
    simp [PyData.plainAll, (scal_plain h.1).1, scal_plainAll h.2]
def rCnt (K : PySem.W.Frag) (t : Bool) : V → List V → Hp → VK → Prop := fun x xs H Q => ∃ (p : Addr) (ys : List V) (ds : List PyData) (y : V) (d : PyData), x = .ref p ∧ xs = [y] ∧ (if t = true then SqT K H p ys else SqL K H p ys) ∧ DpAll K H ys ds ∧ Dp K H y d ∧ ds.all scalD = true ∧ scalD d = true ∧
  Q (.int (ds.countP fun z => PyData.eqv z d : Nat)) H
section
variable {X : Cx}
theorem mt_cntL (hu : X.A.units + 64 < cLine) : MtR X "list.count" (rCnt X.K false) := by
  intro pins s σ H x xs v us Q I rx rxs h
  obtain ⟨p, ys, ds, y, d, rfl, rfl, hs, dp, dy, h1, h2, q⟩ := h
  cases rx
  obtain ⟨u, rfl, ru⟩ := rxs.one
  obtain ⟨its, rv, hl, _⟩ := I.list hs
  obtain ⟨as, ra⟩ := Dp.readsAll I _ _ its dp rv
  obtain ⟨bs, rb⟩ := Dp.reads I _ _ _ dy ru
  have e := (scal_plain h2).2
  exact PySem.SeqAt.count_list_data hl.isList ra rb (scal_plainAll h1) (scal_plain h2).1 (by rw [e, Nat.min_zero]; omega) ⟨.int _, H, I.tok _, ⟨_, rfl⟩, q⟩
end
theorem countD_inv {x y z : PyData} (e : countD x y = some z) : ∃ ds, x = .list ds ∧ scalD y = true ∧ ds.all scalD = true ∧ z = .int (ds.countP fun w => PyData.eqv w y) := by
  unfold countD at e
  split at e
  · split at e
    · rename_i h
      simp only [Bool.and_eq_true] at h
      cases e
      exact ⟨_, rfl, h.1, h.2, rfl⟩
    · cases e
  · cases e
section
variable {Γ : Gm} {N : List Str} {sc : Sco} {e tg ea eb ec : Expr} {a b c : E} {ta : Te} {o : O2} {pos p p2 apos : Pos} {es : List Expr} {as : List E} {i j : Nat} {x y f : Str} {t : Tg} {src : Src} {cl : Nat} {names : List Str}
/-- x.m(y), y looked up: a method that reads -/
theorem bm2_imp {o : O2} {T : String} {r : V → List V → Hp → VK → Prop} {n : Nat} {I : Inf} {W : WX} {X : Cx} (ok : ∀ (s : Sx) d1 d2 d x y (Q : VK), RB X.K s d1 x → RF X.K s.F s.H d2 y → opf2 o d1 d2 = some d → Fin X.K s d Q → r x [y] s.H Q)
    (ty : ∀ (s : Sx) d1 d2 d x, RB X.K s d1 x → opf2 o d1 d2 = some d → tyV X.K T x s.H) (hb : ∀ cf env h, (∃ v, evalE cf env b h = .ok v h) ∨ evalE cf env b h = .stuck) {σ : L2.St} {H : Hp} {Q : VK} (q : tE X.K I W (fun env h => evalE (callF Γ.fns n) env (.op2b o a b) h) (VR X.K) σ H Q) :
    tBM X.K T r (tE X.K I W (fun env h => bor env h a (evalE (callF Γ.fns n) env a h)) (RB X.K)) (tCons (tP X.K I (fun env h => evalE (callF Γ.fns n) env b h)) tNil) σ H Q := by
    obtain ⟨env, s, eH, hr, er, _, pr⟩ := At.bind (Rel1 := RB X.K) (ev2 := fun x env h => ((evalE (callF Γ.fns n) env b h).bind unP).bind fun y h2 => ofO ((opf2 o x y).map Val.p) h2) q
    refine ⟨env, s, eH, hr, er, trivial, ?_⟩
    refine PR.mono pr fun x H1 ⟨d, env, s, eH, hr, er, ⟨_, rb⟩, pr⟩ => ?_
    replace pr : PR X.K I W s σ (((evalE (callF Γ.fns n) env b s.h).bind unP).bind fun y h2 => ofO ((opf2 o d y).map Val.p) h2) (VR X.K) Q := pr
    rcases hb (callF Γ.fns n) env s.h with ⟨v, e⟩ | e
    · rw [e] at pr
      cases v with
      | ref m => exact False.elim pr
      | p y =>
        obtain ⟨d', e1, f⟩ := PR.fin (o := opf2 o d y) pr hr
        subst eH
        refine ⟨ty s d y d' x rb e1, env, s, rfl, hr, er, ?_⟩
        show (match evalE (callF Γ.fns n) env b s.h with
        | .ok (.p d2) h' => h' = s.h ∧ ∀ z, RF X.K s.F s.H d2 z → r x [z] s.H Q
        | _ => False)
        rw [e]
        exact ⟨rfl, fun z rz => ok s d y d' x z Q rb rz e1 f⟩
    · rw [e] at pr
      exact False.elim pr
theorem de_count (ha : DB Γ N sc ea a) (hb : DP Γ N sc eb b) (m : MOk p apos) (hbs : ∀ env, attributeBase ea "count" env (eval ea env) = eval ea env := by intro _; rfl) (hf : Few eb p := by intro _; rfl) (se : Se1 eb := by intro _; rfl) :
    DE Γ N sc (.Call (.Attribute ea "count" apos) [eb] [] p) (.op2b .count a b) := fun n I W X g =>
  (pe_bm PySem.F.plainAttrs_list PySem.F.slot_list_count PySem.F.type_list_count (mt_cntL g.hu) (ha n I W X g) (pa_cons (hb.run n I W X g) pa_nil (se _)) (hbs _) (hf _) m.line (se _) rfl).imp fun σ H Q q =>
    bm2_imp (fun s d1 d2 d x y Q r1 r2 e f => by
      obtain ⟨ds, rfl, h1, h2, rfl⟩ := countD_inv e
      obtain ⟨a, xs, rfl, k1, k2⟩ := r1.lst
      exact ⟨a, xs, ds, y, d2, rfl, rfl, k1, k2.dp, r2.dp, h2, h1, f.1 _ (.int _)⟩) (fun s d1 d2 d x r1 e => by
      obtain ⟨ds, rfl, h1, h2, rfl⟩ := countD_inv e
      obtain ⟨a, xs, rfl, k1, k2⟩ := r1.lst
      exact .inl ⟨rfl, xs, k1⟩) hb.pure q
def rInA (K : PySem.W.Frag) (neg : Bool) : R2 := fun x y H Q => ∃ d ds, Dp K H x d ∧ (Dp K H y (.list ds) ∨ Dp K H y (.tuple ds)) ∧ d.plain = true ∧ PyData.plainAll ds = true ∧ d.depth ≤ 60 ∧ Q (.bl (if neg = true then !ds.any (fun z => PyData.eqv z d) else ds.any fun z => PyData.eqv z d)) H
theorem op_inA {X : Cx} (hu : X.A.units + 64 < cLine) : OpR X (compareOp .In) (rInA X.K false) := by
  intro pins s σ H x y v u Q I rx ry h
  obtain ⟨d, ds, hd, he, sd, se, hz, q⟩ := h
  obtain ⟨as, r1⟩ := Dp.reads I d x v hd rx
  rcases he with he | he
  · obtain ⟨bs, r2⟩ := Dp.reads I (.list ds) y u he ry
    exact PySem.SeqAt.in_list_data r2 r1 se sd (by omega) ⟨.bl _, H, I, rfl, q⟩
  · obtain ⟨bs, r2⟩ := Dp.reads I (.tuple ds) y u he ry
    exact PySem.SeqAt.in_tuple_data r2 r1 se sd (by omega) ⟨.bl _, H, I, rfl, q⟩
theorem inD_inv {x : PyData} {ys : List PyData} {r : Bool} (h : inD x ys = some r) : x.plain = true ∧ PyData.plainAll ys = true ∧ x.depth ≤ 60 ∧ r = ys.any fun y => PyData.eqv y x := by
  unfold inD at h
  split at h
  · rename_i q
    simp only [Bool.and_eq_true, decide_eq_true_eq] at q
    cases h
    exact ⟨q.1.1, q.1.2, q.2, rfl⟩
  · cases h
theorem seqD_inv {d : PyData} {ts : List PyData} (h : seqD d = some ts) : d = .list ts ∨ d = .tuple ts := by
  cases d with
  | list us => cases h; exact .inl rfl
  | tuple us => cases h; exact .inr rfl
  | _ => cases h
theorem ok_isIn {K : PySem.W.Frag} : Op2Ok K (rInA K false) .isIn := fun s d1 d2 d x y Q r1 r2 e f => by
  replace e : (seqD d2).bind (fun ys => (inD d1 ys).map .bool) = some d := e
  rw [Option.bind_eq_some_iff] at e
  obtain ⟨ys, e1, e2⟩ := e
  rw [Option.map_eq_some_iff] at e2
  obtain ⟨r, e2, rfl⟩ := e2
  obtain ⟨h1, h2, h3, rfl⟩ := inD_inv e2
  exact ⟨d1, ys, r1.dp, (seqD_inv e1).imp (fun h => by rw [← h]; exact r2.dp) (fun h => by rw [← h]; exact r2.dp), h1, h2, h3, f.1 _ (.bl _)⟩
theorem in_bool {x y d : PyData} {f : Bool → Bool} (e : ((seqD y).bind fun ys => (inD x ys).map fun b => PyData.bool (f b)) = some d) : ∃ b, d = .bool b := by
  rw [Option.bind_eq_some_iff] at e
  obtain ⟨ys, e1, e2⟩ := e
  rw [Option.map_eq_some_iff] at e2
  obtain ⟨r, e2, rfl⟩ := e2
  exact ⟨_, rfl⟩
theorem de_in (ha : DV Γ N sc ea a) (hb : DB Γ N sc eb b) (hm : behindInMarks .In eb = false := by with_unfolding_all rfl) : DE Γ N sc (.Compare ea [.In] [eb] pos) (.op2 .isIn a b) := de_op2 (r := fun X => rInA X.K false) (fun _ _ _ X g ta tb h1 h2 => pe_cmpR (op_inA g.hu) h1 h2 hm) (fun _ _ _ X g => ok_isIn) ha hb
theorem dt_in (ha : DV Γ N sc ea a) (hb : DB Γ N sc eb b) (hm : behindInMarks .In eb = false := by with_unfolding_all rfl) : DT Γ N sc (.Compare ea [.In] [eb] pos) (.val (.op2 .isIn a b)) := dt_op2 (r := fun X => rInA X.K false) (fun _ _ _ X g ta tb h1 h2 => pt_cmpR (op_inA g.hu) h1 h2 hm) (fun _ _ _ X g => ok_isIn) (fun _ _ _ e => in_bool (f := id) e) ha hb
end
end Cd
set_option Elab.async false
set_option linter.all false
set_option maxRecDepth 100000
set_option maxHeartbeats 4000000
namespace Cd
open PySem PySem.Spec PyProof.Rows L2
section
variable {K : PySem.W.Frag} {CI : CInf} {s : Sx} {n j : Nat} {xs xs' : List V} {c : Nat} {fs fs' : List Fld} {names : List Str} {es : List (Str × V)} {f : Str} {y : V} {C dx : Addr}
end
section
variable {Γ : Gm} {N : List Str} {sc : Sco} {e tg ea eb ec : Expr} {a b c : E} {ta : Te} {o : O2} {pos p p2 apos : Pos} {es : List Expr} {as : List E} {i j : Nat} {x y f : Str} {t : Tg} {src : Src} {cl : Nat} {names : List Str}
/-- the same context, with other wishes about exceptions -/
theorem GX.tr {n : Nat} {I : Inf} {W W' : WX} {X : Cx} (g : GX Γ n I N sc W X) {pn : List (Addr × Obj)} {xe : Value → Shared → Prop} (tk : Takes (X.tr pn xe) W') (ps : PassesOwn (model X.prog X.w) X.A X.env xe) : GX Γ n I N sc W' (X.tr pn xe) where
  hN := g.hN
  nd := g.nd
  fnc := g.fnc
  sc := g.sc
  calm := g.calm
  tk := tk
  pass := ps
  room := g.room
  fn := g.fn
  nob := g.nob
  con := g.con
  cl := g.cl
  mt := g.mt
  fl := g.fl
  ci := g.ci
  xc := g.xc
  xm := g.xm
  tb := g.tb
  st := g.st
  ho := g.ho
  stk := g.stk
  gd := g.gd
end
end Cd
set_option Elab.async false
set_option linter.all false
set_option maxRecDepth 100000
set_option maxHeartbeats 4000000
namespace Cd
open PySem PySem.Spec PyProof.Rows L2
mutual
theorem sameD_eq : ∀ {x y : PyData}, sameD x y = true → x = y
  | .none, .none, _ => rfl
  | .bool a, .bool b, h => by simp [sameD] at h; rw [h]
  | .int a, .int b, h => by simp [sameD] at h; rw [h]
  | .str a, .str b, h => by simp [sameD] at h; rw [h]
  | .list xs, .list ys, h => by rw [sameL_eq (show sameL xs ys = true by simpa [sameD] using h)]
  | .tuple xs, .tuple ys, h => by rw [sameL_eq (show sameL xs ys = true by simpa [sameD] using h)]
  | .dict _, _, h => by simp [sameD] at h
  | .none, .bool _, h | .none, .int _, h | .none, .str _, h | .none, .list _, h | .none, .tuple _, h | .none, .dict _, h => by simp [sameD] at h
  | .bool _, .none, h | .bool _, .int _, h | .bool _, .str _, h | .bool _, .list _, h | .bool _, .tuple _, h | .bool _, .dict _, h => by simp [sameD] at h
  | .int _, .none, h | .int _, .bool _, h | .int _, .str _, h | .int _, .list _, h | .int _, .tuple _, h | .int _, .dict _, h => by simp [sameD] at h
  | .str _, .none, h | .str _, .bool _, h | .str _, .int _, h | .str _, .list _, h | .str _, .tuple _, h | .str _, .dict _, h => by simp [sameD] at h
  | .list _, .none, h | .list _, .bool _, h | .list _, .int _, h | .list _, .str _, h | .list _, .tuple _, h | .list _, .dict _, h => by simp [sameD] at h
  | .tuple _, .none, h | .tuple _, .bool _, h | .tuple _, .int _, h | .tuple _, .str _, h | .tuple _, .list _, h | .tuple _, .dict _, h => by simp [sameD] at h
theorem sameL_eq : ∀ {xs ys : List PyData}, sameL xs ys = true → xs = ys
  | [], [], _ => rfl
  | [], _ :: _, h | _ :: _, [], h => by simp [sameL] at h
  | x :: xs, y :: ys, h => by
    simp only [sameL, Bool.and_eq_true] at h
    rw [sameD_eq h.1, sameL_eq h.2]
end
theorem still_eq {h : Hi} {n : Nat} {ts : List PyData} (e : stillL h n ts = true) : listAt h n = some ts := by
  unfold stillL at e
  cases e2 : listAt h n with
  | none => rw [e2] at e; cases e
  | some us => rw [e2] at e; rw [sameL_eq e]
section
variable {Γ : Gm} {N : List Str} {sc : Sco} {e tg ea eb ec : Expr} {a b c : E} {ta : Te} {o : O2} {pos p p2 apos : Pos} {es : List Expr} {as : List E} {i j : Nat} {x y f : Str} {t : Tg} {src : Src} {cl : Nat} {names : List Str} {sts : List Stmt} {ss : List S}
/-- for t in a list of the heap -/
theorem ds_forB {q : Pos} (v : VOk N sc i x) (ht : DG Γ N sc tg t) (hb : DSs Γ N sc sts ss) (hs : ∀ env y, foldedSetIterable (.Name x q) env y = pure y := by intro _ _; rfl) : DS Γ N sc (.For tg (.Name x q) sts [] pos) (.forB t i ss) := fun n I W X g =>
  (ps_for g.pass g.calm (pi_seq (v.pe g)) (ht n I W X g) (hb n I W X g) (hs _)).imp fun D σ H qq => by
    obtain ⟨env, s, eH, hr, er, _, pr⟩ := qq
    subst eH
    replace pr : PSt X.K I W D s (match lstOf env s.h i with
      | none => .stuck
      | some p => forLB (fun h => stillL h p.1 p.2) (evalSs (callF Γ.fns n) ss) (bindT t) p.2 env s.h) := pr
    cases e0 : lstOf env s.h i with
    | none => rw [e0] at pr; exact False.elim pr
    | some p0 =>
      rw [e0] at pr
      obtain ⟨m, items⟩ := p0
      obtain ⟨k1, k2⟩ := lstOf_of e0
      obtain ⟨k6, k7⟩ := ref_addr er k1
      obtain ⟨xs0, k3, k4⟩ := hr.ob _ _ k2
      refine ⟨_, k6, .inl ⟨_, xs0, rfl, .inl (Rd.of k3), ?_⟩⟩
      simp only at pr k1 k2 k3 k4 k6 k7 ⊢
      refine ⟨fun i m' σ' H' => i ≤ items.length ∧ m' = items.length - i ∧ ∃ env' s', s'.H = H' ∧ HR X.K I.ci s' ∧ ER X.K s' env' σ' ∧ Le s s' ∧ PSt X.K I W D s' (forLB (fun h => stillL h m items) (evalSs (callF Γ.fns n) ss) (bindT t) (items.drop i) env' s'.h),
        ⟨_, Nat.zero_le _, rfl, env, s, rfl, hr, er, .refl s, by rw [List.drop_zero]; exact pr⟩, ?_⟩
      rintro i m' σ' H' ⟨hi, rfl, env', s', rfl, hr', er', l', pr'⟩
      by_cases hst : stillL s'.h m items = true
      · have la := still_eq hst
        obtain ⟨xs, k5, k8⟩ := hr'.ob _ _ (listAt_of la)
        rw [l'.ph m k7] at k5
        by_cases hin : i = items.length
        · left
          refine ⟨⟨xs, .inl (Rd.of k5), by rw [← k8.length]; omega⟩, ?_⟩
          rw [hin, List.drop_length] at pr'
          unfold forLB at pr'
          rw [if_pos hst] at pr'
          exact pr' s' _ (.refl _) rfl hr' er'
        · right
          have hlt : i < items.length := by omega
          have hlx : i < xs.length := by rw [← k8.length]; exact hlt
          refine ⟨⟨xs, xs[i], .inl (Rd.of k5), List.getElem?_eq_getElem hlx⟩, fun σ2 H2 => i + 1 ≤ items.length ∧ ∃ env2 s2, s2.H = H2 ∧ HR X.K I.ci s2 ∧ ER X.K s2 env2 σ2 ∧ Le s s2 ∧ PSt X.K I W D s2 (forLB (fun h => stillL h m items) (evalSs (callF Γ.fns n) ss) (bindT t) (items.drop (i + 1)) env2 s2.h),
            fun σ2 H2 ⟨h1, h2⟩ => ⟨items.length - (i + 1), by omega, h1, rfl, h2⟩, fun y H2 hy => ?_⟩
          obtain ⟨rfl, hy⟩ := hy
          obtain ⟨d, ed, rd⟩ := k8.get' (hy xs (.inl (Rd.of k5)))
          have edr : items.drop i = d :: items.drop (i + 1) := by
            obtain ⟨h, e⟩ := List.getElem?_eq_some_iff.mp ed
            rw [List.drop_eq_getElem_cons h, e]
          rw [edr] at pr'
          unfold forLB at pr'
          rw [if_pos hst] at pr'
          cases eb : bindT t d env' with
          | none => simp only [eb] at pr'; exact False.elim pr'
          | some env1 =>
            simp only [eb] at pr'
            refine ⟨env', s', d, env1, rfl, hr', er', rd, eb, fun σ1 er1 _ => ⟨env1, s', rfl, hr', er1, trivial, ?_⟩⟩
            show PSt X.K I W _ s' (evalSs (callF Γ.fns n) ss env1 s'.h)
            generalize evalSs (callF Γ.fns n) ss env1 s'.h = r at pr' ⊢
            cases r with
            | ok fl env2 h2 =>
              cases fl with
              | nx =>
                intro s3 σ3 l3 eh3 hr3 er3
                subst eh3
                exact ⟨by omega, env2, s3, rfl, hr3, er3, l'.trans l3, PSt.le pr' l3⟩
              | ct =>
                intro s3 σ3 l3 eh3 hr3 er3
                subst eh3
                exact ⟨by omega, env2, s3, rfl, hr3, er3, l'.trans l3, PSt.le pr' l3⟩
              | bk => exact pr'
              | rt v => exact pr'
            | exc e env2 h2 => exact pr'
            | stuck => exact pr'
      · exfalso
        cases hd : items.drop i with
        | nil =>
          rw [hd] at pr'
          unfold forLB at pr'
          rw [if_neg hst] at pr'
          exact pr'
        | cons d r =>
          rw [hd] at pr'
          unfold forLB at pr'
          rw [if_neg hst] at pr'
          exact pr'
end
end Cd
set_option Elab.async false
set_option linter.all false
set_option maxRecDepth 100000
set_option maxHeartbeats 1000000
namespace Cd
open PySem PySem.Spec PyProof.Rows L2
theorem dedup_nodupG {α : Type} [DecidableEq α] : ∀ l : List α, (dedup l).Nodup ∧ ∀ x, x ∈ dedup l ↔ x ∈ l
  | [] => ⟨List.nodup_nil, fun _ => Iff.rfl⟩
  | x :: r => by
    obtain ⟨h1, h2⟩ := dedup_nodupG r
    unfold dedup
    split
    · rename_i h
      refine ⟨h1, fun y => ?_⟩
      rw [h2, List.mem_cons]
      exact ⟨.inr, fun z => z.elim (fun e => e ▸ h) id⟩
    · rename_i h
      refine ⟨List.nodup_cons.mpr ⟨fun z => h ((h2 x).mp z), h1⟩, fun y => ?_⟩
      rw [List.mem_cons, List.mem_cons, h2]
section
variable {Γ : Gm} {N : List Str} {sc : Sco} {e tg ea eb ec : Expr} {a b c : E} {pos p p2 apos : Pos}
end
end Cd
set_option Elab.async false
set_option linter.all false
set_option maxRecDepth 100000
set_option maxHeartbeats 4000000
namespace Cd
open PySem PySem.Spec PyProof.Rows L2
section
variable {Γ : Gm} {N : List Str} {sc : Sco} {e tg ea eb ec : Expr} {a b c : E} {o : O2} {pos p p2 : Pos} {t : Tg} {src : Src} {i0 : Nat} {x : Str}
/-- what a comprehension's row asks, over an own list that its parts leave alone -/
theorem lcB_imp {n : Nat} {I : Inf} {W : WX} {X : Cx} {conds : List Te} {own : List (Str × Nat)} (hsub : ∀ k, k ∈ tgSlots t → k ∈ snds own) {σ : L2.St} {H : Hp} {Q : VK}
    (q : tE X.K I W (fun env h => (evalE (callF Γ.fns n) env (.compB i0 (snds own) t conds a) h).bind unP) (RN X.K) σ H Q) :
    tLc (iSeq X.K (tVar i0)) (tG X.K I.ci t) (tE X.K I (fun _ _ _ _ => False) (fun env h => evalTs (callF Γ.fns n) env conds h) (fun _ a x => x = a))
      (tE X.K I (fun _ _ _ _ => False) (fun env h => (evalE (callF Γ.fns n) env a h).bind unP) (PRl X.K)) (own.map (·.2)) σ H Q := by
  obtain ⟨env, s, eH, hr, er, _, pr⟩ := q
  subst eH
  replace pr : PR X.K I W s σ ((match lstOf env s.h i0 with
    | none => .stuck
    | some p => compK2 (compLB (fun h => stillL h p.1 p.2) (fun e h => (evalE (callF Γ.fns n) e a h).bind unP) (fun e h => evalTs (callF Γ.fns n) e conds h) (fun x e => bindT t x e) (wipeE env (snds own))) p.2 s.h : R Val).bind unP) (RN X.K) Q := pr
  cases e0 : lstOf env s.h i0 with
  | none => rw [e0] at pr; exact False.elim pr
  | some p0 =>
  rw [e0] at pr
  obtain ⟨m0, items⟩ := p0
  obtain ⟨k1, k2⟩ := lstOf_of e0
  obtain ⟨k6, k7⟩ := ref_addr er k1
  obtain ⟨xs0, k3, k4⟩ := hr.ob _ _ k2
  refine ⟨_, k6, .inl ⟨_, xs0, rfl, .inl (Rd.of k3), ?_⟩⟩
  simp only at pr k1 k2 k3 k4 k6 k7 ⊢
  intro D hD
  replace pr : PR X.K I W s σ ((compK2 (compLB (fun h => stillL h m0 items) (fun e h => (evalE (callF Γ.fns n) e a h).bind unP) (fun e h => evalTs (callF Γ.fns n) e conds h) (fun x e => bindT t x e) (wipeE env (snds own))) items s.h).bind unP) (RN X.K) Q := pr
  unfold compK2 at pr
  by_cases hz : items.length < sizeLine
  · rw [if_pos hz] at pr
    rcases compK_inv (r := compLB (fun h => stillL h m0 items) (fun e h => (evalE (callF Γ.fns n) e a h).bind unP) (fun e h => evalTs (callF Γ.fns n) e conds h) (fun x e => bindT t x e) (wipeE env (snds own)) items s.h) with ⟨ys, h2, e1, e2⟩ | e2
    · rw [e2] at pr
      replace pr : PR X.K I W s σ (R.ok (PyData.list ys) h2) (RN X.K) Q := pr
      have hD0 : s.H D = none := hD
      refine ⟨fun i m H' => i ≤ items.length ∧ m = items.length - i ∧ ∃ s' acc accT rest, s'.H = H' ∧ HR X.K I.ci s' ∧ Le s s' ∧ s'.B D ∧ s'.H D = some (.lst acc) ∧ RFs X.K s'.F s'.H accT acc ∧ accT.length ≤ i ∧
        compLB (fun h => stillL h m0 items) (fun e h => (evalE (callF Γ.fns n) e a h).bind unP) (fun e h => evalTs (callF Γ.fns n) e conds h) (fun x e => bindT t x e) (wipeE env (snds own)) (items.drop i) s'.h = .ok rest h2 ∧ accT ++ rest = ys,
        ⟨_, Nat.zero_le _, rfl, s.guard D, [], [], ys, rfl, hr.guard hD0, guard_le hr hD0, .inr rfl, upd_same, .nil, Nat.le_refl _, by rw [List.drop_zero]; exact e1, rfl⟩, ?_⟩
      rintro i m H' ⟨hi, rfl, s', acc, accT, rest, rfl, hr', l', hB, hDa, ra, hla, er1, er2⟩
      have hlen := ra.length
      have hst : stillL s'.h m0 items = true := by
        cases hq : stillL s'.h m0 items with
        | true => rfl
        | false =>
          cases hdr : items.drop i with
          | nil => rw [hdr] at er1; unfold compLB at er1; rw [hq] at er1; simp at er1
          | cons y r => rw [hdr] at er1; unfold compLB at er1; rw [hq] at er1; simp at er1
      have la := still_eq hst
      obtain ⟨us, k5, k8⟩ := hr'.ob _ _ (listAt_of la)
      rw [l'.ph m0 k7] at k5
      by_cases hin : i = items.length
      · left
        refine ⟨⟨us, .inl (Rd.of k5), by rw [← k8.length]; omega⟩, ?_⟩
        subst hin
        rw [List.drop_length] at er1
        unfold compLB at er1
        rw [if_pos hst] at er1
        cases er1
        rw [List.append_nil] at er2
        subst er2
        refine pr (s'.unguard s.B) (.ref D) ⟨l'.len, l'.ph, l'.kf, fun b hb => ⟨hb, (l'.fr b hb).2⟩⟩ rfl ⟨hr'.ob, hr'.inj, hr'.nf, fun b hb => hr'.bt b (l'.fr b hb).1, hr'.ft⟩ ?_
        exact ⟨accT, D, acc, rfl, rfl, hDa, ra, (hr'.bt D hB).2.1, (hr'.bt D hB).1, (hr.fresh hD0).2.2⟩
      · right
        have hlt : i < items.length := by omega
        have hlx : i < us.length := by rw [← k8.length]; exact hlt
        refine ⟨⟨us, us[i], .inl (Rd.of k5), List.getElem?_eq_getElem hlx⟩, fun H'' => i + 1 ≤ items.length ∧ ∃ s' acc accT rest, s'.H = H'' ∧ HR X.K I.ci s' ∧ Le s s' ∧ s'.B D ∧ s'.H D = some (.lst acc) ∧ RFs X.K s'.F s'.H accT acc ∧ accT.length ≤ i + 1 ∧
          compLB (fun h => stillL h m0 items) (fun e h => (evalE (callF Γ.fns n) e a h).bind unP) (fun e h => evalTs (callF Γ.fns n) e conds h) (fun x e => bindT t x e) (wipeE env (snds own)) (items.drop (i + 1)) s'.h = .ok rest h2 ∧ accT ++ rest = ys,
          fun H'' ⟨h1, h3⟩ => ⟨items.length - (i + 1), by omega, h1, rfl, h3⟩, fun x H2 hy => ?_⟩
        obtain ⟨rfl, hy⟩ := hy
        obtain ⟨d, ed, rd⟩ := k8.get' (hy us (.inl (Rd.of k5)))
        have l2 : Le s' s' := .refl s'
        have hr2 := hr'
        have eh2 : s'.h = s'.h := rfl
        have edr : items.drop i = d :: items.drop (i + 1) := by
          obtain ⟨h, e⟩ := List.getElem?_eq_some_iff.mp ed
          rw [List.drop_eq_getElem_cons h, e]
        rw [edr] at er1
        unfold compLB at er1
        rw [if_pos hst] at er1
        cases eb : bindT t d (wipeE env (snds own)) with
        | none => simp only [eb] at er1; cases er1
        | some env1 =>
          simp only [eb] at er1
          refine ⟨wipeE env (snds own), s', d, env1, rfl, hr2, ((er.le l').le l2).wipe _, rd, eb, fun σ1 er' ⟨k1, k2⟩ => ⟨?_, ?_⟩⟩
          · exact (wipe_eq (k1.trans (wipe_length _ _)) fun k hk => by rw [k2 k (fun z => hk (hsub k z)), wipe_out hk])
          · refine ⟨env1, s', rfl, hr2, er', trivial, ?_⟩
            rw [← eh2] at er1
            show PR X.K I (fun _ _ _ _ => False) s' σ1 (evalTs (callF Γ.fns n) env1 conds s'.h) _ _
            cases ec : evalTs (callF Γ.fns n) env1 conds s'.h with
            | exc e h => rw [ec] at er1; cases er1
            | stuck => rw [ec] at er1; cases er1
            | ok k h3 =>
              rw [ec] at er1
              rintro s3 k' l3 eh3 hr3 rfl
              subst eh3
              have l23 := l2.trans l3
              have hB3 : s3.B D ∧ s3.H D = some (.lst acc) := by
                obtain ⟨b1, b2⟩ := l23.fr D hB
                exact ⟨b1, b2.trans hDa⟩
              cases k' with
              | false =>
                simp only [R.bind_ok, Bool.false_eq_true, if_false] at er1 ⊢
                exact ⟨by omega, s3, acc, accT, rest, rfl, hr3, l'.trans l23, hB3.1, hB3.2, ra.keep l23.kf, by omega, er1, er2⟩
              | true =>
                simp only [R.bind_ok, if_true] at er1 ⊢
                refine ⟨env1, s3, rfl, hr3, er'.le l3, trivial, ?_⟩
                show PR X.K I (fun _ _ _ _ => False) s3 σ1 ((evalE (callF Γ.fns n) env1 a s3.h).bind unP) _ _
                cases ev : (evalE (callF Γ.fns n) env1 a s3.h).bind unP with
                | exc e h => rw [ev] at er1; cases er1
                | stuck => rw [ev] at er1; cases er1
                | ok y h4 =>
                  rw [ev] at er1
                  simp only [R.bind_ok] at er1
                  intro s4 z l4 eh4 hr4 rz
                  subst eh4
                  have hB4 : s4.B D ∧ s4.H D = some (.lst acc) := by
                    obtain ⟨b1, b2⟩ := l4.fr D hB3.1
                    exact ⟨b1, b2.trans hB3.2⟩
                  have l24 := l23.trans l4
                  cases er3 : compLB (fun h => stillL h m0 items) (fun e h => (evalE (callF Γ.fns n) e a h).bind unP) (fun e h => evalTs (callF Γ.fns n) e conds h) (fun x e => bindT t x e) (wipeE env (snds own)) (items.drop (i + 1)) s4.h with
                  | exc e h => rw [er3] at er1; cases er1
                  | stuck => rw [er3] at er1; cases er1
                  | ok rest2 h5 =>
                    rw [er3] at er1
                    cases er1
                    refine ⟨acc, hB4.2, by omega, by omega, s4.wr D (acc ++ [z]), acc ++ [z], accT ++ [y], rest2, rfl, hr4.wr hB4.1 hB4.2, wr_le (l'.trans l24) hD0 hr, hB4.1, upd_same, ?_, by simp; omega, er3, by rw [List.append_assoc]; exact er2⟩
                    exact ((ra.keep l24.kf).append (.cons rz .nil)).keep (wr_keep hr4 hB4.1 hB4.2)
    · rw [e2] at pr
      exact False.elim pr
  · rw [if_neg hz] at pr
    exact False.elim pr
theorem dn_compB {elt : Expr} {ifs : List Expr} {scope : Scope} {own : List (Str × Nat)} {conds : List Te} {q : Pos} (v : VOk N sc i0 x) (ok : BlkOk N sc.s scope own) (ht : DG Γ N (blkS sc scope) tg t) (hc : DTs Γ N (blkS sc scope) ifs conds) (he : DV Γ N (blkS sc scope) elt a)
    (hsub : ∀ k, k ∈ tgSlots t → k ∈ snds own) (hs : ∀ env y, foldedSetIterable (.Name x q) env y = pure y := by intro _ _; rfl) : DN Γ N sc (.ListComp elt [⟨tg, .Name x q, ifs, 0⟩] scope pos) (.compB i0 (snds own) t conds a) := fun n I W X g =>
  (pe_lc (own := own) (wi := iSeq X.K (tVar i0)) (g := tG X.K I.ci t) (tt := tE X.K I (fun _ _ _ _ => False) (fun env h => evalTs (callF Γ.fns n) env conds h) (fun _ a x => x = a))
    (te := tE X.K I (fun _ _ _ _ => False) (fun env h => (evalE (callF Γ.fns n) env a h).bind unP) (PRl X.K)) g.calm (by rw [g.hN]; exact g.nd) (pi_seq (v.pe g)) (by rw [g.hN, g.sc]; exact ok)
    (fun s H C cl fp => ht n I _ _ (g.blk scope s H C cl fp)) (fun s H C cl fp => hc n I _ _ (g.blk scope s H C cl fp)) (fun s H C cl fp => he n I _ _ (g.blk scope s H C cl fp)) (hs _)).imp fun σ H Q q => lcB_imp hsub q
end
end Cd
set_option Elab.async false
set_option linter.all false
set_option maxRecDepth 100000
set_option maxHeartbeats 1000000
namespace Cd
open PySem PySem.Spec PyProof.Rows L2
section
variable {Γ : Gm} {N : List Str} {sc : Sco} {e tg ea eb ec : Expr} {a b c : E} {pos p p2 apos : Pos} {i : Nat} {x : Str}
end
end Cd
set_option Elab.async false
set_option linter.all false
set_option maxRecDepth 100000
set_option maxHeartbeats 1000000
namespace Cd
open PySem PySem.Spec PyProof.Rows L2
section
variable {Γ : Gm} {N : List Str} {sc : Sco} {ek ed : Expr} {a b c : E} {pos p p2 apos : Pos} {i : Nat} {x : Str}
end
end Cd
set_option Elab.async false
set_option linter.all false
set_option maxRecDepth 100000
set_option maxHeartbeats 1000000
namespace Cd
open PySem PySem.Spec PyProof.Rows L2
end Cd
set_option Elab.async false
set_option linter.all false
set_option maxRecDepth 100000
set_option maxHeartbeats 1000000
namespace Cd
open PySem PySem.Spec PyProof.Rows L2
section
variable {K : PySem.W.Frag} {CI : CInf} {s : Sx}
end
section
variable {Γ : Gm} {N : List Str} {sc : Sco} {ev ek : Expr} {a b c : E} {pos p p2 apos : Pos} {i : Nat} {x : Str}
end
end Cd
set_option Elab.async false
set_option linter.all false
set_option maxRecDepth 100000
set_option maxHeartbeats 1000000
namespace Cd
open PySem PySem.Spec PyProof.Rows L2
section
variable {prog : Program} {w : World} {A : Around} {E : Value → Shared → Prop} {s : Shared}
/-- all items of a list or tuple, in a list that is new -/
theorem collect_at {Q : List Value → Shared → Prop} {l : Addr} {T : String} {o : Obj} {items : Array Value} {n : Nat} (hT : T = "list" ∨ T = "tuple") (ho : s.heap.get? l = some o) (hc : o.cls = .type T) (hd : o.data = .seq items n) (hz : items.size ≤ sizeLine)
    (fin : ∀ h2 : Heap, (∀ b u, s.heap.get? b = some u → h2.get? b = some u) → s.heap.objs.size ≤ h2.objs.size → Q items.toList { s with heap := h2 }) : wpAny (model prog w) A (collect (.ref l)) Q E s := by
  let S := s.heap.objs.size
  let h1 : Heap := s.heap.push { cls := .type "list", data := .seq ([] : List Value).toArray }
  let h2 : Heap := h1.update S (Obj.mapSeq (· ++ items))
  have g1 : h1.get? S = some { cls := .type "list", data := .seq #[] 0 } := Heap.get?_push_size _ rfl
  have g2 := Heap.get?_update_self (Obj.mapSeq (· ++ items)) g1 rfl
  have keep : ∀ b u, s.heap.get? b = some u → h2.get? b = some u := fun b u e =>
    (Heap.get?_update_other h1 _ (Nat.ne_of_gt (Heap.lt_size e))).trans (Heap.get?_push_of_some _ e)
  have sz : S ≤ h2.objs.size := by
    show S ≤ (h1.update S _).objs.size
    rw [Heap.size_update, size_push']
    omega
  have e0 : ((#[] : Array Value) ++ items).toList = items.toList := by simp
  have last : wpAny (model prog w) A (do
      match (← load S).data with
      | .seq xs _ => pure xs.toList
      | _ => unsupported "internal:collect") Q E { s with heap := h2 } := by
    refine wpAny_bind (wpAny_load g2 (wpAny_pure ?_))
    show Q ((#[] : Array Value) ++ items).toList _
    rw [e0]; exact fin h2 keep sz
  unfold collect
  refine wpAny_bind (wpAny_runValue (codeAny_builtin F.entry_proto_collect (by
    rw [Around.under_plainId F.plain_proto_collect _]
    show wpAny _ A.in1 (newList [] >>= fun q => again (.builtin "list.__iadd__" ⟨[q, .ref l], []⟩)) _ _ s
    refine wpAny_bind (wpAny_newObj_type (wpAny_pure ⟨plainId_quiet F.plain_list_iadd _, codeAny_builtin F.entry_list_iadd (by
      rw [Around.under_plainId F.plain_list_iadd _]
      show wpAny _ A.in1 (Builtin.List.listExtendWith (.ref S) (.ref l) (.ref S)) _ _ _
      refine wpAny_mono (wpAny_extend_seq (hsz := hz) (A := A) (R := fun r s' => r = .ok (.ret (.ref S)) ∧ s' = { s with heap := h2 }) (s := { s with heap := h1 }) _ l _ 0 hT g1 (Heap.get?_push_of_some _ ho) hc hd ⟨rfl, rfl⟩) (fun f s' hf => ?_) (fun e s' hf => absurd hf.1 (by simp))
      cases f with
      | done f =>
        obtain ⟨e, rfl⟩ := hf
        cases e
        exact last
      | again c =>
        exact ⟨hf.1, codeAny_mono hf.2 fun r s2 hr => by
          obtain ⟨rfl, rfl⟩ := hr
          exact last⟩)⟩))))) 
/-- sorted of a tuple (or list): the new list stands beyond all that was -/
theorem sorted_seqA {l : Addr} {T : String} {o : Obj} {n : Nat} {vs : List Value} {ltv : Value → Value → Bool} {Q : Value → Shared → Prop} (O : SrtO.Swo ltv) (hT : T = "list" ∨ T = "tuple") (ho : s.heap.get? l = some o) (hc : o.cls = .type T) (hd : o.data = .seq vs.toArray n) (hz : vs.length ≤ sizeLine)
    (hS : ∀ (s1 : Shared) (a : Addr), 2 ≤ vs.length → SrtO.SortableO prog w A.in1.in1 s1 a vs ltv)
    (fin : ∀ (a : Addr) (h2 : Heap) (out : List Value), SrtO.Srtd ltv out → SrtO.Stb ltv out vs → s.heap.objs.size ≤ a → (∀ b u, s.heap.get? b = some u → h2.get? b = some u) → (∃ e, h2.get? a = some (seqObj "list" out.toArray e)) → Q (.ref a) { s with heap := h2 }) :
    wpAny (model prog w) A (call (.builtin "sorted") [.ref l]) Q E s :=
  Calls.call_function_entry kind_sorted plain_sorted entry_sorted (args_sorted1 _) (by
    unfold Builtin.«sorted»
    refine wpAny_bind (m := checkCount "sorted" 1 1 _) (wpAny_pure (wpAny_bind (collect_at hT ho hc hd (by simpa using hz) fun h' k sz => wpAny_bind (wpAny_newList ?_ hz))))
    have hL : (h'.push (seqObj "list" vs.toArray 0)).get? h'.objs.size = some (seqObj "list" vs.toArray 0) := Heap.get?_push_size _ rfl
    refine wpAny_bind (wpAny_holding (wpAny_call_entry slot_list_sort ⟨_, hL, rfl⟩ entry_list_sort (SrtO.list_sort_ord O hL hz (fun two => hS _ _ two) fun out ha hb => ⟨_, rfl, wpAny_pure ⟨_, rfl, ?_⟩⟩) (args_list_sort _)))
    refine fin _ _ out ha hb sz (fun b u e => ?_) (sortedHeap_at hL)
    have e2 := k b u e
    have lt := Heap.lt_size e2
    exact (sortedHeap_old (Nat.ne_of_lt lt) (by rw [size_push']; exact Nat.lt_succ_of_lt lt)).trans (Heap.get?_push_of_some _ e2))
end
/-- sorted(a list or tuple of ints) -/
def rSortedA (K : PySem.W.Frag) : List V → Hp → VK → Prop := fun vs H Q => ∃ (a : Addr) (ns : List Int), vs = [V.ref a] ∧ (SqL K H a (ns.map V.int) ∨ SqT K H a (ns.map V.int)) ∧
  ∀ p : Addr, H p = none → Q (.ref p) (upd H p (.lst ((sortI ns).map V.int)))
theorem cr_sortedA {X : Cx} : CallR X (.builtin "sorted") (rSortedA X.K) := by
  intro pins s σ H vs us Q I r h
  obtain ⟨a, ns, rfl, hs, q⟩ := h
  obtain ⟨its, T, o, n, hT, ho, hc, hd, rv, hz⟩ : ∃ (its : List Value) (T : String) (o : Obj) (n : Nat), (T = "list" ∨ T = "tuple") ∧ s.heap.get? a = some o ∧ o.cls = .type T ∧ o.data = .seq its.toArray n ∧ Vals (ns.map V.int) its ∧ (ns.map V.int).length ≤ sizeLine := by
    rcases hs with hs | hs
    · obtain ⟨its, rv, hl, hz⟩ := I.list hs
      obtain ⟨o, ho, hc, n, hd⟩ := hl.isList
      exact ⟨its, "list", o, n, .inl rfl, ho, hc, hd, rv, hz⟩
    · obtain ⟨its, rv, ⟨o, ho, hc, n, hd⟩, hz⟩ := I.tuple hs
      exact ⟨its, "tuple", o, n, .inr rfl, ho, hc, hd, rv, hz⟩
  rw [Vals.ref1 r]
  have hi := rv.ints
  refine sorted_seqA SrtO.swo_int hT ho hc hd (by rw [← rv.length]; exact hz) (fun s1 b h2 => SrtO.ints_sortable hi h2) fun b h2 out h3 h4 hb k ⟨e, he⟩ => ?_
  obtain ⟨k1, k2, k3⟩ := SrtO.ints_out hi h3 h4
  have es : out.map SrtO.iv = sortI ns := sorted_uniq (k2.trans (sortI_perm _).symm) k3 (sortI_sorted _)
  rw [es] at k1
  have hlen : ((sortI ns).map V.int).length ≤ sizeLine := by rw [List.length_map, (sortI_perm ns).length_eq]; rw [List.length_map] at hz; exact hz
  exact ⟨.ref b, upd H b (.lst ((sortI ns).map V.int)), I.laid (t' := s.toks) k hb ⟨hlen, out, e, vals_of_ints k1, he⟩, rfl, q b (I.hok.fresh hb)⟩
theorem leP_iff {p q : Int × Int} : leP p q = true ↔ p.1 < q.1 ∨ (p.1 = q.1 ∧ p.2 ≤ q.2) := by
  unfold leP
  simp
theorem insP_perm (x : Int × Int) : ∀ l : List (Int × Int), (insP x l).Perm (x :: l)
  | [] => .refl _
  | y :: r => by
    unfold insP
    split
    · exact .refl _
    · exact ((insP_perm x r).cons y).trans (.swap _ _ _)
theorem sortP_perm : ∀ l : List (Int × Int), (sortP l).Perm l
  | [] => .refl _
  | x :: r => (insP_perm x _).trans ((sortP_perm r).cons x)
theorem insP_sorted {x : Int × Int} : ∀ {l : List (Int × Int)}, l.Pairwise (fun p q => leP p q = true) → (insP x l).Pairwise fun p q => leP p q = true
  | [], _ => List.pairwise_singleton _ _
  | y :: r, h => by
    obtain ⟨h1, h2⟩ := List.pairwise_cons.mp h
    unfold insP
    split
    · rename_i c
      refine List.pairwise_cons.mpr ⟨fun z hz => ?_, h⟩
      rcases List.mem_cons.mp hz with rfl | hz
      · exact c
      · have a := leP_iff.mp c
        have b := leP_iff.mp (h1 z hz)
        exact leP_iff.mpr (by omega)
    · rename_i c
      refine List.pairwise_cons.mpr ⟨fun z hz => ?_, insP_sorted h2⟩
      rcases List.mem_cons.mp ((insP_perm x r).mem_iff.mp hz) with rfl | hz
      · have a : ¬ (z.1 < y.1 ∨ (z.1 = y.1 ∧ z.2 ≤ y.2)) := fun t => c (leP_iff.mpr t)
        exact leP_iff.mpr (by omega)
      · exact h1 z hz
theorem sortP_sorted : ∀ l : List (Int × Int), (sortP l).Pairwise fun p q => leP p q = true
  | [] => .nil
  | _ :: r => insP_sorted (sortP_sorted r)
theorem leP_uniq {l m : List (Int × Int)} (p : l.Perm m) (h1 : l.Pairwise fun p q => leP p q = true) (h2 : m.Pairwise fun p q => leP p q = true) : l = m :=
  p.eq_of_pairwise (fun a b _ _ x y => by
    have a1 := leP_iff.mp x
    have a2 := leP_iff.mp y
    exact Prod.ext (by omega) (by omega)) h1 h2
/-- the pairs in a list -/
def Prs (K : PySem.W.Frag) (H : Hp) (ps : List (Int × Int)) (xs : List V) : Prop := ps.length = xs.length ∧ ∀ (i : Nat) p, ps[i]? = some p → ∃ t, xs[i]? = some (.ref t) ∧ SqT K H t [.int p.1, .int p.2]
theorem Prs.rf {K : PySem.W.Frag} {F : Addr → Prop} {H : Hp} : ∀ {ps : List (Int × Int)} {xs : List V}, Prs K H ps xs → RFs K F H (ps.map pairD) xs
  | [], [], _ => .nil
  | [], _ :: _, h => absurd h.1 (by simp)
  | _ :: _, [], h => absurd h.1 (by simp)
  | p :: ps, x :: xs, h => by
    obtain ⟨t, e, s⟩ := h.2 0 p rfl
    cases e
    exact .cons (.tup (.lo s rfl) (.cons (.int _) (.cons (.int _) .nil))) (Prs.rf ⟨by simpa using h.1, fun i q e => by simpa using h.2 (i + 1) q (by simpa using e)⟩)
theorem Prs.of {K : PySem.W.Frag} {F : Addr → Prop} {H : Hp} : ∀ {ts : List PyData} {xs : List V} {ps : List (Int × Int)}, RFs K F H ts xs → pairsD ts = some ps → Prs K H ps xs
  | [], _, _, .nil, e => by cases e; exact ⟨rfl, fun i p e => by simp at e⟩
  | d :: ds, _, ps, .cons (v := v) (vs := vs) r t, e => by
    have : ∃ a b, d = .tuple [.int a, .int b] := by
      cases d with
      | tuple ts => match ts, e with
        | [.int a, .int b], _ => exact ⟨a, b, rfl⟩
      | _ => cases e
    obtain ⟨a, b, rfl⟩ := this
    replace e : (pairsD ds).map ((a, b) :: ·) = some ps := e
    rw [Option.map_eq_some_iff] at e
    obtain ⟨qs, e1, rfl⟩ := e
    have ih := Prs.of t e1
    obtain ⟨p, ys, rfl, s, r2⟩ := r.tup_inv
    cases r2 with
    | cons r3 r4 =>
      cases r4 with
      | cons r5 r6 =>
        cases r6
        rw [RF.int_inv r3, RF.int_inv r5] at s
        refine ⟨by simpa using ih.1, fun i q e => ?_⟩
        cases i with
        | zero => simp at e; subst e; exact ⟨p, rfl, s⟩
        | succ i => simpa using ih.2 i q (by simpa using e)
/-- sorted(a list of pairs of ints) -/
def rSortP (K : PySem.W.Frag) : List V → Hp → VK → Prop := fun vs H Q => ∃ (a : Addr) (xs : List V) (ps : List (Int × Int)), vs = [V.ref a] ∧ SqL K H a xs ∧ Prs K H ps xs ∧ ∀ (p : Addr) zs, H p = none → Prs K H (sortP ps) zs → Q (.ref p) (upd H p (.lst zs))
theorem cr_sortP {X : Cx} : CallR X (.builtin "sorted") (rSortP X.K) := by
  intro pins s σ H vs us Q I r h
  obtain ⟨a, xs, ps, rfl, hs, hx, q⟩ := h
  obtain ⟨its, rv, hl, hz⟩ := I.list hs
  rw [Vals.ref1 r]
  let k : Value → Int × Int := fun v => open Classical in if h : ∃ p : Int × Int, Srt.IsPair s.heap v p.1 p.2 then Classical.choose h else (0, 0)
  have hk : ∀ v p, Srt.IsPair s.heap v p.1 p.2 → k v = p := fun v p h => by
    have ex : ∃ p : Int × Int, Srt.IsPair s.heap v p.1 p.2 := ⟨p, h⟩
    have e : k v = Classical.choose ex := dif_pos ex
    rw [e]
    obtain ⟨a, o, t, u, n, e1, ho, hc, hd⟩ := Classical.choose_spec ex
    obtain ⟨a', o', t', u', n', e1', ho', hc', hd'⟩ := h
    rw [e1] at e1'
    cases e1'
    rw [ho] at ho'
    cases ho'
    rw [hd] at hd'
    injection hd' with h1 _
    have h2 := congrArg Array.toList h1
    simp at h2
    exact Prod.ext h2.1.1 h2.2.1
  have hpair : ∀ (i : Nat) v, its[i]? = some v → ∃ t p, v = .ref t ∧ ps[i]? = some p ∧ SqT X.K H t [.int p.1, .int p.2] ∧ k v = p := fun i v e => by
    obtain ⟨hi, _⟩ := List.getElem?_eq_some_iff.mp e
    have hl1 := rv.length
    have hl2 := hx.1
    have hp : ps[i]? = some (ps[i]'(by omega)) := List.getElem?_eq_getElem _
    obtain ⟨t, ex, st⟩ := hx.2 i _ hp
    obtain ⟨w, ew, rw⟩ := rv.get ex
    rw [e] at ew
    cases ew
    obtain rfl : v = Value.ref t := rw
    refine ⟨t, _, rfl, hp, st, hk _ _ ?_⟩
    obtain ⟨its2, r2, ⟨o, ho, hc, n, hd⟩, _⟩ := I.tuple st
    obtain ⟨u1, u2, rfl, ri, rj⟩ := vals2 r2
    obtain ⟨t1, rfl⟩ := ri
    obtain ⟨t2, rfl⟩ := rj
    exact ⟨t, o, t1, t2, n, rfl, ho, hc, hd⟩
  have mem : ∀ v ∈ its, ∃ t, v = .ref t ∧ SqT X.K H t [.int (k v).1, .int (k v).2] ∧ Srt.IsPair s.heap v (k v).1 (k v).2 := fun v hv => by
    obtain ⟨i, hi, e⟩ := List.getElem_of_mem hv
    obtain ⟨t, p, e1, _, st, ek⟩ := hpair i v (by rw [← e]; exact List.getElem?_eq_getElem hi)
    rw [ek]
    refine ⟨t, e1, st, ?_⟩
    obtain ⟨its2, r2, ⟨o, ho, hc, n, hd⟩, _⟩ := I.tuple st
    obtain ⟨u1, u2, rfl, ri, rj⟩ := vals2 r2
    obtain ⟨t1, rfl⟩ := ri
    obtain ⟨t2, rfl⟩ := rj
    exact ⟨t, o, t1, t2, n, e1, ho, hc, hd⟩
  have emap : its.map k = ps := by
    have hl1 := rv.length
    have hl2 := hx.1
    refine List.ext_getElem? fun i => ?_
    rw [List.getElem?_map]
    cases e : its[i]? with
    | none =>
      have := List.getElem?_eq_none_iff.mp e
      rw [List.getElem?_eq_none (by omega)]; rfl
    | some v =>
      obtain ⟨t, p, _, hp, _, ek⟩ := hpair i v e
      rw [hp, Option.map_some, ek]
  refine SrtO.sorted_pairsO (k := k) hl.isList (by rw [← rv.length]; exact hz) (fun v hv => (mem v hv).choose_spec.2.2) fun h' d out h1 h2 kp hd hn => ?_
  have h3 : ∀ u ∈ out, ∃ a, u = Value.ref a := fun u hu => by
    obtain ⟨t, e, _⟩ := mem u (h2.perm.mem_iff.mp hu)
    exact ⟨t, e⟩
  obtain ⟨n, hn⟩ := hn
  have eo : out.map k = sortP ps := by
    refine leP_uniq ((h2.perm.map k).trans (by rw [emap]; exact (sortP_perm ps).symm)) ?_ (sortP_sorted ps)
    rw [List.pairwise_map]
    refine List.Pairwise.imp ?_ h1
    intro x y hxy
    have := SrtO.lexB_no.mp hxy
    exact leP_iff.mpr (by omega)
  refine ⟨.ref d, upd H d (.lst (out.map backV)), I.laid (t' := s.toks) kp hd ⟨?_, out, n, vals_back h3, hn⟩, rfl, q d _ (I.hok.fresh hd) ⟨by rw [← eo]; simp, fun i p e => ?_⟩⟩
  · rw [List.length_map, h2.len, ← rv.length]
    exact hz
  · rw [← eo, List.getElem?_map, Option.map_eq_some_iff] at e
    obtain ⟨u, eu, rfl⟩ := e
    obtain ⟨t, e1, st, _⟩ := mem u (h2.perm.mem_iff.mp (List.mem_of_getElem? eu))
    refine ⟨t, ?_, st⟩
    rw [List.getElem?_map, eu, e1]
    rfl
theorem cr_sortedB {X : Cx} : CallR X (.builtin "sorted") (fun vs H Q => rSortedA X.K vs H Q ∨ rSortP X.K vs H Q) := by
  intro pins s σ H vs us Q I r h
  rcases h with h | h
  · exact cr_sortedA pins s σ H vs us Q I r h
  · exact cr_sortP pins s σ H vs us Q I r h
section
variable {K : PySem.W.Frag} {Γ : Gm} {N : List Str} {sc : Sco} {ea : Expr} {a : E} {pos p p2 : Pos}
theorem okN_sorted : Op1N K (one fun vs H Q => rSortedA K vs H Q ∨ rSortP K vs H Q) .sorted := fun s d1 d x Q r e f => by
  replace e : sortedS d1 = some d := e
  unfold sortedS at e
  split at e
  · obtain ⟨l, xs, rfl, h1, q1⟩ := r.lst
    split at e
    · rename_i ns e1
      cases e
      obtain ⟨rfl, _⟩ := q1.ints' e1
      exact .inl ⟨l, ns, rfl, .inl h1, fun p0 h0 => f p0 _ _ rfl (.ofInts _) h0⟩
    · rw [Option.map_eq_some_iff] at e
      obtain ⟨ps, e, rfl⟩ := e
      exact .inr ⟨l, xs, ps, rfl, h1, .of q1 e, fun p0 zs h0 hz => f p0 _ _ rfl hz.rf h0⟩
  · rw [Option.map_eq_some_iff] at e
    obtain ⟨ns, e, rfl⟩ := e
    obtain ⟨l, xs, rfl, h1, q1⟩ := r.tup
    obtain ⟨rfl, _⟩ := q1.ints' e
    exact .inl ⟨l, ns, rfl, .inr h1, fun p0 h0 => f p0 _ _ rfl (.ofInts _) h0⟩
  · cases e
theorem dn_sorted (v : NB Γ sc "sorted") (ha : DB Γ N sc ea a) (se : Se1 ea := by intro _; rfl) : DN Γ N sc (.Call (.Name "sorted" p) [ea] [] pos) (.op1 .sorted a) :=
  dn_op1 (fun _ _ _ X g ta h => pe_bi1 g cr_sortedB v (by decide +kernel) h se) (fun _ _ _ X g => okN_sorted) ha
end
end Cd
set_option Elab.async false
set_option linter.all false
set_option maxRecDepth 100000
set_option maxHeartbeats 4000000
namespace Cd
open PySem PySem.Spec PyProof.Rows L2
section
variable {Γ : Gm} {N : List Str} {sc : Sco} {e tg ea eb ec ed : Expr} {a b c : E} {ta : Te} {o : O2} {pos p p2 : Pos} {i j : Nat} {x y : Str}
end
end Cd
set_option Elab.async false
set_option linter.all false
set_option maxRecDepth 100000
set_option maxHeartbeats 4000000
namespace Cd
open PySem PySem.Spec PyProof.Rows L2
theorem TabEs.all {K : PySem.W.Frag} {P : Program} {w : World} {h : Heap} (X : K.In h) : ∀ {kvs : List (List Int × Int)} {es : List DictEntry}, TabEs K kvs es →
    ∃ xs : List (List Key × Addr × Value), es = xs.map (entryOfKey (tupleKind (mixKind P w))) ∧ xs.map (·.1) = kvs.map (fun p => p.1.map Sum.inl) ∧ (∀ x ∈ xs, IsTupleKey (mixKind P w) h x.1 x.2.1) ∧
      ∀ ks i, kvs.lookup ks = some i → ∃ t tok, atKey xs (ks.map Sum.inl) = some (t, .int i tok)
  | [], [], _ => ⟨[], rfl, rfl, (fun x hx => by cases hx), (fun ks i e => by cases e)⟩
  | [], _ :: _, z => False.elim z
  | _ :: _, [], z => False.elim z
  | p :: ps, e :: es, z => by
    obtain ⟨⟨t, tok, o, items, n, e1, e2, e3, hl, hc, hd, hi⟩, z2⟩ := z
    obtain ⟨xs, h1, h2, h3, h4⟩ := TabEs.all (P := P) (w := w) X z2
    have it : ∀ {ks : List Int} {vs : List Value}, IntsAre vs ks → ItemsAre (mixKind P w) (ks.map Sum.inl) vs := fun {ks vs} h => by
      induction h with
      | nil => exact .nil
      | cons n t _ ih => exact .cons (mixKind_int P w n t) ih
    refine ⟨(p.1.map Sum.inl, t, .int p.2 tok) :: xs, ?_, by rw [List.map_cons, List.map_cons, h2], fun x hx => ?_, fun ks i e => ?_⟩
    · rw [List.map_cons, h1]
      congr 1
      obtain ⟨eh, ek, ev⟩ := e
      simp only at e1 e2 e3
      rw [e1, e2, e3 P w]
      rfl
    · rcases List.mem_cons.mp hx with rfl | hx
      · exact ⟨o, items, n, X _ _ hl, hc, hd, it hi⟩
      · exact h3 x hx
    · have inj : ∀ {a b : List Int}, a.map (Sum.inl : Int → Key) = b.map Sum.inl → a = b := fun {a b} h => (List.map_inj_right (fun x y z => by cases z; rfl)).mp h
      rw [List.lookup_cons] at e
      unfold atKey
      by_cases c : ks = p.1
      · subst c
        simp at e
        subst e
        exact ⟨t, tok, by simp⟩
      · have c2 : (ks == p.1) = false := by simpa using c
        rw [c2] at e
        obtain ⟨t2, tok2, e4⟩ := h4 ks i e
        refine ⟨t2, tok2, ?_⟩
        unfold atKey at e4
        rw [List.find?_cons_of_neg]
        · exact e4
        · simp only [decide_eq_true_eq]
          exact fun z => c (inj z.symm)
section
variable {Γ : Gm} {N : List Str} {sc : Sco} {e tg ea eb ec : Expr} {a b c : E} {ta : Te} {o : O2} {pos p p2 p3 : Pos} {i j : Nat} {x y : Str}
theorem de_freeze {q : Pos} (v : VOk N sc i x) : DE Γ N sc (.Name x q) (.freeze i) := fun n I W X g => (v.pe g).imp fun σ H Q qq => by
  obtain ⟨env, s, eH, hr, er, _, pr⟩ := qq
  subst eH
  replace pr : PR X.K I W s σ (freezeK env i s.h) (VR X.K) Q := pr
  unfold freezeK at pr
  cases e0 : lstOf env s.h i with
  | none => rw [e0] at pr; exact False.elim pr
  | some p0 =>
    rw [e0] at pr
    obtain ⟨m, ts⟩ := p0
    obtain ⟨k1, k2⟩ := lstOf_of e0
    obtain ⟨k6, k7⟩ := ref_addr er k1
    obtain ⟨xs, k3, k4⟩ := hr.ob _ _ k2
    refine ⟨_, k6, ?_⟩
    simp only at pr k2 k3 k4 k6 k7
    have lm : Live s.h m 0 := ⟨_, k2, by intro z; cases z⟩
    have kf : KeepF s.F s.H (fun b => s.F b ∨ b = s.φ m 0) s.H := ⟨fun _ f => .inl f, fun _ _ _ e => e, fun _ _ e => e, fun _ _ _ e => e⟩
    have get : ∀ n, (s.h.set m .dead)[n]? = if m = n then some .dead else s.h[n]? := fun n => by
      rw [List.getElem?_set]
      by_cases c : m = n
      · rw [if_pos c, if_pos c, if_pos k7]
      · rw [if_neg c, if_neg c]
    have live : ∀ n j, Live (s.h.set m .dead) n j → n ≠ m ∧ Live s.h n j := fun n j l => by
      have ne : n ≠ m := by
        rintro rfl
        cases j with
        | zero =>
          obtain ⟨o, e, nd⟩ := l
          rw [get, if_pos rfl] at e
          exact nd (Option.some.inj e).symm
        | succ j =>
          rcases l with ⟨c, fs, ts, e, _⟩ | ⟨kvs, k, ts, e, _⟩
          · rw [get, if_pos rfl] at e; cases e
          · rw [get, if_pos rfl] at e; cases e
      refine ⟨ne, ?_⟩
      cases j with
      | zero =>
        obtain ⟨o, e, nd⟩ := l
        rw [get, if_neg (Ne.symm ne)] at e
        exact ⟨o, e, nd⟩
      | succ j =>
        rcases l with ⟨c, fs, ts, e, ef⟩ | ⟨kvs, k, ts, e, ef⟩
        · rw [get, if_neg (Ne.symm ne)] at e
          exact .inl ⟨c, fs, ts, e, ef⟩
        · rw [get, if_neg (Ne.symm ne)] at e
          exact .inr ⟨kvs, k, ts, e, ef⟩
    let s' : Sx := { s with h := s.h.set m .dead, F := fun b => s.F b ∨ b = s.φ m 0 }
    have le : Le s s' := ⟨by show s.h.length ≤ (s.h.set m .dead).length; rw [List.length_set]; exact Nat.le_refl _, fun _ _ => rfl, kf, fun b hb => ⟨hb, rfl⟩⟩
    have hr' : HR X.K I.ci s' := by
      refine ⟨fun n o e => ?_, fun n j m2 k l1 l2 e => hr.inj n j m2 k (live _ _ l1).2 (live _ _ l2).2 e, fun n j l f => ?_, fun b hb => ?_, fun b hb => ?_⟩
      · have e' : (s.h.set m .dead)[n]? = some o := e
        rw [get] at e'
        by_cases c : m = n
        · rw [if_pos c] at e'
          cases e'
          trivial
        · rw [if_neg c] at e'
          exact (hr.ob n o e').move (s' := s') kf e' fun j l => ⟨rfl, fun u e => e⟩
      · obtain ⟨ne, l'⟩ := live _ _ l
        rcases f with f | f
        · exact hr.nf n j l' f
        · exact ne (hr.inj n j m 0 l' lm f).1
      · obtain ⟨h1, h2, u, e⟩ := hr.bt b hb
        exact ⟨fun n j l => h1 n j (live _ _ l).2, fun f => f.elim h2 fun z => h1 m 0 lm z.symm, u, e⟩
      · rcases hb with hb | rfl
        · exact hr.ft b hb
        · exact ⟨_, k3⟩
    exact pr s' (.ref (s.φ m 0)) le rfl hr' (.lst (.inl ⟨.inr rfl, Rd.of k3⟩) (k4.keep kf))
theorem okN_rev {K : PySem.W.Frag} : Op1N K (fun x H Q => ∃ a xs, x = .ref a ∧ SqL K H a xs ∧ ∀ p, H p = none → Q (.ref p) (upd H p (.lst xs.reverse))) .rev := fun s d1 d x Q r e f => by
  replace e : revS d1 = some d := e
  unfold revS at e
  split at e
  · cases e
    obtain ⟨l, xs, rfl, h1, q1⟩ := r.lst
    exact ⟨l, xs, rfl, h1, fun p hp => f p _ _ rfl q1.reverse hp⟩
  · cases e
theorem dn_rev {k : Nat} {p1 p2 p3 : Pos} (ha : DB Γ N sc ea a) : DN Γ N sc (.Subscript ea (.Slice none none (some (.UnaryOp .USub (.Constant (.int 1) k p1) p2)) p3) pos) (.op1 .rev a) :=
  dn_op1 (r := fun X x H Q => ∃ a xs, x = .ref a ∧ SqL X.K H a xs ∧ ∀ p, H p = none → Q (.ref p) (upd H p (.lst xs.reverse))) (fun _ _ _ X g ta h => pe_revL h) (fun _ _ _ X g => okN_rev) ha
end
end Cd
set_option Elab.async false
set_option linter.all false
set_option maxRecDepth 100000
set_option maxHeartbeats 4000000
namespace Cd
open PySem PySem.Spec PyProof.Rows L2
section
variable {P : Program} {w : World} {A : Around} {E : Value → Shared → Prop} {s : Shared}
end
end Cd
set_option Elab.async false
set_option linter.all false
set_option maxRecDepth 100000
set_option maxHeartbeats 4000000
namespace Cd
open PySem PySem.Spec PyProof.Rows L2
section
variable {Γ : Gm} {N : List Str} {sc : Sco} {e tg ea eb ec : Expr} {a b c : E} {ta : Te} {o : O2} {pos p p2 p3 : Pos} {i j : Nat} {x y : Str}
end
end Cd
set_option Elab.async false
set_option linter.all false
set_option maxRecDepth 100000
set_option maxHeartbeats 4000000
namespace Cd
open PySem PySem.Spec PyProof.Rows L2
section
variable {K : PySem.W.Frag} {CI : CInf}
end
section
variable {Γ : Gm} {N : List Str} {sc : Sco} {e tg ea eb ec : Expr} {a b c : E} {o : O2} {pos p p2 : Pos} {t : Tg} {src : Src} {i0 : Nat} {x : Str}
end
end Cd
set_option Elab.async false
set_option linter.all false
set_option maxRecDepth 100000
set_option maxHeartbeats 4000000
namespace Cd
open PySem PySem.Spec PyProof.Rows L2
section
variable {K : PySem.W.Frag} {a t : Addr} {n : Nat} {tok : Tok} {h i : Int} {ks : List Int} {its : List Value} {xs : List V} {ts : List PyData}
theorem con_tup (hl : K.lookup a = some ⟨.type "tuple", none, .seq its.toArray n, #[]⟩) (hz : its.length ≤ 1000) (r : Vals xs its) (q : ∀ F H, RFs K F H ts xs) : ∀ F H, RF K F H (.tuple ts) (.ref a) := fun F H =>
  .tup (.st (.inr ⟨_, its.toArray, n, hl, rfl, rfl, rfl, by rw [List.size_toArray]; exact Nat.le_trans hz (by decide), r⟩)) (q F H)
end
end Cd
set_option Elab.async false
set_option linter.all false
set_option maxRecDepth 100000
set_option maxHeartbeats 4000000
namespace Cd
open PySem PySem.Spec PyProof.Rows L2
section
variable {Γ : Gm} {N : List Str} {sc : Sco} {e ea eb ec : Expr} {a b c : E} {o : O2} {pos p p2 p3 : Pos} {tg : Expr} {K : PySem.W.Frag}
theorem pe_neg1 {X : Cx} {k : Nat} : PE X (.UnaryOp .USub (.Constant (.int 1) k p2) p3) (tUn (rU fun i => .int (-i)) (fun σ H Q => Q (.int 1) H)) := pe_un un_neg pe_int
theorem di_rng3 {k : Nat} (v : NB Γ sc "range") (ha : DV Γ N sc ea a) (hb : DV Γ N sc eb b)
    (se : ∀ env, starEach [ea, eb, .UnaryOp .USub (.Constant (.int 1) k p2) p3] env = [(false, eval ea env), (false, eval eb env), (false, eval (.UnaryOp .USub (.Constant (.int 1) k p2) p3) env)] := by intro _; rfl)
    (se2 : ∀ env, starEach [eb, .UnaryOp .USub (.Constant (.int 1) k p2) p3] env = [(false, eval eb env), (false, eval (.UnaryOp .USub (.Constant (.int 1) k p2) p3) env)] := by intro _; rfl) :
    DI Γ N sc tg (.Call (.Name "range" p) [ea, eb, .UnaryOp .USub (.Constant (.int 1) k p2) p3] [] pos) (.rng3 a b) := fun n I W X g =>
  (pi_range3 (v.g.g g) (g.nob _ v.m) (pa_cons (ha n I W X g) (pa_cons (hb n I W X g) (pa_cons pe_neg1 pa_nil (by rfl)) (by rw [se2]; rfl)) (by rw [se, se2])) (by rw [se, se2]) (by rw [se2]; rfl)).imp fun σ H R q => by
    obtain ⟨env, s, eH, hr, er, _, pr⟩ := At.bind (Rel1 := PRl X.K) (ev2 := fun d env h1 => ((evalE (callF Γ.fns n) env b h1).bind unP).bind fun e h2 => rng3K d e h2) q
    refine ⟨env, s, eH, hr, er, trivial, ?_⟩
    refine PR.mono pr fun x H1 ⟨d, q⟩ => ?_
    obtain ⟨env, s, eH, hr, er, _, pr⟩ := At.bind (Rel1 := PRl X.K) (G' := fun s => PRl X.K s d x) (ev2 := fun e env h2 => rng3K d e h2) q (fun s s' l g => g.2.le l)
    refine ⟨env, s, eH, hr, er, trivial, ?_⟩
    refine PR.mono pr fun y H2 ⟨d2, env, s, e, hr, er, ⟨r1, r2⟩, pr2⟩ => ?_
    subst e
    replace pr2 : PR X.K I W s σ (rng3K d d2 s.h) (JR X.K I.ci) R := pr2
    rcases rng3K_inv d d2 s.h with ⟨i, j, rfl, rfl, g1, g2, e⟩ | e
    · rw [e] at pr2
      obtain rfl := RF.int_inv r1
      obtain rfl := RF.int_inv r2
      obtain ⟨h1, h2⟩ := rngOk_of g1
      obtain ⟨h3, h4⟩ := rngOk_of g2
      refine ⟨1, rfl, i, j, -1, _, rfl, RgC.neg h1 h2 h3 h4, ?_⟩
      exact pr2 s _ (.refl s) rfl hr jr_rngC
    · rw [e] at pr2
      exact False.elim pr2
/-- two comparisons one behind the other, of things that are looked up -/
theorem de_chain {op op' : CmpOp} {o o' : O2} {r r' : Cx → R2} (hr1 : ∀ n I W X, GX Γ n I N sc W X → OpR X (compareOp op) (r X)) (hr2 : ∀ n I W X, GX Γ n I N sc W X → OpR X (compareOp op') (r' X))
    (ok1 : ∀ X : Cx, Op2Pu X.K (r X) o) (ok2 : ∀ X : Cx, Op2Pu X.K (r' X) o') (bo : ∀ x y d, opf2 o x y = some d → ∃ k, d = .bool k)
    (hm : ∀ b c : Expr, lastMarks [op, op'] [b, c] = false)
    (ha : DP Γ N sc ea a) (hb : DP Γ N sc eb b) (hc : DP Γ N sc ec c) : DE Γ N sc (.Compare ea [op, op'] [eb, ec] pos) (.and_ (.op2d o a b) (.op2d o' b c)) := fun n I W X g =>
  (pe_chain (hr1 n I W X g) (hr2 n I W X g) (ha.run n I W X g) (hb.run n I W X g) (hc.run n I W X g) (hm eb ec)).imp fun σ H Q q => by
    obtain ⟨env, s, eH, hr, er, _, pr⟩ := q
    refine ⟨env, s, eH, hr, er, ?_⟩
    replace pr : PR X.K I W s σ ((((evalE (callF Γ.fns n) env a s.h).bind unP).bind fun x h1 => ((evalE (callF Γ.fns n) env b h1).bind unP).bind fun y h2 => ofO ((opf2 o x y).map Val.p) h2).bind fun v h1 => andK (fun h2 => ((evalE (callF Γ.fns n) env b h2).bind unP).bind fun x h3 => ((evalE (callF Γ.fns n) env c h3).bind unP).bind fun y h4 => ofO ((opf2 o' x y).map Val.p) h4) v h1) (VR X.K) Q := pr
    subst eH
    rcases ha.pure (callF Γ.fns n) env s.h with ⟨v, e⟩ | e
    case inr => rw [e] at pr; exact False.elim pr
    rcases hb.pure (callF Γ.fns n) env s.h with ⟨v2, e2⟩ | e2
    case inr =>
      cases v with
      | ref m => rw [e] at pr; exact False.elim pr
      | p d1 =>
        rw [e] at pr
        simp only [R.bind_ok, unP, e2] at pr
        exact False.elim pr
    cases v with
    | ref m => rw [e] at pr; exact False.elim pr
    | p d1 =>
      cases v2 with
      | ref m =>
        rw [e] at pr
        simp only [R.bind_ok, unP, e2] at pr
        exact False.elim pr
      | p d2 =>
        rw [e] at pr
        simp only [R.bind_ok, unP, e2] at pr
        show (match evalE (callF Γ.fns n) env a s.h with
        | .ok (.p d) h' => h' = s.h ∧ ∀ x, RF X.K s.F s.H d x → _
        | _ => False)
        rw [e]
        refine ⟨rfl, fun x rx => ⟨env, s, rfl, hr, er, ?_⟩⟩
        show (match evalE (callF Γ.fns n) env b s.h with
        | .ok (.p d) h' => h' = s.h ∧ ∀ x, RF X.K s.F s.H d x → _
        | _ => False)
        rw [e2]
        refine ⟨rfl, fun y ry => ?_⟩
        cases e3 : opf2 o d1 d2 with
        | none => rw [e3] at pr; exact False.elim pr
        | some d3 =>
          rw [e3] at pr
          obtain ⟨k, rfl⟩ := bo _ _ _ e3
          refine ok1 X s d1 d2 _ x y _ (.inl rx) (.inl ry) e3 fun z rz => ?_
          obtain rfl : z = .bl k := RF.bl_inv rz
          refine ⟨k, rfl, ?_⟩
          cases k with
          | false =>
            rw [if_neg (by decide)]
            exact pr s _ (.refl s) rfl hr (.bl _)
          | true =>
            rw [if_pos rfl]
            refine ⟨env, s, rfl, hr, er, ?_⟩
            show (match evalE (callF Γ.fns n) env c s.h with
            | .ok (.p d) h' => h' = s.h ∧ ∀ x, RF X.K s.F s.H d x → _
            | _ => False)
            simp only [Option.map_some, ofO_some, R.bind_ok, andK, e2, unP] at pr
            rcases hc.pure (callF Γ.fns n) env s.h with ⟨v4, e4⟩ | e4
            case inr => rw [e4] at pr; exact False.elim pr
            rw [e4] at pr ⊢
            cases v4 with
            | ref m => exact False.elim pr
            | p d4 =>
              simp only [R.bind_ok, unP] at pr
              refine ⟨rfl, fun w rw' => ?_⟩
              cases e5 : opf2 o' d2 d4 with
              | none => rw [e5] at pr; exact False.elim pr
              | some d5 =>
                rw [e5] at pr
                exact ok2 X s d2 d4 d5 y w _ (.inl ry) (.inl rw') e5 fun z rz => pr s _ (.refl s) rfl hr rz
theorem de_leLe (ha : DP Γ N sc ea a) (hb : DP Γ N sc eb b) (hc : DP Γ N sc ec c) : DE Γ N sc (.Compare ea [.LtE, .LtE] [eb, ec] pos) (.and_ (.op2d .le a b) (.op2d .le b c)) :=
  de_chain (r := fun X => rCmp X.K (fun i j => decide (i ≤ j)) fun d e => !PySem.W.dataLt e d) (r' := fun X => rCmp X.K (fun i j => decide (i ≤ j)) fun d e => !PySem.W.dataLt e d) (fun _ _ _ X g => op_le.or (op_leG g.hu)) (fun _ _ _ X g => op_le.or (op_leG g.hu)) (fun _ => ok_cmp fun _ _ => rfl) (fun _ => ok_cmp fun _ _ => rfl) (fun _ _ _ e => cmp_bool e) (fun b c => by simp only [lastMarks]; exact nomark c) ha hb hc
def rPlace (K : PySem.W.Frag) (t : Bool) : V → List V → Hp → VK → Prop := fun x xs H Q => ∃ (p : Addr) (ys : List V) (ds : List PyData) (y : V) (d : PyData) (j : Nat), x = .ref p ∧ xs = [y] ∧ (if t = true then SqT K H p ys else SqL K H p ys) ∧ DpAll K H ys ds ∧ Dp K H y d ∧ PyData.plainAll ds = true ∧ d.plain = true ∧ d.depth ≤ 60 ∧
  PySem.SeqAt.dataPlace ds d = some j ∧ Q (.int (j : Int)) H
theorem mt_placeL {X : Cx} (hu : X.A.units + 64 < cLine) : MtR X "list.index" (rPlace X.K false) := by
  intro pins s σ H x xs v us Q I rx rxs h
  obtain ⟨p, ys, ds, y, d, j, rfl, rfl, hs, dp, dy, h1, h2, h3, hp, q⟩ := h
  cases rx
  obtain ⟨u, rfl, ru⟩ := rxs.one
  obtain ⟨its, rv, hl, hz⟩ := I.list hs
  obtain ⟨as, ra⟩ := Dp.readsAll I _ _ its dp rv
  obtain ⟨bs, rb⟩ := Dp.reads I _ _ _ dy ru
  obtain ⟨hj, hit, hno⟩ := PySem.SeqAt.hit_at (vs := its.toArray) ra h1 hp
  have hn := rv.length
  have hsl := sizeLine_eq
  have hjl : j < its.length := by
    have z := hj
    rw [List.size_toArray] at z
    exact z
  obtain ⟨⟨cls, dd, data, sls⟩, n, ho, hc, hdn, hdt⟩ := hl
  simp only at hc hdt
  subst hc hdt
  exact call_meets PySem.F.slot_list_index ⟨_, ho, rfl⟩ PySem.F.entry_list_index (PySem.F.args_list_index_2 _ _)
    (PySem.SeqAt.list_indexAt p its.toArray n dd sls u _ j hj (by omega) hit hno) ⟨ho, PySem.SeqAt.items_plain (vs := its.toArray) ra rb h1 h2 (by omega), ⟨.int (j : Int), H, I.tok _, ⟨_, rfl⟩, q⟩⟩
theorem placeD_inv {ds : List PyData} {d z : PyData} (e : placeD ds d = some z) : PyData.plainAll ds = true ∧ d.plain = true ∧ d.depth ≤ 60 ∧ ∃ j : Nat, PySem.SeqAt.dataPlace ds d = some j ∧ z = .int (j : Int) := by
  unfold placeD at e
  split at e
  · rename_i h
    simp only [Bool.and_eq_true, decide_eq_true_eq] at h
    rw [Option.map_eq_some_iff] at e
    obtain ⟨j, e1, rfl⟩ := e
    exact ⟨h.1.1, h.1.2, h.2, j, e1, rfl⟩
  · cases e
theorem indexD_inv {x y z : PyData} (e : indexD x y = some z) : ∃ ds, x = .list ds ∧ placeD ds y = some z := by
  unfold indexD at e
  split at e
  · exact ⟨_, rfl, e⟩
  · cases e
variable {apos : Pos}
theorem de_index (ha : DB Γ N sc ea a) (hb : DP Γ N sc eb b) (m : MOk p apos) (hbs : ∀ env, attributeBase ea "index" env (eval ea env) = eval ea env := by intro _; rfl) (hf : Few eb p := by intro _; rfl) (se : Se1 eb := by intro _; rfl) :
    DE Γ N sc (.Call (.Attribute ea "index" apos) [eb] [] p) (.op2b .index a b) := fun n I W X g =>
  (pe_bm PySem.F.plainAttrs_list PySem.F.slot_list_index PySem.F.type_list_index (mt_placeL g.hu) (ha n I W X g) (pa_cons (hb.run n I W X g) pa_nil (se _)) (hbs _) (hf _) m.line (se _) rfl).imp fun σ H Q q =>
    bm2_imp (fun s d1 d2 d x y Q r1 r2 e f => by
      obtain ⟨ds, rfl, e'⟩ := indexD_inv e
      obtain ⟨h1, h2, h3, j, hj, rfl⟩ := placeD_inv e'
      obtain ⟨a, xs, rfl, k1, k2⟩ := r1.lst
      exact ⟨a, xs, ds, y, d2, j, rfl, rfl, k1, k2.dp, r2.dp, h1, h2, h3, hj, f.1 _ (.int _)⟩) (fun s d1 d2 d x r1 e => by
      obtain ⟨ds, rfl, e'⟩ := indexD_inv e
      obtain ⟨a, xs, rfl, k1, k2⟩ := r1.lst
      exact .inl ⟨rfl, xs, k1⟩) hb.pure q
theorem ER.same {K : PySem.W.Frag} {s : Sx} {env : Ev} {σ : L2.St} (r : ER K s env σ) {i : Nat} {v : Val} {x : V} (e : σ[i]? = some (some x)) (q : VR K s v x) : ER K s (setSlot env i (some v)) σ where
  len := by rw [setSlot_length]; exact r.len
  at_ := fun j w ew => by
    by_cases c : j = i
    · subst c
      have hl : j < env.length := by rw [r.len]; exact (List.getElem?_eq_some_iff.mp e).1
      rw [slot_set_same hl] at ew
      cases ew
      exact ⟨x, e, q⟩
    · rw [slot_set_ne c] at ew
      exact r.at_ j w ew
theorem catD_invL {ts : List PyData} {d z : PyData} (e : catD (.list ts) d = some z) : ∃ us, d = .list us ∧ z = .list (ts ++ us) ∧ ts.length + us.length ≤ sizeLine := by
  cases d with
  | list us =>
    have e' : (if ts.length + us.length ≤ sizeLine then some (PyData.list (ts ++ us)) else none) = some z := e
    by_cases c : ts.length + us.length ≤ sizeLine
    · rw [if_pos c] at e'
      cases e'
      exact ⟨us, rfl, rfl, c⟩
    · rw [if_neg c] at e'; cases e'
  | _ => cases e
theorem dn_catB {i : Nat} {x : Str} {q : Pos} (v : VOk N sc i x) (hb : DV Γ N sc eb b) : DN Γ N sc (.BinOp (.Name x q) .Add eb pos) (.catB i b) := fun n I W X g =>
  (pe_op op_catR (v.pe g) (hb n I W X g)).imp fun σ H Q qq => by
    obtain ⟨env, s, eH, hr, er, _, pr⟩ := qq
    subst eH
    replace pr : PR X.K I W s σ ((match lstOf env s.h i with
      | none => .stuck
      | some _ => ((evalE (callF Γ.fns n) env b s.h).bind unP).bind fun y h1 => catBK env i y h1 : R Val).bind unP) (RN X.K) Q := pr
    cases e0 : lstOf env s.h i with
    | none => rw [e0] at pr; exact False.elim pr
    | some p0 =>
    rw [e0] at pr
    obtain ⟨m, ts0⟩ := p0
    obtain ⟨k1, k2⟩ := lstOf_of e0
    obtain ⟨k6, k7⟩ := ref_addr er k1
    refine ⟨_, k6, env, s, rfl, hr, er, trivial, ?_⟩
    replace pr : PR X.K I W s σ ((((evalE (callF Γ.fns n) env b s.h).bind unP).bind fun y h1 => catBK env i y h1).bind unP) (RN X.K) Q := pr
    show PR X.K I W s σ ((evalE (callF Γ.fns n) env b s.h).bind unP) (PRl X.K) _
    generalize (evalE (callF Γ.fns n) env b s.h).bind unP = r at pr ⊢
    cases r with
    | exc e h1 => exact pr
    | stuck => exact pr
    | ok d h1 =>
      intro s' y l eh hr' rel
      subst eh
      replace pr : PR X.K I W s σ ((catBK env i d s'.h).bind unP) (RN X.K) Q := pr
      unfold catBK at pr
      cases e1 : lstOf env s'.h i with
      | none => rw [e1] at pr; exact False.elim pr
      | some p1 =>
        rw [e1] at pr
        obtain ⟨m', ts⟩ := p1
        obtain ⟨j1, j2⟩ := lstOf_of e1
        have em : m' = m := by
          rw [k1] at j1
          cases j1
          rfl
        subst em
        obtain ⟨xs, k3, k4⟩ := hr'.ob _ _ j2
        rw [l.ph m' k7] at k3
        simp only at pr
        cases ez : catD (.list ts) d with
        | none => rw [ez] at pr; exact False.elim pr
        | some z =>
          rw [ez] at pr
          obtain ⟨us, rfl, rfl, hz⟩ := catD_invL ez
          obtain ⟨a, ys, rfl, h1, q1⟩ := RB.lst (.inl rel : RB X.K s' (.list us) y)
          have h3 : Rd s'.H (s.φ m' 0) (.lst xs) := Rd.of k3
          refine ⟨_, a, xs, ys, rfl, rfl, .inl h3, h1, by rw [← k4.length, ← q1.length]; exact hz, fun p hp => ?_⟩
          exact pr (s'.put p (.lst _) false) _ (l.trans (hr'.put_le hp)) rfl (hr'.put hp) (RN.new hr' hp (k4.append q1))
end
end Cd
set_option Elab.async false
set_option linter.all false
set_option maxRecDepth 100000
set_option maxHeartbeats 4000000
namespace Cd
open PySem PySem.Spec PyProof.Rows L2
section
variable {prog : Program} {w : World} {A : Around} {E : Value → Shared → Prop} {s : Shared}
theorem applied_rev {sl : Addr} {vl vu vs : Value} {n : Nat} {Q : Int × Int × Nat → Shared → Prop} (hs : s.heap.IsSliceOf sl vl vu vs) (pl : IsPart vl none) (pu : IsPart vu none) (ps : IsPart vs (some (-1)))
    (h : Q ((n : Int) - 1, -1, n) s) : wpAny (model prog w) A (Builtin.Slice.sliceApplied (.ref sl) (pure (n : Int))) Q E s := by
  obtain ⟨os, hos, hcs, hds⟩ := id hs
  unfold Builtin.Slice.sliceApplied Builtin.Slice.sliceFields
  refine wpAny_bind (wpAny_bind (wpAny_field hos hds (x := vl) rfl (wpAny_bind (wpAny_field hos hds (x := vu) rfl (wpAny_bind (wpAny_field hos hds (x := vs) rfl (wpAny_pure ?_)))))))
  refine wpAny_bind (HT.slicePart_ ps ?_)
  show wpAny _ _ (if ((-1 : Int) == 0) = true then _ else _) _ _ s
  rw [if_neg (by decide)]
  refine wpAny_bind (HT.slicePart_ pl (wpAny_bind (HT.slicePart_ pu (wpAny_bind (wpAny_pure ?_)))))
  have pn : Builtin.Slice.slicePlaces ((n : Int) - 1) (-1) (-1) = n := by
    unfold Builtin.Slice.slicePlaces
    rw [if_neg (by decide)]
    by_cases c : (n : Int) - 1 > -1
    · rw [if_pos c, show (- -1 : Int) = 1 by decide, Int.ediv_one]; omega
    · rw [if_neg c]; omega
  show wpAny _ _ (pure ((n : Int) - 1, (-1 : Int), Builtin.Slice.slicePlaces ((n : Int) - 1) (-1) (-1))) _ _ s
  rw [pn]
  exact wpAny_pure h
theorem pick_rev (xs : Array Value) : ((List.range xs.size).filterMap fun (m : Nat) => xs[(((xs.size : Int) - 1) + (m : Int) * -1).toNat]?).toArray = xs.toList.reverse.toArray := by
  have e : (List.range xs.size).filterMap (fun (m : Nat) => xs[(((xs.size : Int) - 1) + (m : Int) * -1).toNat]?) = (List.range xs.size).filterMap ((fun i => xs[i]?) ∘ fun k => xs.size - 1 - k) := by
    have cg : ∀ (f g : Nat → Option Value) (l : List Nat), (∀ m ∈ l, f m = g m) → l.filterMap f = l.filterMap g := fun f g l => by
      induction l with
      | nil => intro _; rfl
      | cons a l ih => intro h; rw [List.filterMap_cons, List.filterMap_cons, h a List.mem_cons_self, ih fun m hm => h m (List.mem_cons_of_mem _ hm)]
    refine cg _ _ _ fun m hm => ?_
    have := List.mem_range.mp hm
    have : (((xs.size : Int) - 1) + (m : Int) * -1).toNat = xs.size - 1 - m := by omega
    show xs[(((xs.size : Int) - 1) + (m : Int) * -1).toNat]? = xs[xs.size - 1 - m]?
    rw [this]
  rw [e, ← List.filterMap_map, PySem.W.krv_range, List.filterMap_reverse, PySem.W.krv_all]
theorem getItem_tuple_rev {t sl : Addr} {items : Array Value} {vl vu vs : Value} {Q : Value → Shared → Prop} (ht : IsTup s.heap t items) (hs : s.heap.IsSliceOf sl vl vu vs) (pl : IsPart vl none) (pu : IsPart vu none) (ps : IsPart vs (some (-1)))
    (h : Q (.ref s.heap.objs.size) { s with heap := s.heap.push { cls := .type "tuple", data := .seq items.toList.reverse.toArray } })
    (hsz : items.size ≤ sizeLine) : wpAny (model prog w) A (getItem (.ref t) (.ref sl)) Q E s := by
  have htake : sizeOk (.seq items.toList.reverse.toArray) := by
    show items.toList.reverse.toArray.size ≤ sizeLine
    rw [List.size_toArray, List.length_reverse, Array.length_toList]
    exact hsz
  obtain ⟨os, hos, hcs, hds⟩ := id hs
  have hTs : s.TypeIs (.ref sl) "slice" := ⟨os, hos, hcs⟩
  unfold getItem
  try with_reducible refine wpAny_holding ?_
  first | refine wpAny_bind (wpAny_pure ?_) | skip
  refine wpAny_bind (wpAny_sequenceKey ht.typeIs (by decide) ?_)
  refine wpAny_bind (wpAny_callSpecial?_slot (name := Str.ofString "__getitem__") ht.typeIs PyProof.Rows.slot_tuple_getitem
    (wpAny_call_entry PyProof.Rows.slot_tuple_getitem ht.typeIs entry_tuple_getitem ?_ (args_tuple_getitem _ _)))
  show wpAny _ _ (Builtin.Tuple.tupleItemsOf (.ref t) >>= _) _ _ s
  refine wpAny_bind (tupleItemsOf_ ht ?_)
  refine wpAny_bind (wpAny_typeOf hTs ?_)
  rw [if_pos (by decide)]
  refine wpAny_bind (applied_rev hs pl pu ps ?_)
  show wpAny _ _ (if (((items.size : Int) - 1 == 0) && ((-1 : Int) == 1) && (items.size == items.size)) = true then _ else _) _ _ s
  rw [if_neg (by rw [show ((-1 : Int) == 1) = false by decide, Bool.and_false, Bool.false_and]; exact Bool.false_ne_true), pick_rev]
  first
    | exact wpAny_bind (m := Builtin.Tuple.tupleExact _) (wpAny_newObj_type (wpAny_pure ⟨_, rfl, wpAny_pure h⟩) htake)
    | exact wpAny_bind (m := Builtin.Tuple.tupleExact _) (wpAny_newObj_type (wpAny_bind (wpAny_pure (wpAny_pure ⟨_, rfl, wpAny_pure h⟩))) htake)
    | exact wpAny_bind (wpAny_bind (m := Builtin.Tuple.tupleExact _) (wpAny_newObj_type (wpAny_pure (wpAny_pure ⟨_, rfl, wpAny_pure h⟩)) htake))
    | exact wpAny_bind (wpAny_bind (m := Builtin.Tuple.tupleExact _) (wpAny_newObj_type (wpAny_pure ⟨_, rfl, wpAny_pure h⟩) htake))
end
def rRevT (K : PySem.W.Frag) : V → Hp → VK → Prop := fun x H Q => ∃ a xs, x = .ref a ∧ SqT K H a xs ∧ ∀ p o, H p = none → TupO o → Q (.ref p) (upd H p (.frz o (.tup xs.reverse)))
theorem pe_revT {X : Cx} {e : Expr} {te : TE} {k : Nat} {p1 p2 p3 pos : Pos} (he : PE X e te) : PE X (.Subscript e (.Slice none none (some (.UnaryOp .USub (.Constant (.int 1) k p1) p2)) p3) pos) (tUn (rRevT X.K) te) := by
  refine ⟨fun pins s σ H Q I h => ?_⟩
  refine Subscript_ (thn (he.run pins s σ H _ I h) fun v s1 ⟨x, H1, I1, r1, q1⟩ => ?_)
  obtain ⟨a, xs, ex, hx, q⟩ := q1
  subst ex
  cases r1
  have hst : PO X (some (.UnaryOp .USub (.Constant (.int 1) k p1) p2)) (tPart (tUn (rU fun i => .int (-i)) (tC (.int 1)))) := po_some (pe_un un_neg pe_int)
  refine wpAny_Slice (thn (po_none.run pins s1 σ H1 (fun o H2 => o = none ∧ H2 = H1) I1 ⟨rfl, rfl⟩) fun vl s2 ⟨l, H2, I2, pl, el, e2⟩ => ?_)
  subst el e2
  refine thn (po_none.run pins s2 σ H2 (fun o H3 => o = none ∧ H3 = H2) I2 ⟨rfl, rfl⟩) fun vu s3 ⟨u, H3, I3, pu, eu, e3⟩ => ?_
  subst eu e3
  refine thn (hst.run pins s3 σ H3 (fun o H4 => o = some (-1) ∧ H4 = H3) I3 ⟨1, rfl, -1, rfl, rfl, rfl⟩) fun vs s4 ⟨o, H4, I4, ps, eo, e4⟩ => ?_
  subst eo e4
  have I5 : Inv X pins σ H4 { s4 with heap := s4.heap.push { cls := .type "slice", data := .fields #[vl, vu, vs] } } := I4.kept (t' := s4.toks) fun b ob q => Heap.get?_push_of_some _ q
  obtain ⟨its, r, ht, hz⟩ := I5.tuple hx
  have hlen := r.length
  show wpAny (model X.prog X.w) X.A (subscriptTail e (.Slice none none (some (.UnaryOp .USub (.Constant (.int 1) k p1) p2)) p3) (.ref a) (.ref s4.heap.objs.size)) (EP X pins σ Q) X.xe { s4 with heap := s4.heap.push { cls := .type "slice", data := .fields #[vl, vu, vs] } }
  refine tail_any (ops := [.ref a, .ref s4.heap.objs.size]) ht.typeIs (PyProof.Rows.slot_tuple_getitem.lookup) ?_ (by with_unfolding_all rfl)
  refine getItem_tuple_rev ht (Heap.IsSliceOf.new _ vl vu vs) pl pu ps ?_ (by rw [List.size_toArray]; omega)
  refine ⟨.ref _, _, I5.laid (t' := s4.toks) (o := .frz { cls := .type "tuple", data := .seq its.reverse.toArray } (.tup xs.reverse)) (fun b ob q => Heap.get?_push_of_some _ q) (Nat.le_refl _) ?_, rfl, q _ _ (I5.hok.fresh (Nat.le_refl _)) ⟨rfl, rfl⟩⟩
  exact ⟨Heap.get?_push_size _ rfl, by rw [List.length_reverse]; exact hz, _, r.reverse, IsTup.new _ _⟩
def Tps (K : PySem.W.Frag) (H : Hp) (rs : List (List Int)) (xs : List V) : Prop := PySem.W.EachIs (fun x ns => ∃ t, x = V.ref t ∧ SqT K H t (ns.map V.int)) xs rs
theorem Tps.rf {K : PySem.W.Frag} {F : Addr → Prop} {H : Hp} {rs : List (List Int)} {xs : List V} (h : Tps K H rs xs) : RFs K F H (rs.map tupD) xs := by
  unfold Tps at h
  induction h with
  | nil => exact .nil
  | cons h _ ih =>
    obtain ⟨t, rfl, s⟩ := h
    exact .cons (.tup (.lo s (needT_ints _)) (.ofInts _)) ih
theorem Tps.of {K : PySem.W.Frag} {F : Addr → Prop} {H : Hp} : ∀ {ts : List PyData} {xs : List V} {rs : List (List Int)}, RFs K F H ts xs → tupsD ts = some rs → Tps K H rs xs ∧ ts = rs.map tupD ∧ ∀ r ∈ rs, r ≠ []
  | [], _, _, .nil, e => by cases e; exact ⟨.nil, rfl, fun r h => by cases h⟩
  | d :: ds, _, rs, .cons (v := v) (vs := vs) r t, e => by
    have : ∃ a as, d = .tuple (a :: as) := by
      cases d with
      | tuple ts => match ts, e with
        | a :: as, _ => exact ⟨a, as, rfl⟩
      | _ => cases e
    obtain ⟨a, as, rfl⟩ := this
    replace e : ((intsD (a :: as)).bind fun ns => (tupsD ds).map (ns :: ·)) = some rs := e
    rw [Option.bind_eq_some_iff] at e
    obtain ⟨ns, e1, e2⟩ := e
    rw [Option.map_eq_some_iff] at e2
    obtain ⟨qs, e2, rfl⟩ := e2
    obtain ⟨i1, i2, i3⟩ := Tps.of t e2
    obtain ⟨p, ys, rfl, s, r2⟩ := r.tup_inv
    obtain ⟨rfl, ed⟩ := r2.ints' e1
    refine ⟨.cons ⟨p, rfl, s⟩ i1, ?_, fun r h => ?_⟩
    · rw [List.map_cons, ← i2, ed]; rfl
    · rcases List.mem_cons.mp h with rfl | h
      · intro z
        rw [z] at ed
        cases ed
      · exact i3 r h
section
variable {K : PySem.W.Frag} {Γ : Gm} {N : List Str} {sc : Sco} {ea eb : Expr} {a b : E} {pos p p2 apos : Pos}
theorem ok_revT : Op1Ok K (rRevT K) .revT := fun s d1 d x Q r e f => by
  replace e : revTS d1 = some d := e
  unfold revTS at e
  split at e
  · cases e
    obtain ⟨a, xs, rfl, h1, q1⟩ := r.tup
    exact ⟨a, xs, rfl, h1, fun p o hp ho => f.2 p _ hp (tup_new hp ho q1.reverse)⟩
  · cases e
theorem de_revT {k : Nat} {p1 p2 p3 : Pos} (ha : DB Γ N sc ea a) : DE Γ N sc (.Subscript ea (.Slice none none (some (.UnaryOp .USub (.Constant (.int 1) k p1) p2)) p3) pos) (.op1 .revT a) :=
  de_op1 (r := fun X => rRevT X.K) (fun _ _ _ X g ta h => pe_revT h) (fun _ _ _ X g => ok_revT) ha
end
end Cd
set_option Elab.async false
set_option linter.all false
set_option maxRecDepth 100000
set_option maxHeartbeats 4000000
namespace Cd
open PySem PySem.Spec PyProof.Rows L2
section
variable {Γ : Gm} {N : List Str} {sc : Sco} {ea : Expr} {a : E} {pos p p2 p3 : Pos}
end
end Cd
set_option Elab.async false
set_option linter.all false
set_option maxRecDepth 100000
set_option maxHeartbeats 4000000
namespace PySem.W
open PySem PySem.SeqAt PyProof.Rows
section
variable {prog : Program} {w : World} {A : Around} {E : Value → Shared → Prop} {s : Shared}
end
end PySem.W
namespace Cd
open PySem PySem.Spec PyProof.Rows L2
section
variable {Γ : Gm} {N : List Str} {sc : Sco} {e ea eb ec : Expr} {a b c : E} {pos p p2 p3 : Pos}
def two (o : O1) (cf : Calls) (env : Ev) (h : Hi) (a b : E) : R Val := ((evalE cf env a h).bind unP).bind fun x h1 => ((evalE cf env b h1).bind unP).bind fun y h2 => ofO ((opf1 o (.tuple [x, y])).map Val.p) h2
end
end Cd
set_option Elab.async false
set_option linter.all false
set_option maxRecDepth 100000
set_option maxHeartbeats 4000000
namespace Cd
open PySem PySem.Spec PyProof.Rows L2
section
variable {Γ : Gm} {N : List Str} {sc : Sco} {e ea eb ec : Expr} {a b c : E} {o : O2} {pos p p2 p3 : Pos}
theorem chain_imp {o o' : O2} {r r' : R2} {n : Nat} {I : Inf} {W : WX} {X : Cx} (ok1 : Op2Pu X.K r o) (ok2 : Op2Pu X.K r' o') (bo : ∀ x y d, opf2 o x y = some d → ∃ k, d = .bool k)
    (ha : DP Γ N sc ea a) (hb : DP Γ N sc eb b) (hc : DP Γ N sc ec c) {σ : L2.St} {H : Hp} {Q : VK} (q : tE X.K I W (fun env h => evalE (callF Γ.fns n) env (.and_ (.op2d o a b) (.op2d o' b c)) h) (VR X.K) σ H Q) :
    tChain r r' (tP X.K I (fun env h => evalE (callF Γ.fns n) env a h)) (tP X.K I (fun env h => evalE (callF Γ.fns n) env b h)) (tP X.K I (fun env h => evalE (callF Γ.fns n) env c h)) σ H Q := by
    obtain ⟨env, s, eH, hr, er, _, pr⟩ := q
    refine ⟨env, s, eH, hr, er, ?_⟩
    replace pr : PR X.K I W s σ ((((evalE (callF Γ.fns n) env a s.h).bind unP).bind fun x h1 => ((evalE (callF Γ.fns n) env b h1).bind unP).bind fun y h2 => ofO ((opf2 o x y).map Val.p) h2).bind fun v h1 => andK (fun h2 => ((evalE (callF Γ.fns n) env b h2).bind unP).bind fun x h3 => ((evalE (callF Γ.fns n) env c h3).bind unP).bind fun y h4 => ofO ((opf2 o' x y).map Val.p) h4) v h1) (VR X.K) Q := pr
    subst eH
    rcases ha.pure (callF Γ.fns n) env s.h with ⟨v, e⟩ | e
    case inr => rw [e] at pr; exact False.elim pr
    rcases hb.pure (callF Γ.fns n) env s.h with ⟨v2, e2⟩ | e2
    case inr =>
      cases v with
      | ref m => rw [e] at pr; exact False.elim pr
      | p d1 =>
        rw [e] at pr
        simp only [R.bind_ok, unP, e2] at pr
        exact False.elim pr
    cases v with
    | ref m => rw [e] at pr; exact False.elim pr
    | p d1 =>
      cases v2 with
      | ref m =>
        rw [e] at pr
        simp only [R.bind_ok, unP, e2] at pr
        exact False.elim pr
      | p d2 =>
        rw [e] at pr
        simp only [R.bind_ok, unP, e2] at pr
        show (match evalE (callF Γ.fns n) env a s.h with
        | .ok (.p d) h' => h' = s.h ∧ ∀ x, RF X.K s.F s.H d x → _
        | _ => False)
        rw [e]
        refine ⟨rfl, fun x rx => ⟨env, s, rfl, hr, er, ?_⟩⟩
        show (match evalE (callF Γ.fns n) env b s.h with
        | .ok (.p d) h' => h' = s.h ∧ ∀ x, RF X.K s.F s.H d x → _
        | _ => False)
        rw [e2]
        refine ⟨rfl, fun y ry => ?_⟩
        cases e3 : opf2 o d1 d2 with
        | none => rw [e3] at pr; exact False.elim pr
        | some d3 =>
          rw [e3] at pr
          obtain ⟨k, rfl⟩ := bo _ _ _ e3
          refine ok1 s d1 d2 _ x y _ (.inl rx) (.inl ry) e3 fun z rz => ?_
          obtain rfl : z = .bl k := RF.bl_inv rz
          refine ⟨k, rfl, ?_⟩
          cases k with
          | false =>
            rw [if_neg (by decide)]
            exact pr s _ (.refl s) rfl hr (.bl _)
          | true =>
            rw [if_pos rfl]
            refine ⟨env, s, rfl, hr, er, ?_⟩
            show (match evalE (callF Γ.fns n) env c s.h with
            | .ok (.p d) h' => h' = s.h ∧ ∀ x, RF X.K s.F s.H d x → _
            | _ => False)
            simp only [Option.map_some, ofO_some, R.bind_ok, andK, e2, unP] at pr
            rcases hc.pure (callF Γ.fns n) env s.h with ⟨v4, e4⟩ | e4
            case inr => rw [e4] at pr; exact False.elim pr
            rw [e4] at pr ⊢
            cases v4 with
            | ref m => exact False.elim pr
            | p d4 =>
              simp only [R.bind_ok, unP] at pr
              refine ⟨rfl, fun w rw' => ?_⟩
              cases e5 : opf2 o' d2 d4 with
              | none => rw [e5] at pr; exact False.elim pr
              | some d5 =>
                rw [e5] at pr
                exact ok2 s d2 d4 d5 y w _ (.inl ry) (.inl rw') e5 fun z rz => pr s _ (.refl s) rfl hr rz
theorem boolE_op2d {o : O2} (hb : ∀ x y d, opf2 o x y = some d → ∃ k, d = .bool k) : BoolE (.op2d o a b) := fun cf env h v h' e => boolR (r := (evalE cf env a h).bind unP) (k := fun x h1 => ((evalE cf env b h1).bind unP).bind fun y h2 => ofO ((opf2 o x y).map Val.p) h2)
  (fun x h1 e => boolR (r := (evalE cf env b h1).bind unP) (k := fun y h2 => ofO ((opf2 o x y).map Val.p) h2) (fun y h2 e => bool_ofO (hb x y) e) e) e
theorem boolE_and (ha : BoolE a) (hb : BoolE b) : BoolE (.and_ a b) := fun cf env h v h' e => by
  replace e : ((evalE cf env a h).bind fun v h1 => andK (fun h2 => evalE cf env b h2) v h1) = .ok v h' := e
  generalize hr : evalE cf env a h = r at e
  cases r with
  | stuck => cases e
  | exc x h1 => cases e
  | ok v1 h1 =>
    obtain ⟨k, rfl⟩ := ha cf env h v1 h1 hr
    cases k with
    | false => cases e; exact ⟨false, rfl⟩
    | true => exact hb cf env h1 v h' e
theorem le_bool {x y d : PyData} (e : opf2 .le x y = some d) : ∃ k, d = .bool k := cmp_bool (show cmpD _ _ x y = some d from e)
theorem dt_leLe (ha : DP Γ N sc ea a) (hb : DP Γ N sc eb b) (hc : DP Γ N sc ec c) : DT Γ N sc (.Compare ea [.LtE, .LtE] [eb, ec] pos) (.val (.and_ (.op2d .le a b) (.op2d .le b c))) := fun n I W X g =>
  (pt_chain (r := rCmp X.K (fun i j => decide (i ≤ j)) fun d e => !PySem.W.dataLt e d) (r' := rCmp X.K (fun i j => decide (i ≤ j)) fun d e => !PySem.W.dataLt e d) (op_le.or (op_leG g.hu)) (op_le.or (op_leG g.hu)) (ha.run n I W X g) (hb.run n I W X g) (hc.run n I W X g) (by simp only [lastMarks]; exact nomark ec)).imp fun σ H Q q =>
    chain_imp (ok_cmp fun _ _ => rfl) (ok_cmp fun _ _ => rfl) (fun _ _ _ e => le_bool e) ha hb hc (test_imp (boolE_and (boolE_op2d fun _ _ _ e => le_bool e) (boolE_op2d fun _ _ _ e => le_bool e)) (fun _ _ => rfl) q)
end
end Cd
set_option Elab.async false
set_option linter.all false
set_option maxRecDepth 100000
set_option maxHeartbeats 4000000
namespace Cd
open PySem PySem.Spec PyProof.Rows L2
section
variable {Γ : Gm} {N : List Str} {sc : Sco} {es : List Expr} {ea : Expr} {a b : E} {pos p2 : Pos} {ts : List Tg}
end
end Cd
set_option Elab.async false
set_option linter.all false
set_option maxRecDepth 100000
set_option maxHeartbeats 4000000
namespace Cd
open PySem PySem.Spec PyProof.Rows L2
section
variable {K : PySem.W.Frag} {Γ : Gm} {N : List Str} {sc : Sco} {ea : Expr} {a : E} {pos p : Pos}
end
end Cd
set_option Elab.async false
set_option linter.all false
set_option maxRecDepth 100000
set_option maxHeartbeats 4000000
namespace Cd
open PySem PySem.Spec PyProof.Rows L2
theorem dedup_le {α : Type} [DecidableEq α] : ∀ l : List α, (dedup l).length ≤ l.length
  | [] => Nat.le_refl _
  | z :: r => by
    unfold dedup
    have := dedup_le r
    split
    · simp; omega
    · simp; omega
section
variable {Γ : Gm} {N : List Str} {sc : Sco} {ea : Expr} {a : E} {pos p p2 : Pos}
end
end Cd
set_option Elab.async false
set_option linter.all false
set_option maxRecDepth 100000
set_option maxHeartbeats 4000000
namespace Cd
open PySem PySem.Spec PyProof.Rows L2
section
variable {prog : Program} {w : World} {A : Around} {E : Value → Shared → Prop} {s : Shared} {z TI TO T i1 i2 : Addr} {fp1 fp2 : List Addr} {n1 n2 i : Nat} {P1 P2 : Nat → Value → Prop} {St1 St2 : Nat → Heap → Prop} {f : Bool} {oT : Obj}
end
section
variable {prog : Program} {w : World} {A : Around} {R : Result → Shared → Prop} {E : Value → Shared → Prop} {S I : Addr} {n : Nat} {J : Nat → Array Value → Shared → Prop} {Fi : Array Value → Shared → Prop}
end
section
variable {prog : Program} {w : World} {A : Around} {E : Value → Shared → Prop} {s : Shared} {z : Addr} {Fi : Array Value → Shared → Prop}
end
/-- H with the pairs laid at Ts, one by one -/
inductive Bt (H0 : Hp) : List (V × V) → List Addr → Hp → Prop where
  | nil : Bt H0 [] [] H0
  | snoc {its : List (V × V)} {Ts : List Addr} {H : Hp} {p : V × V} {T : Addr} : Bt H0 its Ts H → H T = none → Bt H0 (its ++ [p]) (Ts ++ [T]) (upd H T (.tup [p.1, p.2]))
theorem Bt.ext {H0 H : Hp} {its : List (V × V)} {Ts : List Addr} (b : Bt H0 its Ts H) : ∀ a o, H0 a = some o → H a = some o := by
  induction b with
  | nil => exact fun _ _ e => e
  | snoc b h ih =>
    intro a o e
    have e1 := ih a o e
    rw [upd_ne (fun q => by rw [← q, e1] at h; cases h)]
    exact e1
theorem Bt.len {H0 H : Hp} {its : List (V × V)} {Ts : List Addr} (b : Bt H0 its Ts H) : Ts.length = its.length := by
  induction b with
  | nil => rfl
  | snoc b h ih => simp [ih]
theorem SqK.ext {K : PySem.W.Frag} {k : Kd} {x : V} {xs : List V} {H H' : Hp} (h : SqK K k x xs H) (e : ∀ a o, H a = some o → H' a = some o) : SqK K k x xs H' := by
  cases k with
  | l a => exact ⟨h.1, h.2.elim (fun h => .inl (h.elim (fun h => .inl (e _ _ h)) fun ⟨o, h⟩ => .inr ⟨o, e _ _ h⟩)) fun h => .inr h⟩
  | t a => exact ⟨h.1, h.2.elim (fun h => .inl (h.elim (fun h => .inl (e _ _ h)) fun ⟨o, h⟩ => .inr ⟨o, e _ _ h⟩)) fun h => .inr h⟩
  | s y => exact h
section
variable {X : Cx} {pins : List (Addr × Obj)} {σ : L2.St} {s1 : Shared} {H1 : Hp} {z TI TO i1 i2 : Addr} {v1 v2 : Value} {xs ys : List V} {k l : Kd} {x y : V} {own1 own2 : List Addr} {T1 T2 : Addr → Nat → Heap → Prop}
end
end Cd
set_option Elab.async false
set_option linter.all false
set_option maxRecDepth 100000
set_option maxHeartbeats 4000000
namespace Cd
open PySem PySem.Spec PyProof.Rows L2
section
variable {Γ : Gm} {N : List Str} {sc : Sco} {ea eb ec : Expr} {a b c : E} {pos p p2 : Pos} {i j l : Nat} {x y z : Str}
end
section
variable {prog : Program} {w : World} {A : Around} {E : Value → Shared → Prop} {s : Shared} {κ : KeyKind}
section
variable {β : Type} {vs : List Value} {bs : List β} {enc : β → PyData} {R : Value → β → Prop}
end
end
section
variable {K : PySem.W.Frag} {Γ : Gm} {N : List Str} {sc : Sco} {ea eb : Expr} {a b : E} {pos p p2 apos : Pos}
end
end Cd
set_option Elab.async false
set_option linter.all false
set_option maxRecDepth 100000
set_option maxHeartbeats 4000000
namespace Cd
open PySem PySem.Spec PyProof.Rows L2
section
variable {Γ : Gm} {N : List Str} {sc : Sco} {ea eb ek : Expr} {a b c : E} {pos p p2 q : Pos} {i : Nat} {x : Str}
end
section
variable {prog : Program} {w : World} {A : Around} {E : Value → Shared → Prop} {s : Shared}
end
section
variable {K : PySem.W.Frag} {Γ : Gm} {N : List Str} {sc : Sco} {ea : Expr} {a : E} {pos : Pos}
end
end Cd
set_option Elab.async false
set_option linter.all false
set_option maxRecDepth 100000
set_option maxHeartbeats 4000000
namespace Cd
open PySem PySem.Spec PyProof.Rows L2
section
variable {Γ : Gm} {N : List Str} {sc : Sco} {e ea eb : Expr} {a b : E} {pos p p2 apos : Pos} {i j : Nat} {x y z : Str}
end
end Cd
set_option Elab.async false
set_option linter.all false
set_option maxRecDepth 100000
set_option maxHeartbeats 4000000
namespace Cd
open PySem PySem.Spec PyProof.Rows L2
section
variable {Γ : Gm} {N : List Str} {sc : Sco} {e ea eb ec : Expr} {a b c : E} {pos p p2 apos : Pos} {i j : Nat} {x y z : Str}
theorem rb_str {K : PySem.W.Frag} {s : Sx} {x : Str} {v : V} (r : RB K s (.str x) v) : v = .str x := (r.strict (fun _ z => nomatch z)).str_inv
theorem opf3S_inv {l u : Bool} {d x y z : PyData} (e : opf3 (.sliceS l u) d x y = some z) : ∃ t lo hi, d = .str t ∧ t.length ≤ sizeLine ∧ partD l x = some lo ∧ partD u y = some hi ∧ z = .str (L2.cutS t lo hi) := by
  cases d with
  | str t =>
    have e' : (if t.length ≤ sizeLine then (partD l x).bind fun lo => (partD u y).map fun hi => PyData.str (L2.cutS t lo hi) else none) = some z := e
    split at e'
    · rename_i hz
      rw [Option.bind_eq_some_iff] at e'
      obtain ⟨lo, e1, e2⟩ := e'
      rw [Option.map_eq_some_iff] at e2
      obtain ⟨hi, e2, rfl⟩ := e2
      exact ⟨t, lo, hi, rfl, hz, e1, e2, rfl⟩
    · cases e'
  | _ => cases e
theorem de_sliceS {l u : Bool} {lo hi : Option Expr} (ha : DB Γ N sc ea a) (hl : DO Γ N sc l lo b) (hu : DO Γ N sc u hi c) : DE Γ N sc (.Subscript ea (.Slice lo hi none p2) pos) (.op3b (.sliceS l u) a b c) := fun n I W X g =>
  (pe_slice sl_str (ha n I W X g) (hl.run n I W X g) (hu.run n I W X g)).imp fun σ H Q q => by
    obtain ⟨env, s, eH, hr, er, _, pr⟩ := At.bind (Rel1 := RB X.K) (ev1 := fun env h => bor env h a (evalE (callF Γ.fns n) env a h)) (ev2 := fun x env h => ((evalE (callF Γ.fns n) env b h).bind unP).bind fun y h2 => ((evalE (callF Γ.fns n) env c h2).bind unP).bind fun z h3 => ofO ((opf3 (.sliceS l u) x y z).map Val.p) h3) q
    refine ⟨env, s, eH, hr, er, trivial, ?_⟩
    refine PR.mono pr fun x H1 ⟨d, env, s, eH, hr, er, ⟨_, rb⟩, pr⟩ => ?_
    refine ⟨env, s, eH, hr, er, ?_⟩
    replace pr : PR X.K I W s σ (((evalE (callF Γ.fns n) env b s.h).bind unP).bind fun y h2 => ((evalE (callF Γ.fns n) env c h2).bind unP).bind fun z h3 => ofO ((opf3 (.sliceS l u) d y z).map Val.p) h3) (VR X.K) Q := pr
    show (match evalE (callF Γ.fns n) env b s.h with
    | .ok (.p d) h' => h' = s.h ∧ ∃ o, partD l d = some o ∧ tO X.K I u (fun env h => evalE (callF Γ.fns n) env c h) σ H1 _
    | _ => False)
    rcases hl.pure (callF Γ.fns n) env s.h with ⟨v, e⟩ | e
    · rw [e] at pr ⊢
      cases v with
      | ref m => exact False.elim pr
      | p d1 =>
        simp only [R.bind_ok, unP] at pr
        rcases hu.pure (callF Γ.fns n) env s.h with ⟨v2, e2⟩ | e2
        · rw [e2] at pr
          cases v2 with
          | ref m => exact False.elim pr
          | p d2 =>
            simp only [R.bind_ok, unP] at pr
            obtain ⟨z, e3, fin⟩ := PR.fin (o := opf3 (.sliceS l u) d d1 d2) pr hr
            obtain ⟨t, lo', hi', rfl, hz, e4, e5, rfl⟩ := opf3S_inv e3
            refine ⟨rfl, lo', e4, env, s, eH, hr, er, ?_⟩
            show (match evalE (callF Γ.fns n) env c s.h with
            | .ok (.p d) h' => h' = s.h ∧ ∃ o, partD u d = some o ∧ _
            | _ => False)
            rw [e2]
            refine ⟨rfl, hi', e5, ?_⟩
            subst eH
            obtain rfl := rb_str rb
            exact ⟨t, rfl, hz, fin.1 _ (.str _)⟩
        · rw [e2] at pr; exact False.elim pr
    · rw [e] at pr; exact False.elim pr
end
end Cd
set_option Elab.async false
set_option linter.all false
set_option maxRecDepth 100000
set_option maxHeartbeats 4000000
namespace Cd
open PySem PySem.Spec PyProof.Rows L2
section
variable {Γ : Gm} {N : List Str} {sc : Sco} {e ea eb ec ek : Expr} {a b c : E} {pos p p2 apos : Pos} {i j : Nat} {x y z : Str}
/-- a display of ints and what reads nothing -/
inductive LkOk (Γ : Gm) (N : List Str) (sc : Sco) : List (Option Expr) → List Expr → List (Int × PyData) → Prop
  | nil : LkOk Γ N sc [] [] []
  | cons {k : Int} {j : Nat} {q : Pos} {v : Expr} {av : E} {d : PyData} {ks : List (Option Expr)} {vs : List Expr} {r : List (Int × PyData)} (hv : DV Γ N sc v av) (hd : ∀ cf env h, evalE cf env av h = .ok (.p d) h) (t : LkOk Γ N sc ks vs r) :
      LkOk Γ N sc (some (.Constant (.int k) j q) :: ks) (v :: vs) ((k, d) :: r)
theorem LkOk.some {ks : List (Option Expr)} {vs : List Expr} {kvs : List (Int × PyData)} (h : LkOk Γ N sc ks vs kvs) : ks.all (·.isSome) = true ∧ ks.length = vs.length ∧ ks.length = kvs.length := by
  induction h with
  | nil => exact ⟨rfl, rfl, rfl⟩
  | cons hv hd t ih => exact ⟨by simp only [List.all_cons, Option.isSome_some, Bool.true_and]; exact ih.1, by simp [ih.2.1], by rw [List.length_cons, List.length_cons, ih.2.2]⟩
section
variable {K : PySem.W.Frag} {CI : CInf} {s s0 : Sx} {D : Addr} {es xs : List (Key × V)}
end
end
end Cd
set_option Elab.async false
set_option linter.all false
set_option maxRecDepth 100000
set_option maxHeartbeats 4000000
namespace Cd
open PySem PySem.Spec PyProof.Rows L2
section
variable {Γ : Gm} {N : List Str} {sc : Sco} {es : List Expr} {ea : Expr} {a b : E} {pos p2 : Pos} {ts : List Tg}
end
end Cd
set_option Elab.async false
set_option linter.all false
set_option maxRecDepth 100000
set_option maxHeartbeats 4000000
namespace Cd
open PySem PySem.Spec PyProof.Rows L2
section
variable {Γ : Gm} {N : List Str} {sc : Sco} {e ea eb ek : Expr} {a b : E} {pos p p2 apos : Pos} {i j : Nat} {x : Str}
end
end Cd
set_option Elab.async false
set_option linter.all false
set_option maxRecDepth 100000
set_option maxHeartbeats 4000000
namespace Cd
open PySem PySem.Spec PyProof.Rows L2
section
variable {K : PySem.W.Frag} {CI : CInf} {s : Sx} {n j : Nat}
end
section
variable {Γ : Gm} {N : List Str} {sc : Sco} {e ea eb ek : Expr} {a b : E} {pos p p2 apos : Pos} {i : Nat} {x : Str} {k : Key} {d : PyData}
end
end Cd
set_option Elab.async false
set_option linter.all false
set_option maxRecDepth 100000
set_option maxHeartbeats 4000000
namespace Cd
open PySem PySem.Spec PyProof.Rows L2
section
variable {K : PySem.W.Frag} {CI : CInf} {s : Sx} {n : Nat} {kvs : List (Key × Fld)} {xs : List V} {q : Key} {ts : List PyData} {p : Addr}
end
section
variable {Γ : Gm} {N : List Str} {sc : Sco} {ev ek : Expr} {a b c : E} {pos p p2 apos : Pos} {i : Nat} {x : Str} {k : Key} {d : PyData}
end
end Cd
set_option Elab.async false
set_option linter.all false
set_option maxRecDepth 100000
set_option maxHeartbeats 4000000
namespace Cd
open PySem PySem.Spec PyProof.Rows L2
/-- the pairs of a display, as they stand while it is made; B what was kept apart before -/
inductive KR (K : PySem.W.Frag) (s : Sx) : (Addr → Prop) → List (Key × Fld) → List (Key × V) → Prop
  | nil {B} : KR K s B [] []
  | p {B k d v r es} : RF K s.F s.H d v → KR K s B r es → KR K s B ((k, .p d) :: r) ((k, v) :: es)
  | l {B k ts a xs r es} : s.H a = some (.lst xs) → RFs K s.F s.H ts xs → ¬ B a → s.B a → KR K s (fun b => B b ∨ b = a) r es → KR K s B ((k, .l ts) :: r) ((k, .ref a) :: es)
section
variable {K : PySem.W.Frag} {CI : CInf} {s s' : Sx} {B : Addr → Prop} {fl : List (Key × Fld)} {es : List (Key × V)} {a : Addr}
theorem KR.keys (h : KR K s B fl es) : es.map (·.1) = fl.map (·.1) := by
  induction h with
  | nil => rfl
  | p _ _ ih => rw [List.map_cons, List.map_cons, ih]
  | l _ _ _ _ _ ih => rw [List.map_cons, List.map_cons, ih]
end
section
variable {Γ : Gm} {N : List Str} {sc : Sco} {pos p p2 : Pos} {i : Nat} {x : Str}
/-- the pairs of a display: a key that is told, a value; or a list -/
inductive KvOk (Γ : Gm) (N : List Str) (sc : Sco) : List (Option Expr) → List Expr → List (Key × Bool × E) → Prop
  | nil : KvOk Γ N sc [] [] []
  | p {z : Str} {j : Nat} {q : Pos} {v : Expr} {av : E} {ks : List (Option Expr)} {vs : List Expr} {r : List (Key × Bool × E)} (hv : DV Γ N sc v av) (t : KvOk Γ N sc ks vs r) : KvOk Γ N sc (some (.Constant (.str z) j q) :: ks) (v :: vs) ((.inr z, false, av) :: r)
  | l {z : Str} {j : Nat} {q : Pos} {v : Expr} {av : E} {ks : List (Option Expr)} {vs : List Expr} {r : List (Key × Bool × E)} (hv : DN Γ N sc v av) (t : KvOk Γ N sc ks vs r) : KvOk Γ N sc (some (.Constant (.str z) j q) :: ks) (v :: vs) ((.inr z, true, av) :: r)
theorem KvOk.some {ks : List (Option Expr)} {vs : List Expr} {kvs : List (Key × Bool × E)} (h : KvOk Γ N sc ks vs kvs) : ks.all (·.isSome) = true ∧ ks.length = vs.length ∧ ks.length = kvs.length := by
  induction h with
  | nil => exact ⟨rfl, rfl, rfl⟩
  | p _ _ ih => exact ⟨by simp only [List.all_cons, Option.isSome_some, Bool.true_and]; exact ih.1, by simp [ih.2.1], by rw [List.length_cons, List.length_cons, ih.2.2]⟩
  | l _ _ ih => exact ⟨by simp only [List.all_cons, Option.isSome_some, Bool.true_and]; exact ih.1, by simp [ih.2.1], by rw [List.length_cons, List.length_cons, ih.2.2]⟩
end
end Cd
set_option Elab.async false
set_option linter.all false
set_option maxRecDepth 100000
set_option maxHeartbeats 4000000
namespace Cd
open PySem PySem.Spec PyProof.Rows L2
section
variable {Γ : Gm} {N : List Str} {sc : Sco} {e ea eb ek : Expr} {a b : E} {pos p p2 apos : Pos} {i : Nat} {x : Str} {k : Key} {d : PyData}
end
end Cd
set_option Elab.async false
set_option linter.all false
set_option maxRecDepth 100000
set_option maxHeartbeats 4000000
namespace Cd
open PySem PySem.Spec PyProof.Rows L2
section
variable {Γ : Gm} {N : List Str} {sc : Sco} {eb : Expr} {b : E} {pos p q apos apos2 : Pos} {i j fi fc cl : Nat} {x m : Str}
end
end Cd
set_option Elab.async false
set_option linter.all false
set_option maxRecDepth 100000
set_option maxHeartbeats 4000000
namespace Cd
open PySem PySem.Spec PyProof.Rows L2
section
variable {Γ : Gm} {N : List Str} {sc : Sco} {ea eb : Expr} {a b : E} {p apos : Pos} {i j : Nat}
end
end Cd
set_option Elab.async false
set_option linter.all false
set_option maxRecDepth 100000
set_option maxHeartbeats 4000000
namespace Cd
open PySem PySem.Spec PyProof.Rows L2
end Cd
set_option Elab.async false
set_option linter.all false
set_option maxRecDepth 100000
set_option maxHeartbeats 4000000
namespace Cd
open PySem PySem.Spec PyProof.Rows L2
section
variable {P : Program} {w : World} {K : PySem.W.Frag} {mg : Str → Option Value} {base : Heap} {I : Inf} {Γ : Gm} {n fi : Nat}
end
section
variable {P : Program} {w : World} {K : PySem.W.Frag} {mg mb : Str → Option Value}
end
end Cd
set_option Elab.async false
set_option linter.all false
set_option maxRecDepth 100000
set_option maxHeartbeats 4000000
namespace Cd
open PySem PySem.Spec PyProof.Rows L2
section
variable {Γ : Gm} {N : List Str} {sc : Sco} {e ea : Expr} {a : E} {pos p : Pos} {K : PySem.W.Frag}
end
end Cd
set_option Elab.async false
set_option linter.all false
set_option maxRecDepth 100000
set_option maxHeartbeats 4000000
namespace Cd
open PySem PySem.Spec PyProof.Rows L2
section
variable {Γ : Gm} {N : List Str} {sc : Sco} {ea eb : Expr} {a b : E} {pos : Pos} {K : PySem.W.Frag}
end
end Cd
set_option Elab.async false
set_option linter.all false
set_option maxRecDepth 100000
set_option maxHeartbeats 4000000
namespace Cd
open PySem PySem.Spec PyProof.Rows L2
section
variable {X : Cx} {a b c d : Expr} {pos : Pos} {ta tb tc td : TE} {op : CmpOp} {r : R2}
end
section
variable {Γ : Gm} {N : List Str} {sc : Sco} {ea eb ec ed : Expr} {a b c d : E} {pos p : Pos} {i : Nat} {x : Str}
theorem DP.un {e : Expr} {a : E} (h : DP Γ N sc e a) (cf : Calls) (env : Ev) (hp : Hi) : (∃ v, evalE cf env a hp = .ok (.p v) hp) ∨ (evalE cf env a hp).bind unP = .stuck := by
  rcases h.pure cf env hp with ⟨v, e⟩ | e
  · cases v with
    | p v => exact .inl ⟨v, e⟩
    | ref m => exact .inr (by rw [e]; rfl)
  · exact .inr (by rw [e]; rfl)
variable {n : Nat} {I : Inf} {W : WX} {X : Cx}
end
end Cd
set_option Elab.async false
set_option linter.all false
set_option maxRecDepth 100000
set_option maxHeartbeats 4000000
namespace Cd
open PySem PySem.Spec PyProof.Rows L2
section
variable {Γ : Gm} {N : List Str} {sc : Sco} {e ea : Expr} {a : E} {pos p p2 : Pos} {i : Nat} {x : Str} {K : PySem.W.Frag}
variable {eb : Expr} {b : E}
end
end Cd
set_option Elab.async false
set_option linter.all false
set_option maxRecDepth 100000
set_option maxHeartbeats 4000000
namespace PySem.W
open PySem PySem.SeqAt PyProof.Rows
section
variable {prog : Program} {w : World} {A : Around} {R : Result → Shared → Prop} {I : Addr} {fp wr : List Addr} {G : Array GenState → Array GenState → Prop} {n : Nat} {P : Nat → Value → Prop} {St : Nat → Shared → Prop}
end
section
variable {prog : Program} {w : World} {A : Around} {E : Value → Shared → Prop} {s : Shared}
end
end PySem.W
namespace Cd
open PySem PySem.Spec PyProof.Rows L2
section
variable {Γ : Gm} {N : List Str} {sc : Sco} {e ea eb : Expr} {a b : E} {pos p p2 : Pos} {K : PySem.W.Frag}
end
end Cd
set_option Elab.async false
set_option linter.all false
set_option maxRecDepth 100000
set_option maxHeartbeats 4000000
namespace PySem
open Sem (wp)
section
variable {prog : Program} {w : World} {A : Around} {E : Value → Shared → Prop} {s : Shared}
end
end PySem
namespace Cd
open PySem PySem.Spec PyProof.Rows L2
theorem items_mix {P : Program} {w : World} : ∀ {k : List Key} {us : List Value}, Vals (k.map kV) us → ItemsAre (mixKind P w) k us
  | [], _, r => by
    rw [List.map_nil] at r
    cases r
    exact .nil
  | a :: k, _, r => by
    rw [List.map_cons] at r
    cases r with
    | cons h t => exact .cons (kV_is h) (items_mix t)
section
variable {Γ : Gm} {N : List Str} {sc : Sco} {e ea eb : Expr} {a b : E} {pos p p2 : Pos} {K : PySem.W.Frag}
theorem keysT_inv {F : Addr → Prop} {H : Hp} : ∀ {ds : List PyData} {ks : List Key} {vs : List V}, keysT ds = some ks → RFs K F H ds vs → vs = ks.map kV
  | [], ks, _, e, .nil => by
    simp only [keysT, Option.some.injEq] at e
    subst e; rfl
  | d :: ds, ks, _, e, .cons (v := v) r t => by
    simp only [keysT, Option.bind_eq_some_iff, Option.map_eq_some_iff] at e
    obtain ⟨k, e1, ks', e2, rfl⟩ := e
    rw [List.map_cons, ← keysT_inv e2 t]
    congr 1
    cases d with
    | int i => cases e1; exact r.int_inv
    | str x => cases e1; exact r.str_inv
    | _ => cases e1
theorem dedup_leG {α : Type} [DecidableEq α] : ∀ l : List α, (dedup l).length ≤ l.length
  | [] => Nat.le_refl _
  | x :: r => by
    unfold dedup
    have := dedup_leG r
    split <;> simp only [List.length_cons] <;> omega
end
end Cd
set_option Elab.async false
set_option linter.all false
set_option maxRecDepth 100000
set_option maxHeartbeats 4000000
namespace Cd
open PySem PySem.Spec PySem.Calls PyProof.Rows L2
section
variable {prog : Program} {w : World} {A : Around} {E : Value → Shared → Prop} {s : Shared} {K : PySem.W.Frag} {x D : Addr} {ox : Obj} {oq : Option Obj}
open PySem.W in
open PySem.W in
end
section
variable {P : Program} {w : World} {K : PySem.W.Frag} {mg : Str → Option Value} {base : Heap} {CX : CXT}
end
section
variable {X : Cx} {CX : CXT} {k : Nat} {f a : Addr} {oe : Obj} {fd : FuncData} {ps : List Str} {sp : Addr → Value → Option Addr → Sp} {E : L2.St → XK} {x : Str} {q pos : Pos} {e : Expr} {es : List Expr} {t : TA}
end
section
variable {Γ : Gm} {N : List Str} {sc : Sco} {pos : Pos} {j : Nat} {x : Str}
end
end Cd
set_option Elab.async false
set_option linter.all false
set_option maxRecDepth 100000
set_option maxHeartbeats 4000000
namespace Cd
open PySem PySem.Spec PyProof.Rows L2
section
variable {Γ : Gm} {N : List Str} {sc : Sco} {e1 ea eb : Expr} {es : List Expr} {a b : E} {as : List E} {pos apos p p2 : Pos} {cl fi : Nat} {m z : Str}
end
section
variable {X : Cx} {a D : Addr} {oe : Obj} {i : Nat} {ev y : Str} {p1 p2 p3 p4 : Pos}
end
end Cd
set_option Elab.async false
set_option linter.all false
set_option maxRecDepth 100000
set_option maxHeartbeats 4000000
namespace Cd
open PySem PySem.Spec PyProof.Rows L2
section
variable {Γ : Gm} {N : List Str} {sc : Sco} {pos : Pos} {j : Nat} {x : Str}
end
section
variable {X : Cx} {a : Addr} {i : Nat} {c : Expr} {p1 p2 : Pos} {b : Bool} {d : Option Addr}
end
end Cd
set_option Elab.async false
set_option linter.all false
set_option maxRecDepth 100000
set_option maxHeartbeats 4000000
namespace Cd.Tp
open PySem PySem.Spec PyProof.Rows L2
section
variable {P : Program} {w : World} {κ : Type} [DecidableEq κ] {knd : KeyKind P w κ} {A : Around} {E : Value → Shared → Prop} {s : Shared}
/-- values of the kind are of no class statement, hashed by value -/
structure PlainK (knd : KeyKind P w κ) : Prop where
  cl : ∀ k v, knd.is k v = true → ∀ n, ofAClassStatement n v = pure false
  hv : ∀ k v, knd.is k v = true → ∀ n, ∃ b, hashByValue n v = pure b
theorem items_of {ks : List κ} {vs : List Value} (h : ItemsAre knd ks vs) : ∀ v ∈ vs, ∃ k, knd.is k v = true := by
  induction h with
  | nil => exact fun v hv => by cases hv
  | cons h1 _ ih =>
    intro v hv
    cases hv with
    | head => exact ⟨_, h1⟩
    | tail _ hv => exact ih v hv
/-- a walk over the items that ends where each lets it on -/
theorem walk_on {β : Type} {vs : Array Value} {f : Value → Option β × PUnit → Sem (ForInStep (Option β × PUnit))} {r0 : Option β × PUnit} {Q : Option β × PUnit → Shared → Prop} (hr : r0.1 = none)
    (hf : ∀ v ∈ vs.toList, ∀ r : Option β × PUnit, r.1 = none → ∀ Q' : ForInStep (Option β × PUnit) → Shared → Prop, (∀ r' : Option β × PUnit, r'.1 = none → Q' (.yield r') s) → wpAny (model P w) A (f v r) Q' E s) (h : ∀ r : Option β × PUnit, r.1 = none → Q r s) :
    wpAny (model P w) A (forIn vs r0 f) Q E s := by
  rw [← Array.forIn_toList]
  refine wpAny_forIn_list _ (fun rest r s' => r.1 = none ∧ s' = s ∧ ∀ v ∈ rest, v ∈ vs.toList) _ ?_ ?_ _ _ ⟨hr, rfl, fun v h => h⟩
  · rintro v rest r s' ⟨hr, rfl, hall⟩
    exact hf v (hall v List.mem_cons_self) r hr _ fun r' hr' => ⟨hr', rfl, fun u hu => hall u (List.mem_cons_of_mem _ hu)⟩
  · rintro r s' ⟨hr, rfl, _⟩
    exact h r hr
theorem tup_noClass (pk : PlainK knd) {k : List κ} {b : Addr} {Q : Bool → Shared → Prop} (hk : IsTupleKey knd s.heap k b) (h : Q false s) : wpAny (model P w) A (ofAClassStatement 8 (.ref b)) Q E s := by
  have hT := hk.typeIs
  obtain ⟨o, items, n, ho, _, hd, hi⟩ := hk
  unfold ofAClassStatement
  refine wpAny_bind (wpAny_typeOf hT ?_)
  have e : (("tuple" : String) == "tuple") = true := by decide
  simp only [e, if_true, Bool.not_true, Bool.false_eq_true, if_false]
  try refine wpAny_bind (wpAny_pure ?_)
  show wpAny _ _ (seqItems? (.ref b) >>= _) _ _ s
  refine wpAny_bind (wpAny_seqItems ho hd ?_)
  dsimp only
  refine wpAny_bind ?_
  show wpAny _ _ (forIn items _ _) _ _ s
  refine walk_on rfl (fun v hv r hr Q' q => ?_) fun r hr => ?_
  · obtain ⟨k0, hk0⟩ := items_of hi v hv
    rw [pk.cl k0 v hk0]
    refine wpAny_bind (wpAny_pure ?_)
    simp only [Bool.false_eq_true, if_false]
    exact wpAny_pure (q _ rfl)
  · obtain ⟨r1, r2⟩ := r
    simp only at hr
    subst hr
    exact wpAny_pure h
theorem tup_byValue (pk : PlainK knd) {k : List κ} {b : Addr} {Q : Bool → Shared → Prop} (hk : IsTupleKey knd s.heap k b) (h : ∀ c, Q c s) : wpAny (model P w) A (hashByValue 8 (.ref b)) Q E s := by
  have hT := hk.typeIs
  obtain ⟨o, items, n, ho, _, hd, hi⟩ := hk
  unfold hashByValue
  refine wpAny_bind (wpAny_specialOf hT F.slot_tuple_hash.lookup ?_)
  show wpAny _ _ (seqItems? (.ref b) >>= _) _ _ s
  refine wpAny_bind (wpAny_seqItems ho hd ?_)
  refine wpAny_bind ?_
  show wpAny _ _ (forIn items _ _) _ _ s
  rw [← Array.forIn_toList]
  refine wpAny_forIn_list _ (fun rest r s' => s' = s ∧ ∀ v ∈ rest, v ∈ items.toList) _ ?_ ?_ _ _ ⟨rfl, fun v h => h⟩
  · rintro v rest r s' ⟨rfl, hall⟩
    obtain ⟨k0, hk0⟩ := items_of hi v (hall v List.mem_cons_self)
    obtain ⟨c, hc⟩ := pk.hv k0 v hk0 7
    rw [hc]
    refine wpAny_bind (wpAny_pure ?_)
    cases c with
    | true =>
      simp only [Bool.not_true, Bool.false_eq_true, if_false]
      exact wpAny_pure ⟨rfl, fun u hu => hall u (List.mem_cons_of_mem _ hu)⟩
    | false =>
      simp only [Bool.not_false, if_true]
      exact wpAny_pure (wpAny_pure (h false))
  · rintro ⟨r1, r2⟩ s' ⟨rfl, _⟩
    cases r1 with
    | none => exact wpAny_pure (h true)
    | some c => exact wpAny_pure (h c)
/-- a search among tuples shows nothing -/
theorem search_quiet (pk : PlainK knd) {k : List κ} {b : Addr} {Q : Bool → Shared → Prop} (hk : IsTupleKey knd s.heap k b) : ∀ {ys : List Value}, (∀ y ∈ ys, ∃ k' c, y = Value.ref c ∧ IsTupleKey knd s.heap k' c) → Q false s → wpAny (model P w) A (searchCouldBeSeen (.ref b) ys) Q E s := by
  intro ys hy h
  unfold searchCouldBeSeen
  refine wpAny_bind ?_
  refine wpAny_forIn_list _ (fun rest r s' => r.1 = none ∧ s' = s ∧ ∀ y ∈ rest, y ∈ ys) _ ?_ ?_ _ _ ⟨rfl, rfl, fun y h => h⟩
  · rintro v rest r s' ⟨hr, rfl, hall⟩
    obtain ⟨k', c, rfl, hc⟩ := hy v (hall v List.mem_cons_self)
    have on : ∀ y ∈ rest, y ∈ ys := fun u hu => hall u (List.mem_cons_of_mem _ hu)
    dsimp only
    by_cases hv : (b == c || (carriedByValue (.ref b) && carriedByValue (.ref c))) = true
    · exact wp_if_pos hv (wpAny_pure ⟨rfl, rfl, on⟩)
    · refine wp_if_neg hv (wpAny_bind (wpAny_eqIsQuiet_tuple hk ?_))
      simp only [Bool.not_true, Bool.false_eq_true, if_false]
      refine wpAny_bind (wpAny_eqIsQuiet_tuple hc ?_)
      simp only [Bool.not_true, Bool.false_eq_true, if_false]
      refine wpAny_bind (tup_noClass pk hk ?_)
      simp only [Bool.false_eq_true, if_false]
      refine wpAny_bind (tup_noClass pk hc ?_)
      simp only [Bool.false_eq_true, if_false]
      exact wpAny_pure ⟨rfl, rfl, on⟩
  · rintro ⟨r1, r2⟩ s' ⟨hr, rfl, _⟩
    simp only at hr
    subst hr
    exact wpAny_pure h
end
section
variable {P : Program} {w : World} {κ : Type} [DecidableEq κ]
def rws (knd : KeyKind P w κ) (L : List (Addr × List κ)) : List (Int × Value) := L.map fun p => (tupleKeyHash knd p.2, Value.ref p.1)
def hss (knd : KeyKind P w κ) (L : List (Addr × List κ)) : List Int := L.map fun p => tupleKeyHash knd p.2
theorem rws_at {knd : KeyKind P w κ} {L : List (Addr × List κ)} {es : Array (Int × Value)} (h : es.toList = rws knd L) {i : Nat} {p : Addr × List κ} (e : L[i]? = some p) : es[i]? = some (tupleKeyHash knd p.2, Value.ref p.1) := by
  rw [← Array.getElem?_toList, h]
  unfold rws
  rw [List.getElem?_map, e]; rfl
theorem rws_size {knd : KeyKind P w κ} {L : List (Addr × List κ)} {es : Array (Int × Value)} (h : es.toList = rws knd L) : es.size = L.length := by
  rw [← Array.length_toList, h]
  exact List.length_map _
/-- the set at a holds the tuples L, unlike as keys -/
structure TSet (knd : KeyKind P w κ) (h : Heap) (a : Addr) (L : List (Addr × List κ)) (es : Array (Int × Value)) (ep : Nat) (t : SetTable) : Prop where
  ob : ∃ o, h.get? a = some o ∧ o.ExactSet ∧ o.data = .set es ep t
  rows : es.toList = rws knd L
  tab : TabOk t (hss knd L)
  nd : (L.map (·.2)).Nodup
  tup : ∀ p ∈ L, IsTupleKey knd h p.2 p.1
  led : w.params.followText "set-order" = true ∨ t.led = true
  room : L.length * 5 < t.mask * 3
variable {knd : KeyKind P w κ} {A : Around} {E : Value → Shared → Prop} {s : Shared} {a : Addr} {L : List (Addr × List κ)} {es : Array (Int × Value)} {ep : Nat} {t : SetTable}
theorem tab_fits {hs : List Int} (T : TabOk t hs) (hl : hs.length ≤ t.mask) : t.fits hs.length = true := by
  unfold SetTable.fits SetTable.fill
  rw [T.dm, Bool.and_eq_true, beq_iff_eq, decide_eq_true_eq]
  exact ⟨T.sz, by show t.place.size + 0 ≤ t.mask; rw [T.sz]; omega⟩
theorem TSet.len (R : TSet knd s.heap a L es ep t) : L.length ≤ t.mask := by have := R.room; omega
theorem TSet.state (R : TSet knd s.heap a L es ep t) {Q : Array (Int × Value) × Nat × SetTable → Shared → Prop} (h : Q (es, ep, t) s) : wpAny (model P w) A (setState a) Q E s := by
  obtain ⟨o, ho, _, hd⟩ := R.ob
  have f := tab_fits R.tab (by unfold hss; rw [List.length_map]; exact R.len)
  unfold hss at f
  rw [List.length_map, ← rws_size R.rows] at f
  exact wpAny_setState_of ho hd f h
/-- the way of a hash through the table -/
abbrev wayP (m : Nat) (H : Int) (c : Nat) : SetTable.Probe := nth m (runAt m (SetTable.bits H % (m + 1)) (SetTable.bits H)) c
theorem wayP_plain (m : Nat) : ∀ (c : Nat) (p : SetTable.Probe), p.dummy = none → (nth m p c).dummy = none
  | 0, _, h => h
  | c + 1, p, h => wayP_plain m c (adv m p) (by unfold adv; split <;> exact h)
theorem TSet.no_gw (R : TSet knd s.heap a L es ep t) : ¬ t.gaveWay = true := by
  unfold SetTable.gaveWay
  rw [mask_odd R.tab.mok]
  decide
/-- what stands at the place of the entry i -/
theorem TSet.slot (R : TSet knd s.heap a L es ep t) {i j : Nat} (h : t.place.toList[i]? = some j) : ∃ p, L[i]? = some p ∧ p ∈ L ∧ es[i]? = some (tupleKeyHash knd p.2, Value.ref p.1) ∧ t.slot j = .live i := by
  have hl : i < L.length := by
    have h1 := (List.getElem?_eq_some_iff.mp h).1
    rw [Array.length_toList, R.tab.sz] at h1
    unfold hss at h1
    rwa [List.length_map] at h1
  have e := List.getElem?_eq_getElem hl
  exact ⟨_, e, List.mem_of_getElem? e, rws_at R.rows e, slot_live R.tab.ris h⟩
theorem TSet.search (pk : PlainK knd) (R : TSet knd s.heap a L es ep t) {x : Addr} {k : List κ} (hx : IsTupleKey knd s.heap k x) (hu : A.units < cLine) {K : Nat} (hKf : K < 10 * SetTable.turns t.mask)
    (hK : way t.mask (tupleKeyHash knd k) K ∉ t.place.toList) (hKb : ∀ c, c < K → way t.mask (tupleKeyHash knd k) c ∈ t.place.toList) {Q : SetFound → Shared → Prop}
    (yes : k ∈ L.map (·.2) → Q (.there none) s) (no : k ∉ L.map (·.2) → Q (.free (way t.mask (tupleKeyHash knd k) K) false) s) :
    ∀ (f c : Nat) (stand : Option SetTable.Probe), stand.getD (t.probeStart (tupleKeyHash knd k)) = wayP t.mask (tupleKeyHash knd k) c → c ≤ K → K - c < f →
      (∀ (i : Nat) p, L[i]? = some p → p.2 = k → ∃ c', c ≤ c' ∧ c' < K ∧ t.place.toList[i]? = some (way t.mask (tupleKeyHash knd k) c')) →
      wpAny (model P w) A (setSearchFrom a (.ref x) (tupleKeyHash knd k) true f stand) Q E s := by
  intro f
  induction f with
  | zero => exact fun c stand _ _ hf _ => absurd hf (Nat.not_lt_zero _)
  | succ f ih =>
    intro c stand hst hc hf ahead
    generalize hH : tupleKeyHash knd k = H at *
    have cK : c + (K - c) = K := Nat.add_sub_cancel' hc
    have on : ∀ q, nth t.mask (wayP t.mask H c) q = wayP t.mask H (c + q) := fun q => (nth_add t.mask c _ q).symm
    have hAt : ∀ (i : Nat) p, L[i]? = some p → (fun i => (es[i]?.map (·.1)).getD 0) i = tupleKeyHash knd p.2 := fun i p hp => by
      show (es[i]?.map (·.1)).getD 0 = _
      rw [rws_at R.rows hp]; rfl
    have spec := go_spec t R.tab.ris R.tab.dm (fun i => (es[i]?.map (·.1)).getD 0) H (10 * SetTable.turns t.mask) (K - c) (wayP t.mask H c) (wayP_plain t.mask c _ rfl) (by omega)
      (fun q hq => by rw [on]; exact hKb (c + q) (by omega)) (by rw [on, cK]; exact hK)
    simp only [on] at spec
    rw [cK] at spec
    rw [setSearchFrom_succ]
    refine wpAny_bind (R.state ?_)
    dsimp only
    refine wp_if_neg R.no_gw ?_
    try refine wpAny_bind (wpAny_pure ?_)
    rw [hst]
    rcases spec with ⟨q, i, hq, hi, hh, hno, hpr⟩ | ⟨hno, hpr⟩
    · have hpr' : t.probe (fun i => (es[i]?.map (·.1)).getD 0) H (wayP t.mask H c) = some (.candidate (wayP t.mask H (c + q)).j i (wayP t.mask H (c + (q + 1)))) := hpr
      rw [hpr']
      dsimp only
      obtain ⟨p, hp, hmem, he, hsl⟩ := R.slot hi
      have rest : wpAny (model P w) A (searchRest a (.ref x) H true f es t (wayP t.mask H (c + q)).j i (wayP t.mask H (c + (q + 1)))) Q E s := by
        unfold searchRest
        rw [he]
        dsimp only
        refine wpAny_bind (wpAny_holding (wpAny_eqBool_tuple hu (R.tup p hmem) hx ?_))
        refine wpAny_bind (R.state ?_)
        dsimp only
        by_cases hkk : p.2 = k
        · exact wp_if_pos (by simp [hkk]) (wpAny_pure (yes (List.mem_map.mpr ⟨p, hmem, hkk⟩)))
        · refine wp_if_neg (by simp [hkk]) ?_
          try refine wpAny_bind (wpAny_pure ?_)
          rw [sameMem]
          dsimp only
          simp only [if_true, hsl, he]
          refine wpAny_bind (wpAny_isSame_ref_self (wpAny_bind (wpAny_pure ?_)))
          simp only [if_true]
          refine wp_if_neg (by simp [hkk]) ?_
          refine ih (c + (q + 1)) (some (wayP t.mask H (c + (q + 1)))) rfl (by omega) (by omega) fun i0 p0 h0 hk0 => ?_
          obtain ⟨c', a1, a2, a3⟩ := ahead i0 p0 h0 hk0
          refine ⟨c', ?_, a2, a3⟩
          have e0 : (fun i => (es[i]?.map (·.1)).getD 0) i0 = H := (hAt i0 p0 h0).trans (by rw [hk0, hH])
          rcases Nat.lt_trichotomy c' (c + q) with z | z | z
          · exact absurd e0 (hno (c' - c) i0 (by omega) (by rw [show c + (c' - c) = c' by omega]; exact a3))
          · rw [z] at a3
            have s0 := slot_live R.tab.ris a3
            have : t.slot (wayP t.mask H (c + q)).j = .live i0 := s0
            rw [hsl] at this
            injection this with this
            rw [← this, hp] at h0
            exact absurd ((congrArg Prod.snd (Option.some.inj h0)).trans hk0) hkk
          · omega
      by_cases hl : t.led = true
      · refine wp_if_neg (by simp [hl]) ?_
        try refine wpAny_bind (wpAny_pure ?_)
        exact rest
      · refine wp_if_pos (by simp [hl]) ?_
        refine wpAny_bind (search_quiet pk hx (fun y hy => ?_) ?_)
        · obtain ⟨e, he', ee⟩ := List.mem_map.mp hy
          have he2 : e ∈ es.toList := by
            have : e ∈ es ∧ e.1 = H := by simpa using he'
            simpa using this.1
          rw [R.rows] at he2
          obtain ⟨p2, hp2, e2⟩ := List.mem_map.mp he2
          exact ⟨p2.2, p2.1, by rw [← ee, ← e2], R.tup p2 hp2⟩
        · refine wp_if_neg (by decide) ?_
          try refine wpAny_bind (wpAny_pure ?_)
          exact rest
    · have hpr' : t.probe (fun i => (es[i]?.map (·.1)).getD 0) H (wayP t.mask H c) = some (.empty (wayP t.mask H K).j none) := hpr
      rw [hpr']
      dsimp only
      refine wpAny_pure (no fun hm => ?_)
      obtain ⟨p0, h0, hk0⟩ := List.mem_map.mp hm
      obtain ⟨i0, hi0, e0⟩ := List.getElem_of_mem h0
      have h00 : L[i0]? = some p0 := by rw [List.getElem?_eq_getElem hi0, e0]
      obtain ⟨c', a1, a2, a3⟩ := ahead i0 p0 h00 hk0
      exact hno (c' - c) i0 (by omega) (by rw [show c + (c' - c) = c' by omega]; exact a3) ((hAt i0 p0 h00).trans (by rw [hk0, hH]))
/-- the search, as adding asks for it -/
theorem TSet.find (pk : PlainK knd) (R : TSet knd s.heap a L es ep t) {x : Addr} {k : List κ} (hx : IsTupleKey knd s.heap k x) (hu : A.units < cLine) {Q : SetFound → Shared → Prop} (yes : k ∈ L.map (·.2) → Q (.there none) s)
    (no : ∀ K, k ∉ L.map (·.2) → way t.mask (tupleKeyHash knd k) K ∉ t.place.toList → (∀ c, c < K → way t.mask (tupleKeyHash knd k) c ∈ t.place.toList) → Q (.free (way t.mask (tupleKeyHash knd k) K) false) s) :
    wpAny (model P w) A (setSearch a (.ref x) (tupleKeyHash knd k) true) Q E s := by
  obtain ⟨K, hKf, hK, hKb⟩ := R.tab.first (by unfold hss; rw [List.length_map]; exact R.len) (tupleKeyHash knd k)
  have few : SetTable.turns t.mask ≤ 142 := by
    unfold SetTable.turns
    rcases R.tab.mok with e | e | e <;> omega
  unfold setSearch
  refine R.search pk hx hu hKf hK hKb yes (fun hn => no K hn hK hKb) 100000 0 none rfl (Nat.zero_le _) (by omega) fun i p hp hk => ?_
  have hi : (hss knd L)[i]? = some (tupleKeyHash knd k) := by
    unfold hss
    rw [List.getElem?_map, hp, ← hk]; rfl
  have hil : i < t.place.toList.length := by
    rw [Array.length_toList, R.tab.sz]
    exact (List.getElem?_eq_some_iff.mp hi).1
  have hj := List.getElem?_eq_getElem hil
  obtain ⟨c, hc, e⟩ := R.tab.before hK hi hj
  exact ⟨c, Nat.zero_le _, hc, by rw [hj, e]⟩
theorem filterMap_some {α β : Type} {f : α → Option β} {g : α → β} : ∀ {l : List α}, (∀ i ∈ l, f i = some (g i)) → l.filterMap f = l.map g
  | [], _ => rfl
  | x :: r, h => by rw [List.filterMap_cons_some (h x List.mem_cons_self), filterMap_some fun i hi => h i (List.mem_cons_of_mem _ hi), List.map_cons]
theorem range_all {α : Type} (d : α) (l : List α) : (List.range l.length).map (fun i => l.getD i d) = l := by
  apply List.ext_getElem
  · simp
  · intro i h1 h2
    simp [h2]
theorem tup_stays {h h' : Heap} {k : List κ} {b : Addr} {o : Obj} (hb : IsTupleKey knd h k b) (ho : h.get? a = some o) (hd : o.data = .set es ep t) (hs : Heap.SameBut a h h') : IsTupleKey knd h' k b := by
  obtain ⟨o', items, n, ho', hc, hd', hi⟩ := hb
  refine ⟨o', items, n, (hs.2 b fun e => ?_).trans ho', hc, hd', hi⟩
  subst e
  rw [ho] at ho'
  cases ho'
  rw [hd] at hd'
  cases hd'
/-- the entries in another order -/
theorem entries_in (L : List (Addr × List κ)) {order : Array Nat} (hr : es.toList = rws knd L) (hp : order.toList.Perm (List.range L.length)) :
    ∃ L2, (order.filterMap (es[·]?)).toList = rws knd L2 ∧ L2.Perm L ∧ hss knd L2 = order.toList.map fun i => (es.map (·.1)).getD i 0 := by
  have lt : ∀ i ∈ order.toList, i < L.length := fun i hi => List.mem_range.mp (hp.mem_iff.mp hi)
  have at_ : ∀ i ∈ order.toList, L[i]? = some (L.getD i (0, [])) := fun i hi => by
    rw [List.getD_eq_getElem?_getD, List.getElem?_eq_getElem (lt i hi)]; rfl
  refine ⟨order.toList.map fun i => L.getD i (0, []), ?_, ?_, ?_⟩
  · have e : (order.filterMap (es[·]?)).toList = order.toList.filterMap (es[·]?) := by first | exact Array.toList_filterMap | simp
    rw [e, filterMap_some (g := fun i => (tupleKeyHash knd (L.getD i (0, [])).2, Value.ref (L.getD i (0, [])).1)) fun i hi => rws_at hr (at_ i hi)]
    unfold rws
    rw [List.map_map]; rfl
  · have := hp.map fun i => L.getD i (0, [])
    rwa [range_all] at this
  · unfold hss
    rw [List.map_map]
    refine List.map_congr_left fun i hi => ?_
    show tupleKeyHash knd (L.getD i (0, [])).2 = _
    have e := rws_at hr (at_ i hi)
    simp [Array.getD_eq_getD_getElem?, e]
theorem lay_anew {o : Obj} (ho : s.heap.get? a = some o) (hex : o.ExactSet) (hd : o.data = .set es ep t) (rows : es.toList = rws knd L) (T : TabOk t (hss knd L)) (fl : L.length ≤ t.mask) (nd : (L.map (·.2)).Nodup) (tup : ∀ p ∈ L, IsTupleKey knd s.heap p.2 p.1) 
    (ld : w.params.followText "set-order" = true ∨ t.led = true) {wanted M : Nat} (hw : SetTable.sizeAbove wanted - 1 = M) (hM : MaskOk M) (hw2 : SetTable.sizeAbove wanted ≤ 128) (hn : L.length * 5 < M * 3) {Q : Unit → Shared → Prop}
    (q : ∀ h' L' es' ep' t', Heap.SameBut a s.heap h' → TSet knd h' a L' es' ep' t' → L'.Perm L → Q () { s with heap := h' }) : wpAny (model P w) A (setRelay a wanted) Q E s := by
  have sz := rws_size rows
  have hl : (hss knd L).length = L.length := List.length_map _
  obtain ⟨t', order, e, hp, T', em, el, ep', ed⟩ := relaid_ok t (hs := es.map (·.1)) (wanted := wanted) hw hM (by rw [Array.size_map, sz]; omega)
  rw [Array.size_map, sz] at hp
  obtain ⟨L2, r1, r2, r3⟩ := entries_in L rows hp
  rw [← r3] at T'
  have s2 : (order.filterMap (es[·]?)).size = es.size := by rw [rws_size r1, r2.length_eq, sz]
  have fits : t.fits es.size = true := by
    have := tab_fits T (by rw [hl]; exact fl)
    rwa [hl, ← sz] at this
  rw [setRelay_eq]
  refine wpAny_bind (wpAny_setState_of ho hd fits ?_)
  dsimp only
  refine wp_if_neg (by rw [sizeLine_eq]; omega) ?_
  try refine wpAny_bind (wpAny_pure ?_)
  rw [e]
  dsimp only
  refine wpAny_bind ?_
  refine wp_if_neg (by rw [s2]; simp) ?_
  try refine wpAny_bind (wpAny_pure ?_)
  refine wpAny_pure ?_
  dsimp only
  have mb : M ≤ 127 := by rcases hM with z | z | z <;> omega
  refine wpAny_storeSet_of ho hd ?_ (by rw [s2, sz, sizeLine_eq]; omega)
  have sb : Heap.SameBut a s.heap (s.heap.update a (Obj.putSet (order.filterMap (es[·]?)) t')) := Heap.SameBut.update ..
  refine q _ L2 (order.filterMap (es[·]?)) (ep + 1) t' sb ⟨⟨_, store_at ho hd, ⟨hex.1, hex.2.1, hex.2.2⟩, rfl⟩, r1, T', (r2.map (·.2)).nodup_iff.mpr nd, fun p hpm => tup_stays (tup p (r2.mem_iff.mp hpm)) ho hd sb, by rw [el]; exact ld, ?_⟩ r2
  rw [r2.length_eq, em]
  exact hn
theorem put_perm' {α : Type} (L : List α) (p : Nat) (x : α) : (L.take p ++ x :: L.drop p).Perm (x :: L) := by
  have h : (L.take p ++ x :: L.drop p).Perm (x :: (L.take p ++ L.drop p)) := List.perm_middle
  rwa [List.take_append_drop] at h
/-- one tuple more, of few -/
theorem TSet.add (pk : PlainK knd) (R : TSet knd s.heap a L es ep t) {x : Addr} {k : List κ} (hx : IsTupleKey knd s.heap k x) (hu : A.units < cLine) (few : L.length < 8) {Q : Bool → Shared → Prop}
    (q : ∀ b h' L' es' ep' t', Heap.SameBut a s.heap h' → TSet knd h' a L' es' ep' t' → (k ∈ L.map (·.2) → L' = L) → (k ∉ L.map (·.2) → L'.Perm ((x, k) :: L)) → Q b { s with heap := h' }) :
    wpAny (model P w) A (setAddHashed a (.ref x) (tupleKeyHash knd k)) Q E s := by
  obtain ⟨o, ho, hex, hd⟩ := R.ob
  have room := R.room
  have sz := rws_size R.rows
  unfold setAddHashed
  refine wpAny_holding ?_
  rw [show (100000 : Nat) = 99999 + 1 from rfl, setAddHashedIn_succ]
  refine wpAny_bind (R.state ?_)
  dsimp only
  refine wp_if_neg (by simp [byScan, Value.scannable]) ?_
  try refine wpAny_bind (wpAny_pure ?_)
  refine wpAny_bind (R.find pk hx hu (fun hm => ?_) fun K hm hK hb => ?_)
  · dsimp only
    exact wpAny_pure (q false s.heap L es ep t (Heap.SameBut.refl a s.heap) R (fun _ => rfl) fun z => absurd hm z)
  · dsimp only
    refine wpAny_bind (R.state ?_)
    dsimp only
    obtain ⟨q1, q2, q3, q4, q5, q6, _, _, q9⟩ := R.tab.put hK hb
    generalize t.put (way t.mask (tupleKeyHash knd k) K) = pt at q1 q3 q4 q5 q6 q9 ⊢
    obtain ⟨t1, at_⟩ := pt
    dsimp only at q1 q3 q4 q5 q6 q9 ⊢
    subst q1
    generalize SetTable.below t.place (way t.mask (tupleKeyHash knd k) K) = i at q2 q3 ⊢
    suffices main : ∀ t2 : SetTable, (∃ b, t2 = { t1 with plain := b }) → wpAny (model P w) A (do
        storeSet a (SetTable.insertAt es i (tupleKeyHash knd k, Value.ref x)) t2
        if !false && t2.tooFull then setRelay a (SetTable.grown (es.size + 1))
        return true) Q E s by
      by_cases c1 : t1.plain = true
      · refine wp_if_pos c1 (wpAny_bind (tup_byValue pk hx fun c => ?_))
        exact main (if c = true then t1 else { t1 with plain := false }) (by split <;> exact ⟨_, rfl⟩)
      · refine wp_if_neg c1 ?_
        first
          | exact main (if true = true then t1 else { t1 with plain := false }) ⟨t1.plain, rfl⟩
          | (refine wpAny_bind (wpAny_pure ?_); exact main (if true = true then t1 else { t1 with plain := false }) ⟨t1.plain, rfl⟩)
    intro t2 like
    have q3 : TabOk t2 ((hss knd L).take i ++ tupleKeyHash knd k :: (hss knd L).drop i) := by
      obtain ⟨b, rfl⟩ := like
      exact ⟨q3.ris, q3.dm, q3.sz, q3.mok, q3.bd, q3.reach⟩
    have q4 : t2.mask = t.mask := by obtain ⟨b, rfl⟩ := like; exact q4
    have q5 : t2.led = t.led := by obtain ⟨b, rfl⟩ := like; exact q5
    have q9 : t2.fill = (hss knd L).length + 1 := by obtain ⟨b, rfl⟩ := like; exact q9
    clear like
    have rows1 : (SetTable.insertAt es i (tupleKeyHash knd k, Value.ref x)).toList = rws knd (L.take i ++ (x, k) :: L.drop i) := by
      rw [SetTable.toList_insertAt, R.rows]
      unfold rws
      rw [List.map_append, List.map_cons, List.map_take, List.map_drop]
    have pm := put_perm' L i (x, k)
    have len1 := pm.length_eq
    rw [List.length_cons] at len1
    have T1 : TabOk t2 (hss knd (L.take i ++ (x, k) :: L.drop i)) := by
      have : hss knd (L.take i ++ (x, k) :: L.drop i) = (hss knd L).take i ++ tupleKeyHash knd k :: (hss knd L).drop i := by
        unfold hss
        rw [List.map_append, List.map_cons, List.map_take, List.map_drop]
      rw [this]
      exact q3
    have nd1 : ((L.take i ++ (x, k) :: L.drop i).map (·.2)).Nodup := (pm.map (·.2)).nodup_iff.mpr (List.nodup_cons.mpr ⟨hm, R.nd⟩)
    have sz1 := rws_size rows1
    rw [len1] at sz1
    have fl1 : t2.fill = L.length + 1 := by rw [q9]; unfold hss; rw [List.length_map]
    generalize SetTable.insertAt es i (tupleKeyHash knd k, Value.ref x) = es1 at rows1 sz1 ⊢
    generalize L.take i ++ (x, k) :: L.drop i = L1 at pm len1 T1 nd1 rows1
    refine wpAny_bind (wpAny_storeSet_of ho hd ?_ (by rw [sz1, sizeLine_eq]; omega))
    have sb : Heap.SameBut a s.heap (s.heap.update a (Obj.putSet es1 t2)) := Heap.SameBut.update ..
    have ho1 := store_at (es' := es1) (t' := t2) ho hd
    generalize s.heap.update a (Obj.putSet es1 t2) = h1 at sb ho1 ⊢
    have tup1 : ∀ p ∈ L1, IsTupleKey knd h1 p.2 p.1 := fun p hp => by
      rcases List.mem_cons.mp (pm.mem_iff.mp hp) with e | hp
      · rw [e]; exact tup_stays hx ho hd sb
      · exact tup_stays (R.tup p hp) ho hd sb
    have ld1 : w.params.followText "set-order" = true ∨ t2.led = true := by rw [q5]; exact R.led
    by_cases hf : t2.tooFull = true
    · first
        | (refine wpAny_bind ?_; refine wp_if_pos (by simp [hf]) ?_)
        | (refine wp_if_pos (by simp [hf]) ?_; refine wpAny_bind ?_)
      have full : (L.length + 1) * 5 ≥ t2.mask * 3 := by
        unfold SetTable.tooFull at hf
        rwa [decide_eq_true_eq, fl1] at hf
      rw [q4] at full
      have m7 : t.mask = 7 ∧ L.length = 4 := by
        rcases R.tab.mok with e | e | e <;> rw [e] at full room <;> first | exact ⟨e, by omega⟩ | (exfalso; omega)
      rw [sz, m7.2]
      refine lay_anew (s := { s with heap := h1 }) (L := L1) (M := 31) ho1 ⟨hex.1, hex.2.1, hex.2.2⟩ rfl rows1 T1 (by rw [len1, q4, m7.1, m7.2]; decide) nd1 tup1 ld1 (by show SetTable.sizeAbove (SetTable.grown 5) - 1 = 31; rw [size_20]) (.inr (.inl rfl)) (by show SetTable.sizeAbove (SetTable.grown 5) ≤ 128; rw [size_20]; decide) (by rw [len1, m7.2]; decide) ?_
      intro h2 L2 es2 ep2 t3 sb2 R2 pm2
      exact wpAny_pure (q true h2 L2 es2 ep2 t3 (sb.trans sb2) R2 (fun z => absurd z hm) fun _ => pm2.trans pm)
    · first
        | refine wp_if_neg (by simp [hf]) ?_
        | (refine wpAny_bind ?_; refine wp_if_neg (by simp [hf]) ?_; refine wpAny_pure ?_)
      refine wpAny_pure (q true h1 L1 es1 (ep + 1) t2 sb ⟨⟨_, ho1, ⟨hex.1, hex.2.1, hex.2.2⟩, rfl⟩, rows1, T1, nd1, tup1, ld1, ?_⟩ (fun z => absurd z hm) fun _ => pm)
      unfold SetTable.tooFull at hf
      rw [decide_eq_true_eq, fl1] at hf
      rw [len1]
      omega
end
end Cd.Tp
set_option Elab.async false
set_option linter.all false
set_option maxRecDepth 100000
set_option maxHeartbeats 4000000
namespace Cd.Tp
open PySem PySem.Spec PyProof.Rows L2
section
variable {κ : Type}
/-- what a set has met of the first i -/
structure Met (ks : List (Addr × List κ)) (i : Nat) (L : List (Addr × List κ)) : Prop where
  sub : ∀ p ∈ L, p ∈ ks
  keys : ∀ k, k ∈ L.map (·.2) ↔ k ∈ (ks.take i).map (·.2)
  len : L.length ≤ i
theorem Met.nil (ks : List (Addr × List κ)) : Met ks 0 [] := ⟨fun p h => (by cases h), fun k => (by simp), Nat.le_refl _⟩
theorem Met.next {ks L L' : List (Addr × List κ)} {i : Nat} {x : Addr × List κ} (g : Met ks i L) (h : ks[i]? = some x) (same : x.2 ∈ L.map (·.2) → L' = L) (more : x.2 ∉ L.map (·.2) → L'.Perm (x :: L)) : Met ks (i + 1) L' := by
  have tk : ks.take (i + 1) = ks.take i ++ [x] := by rw [List.take_succ, h]; rfl
  by_cases hm : x.2 ∈ L.map (·.2)
  · rw [same hm]
    refine ⟨g.sub, fun k => ?_, Nat.le_succ_of_le g.len⟩
    rw [tk, List.map_append, List.mem_append, g.keys k]
    refine ⟨.inl, fun z => z.elim id fun z => ?_⟩
    obtain rfl : k = x.2 := by simpa using z
    exact (g.keys _).mp hm
  · have pm := more hm
    refine ⟨fun p hp => ?_, fun k => ?_, by rw [pm.length_eq]; exact Nat.succ_le_succ g.len⟩
    · rcases List.mem_cons.mp (pm.mem_iff.mp hp) with rfl | z
      · exact List.mem_of_getElem? h
      · exact g.sub p z
    · rw [(pm.map (·.2)).mem_iff, List.map_cons, List.mem_cons, tk, List.map_append, List.mem_append, g.keys k]
      simp only [List.map_cons, List.map_nil, List.mem_cons, List.not_mem_nil, or_false]
      exact Or.comm
end
section
variable {P : Program} {w : World} {κ : Type} [DecidableEq κ] {knd : KeyKind P w κ} {A : Around} {E : Value → Shared → Prop} {s : Shared}
theorem tup_at {h h' : Heap} {k : List κ} {b : Addr} (x : IsTupleKey knd h k b) (hk : ∀ c o, h.get? c = some o → h'.get? c = some o) : IsTupleKey knd h' k b := by
  obtain ⟨o, items, n, ho, r⟩ := x
  exact ⟨o, items, n, hk b o ho, r⟩
theorem TSet.at {h h' : Heap} {a : Addr} {L : List (Addr × List κ)} {es : Array (Int × Value)} {ep : Nat} {t : SetTable} (R : TSet knd h a L es ep t) (ha : ∀ o, h.get? a = some o → h'.get? a = some o) (ht : ∀ p ∈ L, IsTupleKey knd h' p.2 p.1) : TSet knd h' a L es ep t := by
  obtain ⟨o, ho, r⟩ := R.ob
  exact ⟨⟨o, ha o ho, r⟩, R.rows, R.tab, R.nd, ht, R.led, R.room⟩
/-- a new set's object -/
abbrev newSetO (w : World) : Obj := { cls := .type "set", dict := none, data := .set #[] 0 (.fresh 0 0 (!w.params.followText "set-order")) }
theorem tset_new {h : Heap} {a : Addr} (ho : h.get? a = some (newSetO w)) : TSet knd h a [] #[] 0 (.fresh 0 0 (!w.params.followText "set-order")) where
  ob := ⟨_, ho, ⟨rfl, rfl, rfl⟩, rfl⟩
  rows := rfl
  tab := ⟨List.Pairwise.nil, rfl, rfl, .inl rfl, fun x hx => (by cases hx), fun i h j hi => (by cases hi)⟩
  nd := List.nodup_nil
  tup := fun p hp => (by cases hp)
  led := by
    show _ ∨ (!w.params.followText "set-order") = true
    cases w.params.followText "set-order"
    · exact .inr rfl
    · exact .inl rfl
  room := by show 0 * 5 < 7 * 3; decide
/-- the loop of set.update over few tuples -/
theorem update_loop (pk : PlainK knd) {I : Addr} {fp wr : List Addr} {G : Array GenState → Array GenState → Prop} {n : Nat} {Pv : Nat → Value → Prop} {St : Nat → Shared → Prop} {R : Result → Shared → Prop}
    (W : WalksS P w A.in1 I fp wr G n Pv St) (S : Addr) (hSf : S ∉ fp) (ks : List (Addr × List κ)) (hn : n = ks.length) (few : ks.length ≤ 8) (hval : ∀ i v, Pv i v → ∃ p, ks[i]? = some p ∧ v = .ref p.1)
    (h0 : Heap) (hk : ∀ p ∈ ks, IsTupleKey knd h0 p.2 p.1) (hS0 : h0.get? S = none) (hw0 : ∀ b ∈ wr, h0.get? b = none) (hu : A.in1.units < cLine)
    (s0 : Shared) (fin : ∀ s' L es ep t, Moved (S :: wr) G s0 s' → TSet knd s'.heap S L es ep t → Met ks n L → (∀ b o, h0.get? b = some o → s'.heap.get? b = some o) → R (.ok (.ret .none)) s') :
    ∀ (m i : Nat) (s1 : Shared), n - i = m → i ≤ n → St i s1 → (∀ b o, h0.get? b = some o → s1.heap.get? b = some o) → (∃ L es ep t, TSet knd s1.heap S L es ep t ∧ Met ks i L) → Moved (S :: wr) G s0 s1 →
      codeAny (model P w) A (.builtin "set.update.loop" ⟨[.ref S, .ref I], []⟩) R s1 := by
  have hSw : S ∉ wr := fun h => hSf (W.sub _ h)
  have wider : ∀ {a b : Shared}, Moved wr G a b → Moved (S :: wr) G a b := fun hm => hm.mono fun b hb => List.mem_cons_of_mem _ hb
  have stays : ∀ {a b : Shared}, Moved wr G a b → (∀ c o, h0.get? c = some o → a.heap.get? c = some o) → ∀ c o, h0.get? c = some o → b.heap.get? c = some o := fun hm hkp c o e =>
    hm.heap c o (fun hb => by rw [hw0 c hb] at e; cases e) (hkp c o e)
  have carried : ∀ {a b : Shared} {L : List (Addr × List κ)} {es : Array (Int × Value)} {ep : Nat} {t : SetTable} {i : Nat}, Moved wr G a b → (∀ c o, h0.get? c = some o → a.heap.get? c = some o) → TSet knd a.heap S L es ep t → Met ks i L → TSet knd b.heap S L es ep t := fun hm hkp hS g =>
    hS.at (fun o e => hm.heap S o hSw e) fun p hp => tup_at (hk p (g.sub p hp)) (stays hm hkp)
  intro m
  induction m with
  | zero =>
    intro i s1 hm0 hi hst hkp ⟨L, es, ep, t, hS, g⟩ mv
    obtain rfl : i = n := by omega
    refine codeAny_builtin F.entry_set_update_loop ?_
    rw [Around.under_plainId F.plain_set_update_loop _]
    show wpAny _ A.in1 (pyNext (.ref I) >>= _) _ _ s1
    refine wpAny_bind (W.done s1 _ _ hst fun s' hm => ?_)
    show wpAny _ A.in1 (ret Value.none) _ _ s'
    exact wpAny_pure (fin s' L es ep t (Moved.trans W.gtrans mv (wider hm)) (carried hm hkp hS g) g (stays hm hkp))
  | succ m ih =>
    intro i s1 hm0 hi hst hkp ⟨L, es, ep, t, hS, g⟩ mv
    have hlt : i < n := by omega
    refine codeAny_builtin F.entry_set_update_loop ?_
    rw [Around.under_plainId F.plain_set_update_loop _]
    show wpAny _ A.in1 (pyNext (.ref I) >>= _) _ _ s1
    refine wpAny_bind (W.item i s1 _ _ hlt hst fun v s' hP hst' hm => ?_)
    obtain ⟨p, hp, rfl⟩ := hval i v hP
    have hkp' := stays hm hkp
    have hS' := carried hm hkp hS g
    have hx : IsTupleKey knd s'.heap p.2 p.1 := tup_at (hk p (List.mem_of_getElem? hp)) hkp'
    show wpAny _ A.in1 (holding [Value.ref p.1] (setAdd S (.ref p.1)) >>= _) _ _ s'
    refine wpAny_bind (wpAny_holding ?_)
    unfold setAdd
    refine wpAny_holding (wpAny_bind (wpAny_pyHash_tuple hu hx ?_))
    refine TSet.add (s := { s' with toks := s'.toks + (p.2.length + 1) }) pk hS' hx hu (by have := g.len; omega) fun b h' L' es' ep' t' sb hS2 c1 c2 => ?_
    have far : ∀ c, c ≠ S → h'.get? c = s'.heap.get? c := fun c hc => sb.2 c hc
    have hkp2 : ∀ c o, h0.get? c = some o → h'.get? c = some o := fun c o e => (far c fun z => by rw [z, hS0] at e; cases e).trans (hkp' c o e)
    have mv2 : Moved (S :: wr) G s0 { s' with heap := h', toks := s'.toks + (p.2.length + 1) } :=
      Moved.trans W.gtrans mv ((wider hm).then_heap (Nat.le_add_right _ _) fun c o hc e => (far c fun z => hc (by rw [z]; exact List.mem_cons_self)).trans e)
    exact wpAny_pure ⟨plainId_quiet F.plain_set_update_loop _, ih (i + 1) _ (by omega) hlt (W.frame _ s' _ _ hst' (Nat.le_add_right _ _) fun c hc o e => (far c fun z => hSf (by rw [← z]; exact hc)).trans e) hkp2 ⟨L', es', ep', t', hS2, g.next hp c1 c2⟩ mv2⟩
theorem update_all (pk : PlainK knd) {I : Addr} {fp wr : List Addr} {G : Array GenState → Array GenState → Prop} {n : Nat} {Pv : Nat → Value → Prop} {St : Nat → Shared → Prop} {R : Result → Shared → Prop}
    (W : WalksS P w A.in1 I fp wr G n Pv St) (S : Addr) (hSf : S ∉ fp) (ks : List (Addr × List κ)) (hn : n = ks.length) (few : ks.length ≤ 8) (hval : ∀ i v, Pv i v → ∃ p, ks[i]? = some p ∧ v = .ref p.1)
    (h0 : Heap) (hk : ∀ p ∈ ks, IsTupleKey knd h0 p.2 p.1) (hS0 : h0.get? S = none) (hw0 : ∀ b ∈ wr, h0.get? b = none) (hu : A.in1.units < cLine) (hst : St 0 s) (hkp : ∀ b o, h0.get? b = some o → s.heap.get? b = some o) (new : s.heap.get? S = some (newSetO w))
    (fin : ∀ s' L es ep t, Moved (S :: wr) G s s' → TSet knd s'.heap S L es ep t → Met ks n L → (∀ b o, h0.get? b = some o → s'.heap.get? b = some o) → R (.ok (.ret .none)) s') :
    codeAny (model P w) A (.builtin "set.update.loop" ⟨[.ref S, .ref I], []⟩) R s :=
  update_loop pk W S hSf ks hn few hval h0 hk hS0 hw0 hu s fin (n - 0) 0 s rfl (Nat.zero_le _) hst hkp ⟨[], #[], 0, _, tset_new new, Met.nil ks⟩ ⟨fun _ _ _ e => e, W.grefl _, rfl, rfl, Nat.le_refl _⟩
end
end Cd.Tp
set_option Elab.async false
set_option linter.all false
set_option maxRecDepth 100000
set_option maxHeartbeats 4000000
namespace Cd.Tp
open PySem PySem.Spec PyProof.Rows L2
section
variable {P : Program} {w : World} {κ : Type} [DecidableEq κ] {knd : KeyKind P w κ} {A : Around} {E : Value → Shared → Prop} {s : Shared}
/-- the heap with a new set -/
abbrev newSetH (w : World) (h : Heap) : Heap := h.push (newSetO w)
theorem above_none {h : Heap} {b : Addr} (hb : h.objs.size ≤ b) : h.get? b = none := by
  cases q : h.get? b with
  | none => rfl
  | some o => exact absurd (Nat.lt_of_lt_of_le (Heap.lt_size q) hb) (Nat.lt_irrefl _)
/-- what the new set is told by its update -/
def SetDone (knd : KeyKind P w κ) (s : Shared) (ks : List (Addr × List κ)) (s2 : Shared) : Prop := ∃ h' tk L es ep t, s2 = { s with heap := h', toks := tk } ∧ TSet knd h' s.heap.objs.size L es ep t ∧ Met ks ks.length L ∧ ∀ b o, s.heap.get? b = some o → h'.get? b = some o
set_option maxRecDepth 100000 in
set_option maxHeartbeats 8000000 in
theorem call_set_few (pk : PlainK knd) {l : Addr} {items : Array Value} (ks : List (Addr × List κ)) {Q : Value → Shared → Prop} (hh : A.handled = none) (hl : s.heap.IsList l items) (hit : items.toList = ks.map fun p => Value.ref p.1) (hk : ∀ p ∈ ks, IsTupleKey knd s.heap p.2 p.1) (few : ks.length ≤ 8) (hu : A.units + 3 < cLine)
    (q : ∀ s2, SetDone knd s ks s2 → Q (.ref s.heap.objs.size) s2) : wpAny (model P w) A (call (.type "set") [.ref l]) Q E s := by
  have isz : items.size = ks.length := by
    have e := congrArg List.length hit
    rwa [Array.length_toList, List.length_map] at e
  have at_ : ∀ (i : Nat) (v : Value), items[i]? = some v → ∃ p, ks[i]? = some p ∧ v = .ref p.1 := fun i v hv => by
    have e : items.toList[i]? = some v := by rw [Array.getElem?_toList]; exact hv
    rw [hit, List.getElem?_map] at e
    cases hq : ks[i]? with
    | none => rw [hq] at e; cases e
    | some p => rw [hq] at e; exact ⟨p, rfl, (Option.some.inj e).symm⟩
  obtain ⟨c, tl, hmro⟩ := F.called_set.mro
  have hmade := F.called_set.made
  have hsub := F.called_set.sub
  refine wpAny_call (codeAny_of_tree ?_)
  show wpAny _ _ (callAny (.type "set") _) _ _ _
  refine wpAny_pure ⟨Code.quiet_builtin _ (by decide +kernel), codeAny_builtin F.entry_type_call ?_⟩
  rw [Around.under_plain (weight_type_call_type "set" [.ref l] []) rfl]
  have h1 := F.called_set.notType
  have h2 := F.called_set.canCreate
  have hct := F.typeCall_set_1 (.ref l)
  repeat (any_goals (first | assumption | wp_step))
  refine codeAny_mono (code_set_led1 (.ref l) (E := E) (Q₁ := fun obj s₁ => obj = .ref s.heap.objs.size ∧ s₁ = { s with heap := newSetH w s.heap }) ⟨rfl, rfl⟩) fun r s₁ hr => ?_
  cases r with
  | error e => exact hr
  | ok fl =>
    cases fl with
    | ret obj =>
      obtain ⟨rfl, rfl⟩ := hr
      have hS : (newSetH w s.heap).get? s.heap.objs.size = some (newSetO w) := Heap.get?_push_size _ rfl
      have hT : Shared.TypeIs { s with heap := newSetH w s.heap } (.ref s.heap.objs.size) "set" := ⟨_, hS, rfl⟩
      have hli := F.called_set.init.lookup
      have hbi := F.called_set.init.bind (.ref s.heap.objs.size)
      repeat (any_goals (first | assumption | wp_step))
      refine codeAny_mono (codeAny_call_builtin (R := wants (fun r s₂ => r = .none ∧ SetDone knd s ks s₂) E) F.called_set.init.plain F.entry_set_init (check_set_init_1 hT ?_)) fun r₂ s₂ hr₂ => ?_
      · obtain ⟨ol, hol, hcl, nl, hdl⟩ := hl
        obtain ⟨ocls, odict, odata, oslots⟩ := ol
        simp only at hcl hdl
        subst hcl; subst hdl
        have hol' : (newSetH w s.heap).get? l = some { cls := .type "list", dict := odict, data := .seq items nl, slots := oslots } := Heap.get?_push_of_some _ hol
        have hsls := F.sub_list_set
        have hslf := F.sub_list_frozenset
        have hne : (Value.type "list" == Value.type "dict") = false := by decide
        have hl1 : (newSetH w s.heap).IsList l items := ⟨_, hol', rfl, nl, rfl⟩
        unfold Builtin.«set.__init__» noKeywords Builtin.Frozenset.updateFrom
        generalize hPI : pyIter = PI
        wp_walk
        subst hPI
        refine wpAny_pyIter_list hl1 ?_
        refine wpAny_bind (wpAny_runValue ?_)
        have lt := Heap.lt_size hol
        have hh3 : A.in1.in1.in1.handled = none := by simp [hh]
        have sz : (newSetH w s.heap).objs.size = s.heap.objs.size + 1 := Heap.size_push ..
        have neI : l ≠ (newSetH w s.heap).objs.size := by rw [sz]; exact Nat.ne_of_lt (Nat.lt_succ_of_lt lt)
        have hSf : s.heap.objs.size ∉ [(newSetH w s.heap).objs.size, l] := by
          rw [sz]
          simp only [List.mem_cons, List.not_mem_nil, or_false, not_or]
          exact ⟨Nat.ne_of_lt (Nat.lt_succ_self _), Nat.ne_of_gt lt⟩
        have get1 : ((newSetH w s.heap).push { cls := .type "list_iterator", data := .fields #[.ref l, .int 0 0] }).get? s.heap.objs.size = some (newSetO w) := Heap.get?_push_of_some _ hS
        refine update_all pk ((Walks.list hh3 _ l neI items).toS) s.heap.objs.size hSf ks isz few at_ s.heap hk (above_none (Nat.le_refl _)) (fun b hb => above_none (by rw [List.mem_singleton.mp hb, sz]; exact Nat.le_succ _)) hu
          ⟨⟨_, Heap.get?_push_size _ rfl, rfl, rfl⟩, (hl1.push _)⟩ (fun b o e => Heap.get?_push_of_some _ (Heap.get?_push_of_some _ e)) get1 fun s' L es ep t hm hS' g' hkp => ?_
        obtain ⟨h', g2, d', tk', os'⟩ := s'
        have eg : g2 = s.gens := hm.gens
        have ed : d' = s.drawn := hm.drawn
        have eo : os' = s.os := hm.os
        subst eg; subst ed; subst eo
        show wpAny _ _ _ _ _ _
        refine wpAny_pure ?_
        show wpAny _ _ (ret Value.none) _ _ _
        rw [isz] at g'
        exact wpAny_pure ⟨rfl, h', tk', L, es, ep, t, rfl, hS', g', hkp⟩
      · cases r₂ with
        | error e => exact hr₂
        | ok fl₂ =>
          cases fl₂ with
          | ret r =>
            obtain ⟨rfl, h', tk, L, es, ep, t, rfl, rest⟩ := hr₂
            repeat (any_goals (first | assumption | wp_step))
            exact q _ ⟨h', _, L, es, ep, t, rfl, rest⟩
          | _ => exact hr₂.elim
    | _ => exact hr.elim
end
end Cd.Tp
set_option Elab.async false
set_option linter.all false
set_option maxRecDepth 100000
set_option maxHeartbeats 4000000
namespace Cd
open PySem PySem.Spec PyProof.Rows L2 Tp
theorem key_shape {P : Program} {w : World} {k : Key} {v : Value} (h : (mixKind P w).is k v = true) : (∃ i t, v = .int i t) ∨ ∃ x t, v = .str x t := by
  replace h : keyIs k v = true := h
  cases v with
  | int i t => exact .inl ⟨_, _, rfl⟩
  | str x t => exact .inr ⟨_, _, rfl⟩
  | _ => cases k <;> (exfalso; first | cases h | simp [keyIs, Value.isInt, Value.isStr] at h)
theorem plainMix {P : Program} {w : World} : PlainK (mixKind P w) where
  cl := fun k v h n => by
    rcases key_shape h with ⟨i, t, rfl⟩ | ⟨x, t, rfl⟩ <;> cases n <;> rfl
  hv := fun k v h n => by
    rcases key_shape h with ⟨i, t, rfl⟩ | ⟨x, t, rfl⟩
    · exact ⟨true, by cases n <;> rfl⟩
    · exact ⟨false, by cases n <;> rfl⟩
/-- the set at a has n items -/
def SLn (a : Addr) (n : Nat) : HO := .ext fun h => ∃ o es ep t, h.get? a = some o ∧ o.ExactSet ∧ o.data = .set es ep t ∧ t.fits es.size = true ∧ es.size = n
theorem sln_ok {P : Program} {w : World} {H : Hp} {h : Heap} {a : Addr} {n : Nat} (e : ∃ o es ep t, h.get? a = some o ∧ o.ExactSet ∧ o.data = .set es ep t ∧ t.fits es.size = true ∧ es.size = n) : ObjOk P w H h a (SLn a n) := by
  obtain ⟨o, es, ep, t, ho, r⟩ := e
  exact ⟨⟨o, es, ep, t, ho, r⟩, ⟨o, ho⟩, fun h1 h2 ⟨o, es, ep, t, ho, r⟩ k => ⟨o, es, ep, t, k o ho, r⟩⟩
def rLenS : List V → Hp → VK → Prop := fun xs H Q => ∃ (p : Addr) (n : Nat), xs = [.ref p] ∧ H p = some (SLn p n) ∧ n < 1000000 ∧ Q (.int (n : Int)) H
theorem cr_lenS {X : Cx} : CallR X (.builtin "len") rLenS := by
  intro pins s σ H vs us Q I r ⟨p, n, e, hp, few, q⟩
  subst e
  rw [Vals.ref1 r]
  obtain ⟨⟨o, es, ep, t, ho, hex, hd, hf, rfl⟩, _⟩ := (show ObjOk X.prog X.w H s.heap p (SLn p n) from I.hok p _ hp)
  exact call_len_set ho hex hd hf (by omega) ⟨.int (es.size : Int), H, I.tok _, ⟨_, rfl⟩, q⟩
def rSetT (K : PySem.W.Frag) : List V → Hp → VK → Prop := fun xs H Q => ∃ (l : Addr) (aks : List (Addr × List Key)), xs = [.ref l] ∧ SqL K H l (aks.map fun p => V.ref p.1) ∧ (∀ p ∈ aks, SqT K H p.1 (p.2.map kV)) ∧ aks.length ≤ 8 ∧ ∀ p, H p = none → Q (.ref p) (upd H p (SLn p (dedup (aks.map (·.2))).length))
theorem refs_of : ∀ {aks : List (Addr × List Key)} {us : List Value}, Vals (aks.map fun p => V.ref p.1) us → us = aks.map fun p => Value.ref p.1
  | [], _, r => by cases r; rfl
  | p :: aks, _, r => by
    cases r with
    | cons h t =>
      rw [refs_of t]
      have : _ = Value.ref p.1 := h
      rw [this]; rfl
theorem cr_setT {X : Cx} (hc : X.calm = true) (hu : X.A.units + 64 < cLine) : CallR X (.type "set") (rSetT X.K) := by
  intro pins s σ H vs us Q I r h
  obtain ⟨l, aks, rfl, hl, ht, few, q⟩ := h
  rw [Vals.ref1 r]
  obtain ⟨its, rv, ⟨o, n, ho, hcl, hd, hdat⟩, hz⟩ := I.list hl
  refine call_set_few (knd := mixKind X.prog X.w) (items := its.toArray) plainMix aks (I.ok.hd hc) ⟨o, ho, hcl, n, hdat⟩ (refs_of rv) (fun p hp => ?_) few (by omega) fun s2 ⟨h', tk, L, es, ep, t, e, R, g, hk⟩ => ?_
  · obtain ⟨kts, rk, ⟨o, ho, hc, n, hd⟩, _⟩ := I.tuple (ht p hp)
    exact ⟨o, kts.toArray, n, ho, hc, hd, by simpa using items_mix rk⟩
  · subst e
    have hlen : es.size = (dedup (aks.map (·.2))).length := by
      rw [rws_size R.rows]
      have dn := dedup_nodupG (aks.map (·.2))
      have pm : (L.map (·.2)).Perm (dedup (aks.map (·.2))) := (List.perm_ext_iff_of_nodup R.nd dn.1).mpr fun k => by
        rw [dn.2, g.keys k, List.take_length]
      rw [← pm.length_eq, List.length_map]
    obtain ⟨o2, ho2, hex2, hd2⟩ := R.ob
    have ft := tab_fits R.tab (by unfold hss; rw [List.length_map]; have := R.room; omega)
    unfold hss at ft
    rw [List.length_map, ← rws_size R.rows] at ft
    exact ⟨.ref s.heap.objs.size, upd H s.heap.objs.size (SLn s.heap.objs.size (dedup (aks.map (·.2))).length), I.laid (t' := tk) (fun b o e => hk b o e) (Nat.le_refl _) (sln_ok ⟨o2, es, ep, t, ho2, hex2, hd2, ft, hlen⟩), rfl, q _ (I.hok.fresh (Nat.le_refl _))⟩
end Cd
set_option Elab.async false
set_option linter.all false
set_option maxRecDepth 100000
set_option maxHeartbeats 4000000
namespace Cd
open PySem PySem.Spec PyProof.Rows L2 Tp
section
variable {Γ : Gm} {N : List Str} {sc : Sco} {ea : Expr} {a : E} {pos p p2 p3 : Pos} {K : PySem.W.Frag}
theorem tups_inv {F : Addr → Prop} {H : Hp} : ∀ {ts : List PyData} {ks : List (List Key)} {vs : List V}, tupsK ts = some ks → RFs K F H ts vs → ∃ aks : List (Addr × List Key), vs = aks.map (fun p => V.ref p.1) ∧ (∀ p ∈ aks, SqT K H p.1 (p.2.map kV)) ∧ aks.map (·.2) = ks
  | [], ks, _, e, .nil => by
    simp only [tupsK, Option.some.injEq] at e
    subst e
    refine ⟨[], rfl, ?_, rfl⟩
    intro p h
    cases h
  | d :: ts, ks, _, e, .cons (v := v) r t => by
    unfold tupsK at e
    split at e
    · rename_i heq; cases heq
    · rename_i ds r' heq
      injection heq with h1 h2
      subst h1 h2
      simp only [Option.bind_eq_some_iff, Option.map_eq_some_iff] at e
      obtain ⟨k, e1, ks', e2, rfl⟩ := e
      obtain ⟨aks, rfl, hT, hks⟩ := tups_inv e2 t
      obtain ⟨q, xs, rfl, hq, hr⟩ := r.tup_inv
      have := keysT_inv e1 hr
      subst this
      exact ⟨(q, k) :: aks, rfl, fun p hp => by
        rcases List.mem_cons.mp hp with rfl | hp
        · exact hq
        · exact hT p hp, by rw [List.map_cons, hks]⟩
    · cases e
theorem de_lenSetT {q : Pos} (v : NB Γ sc "len") (v2 : NB Γ sc "set") (ha : DB Γ N sc ea a) (se1 : Se1 ea := by intro _; rfl) (se2 : Se1 (.Call (.Name "set" q) [ea] [] p2) := by intro _; rfl) :
    DE Γ N sc (.Call (.Name "len" p) [.Call (.Name "set" q) [ea] [] p2] [] pos) (.op1 .lenSetT a) := fun n I W X g =>
  (pe_bi1 g cr_lenS v boot_len (pe_ty1 g (cr_setT g.calm g.hu) v2 (by decide +kernel) (ha n I W X g) se1) se2).imp fun σ H Q q => by
    obtain ⟨env, s, eH, hr, er, _, pr⟩ := At.bind (Rel1 := RB X.K) (ev2 := fun x env h => Cd.ofO ((opf1 .lenSetT x).map Val.p) h) q
    refine ⟨env, s, eH, hr, er, trivial, ?_⟩
    refine PR.mono pr fun x H1 ⟨d, env, s, e, hr, er, ⟨_, rb⟩, pr⟩ => ?_
    subst e
    replace pr : PR X.K I W s σ (Cd.ofO ((lenSetTS d).map Val.p) s.h) (VR X.K) Q := pr
    cases e1 : lenSetTS d with
    | none => rw [e1] at pr; exact False.elim pr
    | some d' =>
      rw [e1] at pr
      cases d with
      | list ts =>
        have e2 : ((tupsK ts).bind fun ks => if ks.length ≤ 8 then some (PyData.int (dedup ks).length) else none) = some d' := e1
        rw [Option.bind_eq_some_iff] at e2
        obtain ⟨ks, e3, e4⟩ := e2
        split at e4
        · rename_i few
          cases e4
          obtain ⟨l, us, rfl, h1, q1⟩ := rb.lst
          obtain ⟨aks, rfl, hT, hks⟩ := tups_inv e3 q1
          have le : aks.length ≤ 8 := by rw [← List.length_map (f := fun p : Addr × List Key => p.2) (as := aks), hks]; exact few
          have dl : (dedup ks).length ≤ ks.length := dedup_leG ks
          refine ⟨l, aks, rfl, h1, hT, le, fun p0 hp => ?_⟩
          rw [hks]
          exact ⟨p0, (dedup ks).length, rfl, upd_same, by omega, pr (s.put p0 (SLn p0 (dedup ks).length) false) _ (hr.put_le hp) rfl (hr.put hp) (.int _)⟩
        · cases e4
      | _ => cases e1
end
end Cd
set_option Elab.async false
set_option linter.all false
set_option maxRecDepth 100000
set_option maxHeartbeats 4000000
namespace Cd
open PySem PySem.Spec PyProof.Rows L2
section
variable {Γ : Gm} {N : List Str} {sc : Sco} {ea : Expr} {a : E} {pos p : Pos} {K : PySem.W.Frag}
end
end Cd
set_option Elab.async false
set_option linter.all false
set_option maxRecDepth 100000
set_option maxHeartbeats 4000000
namespace Cd
open PySem L2
/-- Round.__init__: 0 self, 1 chips, 2 forced, 3 first, 4 many, 5 bet -/
def b0 : List S := [.newFld 0 0 (.comp [4, 5] (.tup [(.name 4), (.name 5)]) (.zip (.var 1) (.var 2)) [] (.op2d .sub (.var 4) (.var 5))), .newFld 0 1 (.op1 .list (.var 2)), .newFld 0 2 (.op2b .rep (.lst [(.lit (.bool false))]) (.op1 .len (.var 1))), .newFld 0 3 (.op2b .rep (.lst [(.lit (.bool false))]) (.op1 .len (.var 1))), .setFld 0 4 (.op1 .max (.var 2)), .setFld 0 5 (.op2 .max2 (.op1 .max (.var 2)) (.lit (.int 1))), .setFld 0 6 (.var 3), .expr (.meth 0 2 0 [])]
/-- Round.must_act: 0 self, 1 seat -/
def b1 : List S := [.if_ (.or_ (.val (.op2b .ix (.fld 0 2) (.var 1))) (.val (.op2 .eq (.op2b .ix (.fld 0 0) (.var 1)) (.lit (.int 0))))) [.ret (.lit (.bool false))] [], .ret (.or_ (.not_ (.op2b .ix (.fld 0 3) (.var 1))) (.op2 .lt (.op2b .ix (.fld 0 1) (.var 1)) (.fld 0 4)))]
def d1 : FnD := ⟨2, 2, b1⟩
/-- Round.find_turn: 0 self, 1 many, 2 here, 3 seats, 4 asked, 5 seat -/
def b2 : List S := [.set 1 (.op1 .len (.fld 0 1)), .set 2 (.fld 0 6), .setFld 0 6 (.lit .none), .if_ (.val (.op2 .gt (.op2b .count (.fld 0 2) (.lit (.bool false))) (.lit (.int 1)))) [.set 3 (.op2d .add (.op2d .from_ (.var 2) (.var 1)) (.op1 .range (.var 2))), .set 4 (.comp [5] (.name 5) (.e (.var 3)) [(.val (.meth 0 1 0 [(.var 5)]))] (.var 5)), .if_ (.val (.var 4)) [.setFld 0 6 (.op2b .ix (.var 4) (.lit (.int 0)))] []] []]
def d2 : FnD := ⟨1, 6, b2⟩
/-- Round.turn: 0 self -/
def b3 : List S := [.ret (.fld 0 6)]
def d3 : FnD := ⟨1, 1, b3⟩
/-- Round.seat_now: 0 self -/
def b4 : List S := [.if_ (.val (.op1 .isNone (.fld 0 6))) [.raise_ 4 []] [], .ret (.fld 0 6)]
def d4 : FnD := ⟨1, 1, b4⟩
/-- Round.end_turn: 0 self, 1 seat -/
def b5 : List S := [.setIx (.fld 0 3) (.var 1) (.lit (.bool true)), .setFld 0 6 (.op2d .add (.var 1) (.lit (.int 1))), .if_ (.val (.op2 .eq (.fld 0 6) (.op1 .len (.fld 0 1)))) [.setFld 0 6 (.lit (.int 0))] [], .expr (.meth 0 2 0 [])]
def d5 : FnD := ⟨2, 2, b5⟩
/-- Round.lay: 0 self, 1 seat, 2 many -/
def b6 : List S := [.setIx (.fld 0 0) (.var 1) (.op2d .sub (.op2b .ix (.fld 0 0) (.var 1)) (.var 2)), .setIx (.fld 0 1) (.var 1) (.op2d .add (.op2b .ix (.fld 0 1) (.var 1)) (.var 2))]
/-- _law_refused: 0 _law_table, 1 _law_before, 2 _law_due, 3 _law_bet -/
def b20 : List S := [.set 1 (.call 18 [(.var 0)]), .set 2 (.ite (.val (.op1 .isNone (.meth 0 3 0 []))) (.lit (.str ("Over" : Str))) (.lit (.str ("BadDeed" : Str)))), .for_ (.name 3) (.e (.call 19 [(.var 0)])) [.if_ (.or_ (.val (.op2 .ne (.call 17 [(.var 0), (.lit (.str ("raise" : Str))), (.var 3)]) (.var 2))) (.val (.op2 .ne (.call 18 [(.var 0)]) (.var 1)))) [.ret (.lit (.bool false))] []], .ret (.lit (.bool true))]
def d20 : FnD := ⟨1, 4, b20⟩
/-- row_top: 0 ranks, 1 k -/
def b48 : List S := [.if_ (.val (.op2 .eq (.var 0) (.lit (.tuple [(.int 14), (.int 5), (.int 4), (.int 3), (.int 2)])))) [.ret (.lit (.int 5))] [], .if_ (.val (.op2 .eq (.var 0) (.op1 .tuple (.comp [1] (.name 1) (.rng1 (.lit (.int 5))) [] (.op2d .sub (.op2b .ix (.var 0) (.lit (.int 0))) (.var 1)))))) [.ret (.op2b .ix (.var 0) (.lit (.int 0)))] [], .ret (.lit (.int 0))]
def d48 : FnD := ⟨1, 2, b48⟩
/-- _law_ranks: 0 _law_script, 1 _law_town, 2 _law_gone, 3 _law_some, 4 _law_k, 5 _law_is_gone -/
def b52 : List S := [.set 3 (.comp [4] (.name 4) (.rng1 (.lit (.int 3))) [] (.call 50 [(.call 51 [(.var 0), (.var 1), (.lit (.int 5))])])), .ret (.op1 .tuple (.comp [5] (.name 5) (.e (.var 2)) [] (.ite (.val (.var 5)) (.lit .none) (.call 14 [(.var 0), (.var 1), (.var 3)]))))]
def d52 : FnD := ⟨3, 6, b52⟩
/-- _law_d: 0 _law_cell_here, 1 _law_place, 2 _law_many, 3 _law_number -/
def b71 : List S := [.set 3 (.op2d .mod (.op2d .add (.var 0) (.op2d .mul (.lit (.int 104729)) (.var 1))) (.lit (.int 4294967291))), .set 3 (.op2d .mod (.op2d .mul (.op2d .mod (.op2d .mul (.var 3) (.var 3)) (.lit (.int 4294967279))) (.lit (.int 48271))) (.lit (.int 4294967291))), .ret (.op2d .mod (.op2d .fdiv (.var 3) (.lit (.int 64))) (.var 2))]
def d71 : FnD := ⟨3, 4, b71⟩
/-- _law_cell: 0 _law_script, 1 _law_k -/
def b72 : List S := [.if_ (.val (.op2 .lt (.var 1) (.op1 .len (.var 0)))) [.ret (.op2b .ix (.var 0) (.var 1))] [], .ret (.lit (.int 0))]
def d72 : FnD := ⟨2, 2, b72⟩
/-- _law_same: 0 _law_told, 1 _law_due, 2 _law_one, 3 _law_other -/
def b73 : List S := [.if_ (.val (.op1 .isNone (.var 1))) [.ret (.op1 .isNone (.var 0))] [], .if_ (.val (.isi (.var 1) .bool)) [.ret (.and_ (.isi (.var 0) .bool) (.op2 .eq (.var 0) (.var 1)))] [], .if_ (.val (.isi (.var 1) .tuple)) [.if_ (.or_ (.not_ (.val (.isi (.var 0) .tuple))) (.val (.op2 .ne (.op1 .len (.var 0)) (.op1 .len (.var 1))))) [.ret (.lit (.bool false))] [], .ret (.op1 .all (.comp [2, 3] (.tup [(.name 2), (.name 3)]) (.zip (.var 0) (.var 1)) [] (.call 73 [(.var 2), (.var 3)])))] [], .if_ (.val (.isi (.var 1) .str)) [.ret (.and_ (.isi (.var 0) .str) (.op2 .eq (.var 0) (.var 1)))] [], .ret (.and_ (.isi (.var 0) .int) (.and_ (.not_ (.isi (.var 0) .bool)) (.op2 .eq (.var 0) (.var 1))))]
def d73 : FnD := ⟨2, 4, b73⟩
/-- _law_cards: 0 _law_cells, 1 _law_many, 2 _law_left, 3 _law_rank_here, 4 _law_found, 5 _law_cell_here, 6 _law_k, 7 _law_suit -/
def b74 : List S := [.set 2 (.mk (.lst [])), .for_ (.name 3) (.rng2 (.lit (.int 2)) (.lit (.int 15))) [.set 2 (.mk (.catB 2 (.comp [7] (.name 7) (.e (.lit (.str ("cdhs" : Str)))) [] (.tup [(.var 3), (.var 7)]))))], .set 4 (.tup []), .set 5 (.lit (.int 0)), .for_ (.name 6) (.rng1 (.var 1)) [.if_ (.val (.op2 .lt (.var 6) (.op1 .len (.var 0)))) [.set 5 (.op2b .ix (.var 0) (.var 6))] [], .set 4 (.op2d .add (.var 4) (.tup [(.pop 2 (.call 71 [(.var 5), (.op2d .add (.var 6) (.lit (.int 1))), (.op1 .len (.var 2))]))]))], .ret (.var 4)]
def d74 : FnD := ⟨2, 8, b74⟩
/-- _law_close: 0 _law_cells, 1 _law_many, 2 _law_left, 3 _law_low, 4 _law_rank_here, 5 _law_found, 6 _law_cell_here, 7 _law_k, 8 _law_suit -/
def b75 : List S := [.set 2 (.mk (.lst [])), .set 3 (.lit (.int 0)), .if_ (.val (.var 0)) [.set 3 (.op2d .mod (.op2b .ix (.var 0) (.lit (.int 0))) (.lit (.int 9)))] [], .for_ (.name 4) (.rng2 (.op2d .add (.var 3) (.lit (.int 2))) (.op2d .add (.var 3) (.lit (.int 7)))) [.set 2 (.mk (.catB 2 (.comp [8] (.name 8) (.e (.lit (.str ("cdhs" : Str)))) [] (.tup [(.var 4), (.var 8)]))))], .set 5 (.tup []), .set 6 (.lit (.int 0)), .for_ (.name 7) (.rng1 (.var 1)) [.if_ (.val (.op2 .lt (.op2d .add (.var 7) (.lit (.int 1))) (.op1 .len (.var 0)))) [.set 6 (.op2b .ix (.var 0) (.op2d .addI (.var 7) (.lit (.int 1))))] [], .set 5 (.op2d .add (.var 5) (.tup [(.pop 2 (.call 71 [(.var 6), (.lit (.int 1)), (.op1 .len (.var 2))]))]))], .ret (.var 5)]
def d75 : FnD := ⟨2, 9, b75⟩
/-- _law_rank: 0 _law_five, 1 _law_often, 2 _law_rank_here, 3 _law_suit, 4 _law_ranks, 5 _law_many, 6 _law_shape, 7 _law_shapes, 8 _law_suits, 9 _law_alike, 10 _law_top -/
def b76 : List S := [.set 1 (.mk (.op2b .rep (.lst [(.lit (.int 0))]) (.lit (.int 15)))), .for_ (.tup [(.name 2), (.name 3)]) (.e (.var 0)) [.setIx (.var 1) (.var 2) (.op2d .add (.op2b .ix (.var 1) (.var 2)) (.lit (.int 1)))], .set 4 (.lst []), .for_ (.name 5) (.e (.tup [(.lit (.int 4)), (.lit (.int 3)), (.lit (.int 2)), (.lit (.int 1))])) [.set 4 (.op2d .add (.var 4) (.comp [2] (.name 2) (.rng3 (.lit (.int 14)) (.lit (.int 1))) [(.val (.op2 .eq (.op2b .ix (.var 1) (.var 2)) (.var 5)))] (.var 2)))], .set 6 (.op1 .rev (.op1 .sorted (.compB 1 [5] (.name 5) [(.val (.op2 .gt (.var 5) (.lit (.int 0))))] (.var 5)))), .set 7 (.lst [(.lst [(.lit (.int 2)), (.lit (.int 1)), (.lit (.int 1)), (.lit (.int 1))]), (.lst [(.lit (.int 2)), (.lit (.int 2)), (.lit (.int 1))]), (.lst [(.lit (.int 3)), (.lit (.int 1)), (.lit (.int 1))]), (.lst [(.lit (.int 3)), (.lit (.int 2))]), (.lst [(.lit (.int 4)), (.lit (.int 1))])]), .if_ (.val (.op2 .isIn (.var 6) (.var 7))) [.ret (.tup [(.op2 .ix (.lst [(.lit (.int 1)), (.lit (.int 2)), (.lit (.int 3)), (.lit (.int 6)), (.lit (.int 7))]) (.op2b .index (.var 7) (.var 6))), (.op1 .tuple (.var 4))])] [], .set 8 (.comp [2, 3] (.tup [(.name 2), (.name 3)]) (.e (.var 0)) [] (.var 3)), .set 9 (.op2 .eq (.op2b .count (.var 8) (.op2d .ix (.var 8) (.lit (.int 0)))) (.lit (.int 5))), .set 10 (.lit (.int 0)), .if_ (.val (.op2 .eq (.op2d .sub (.op2b .ix (.var 4) (.lit (.int 0))) (.op2b .ix (.var 4) (.lit (.int 4)))) (.lit (.int 4)))) [.set 10 (.op2b .ix (.var 4) (.lit (.int 0)))] [], .if_ (.val (.op2 .eq (.var 4) (.lst [(.lit (.int 14)), (.lit (.int 5)), (.lit (.int 4)), (.lit (.int 3)), (.lit (.int 2))]))) [.set 10 (.lit (.int 5))] [], .if_ (.val (.op2 .gt (.var 10) (.lit (.int 0)))) [.ret (.tup [(.ite (.val (.var 9)) (.lit (.int 8)) (.lit (.int 4))), (.tup [(.var 10)])])] [], .ret (.tup [(.ite (.val (.var 9)) (.lit (.int 5)) (.lit (.int 0))), (.op1 .tuple (.var 4))])]
def d76 : FnD := ⟨1, 11, b76⟩
/-- is_falling: 0 ranks, 1 many, 2 one, 3 two -/
def b94 : List S := [.if_ (.or_ (.not_ (.val (.isi (.var 0) .tuple))) (.val (.op2 .ne (.op1 .len (.var 0)) (.var 1)))) [.ret (.lit (.bool false))] [], .if_ (.not_ (.val (.op1 .all (.comp [2] (.name 2) (.e (.var 0)) [] (.and_ (.isi (.var 2) .int) (.and_ (.not_ (.isi (.var 2) .bool)) (.and_ (.op2d .le (.lit (.int 2)) (.var 2)) (.op2d .le (.var 2) (.lit (.int 14)))))))))) [.ret (.lit (.bool false))] [], .ret (.op1 .all (.comp [2, 3] (.tup [(.name 2), (.name 3)]) (.zip (.op3b (.slice false true) (.var 0) (.lit .none) (.op1 .neg (.lit (.int 1)))) (.op3b (.slice true false) (.var 0) (.lit (.int 1)) (.lit .none))) [] (.op2 .gt (.var 2) (.var 3))))]
def d94 : FnD := ⟨2, 4, b94⟩
/-- is_rank: 0 thing, 1 kind, 2 ranks, 3 first, 4 more, 5 one -/
def b95 : List S := [.if_ (.or_ (.not_ (.val (.isi (.var 0) .tuple))) (.or_ (.val (.op2 .ne (.op1 .len (.var 0)) (.lit (.int 2)))) (.not_ (.val (.isi (.op2b .ix (.var 0) (.lit (.int 1))) .tuple))))) [.ret (.lit (.bool false))] [], .unpack (.tup [(.name 1), (.name 2)]) (.var 0), .if_ (.or_ (.not_ (.val (.isi (.var 1) .int))) (.or_ (.val (.isi (.var 1) .bool)) (.not_ (.val (.and_ (.op2d .le (.lit (.int 0)) (.var 1)) (.op2d .le (.var 1) (.lit (.int 8)))))))) [.ret (.lit (.bool false))] [], .if_ (.val (.op2 .isIn (.var 1) (.tup [(.lit (.int 4)), (.lit (.int 8))]))) [.ret (.and_ (.call 94 [(.var 2), (.lit (.int 1))]) (.op2 .isIn (.op2b .ix (.var 2) (.lit (.int 0))) (.lit (.tuple [(.int 5), (.int 6), (.int 7), (.int 8), (.int 9), (.int 10), (.int 11), (.int 12), (.int 13), (.int 14)]))))] [], .if_ (.val (.op2 .isIn (.var 1) (.tup [(.lit (.int 0)), (.lit (.int 5))]))) [.ret (.and_ (.call 94 [(.var 2), (.lit (.int 5))]) (.op2 .eq (.call 48 [(.var 2)]) (.lit (.int 0))))] [], .unpack (.tup [(.name 3), (.name 4)]) (.op2b .ix (.lit (.tuple [(.tuple []), (.tuple [(.int 1), (.int 3)]), (.tuple [(.int 2), (.int 1)]), (.tuple [(.int 1), (.int 2)]), (.tuple []), (.tuple []), (.tuple [(.int 1), (.int 1)]), (.tuple [(.int 1), (.int 1)]), (.tuple [])])) (.var 1)), .if_ (.or_ (.not_ (.val (.call 94 [(.op3b (.slice false true) (.var 2) (.lit .none) (.var 3)), (.var 3)]))) (.not_ (.val (.call 94 [(.op3b (.slice true false) (.var 2) (.var 3) (.lit .none)), (.var 4)])))) [.ret (.lit (.bool false))] [], .ret (.not_ (.op1 .any (.comp [5] (.name 5) (.e (.op3b (.slice true false) (.var 2) (.var 3) (.lit .none))) [] (.op2 .isIn (.var 5) (.op3b (.slice false true) (.var 2) (.lit .none) (.var 3))))))]
def d95 : FnD := ⟨1, 6, b95⟩
/-- _law_is_rank: 0 _law_thing, 1 _law_kind, 2 _law_ranks, 3 _law_one, 4 _law_shape, 5 _law_five, 6 _law_rank_here, 7 _law_many, 8 _law_suit -/
def b181 : List S := [.if_ (.or_ (.not_ (.val (.isi (.var 0) .tuple))) (.or_ (.val (.op2 .ne (.op1 .len (.var 0)) (.lit (.int 2)))) (.not_ (.val (.isi (.op2b .ix (.var 0) (.lit (.int 1))) .tuple))))) [.ret (.lit (.bool false))] [], .unpack (.tup [(.name 1), (.name 2)]) (.var 0), .for_ (.name 3) (.e (.op2d .add (.var 2) (.tup [(.var 1)]))) [.if_ (.or_ (.not_ (.val (.isi (.var 3) .int))) (.val (.isi (.var 3) .bool))) [.ret (.lit (.bool false))] []], .if_ (.or_ (.val (.op2 .lt (.var 1) (.lit (.int 0)))) (.or_ (.val (.op2 .gt (.var 1) (.lit (.int 8)))) (.val (.comp [3] (.name 3) (.e (.var 2)) [(.or_ (.val (.op2 .lt (.var 3) (.lit (.int 2)))) (.val (.op2 .gt (.var 3) (.lit (.int 14)))))] (.var 3))))) [.ret (.lit (.bool false))] [], .if_ (.val (.op2 .isIn (.var 1) (.tup [(.lit (.int 4)), (.lit (.int 8))]))) [.ret (.and_ (.op2 .eq (.op1 .len (.var 2)) (.lit (.int 1))) (.op2 .ge (.op2b .ix (.var 2) (.lit (.int 0))) (.lit (.int 5))))] [], .set 4 (.op2b .ix (.lst [(.tup [(.lit (.int 1)), (.lit (.int 1)), (.lit (.int 1)), (.lit (.int 1)), (.lit (.int 1))]), (.tup [(.lit (.int 2)), (.lit (.int 1)), (.lit (.int 1)), (.lit (.int 1))]), (.tup [(.lit (.int 2)), (.lit (.int 2)), (.lit (.int 1))]), (.tup [(.lit (.int 3)), (.lit (.int 1)), (.lit (.int 1))]), (.tup []), (.tup [(.lit (.int 1)), (.lit (.int 1)), (.lit (.int 1)), (.lit (.int 1)), (.lit (.int 1))]), (.tup [(.lit (.int 3)), (.lit (.int 2))]), (.tup [(.lit (.int 4)), (.lit (.int 1))])]) (.var 1)), .if_ (.val (.op2 .ne (.op1 .len (.var 2)) (.op1 .len (.var 4)))) [.ret (.lit (.bool false))] [], .set 5 (.mk (.lst [])), .for_ (.tup [(.name 6), (.name 7)]) (.zip (.var 2) (.var 4)) [.set 5 (.mk (.catB 5 (.comp [8] (.name 8) (.e (.op3b (.sliceS false true) (.lit (.str ("cdhs" : Str))) (.lit .none) (.var 7))) [] (.tup [(.var 6), (.var 8)]))))], .if_ (.val (.op2 .eq (.var 1) (.lit (.int 0)))) [.setIx (.var 5) (.lit (.int 4)) (.tup [(.op2b .ix (.var 2) (.lit (.int 4))), (.lit (.str ("d" : Str)))])] [], .ret (.and_ (.op2 .eq (.op1 .lenSetT (.var 5)) (.lit (.int 5))) (.op2 .eq (.call 76 [(.freeze 5)]) (.var 0)))]
def d181 : FnD := ⟨1, 9, b181⟩
/-- law: 0 _law_script, 1 _law_cell_here, 2 _law_things, 3 _law_top, 4 _law_row, 5 _law_falling, 6 _law_five, 7 _law_thing, 8 _law_kind, 9 _law_ranks, 10 _law_at, 11 _law_new, 12 _law_k -/
def b182 : List S := [.set 1 (.call 72 [(.var 0), (.lit (.int 0))]), .set 2 (.mk (.lst [(.lit .none), (.lit (.int 7)), (.lit (.str ("0" : Str))), (.tup []), (.tup [(.lit (.int 0)), (.tup [])]), (.tup [(.lit (.int 4)), (.tup [(.lit (.int 5))])]), (.tup [(.lit (.int 8)), (.tup [(.lit (.int 4))])]), (.tup [(.lit (.int 4)), (.tup [(.lit (.int 15))])]), (.tup [(.lit (.bool true)), (.tup [(.lit (.int 14)), (.lit (.int 13)), (.lit (.int 3)), (.lit (.int 2))])]), (.tup [(.lit (.int 9)), (.tup [])])])), .app (.var 2) (.tup [(.lit (.int 0)), (.tup [(.lit (.int 14)), (.lit (.int 5)), (.lit (.int 4)), (.lit (.int 3)), (.lit (.int 2))])]), .set 3 (.op2d .add (.call 71 [(.var 1), (.lit (.int 1)), (.lit (.int 10))]) (.lit (.int 5))), .set 4 (.op1 .tuple (.comp [12] (.name 12) (.rng1 (.lit (.int 5))) [] (.ite (.val (.op2 .eq (.op2d .sub (.var 3) (.var 12)) (.lit (.int 1)))) (.lit (.int 14)) (.op2d .sub (.var 3) (.var 12))))), .set 5 (.op1 .tuple (.op1 .rev (.op1 .sorted (.var 4)))), .set 2 (.mk (.catB 2 (.lst [(.tup [(.lit (.int 0)), (.var 5)]), (.tup [(.lit (.int 5)), (.var 5)]), (.tup [(.lit (.int 5)), (.var 4)]), (.tup [(.lit (.int 6)), (.tup [(.lit (.int 2)), (.lit (.int 2))])]), (.tup [(.lit (.int 1)), (.tup [(.lit (.bool true)), (.lit (.int 5)), (.lit (.int 4)), (.lit (.int 3))])])]))), .for_ (.name 6) (.e (.lst [(.call 74 [(.op3b (.slice true true) (.var 0) (.lit (.int 1)) (.lit (.int 6))), (.lit (.int 5))]), (.call 75 [(.op3b (.slice true true) (.var 0) (.lit (.int 1)) (.lit (.int 7))), (.lit (.int 5))]), (.call 75 [(.op3b (.slice true true) (.var 0) (.lit (.int 6)) (.lit (.int 12))), (.lit (.int 5))])])) [.unpack (.tup [(.name 8), (.name 9)]) (.call 76 [(.var 6)]), .set 10 (.call 71 [(.var 1), (.lit (.int 10)), (.op1 .len (.var 9))]), .set 11 (.call 71 [(.var 1), (.lit (.int 50)), (.lit (.int 16))]), .set 2 (.mk (.catB 2 (.lst [(.tup [(.var 8), (.var 9)]), (.lst [(.var 8), (.var 9)]), (.tup [(.var 8), (.op1 .list (.var 9))]), (.tup [(.var 8), (.op1 .revT (.var 9))])]))), .app (.var 2) (.tup [(.op2d .sub (.call 71 [(.var 1), (.lit (.int 50)), (.lit (.int 11))]) (.lit (.int 1))), (.var 9)]), .set 2 (.mk (.catB 2 (.lst [(.tup [(.var 8), (.op2d .add (.op2d .add (.op3b (.slice false true) (.var 9) (.lit .none) (.var 10)) (.tup [(.var 11)])) (.op3b (.slice true false) (.var 9) (.op2d .addI (.var 10) (.lit (.int 1))) (.lit .none)))]), (.tup [(.var 8), (.op2d .add (.op2d .add (.op3b (.slice false true) (.var 9) (.lit .none) (.var 10)) (.tup [(.var 11)])) (.op3b (.slice true false) (.var 9) (.var 10) (.lit .none)))])]))), .set 2 (.mk (.catB 2 (.lst [(.tup [(.var 8), (.op2d .add (.op3b (.slice false true) (.var 9) (.lit .none) (.var 10)) (.op3b (.slice true false) (.var 9) (.op2d .addI (.var 10) (.lit (.int 1))) (.lit .none)))]), (.tup [(.var 8), (.var 9), (.lit (.int 0))])]))), .app (.var 2) (.tup [(.var 8), (.op2d .add (.op2d .add (.op3b (.slice false true) (.var 9) (.lit .none) (.var 10)) (.tup [(.lit .none)])) (.op3b (.slice true false) (.var 9) (.op2d .addI (.var 10) (.lit (.int 1))) (.lit .none)))])], .forB (.name 7) 2 [.if_ (.not_ (.val (.call 73 [(.call 95 [(.var 7)]), (.call 181 [(.var 7)])]))) [.ret (.lit (.bool false))] []], .ret (.lit (.bool true))]
def d182 : FnD := ⟨1, 13, b182⟩
end Cd
set_option Elab.async false
set_option linter.all false
set_option maxRecDepth 100000
set_option maxHeartbeats 4000000
namespace Cd
def fns : Nat → Option FnD
  | 48 => some d48
  | 94 => some d94
  | 95 => some d95
  | 71 => some d71
  | 72 => some d72
  | 73 => some d73
  | 74 => some d74
  | 75 => some d75
  | 76 => some d76
  | 181 => some d181
  | 182 => some d182
  | _ => none
end Cd
set_option Elab.async false
set_option linter.all false
set_option maxRecDepth 100000
set_option maxHeartbeats 4000000
namespace Cd
open PySem PySem.Spec PyProof.Rows L2
def top (i : Nat) : Stmt := PySem.Challenge.pw_cardhands_k04_whole_things_as_ranks.main.body.getD i (.Pass ⟨0, 0, 0, 0⟩)
abbrev s48 : Stmt := top 2
abbrev N48 : List Str := [("ranks" : Str), ("k" : Str)]
abbrev s94 : Stmt := top 6
abbrev N94 : List Str := [("ranks" : Str), ("many" : Str), ("one" : Str), ("two" : Str)]
abbrev s95 : Stmt := top 7
abbrev N95 : List Str := [("thing" : Str), ("kind" : Str), ("ranks" : Str), ("first" : Str), ("more" : Str), ("one" : Str)]
abbrev s71 : Stmt := top 9
abbrev N71 : List Str := [("_law_cell_here" : Str), ("_law_place" : Str), ("_law_many" : Str), ("_law_number" : Str)]
abbrev s72 : Stmt := top 10
abbrev N72 : List Str := [("_law_script" : Str), ("_law_k" : Str)]
abbrev s73 : Stmt := top 11
abbrev N73 : List Str := [("_law_told" : Str), ("_law_due" : Str), ("_law_one" : Str), ("_law_other" : Str)]
abbrev s74 : Stmt := top 12
abbrev N74 : List Str := [("_law_cells" : Str), ("_law_many" : Str), ("_law_left" : Str), ("_law_rank_here" : Str), ("_law_found" : Str), ("_law_cell_here" : Str), ("_law_k" : Str), ("_law_suit" : Str)]
abbrev s75 : Stmt := top 13
abbrev N75 : List Str := [("_law_cells" : Str), ("_law_many" : Str), ("_law_left" : Str), ("_law_low" : Str), ("_law_rank_here" : Str), ("_law_found" : Str), ("_law_cell_here" : Str), ("_law_k" : Str), ("_law_suit" : Str)]
abbrev s76 : Stmt := top 14
abbrev N76 : List Str := [("_law_five" : Str), ("_law_often" : Str), ("_law_rank_here" : Str), ("_law_suit" : Str), ("_law_ranks" : Str), ("_law_many" : Str), ("_law_shape" : Str), ("_law_shapes" : Str), ("_law_suits" : Str), ("_law_alike" : Str), ("_law_top" : Str)]
abbrev s181 : Stmt := top 17
abbrev N181 : List Str := [("_law_thing" : Str), ("_law_kind" : Str), ("_law_ranks" : Str), ("_law_one" : Str), ("_law_shape" : Str), ("_law_five" : Str), ("_law_rank_here" : Str), ("_law_many" : Str), ("_law_suit" : Str)]
abbrev s182 : Stmt := top 18
abbrev N182 : List Str := [("_law_script" : Str), ("_law_cell_here" : Str), ("_law_things" : Str), ("_law_top" : Str), ("_law_row" : Str), ("_law_falling" : Str), ("_law_five" : Str), ("_law_thing" : Str), ("_law_kind" : Str), ("_law_ranks" : Str), ("_law_at" : Str), ("_law_new" : Str), ("_law_k" : Str)]
def Γ0 : Gm where
  fns := fns
  defs := [(("row_top" : Str), 48), (("is_falling" : Str), 94), (("is_rank" : Str), 95), (("_law_d" : Str), 71), (("_law_cell" : Str), 72), (("_law_same" : Str), 73), (("_law_cards" : Str), 74), (("_law_close" : Str), 75), (("_law_rank" : Str), 76), (("_law_is_rank" : Str), 181), (("law" : Str), 182)]
  nobs := [("all" : Str), ("any" : Str), ("bool" : Str), ("int" : Str), ("isinstance" : Str), ("len" : Str), ("list" : Str), ("range" : Str), ("set" : Str), ("sorted" : Str), ("str" : Str), ("tuple" : Str), ("zip" : Str)]
  cons := [(("LOW_ROW" : Str), (.tuple [(.int 14), (.int 5), (.int 4), (.int 3), (.int 2)])), (("ROW_TOPS" : Str), (.tuple [(.int 5), (.int 6), (.int 7), (.int 8), (.int 9), (.int 10), (.int 11), (.int 12), (.int 13), (.int 14)])), (("SHARED" : Str), (.tuple [(.tuple []), (.tuple [(.int 1), (.int 3)]), (.tuple [(.int 2), (.int 1)]), (.tuple [(.int 1), (.int 2)]), (.tuple []), (.tuple []), (.tuple [(.int 1), (.int 1)]), (.tuple [(.int 1), (.int 1)]), (.tuple [])]))]
  cls := []
  meths := []
  flds := []
  excs := []
theorem ds48 : DSs Γ0 N48 (fnSco s48) (defBody s48) b48 := by exact
  (dss_cons (ds_if (dt_eq (DE.v (de_var (vo (by decide +kernel)))) (DV.b (DP.v (dp_con (go (by decide +kernel)) (.head _))))) (dss_cons (ds_ret (DP.toE dp_int))
  dss_nil) dss_nil)
  (dss_cons (ds_if (dt_eq (DE.v (de_var (vo (by decide +kernel)))) (DV.b (DE.v (de_tuple (nb (by decide +kernel)) (DV.b (DN.v (dn_comp (own := [(("k" : Str), 1)]) (di_rng1 (nb (by decide +kernel)) (DP.v dp_int)) (bo (by decide +kernel)) (dg_name (to (by decide +kernel))) dts_nil (DE.v (de_subD (DE.v (de_ixB (db_var (vo (by decide +kernel))) dp_int)) (DE.v (de_var (vo (by decide +kernel)))))) (by decide +kernel)))))))) (dss_cons (ds_ret (de_ixB (db_var (vo (by decide +kernel))) dp_int))
  dss_nil) dss_nil)
  (dss_cons (ds_ret (DP.toE dp_int))
  dss_nil)))
theorem ds94 : DSs Γ0 N94 (fnSco s94) (defBody s94) b94 := by exact
  (dss_cons (ds_if (DW.t (dw_or (dt_not (dt_val (DV.b (DE.v (de_isi (ty := .tuple) (nb (by decide +kernel)) (nb (by decide +kernel)) (DE.v (de_var (vo (by decide +kernel)))) (by decide +kernel)))))) (dw_or1 (dt_ne (DE.v (de_len (nb (by decide +kernel)) (db_var (vo (by decide +kernel))))) (db_var (vo (by decide +kernel))))))) (dss_cons (ds_ret (DP.toE dp_bool))
  dss_nil) dss_nil)
  (dss_cons (ds_if (dt_not (dt_val (DV.b (DE.v (de_all (nb (by decide +kernel)) (DV.b (DN.v (dn_comp (own := [(("one" : Str), 2)]) (di_e (DE.v (de_var (vo (by decide +kernel))))) (bo (by decide +kernel)) (dg_name (to (by decide +kernel))) dts_nil (DE.v (de_and (de_isi (ty := .int) (nb (by decide +kernel)) (nb (by decide +kernel)) (DE.v (de_var (vo (by decide +kernel)))) (by decide +kernel)) (de_and (de_not (de_isi (ty := .bool) (nb (by decide +kernel)) (nb (by decide +kernel)) (DE.v (de_var (vo (by decide +kernel)))) (by decide +kernel))) (de_one (de_leLe dp_int (dp_var (vo (by decide +kernel))) dp_int))))) (by decide +kernel))))))))) (dss_cons (ds_ret (DP.toE dp_bool))
  dss_nil) dss_nil)
  (dss_cons (ds_ret (de_all (nb (by decide +kernel)) (DV.b (DN.v (dn_comp (own := [(("one" : Str), 2), (("two" : Str), 3)]) (di_zip (nb (by decide +kernel)) (DE.v (de_slice (db_var (vo (by decide +kernel))) do_none (do_some (dp_neg dp_int)))) (DE.v (de_slice (db_var (vo (by decide +kernel))) (do_some dp_int) do_none))) (bo (by decide +kernel)) (dg_tup (dgs_cons (dg_name (to (by decide +kernel))) (dgs_cons (dg_name (to (by decide +kernel))) dgs_nil))) dts_nil (DE.v (de_gt (DE.v (de_var (vo (by decide +kernel)))) (db_var (vo (by decide +kernel))))) (by decide +kernel))))))
  dss_nil)))
theorem ds95 : DSs Γ0 N95 (fnSco s95) (defBody s95) b95 := by exact
  (dss_cons (ds_if (DW.t (dw_or (dt_not (dt_val (DV.b (DE.v (de_isi (ty := .tuple) (nb (by decide +kernel)) (nb (by decide +kernel)) (DE.v (de_var (vo (by decide +kernel)))) (by decide +kernel)))))) (dw_or (dt_ne (DE.v (de_len (nb (by decide +kernel)) (db_var (vo (by decide +kernel))))) (DV.b (DP.v dp_int))) (dw_or1 (dt_not (dt_val (DV.b (DE.v (de_isi (ty := .tuple) (nb (by decide +kernel)) (nb (by decide +kernel)) (DE.v (de_ixB (db_var (vo (by decide +kernel))) dp_int)) (by decide +kernel)))))))))) (dss_cons (ds_ret (DP.toE dp_bool))
  dss_nil) dss_nil)
  (dss_cons (ds_unpack (dg_tup (dgs_cons (dg_name (to (by decide +kernel))) (dgs_cons (dg_name (to (by decide +kernel))) dgs_nil))) (DE.v (de_var (vo (by decide +kernel)))))
  (dss_cons (ds_if (DW.t (dw_or (dt_not (dt_val (DV.b (DE.v (de_isi (ty := .int) (nb (by decide +kernel)) (nb (by decide +kernel)) (DE.v (de_var (vo (by decide +kernel)))) (by decide +kernel)))))) (dw_or (dt_val (DV.b (DE.v (de_isi (ty := .bool) (nb (by decide +kernel)) (nb (by decide +kernel)) (DE.v (de_var (vo (by decide +kernel)))) (by decide +kernel))))) (dw_or1 (dt_not (dt_leLe dp_int (dp_var (vo (by decide +kernel))) dp_int)))))) (dss_cons (ds_ret (DP.toE dp_bool))
  dss_nil) dss_nil)
  (dss_cons (ds_if (dt_in (DE.v (de_var (vo (by decide +kernel)))) (DV.b (DE.v (de_tup (dps_cons (DP.v dp_int) (dps_cons (DP.v dp_int) dps_nil)))))) (dss_cons (ds_ret (de_and (de_call (go (by decide +kernel)) (mo (by decide +kernel)) (das_cons (de_var (vo (by decide +kernel))) (das_cons (DP.toE dp_int) das_nil))) (de_one (de_in (DE.v (de_ixB (db_var (vo (by decide +kernel))) dp_int)) (DV.b (DP.v (dp_con (go (by decide +kernel)) (.tail _ (.head _)))))))))
  dss_nil) dss_nil)
  (dss_cons (ds_if (dt_in (DE.v (de_var (vo (by decide +kernel)))) (DV.b (DE.v (de_tup (dps_cons (DP.v dp_int) (dps_cons (DP.v dp_int) dps_nil)))))) (dss_cons (ds_ret (de_and (de_call (go (by decide +kernel)) (mo (by decide +kernel)) (das_cons (de_var (vo (by decide +kernel))) (das_cons (DP.toE dp_int) das_nil))) (de_one (de_eq (DE.v (de_call (go (by decide +kernel)) (mo (by decide +kernel)) (das_cons (de_var (vo (by decide +kernel))) das_nil))) (DV.b (DP.v dp_int))))))
  dss_nil) dss_nil)
  (dss_cons (ds_unpack (dg_tup (dgs_cons (dg_name (to (by decide +kernel))) (dgs_cons (dg_name (to (by decide +kernel))) dgs_nil))) (DE.v (de_ixB (DV.b (DP.v (dp_con (go (by decide +kernel)) (.tail _ (.tail _ (.head _)))))) (dp_var (vo (by decide +kernel))))))
  (dss_cons (ds_if (DW.t (dw_or (dt_not (dt_val (DV.b (DE.v (de_call (go (by decide +kernel)) (mo (by decide +kernel)) (das_cons (de_slice (db_var (vo (by decide +kernel))) do_none (do_some (dp_var (vo (by decide +kernel))))) (das_cons (de_var (vo (by decide +kernel))) das_nil))))))) (dw_or1 (dt_not (dt_val (DV.b (DE.v (de_call (go (by decide +kernel)) (mo (by decide +kernel)) (das_cons (de_slice (db_var (vo (by decide +kernel))) (do_some (dp_var (vo (by decide +kernel)))) do_none) (das_cons (de_var (vo (by decide +kernel))) das_nil)))))))))) (dss_cons (ds_ret (DP.toE dp_bool))
  dss_nil) dss_nil)
  (dss_cons (ds_ret (de_not (de_any (nb (by decide +kernel)) (DV.b (DN.v (dn_comp (own := [(("one" : Str), 5)]) (di_e (DE.v (de_slice (db_var (vo (by decide +kernel))) (do_some (dp_var (vo (by decide +kernel)))) do_none))) (bo (by decide +kernel)) (dg_name (to (by decide +kernel))) dts_nil (DE.v (de_in (DE.v (de_var (vo (by decide +kernel)))) (DV.b (DE.v (de_slice (db_var (vo (by decide +kernel))) do_none (do_some (dp_var (vo (by decide +kernel))))))))) (by decide +kernel)))))))
  dss_nil))))))))
theorem ds71 : DSs Γ0 N71 (fnSco s71) (defBody s71) b71 := by exact
  (dss_cons (ds_set (to (by decide +kernel)) (de_modD (DE.v (de_addD (DE.v (de_var (vo (by decide +kernel)))) (DE.v (de_mulD (DP.v dp_int) (DE.v (de_var (vo (by decide +kernel)))))))) (DP.v dp_int)))
  (dss_cons (ds_set (to (by decide +kernel)) (de_modD (DE.v (de_mulD (DE.v (de_modD (DE.v (de_mulD (DE.v (de_var (vo (by decide +kernel)))) (DE.v (de_var (vo (by decide +kernel)))))) (DP.v dp_int))) (DP.v dp_int))) (DP.v dp_int)))
  (dss_cons (ds_ret (de_modD (DE.v (de_divD (DE.v (de_var (vo (by decide +kernel)))) (DP.v dp_int))) (DE.v (de_var (vo (by decide +kernel))))))
  dss_nil)))
theorem ds72 : DSs Γ0 N72 (fnSco s72) (defBody s72) b72 := by exact
  (dss_cons (ds_if (dt_lt (DE.v (de_var (vo (by decide +kernel)))) (DV.b (DE.v (de_len (nb (by decide +kernel)) (db_var (vo (by decide +kernel))))))) (dss_cons (ds_ret (de_ixB (db_var (vo (by decide +kernel))) (dp_var (vo (by decide +kernel)))))
  dss_nil) dss_nil)
  (dss_cons (ds_ret (DP.toE dp_int))
  dss_nil))
theorem ds73 : DSs Γ0 N73 (fnSco s73) (defBody s73) b73 := by exact
  (dss_cons (ds_if (dt_isNone (db_var (vo (by decide +kernel)))) (dss_cons (ds_ret (de_isNone (db_var (vo (by decide +kernel)))))
  dss_nil) dss_nil)
  (dss_cons (ds_if (dt_val (DV.b (DE.v (de_isi (ty := .bool) (nb (by decide +kernel)) (nb (by decide +kernel)) (DE.v (de_var (vo (by decide +kernel)))) (by decide +kernel))))) (dss_cons (ds_ret (de_and (de_isi (ty := .bool) (nb (by decide +kernel)) (nb (by decide +kernel)) (DE.v (de_var (vo (by decide +kernel)))) (by decide +kernel)) (de_one (de_eq (DE.v (de_var (vo (by decide +kernel)))) (db_var (vo (by decide +kernel)))))))
  dss_nil) dss_nil)
  (dss_cons (ds_if (dt_val (DV.b (DE.v (de_isi (ty := .tuple) (nb (by decide +kernel)) (nb (by decide +kernel)) (DE.v (de_var (vo (by decide +kernel)))) (by decide +kernel))))) (dss_cons (ds_if (DW.t (dw_or (dt_not (dt_val (DV.b (DE.v (de_isi (ty := .tuple) (nb (by decide +kernel)) (nb (by decide +kernel)) (DE.v (de_var (vo (by decide +kernel)))) (by decide +kernel)))))) (dw_or1 (dt_ne (DE.v (de_len (nb (by decide +kernel)) (db_var (vo (by decide +kernel))))) (DV.b (DE.v (de_len (nb (by decide +kernel)) (db_var (vo (by decide +kernel)))))))))) (dss_cons (ds_ret (DP.toE dp_bool))
  dss_nil) dss_nil)
  (dss_cons (ds_ret (de_all (nb (by decide +kernel)) (DV.b (DN.v (dn_comp (own := [(("_law_one" : Str), 2), (("_law_other" : Str), 3)]) (di_zip (nb (by decide +kernel)) (DE.v (de_var (vo (by decide +kernel)))) (DE.v (de_var (vo (by decide +kernel))))) (bo (by decide +kernel)) (dg_tup (dgs_cons (dg_name (to (by decide +kernel))) (dgs_cons (dg_name (to (by decide +kernel))) dgs_nil))) dts_nil (DE.v (de_call (go (by decide +kernel)) (mo (by decide +kernel)) (das_cons (de_var (vo (by decide +kernel))) (das_cons (de_var (vo (by decide +kernel))) das_nil)))) (by decide +kernel))))))
  dss_nil)) dss_nil)
  (dss_cons (ds_if (dt_val (DV.b (DE.v (de_isi (ty := .str) (nb (by decide +kernel)) (nb (by decide +kernel)) (DE.v (de_var (vo (by decide +kernel)))) (by decide +kernel))))) (dss_cons (ds_ret (de_and (de_isi (ty := .str) (nb (by decide +kernel)) (nb (by decide +kernel)) (DE.v (de_var (vo (by decide +kernel)))) (by decide +kernel)) (de_one (de_eq (DE.v (de_var (vo (by decide +kernel)))) (db_var (vo (by decide +kernel)))))))
  dss_nil) dss_nil)
  (dss_cons (ds_ret (de_and (de_isi (ty := .int) (nb (by decide +kernel)) (nb (by decide +kernel)) (DE.v (de_var (vo (by decide +kernel)))) (by decide +kernel)) (de_and (de_not (de_isi (ty := .bool) (nb (by decide +kernel)) (nb (by decide +kernel)) (DE.v (de_var (vo (by decide +kernel)))) (by decide +kernel))) (de_one (de_eq (DE.v (de_var (vo (by decide +kernel)))) (db_var (vo (by decide +kernel))))))))
  dss_nil)))))
theorem ds74 : DSs Γ0 N74 (fnSco s74) (defBody s74) b74 := by exact
  (dss_cons (ds_set (to (by decide +kernel)) (de_mk (dn_lst dps_nil)))
  (dss_cons (ds_for (di_rng2 (nb (by decide +kernel)) (DP.v dp_int) (DP.v dp_int)) (dg_name (to (by decide +kernel))) (dss_cons (ds_set (to (by decide +kernel)) (de_mk (dn_catB (vo (by decide +kernel)) (DN.v (dn_comp (own := [(("_law_suit" : Str), 7)]) (di_e (DP.v dp_str)) (bo (by decide +kernel)) (dg_name (to (by decide +kernel))) dts_nil (DE.v (de_tup (dps_cons (DE.v (de_var (vo (by decide +kernel)))) (dps_cons (DE.v (de_var (vo (by decide +kernel)))) dps_nil)))) (by decide +kernel))))))
  dss_nil))
  (dss_cons (ds_set (to (by decide +kernel)) (de_tup dps_nil))
  (dss_cons (ds_set (to (by decide +kernel)) (DP.toE dp_int))
  (dss_cons (ds_for (di_rng1 (nb (by decide +kernel)) (DE.v (de_var (vo (by decide +kernel))))) (dg_name (to (by decide +kernel))) (dss_cons (ds_if (dt_lt (DE.v (de_var (vo (by decide +kernel)))) (DV.b (DE.v (de_len (nb (by decide +kernel)) (db_var (vo (by decide +kernel))))))) (dss_cons (ds_set (to (by decide +kernel)) (de_ixB (db_var (vo (by decide +kernel))) (dp_var (vo (by decide +kernel)))))
  dss_nil) dss_nil)
  (dss_cons (ds_set (to (by decide +kernel)) (de_addD (DE.v (de_var (vo (by decide +kernel)))) (DE.v (de_tup (dps_cons (DE.v (de_pop (vo (by decide +kernel)) (DE.v (de_call (go (by decide +kernel)) (mo (by decide +kernel)) (das_cons (de_var (vo (by decide +kernel))) (das_cons (de_addD (DE.v (de_var (vo (by decide +kernel)))) (DP.v dp_int)) (das_cons (de_len (nb (by decide +kernel)) (db_var (vo (by decide +kernel)))) das_nil))))) ⟨rfl⟩)) dps_nil)))))
  dss_nil)))
  (dss_cons (ds_ret (de_var (vo (by decide +kernel))))
  dss_nil))))))
theorem ds75 : DSs Γ0 N75 (fnSco s75) (defBody s75) b75 := by exact
  (dss_cons (ds_set (to (by decide +kernel)) (de_mk (dn_lst dps_nil)))
  (dss_cons (ds_set (to (by decide +kernel)) (DP.toE dp_int))
  (dss_cons (ds_if (dt_val (db_var (vo (by decide +kernel)))) (dss_cons (ds_set (to (by decide +kernel)) (de_modD (DE.v (de_ixB (db_var (vo (by decide +kernel))) dp_int)) (DP.v dp_int)))
  dss_nil) dss_nil)
  (dss_cons (ds_for (di_rng2 (nb (by decide +kernel)) (DE.v (de_addD (DE.v (de_var (vo (by decide +kernel)))) (DP.v dp_int))) (DE.v (de_addD (DE.v (de_var (vo (by decide +kernel)))) (DP.v dp_int)))) (dg_name (to (by decide +kernel))) (dss_cons (ds_set (to (by decide +kernel)) (de_mk (dn_catB (vo (by decide +kernel)) (DN.v (dn_comp (own := [(("_law_suit" : Str), 8)]) (di_e (DP.v dp_str)) (bo (by decide +kernel)) (dg_name (to (by decide +kernel))) dts_nil (DE.v (de_tup (dps_cons (DE.v (de_var (vo (by decide +kernel)))) (dps_cons (DE.v (de_var (vo (by decide +kernel)))) dps_nil)))) (by decide +kernel))))))
  dss_nil))
  (dss_cons (ds_set (to (by decide +kernel)) (de_tup dps_nil))
  (dss_cons (ds_set (to (by decide +kernel)) (DP.toE dp_int))
  (dss_cons (ds_for (di_rng1 (nb (by decide +kernel)) (DE.v (de_var (vo (by decide +kernel))))) (dg_name (to (by decide +kernel))) (dss_cons (ds_if (dt_lt (DE.v (de_addD (DE.v (de_var (vo (by decide +kernel)))) (DP.v dp_int))) (DV.b (DE.v (de_len (nb (by decide +kernel)) (db_var (vo (by decide +kernel))))))) (dss_cons (ds_set (to (by decide +kernel)) (de_ixB (db_var (vo (by decide +kernel))) (dp_add (dp_var (vo (by decide +kernel))) dp_int)))
  dss_nil) dss_nil)
  (dss_cons (ds_set (to (by decide +kernel)) (de_addD (DE.v (de_var (vo (by decide +kernel)))) (DE.v (de_tup (dps_cons (DE.v (de_pop (vo (by decide +kernel)) (DE.v (de_call (go (by decide +kernel)) (mo (by decide +kernel)) (das_cons (de_var (vo (by decide +kernel))) (das_cons (DP.toE dp_int) (das_cons (de_len (nb (by decide +kernel)) (db_var (vo (by decide +kernel)))) das_nil))))) ⟨rfl⟩)) dps_nil)))))
  dss_nil)))
  (dss_cons (ds_ret (de_var (vo (by decide +kernel))))
  dss_nil))))))))
theorem ds76 : DSs Γ0 N76 (fnSco s76) (defBody s76) b76 := by exact
  (dss_cons (ds_set (to (by decide +kernel)) (de_mk (dn_rep (dn_lst (dps_cons (DP.v dp_int) dps_nil)) dp_int)))
  (dss_cons (ds_for (di_e (DE.v (de_var (vo (by decide +kernel))))) (dg_tup (dgs_cons (dg_name (to (by decide +kernel))) (dgs_cons (dg_name (to (by decide +kernel))) dgs_nil))) (dss_cons (ds_setIx (vo (by decide +kernel)) (DE.v (de_addD (DE.v (de_ixB (db_var (vo (by decide +kernel))) (dp_var (vo (by decide +kernel))))) (DP.v dp_int))) (DE.v (de_var (vo (by decide +kernel)))))
  dss_nil))
  (dss_cons (ds_set (to (by decide +kernel)) (DN.toE (dn_lst dps_nil) dat_lst))
  (dss_cons (ds_for (di_e (DE.v (de_tup (dps_cons (DP.v dp_int) (dps_cons (DP.v dp_int) (dps_cons (DP.v dp_int) (dps_cons (DP.v dp_int) dps_nil))))))) (dg_name (to (by decide +kernel))) (dss_cons (ds_set (to (by decide +kernel)) (de_addD (DE.v (de_var (vo (by decide +kernel)))) (DN.v (dn_comp (own := [(("_law_rank_here" : Str), 2)]) (di_rng3 (nb (by decide +kernel)) (DP.v dp_int) (DP.v dp_int)) (bo (by decide +kernel)) (dg_name (to (by decide +kernel))) (dts_one (dt_eq (DE.v (de_ixB (db_var (vo (by decide +kernel))) (dp_var (vo (by decide +kernel))))) (db_var (vo (by decide +kernel))))) (DE.v (de_var (vo (by decide +kernel)))) (by decide +kernel)))))
  dss_nil))
  (dss_cons (ds_set (to (by decide +kernel)) (DN.toE (dn_rev (DV.b (DN.v (dn_sorted (nb (by decide +kernel)) (DV.b (DN.v (dn_compB (own := [(("_law_many" : Str), 5)]) (vo (by decide +kernel)) (bo (by decide +kernel)) (dg_name (to (by decide +kernel))) (dts_one (dt_gt (DE.v (de_var (vo (by decide +kernel)))) (DV.b (DP.v dp_int)))) (DE.v (de_var (vo (by decide +kernel)))) (by decide +kernel)))))))) dat_op1))
  (dss_cons (ds_set (to (by decide +kernel)) (DN.toE (dn_lst (dps_cons (DN.v (dn_lst (dps_cons (DP.v dp_int) (dps_cons (DP.v dp_int) (dps_cons (DP.v dp_int) (dps_cons (DP.v dp_int) dps_nil)))))) (dps_cons (DN.v (dn_lst (dps_cons (DP.v dp_int) (dps_cons (DP.v dp_int) (dps_cons (DP.v dp_int) dps_nil))))) (dps_cons (DN.v (dn_lst (dps_cons (DP.v dp_int) (dps_cons (DP.v dp_int) (dps_cons (DP.v dp_int) dps_nil))))) (dps_cons (DN.v (dn_lst (dps_cons (DP.v dp_int) (dps_cons (DP.v dp_int) dps_nil)))) (dps_cons (DN.v (dn_lst (dps_cons (DP.v dp_int) (dps_cons (DP.v dp_int) dps_nil)))) dps_nil)))))) dat_lst))
  (dss_cons (ds_if (dt_in (DE.v (de_var (vo (by decide +kernel)))) (db_var (vo (by decide +kernel)))) (dss_cons (ds_ret (de_tup (dps_cons (DE.v (de_ix (DN.v (dn_lst (dps_cons (DP.v dp_int) (dps_cons (DP.v dp_int) (dps_cons (DP.v dp_int) (dps_cons (DP.v dp_int) (dps_cons (DP.v dp_int) dps_nil))))))) (DV.b (DE.v (de_index (db_var (vo (by decide +kernel))) (dp_var (vo (by decide +kernel))) ⟨rfl⟩))))) (dps_cons (DE.v (de_tuple (nb (by decide +kernel)) (db_var (vo (by decide +kernel))))) dps_nil))))
  dss_nil) dss_nil)
  (dss_cons (ds_comp (so (by decide +kernel)) (own := [(("_law_rank_here" : Str), 2), (("_law_suit" : Str), 3)]) (di_e (DE.v (de_var (vo (by decide +kernel))))) (bo (by decide +kernel)) (dg_tup (dgs_cons (dg_name (to (by decide +kernel))) (dgs_cons (dg_name (to (by decide +kernel))) dgs_nil))) dts_nil (DE.v (de_var (vo (by decide +kernel)))) (by decide +kernel))
  (dss_cons (ds_set (to (by decide +kernel)) (de_eq (DE.v (de_count (db_var (vo (by decide +kernel))) (dp_ix (dp_var (vo (by decide +kernel))) dp_int) ⟨rfl⟩)) (DV.b (DP.v dp_int))))
  (dss_cons (ds_set (to (by decide +kernel)) (DP.toE dp_int))
  (dss_cons (ds_if (dt_eq (DE.v (de_subD (DE.v (de_ixB (db_var (vo (by decide +kernel))) dp_int)) (DE.v (de_ixB (db_var (vo (by decide +kernel))) dp_int)))) (DV.b (DP.v dp_int))) (dss_cons (ds_set (to (by decide +kernel)) (de_ixB (db_var (vo (by decide +kernel))) dp_int))
  dss_nil) dss_nil)
  (dss_cons (ds_if (dt_eq (DE.v (de_var (vo (by decide +kernel)))) (DV.b (DN.v (dn_lst (dps_cons (DP.v dp_int) (dps_cons (DP.v dp_int) (dps_cons (DP.v dp_int) (dps_cons (DP.v dp_int) (dps_cons (DP.v dp_int) dps_nil))))))))) (dss_cons (ds_set (to (by decide +kernel)) (DP.toE dp_int))
  dss_nil) dss_nil)
  (dss_cons (ds_if (dt_gt (DE.v (de_var (vo (by decide +kernel)))) (DV.b (DP.v dp_int))) (dss_cons (ds_ret (de_tup (dps_cons (DE.v (de_ite (dt_val (db_var (vo (by decide +kernel)))) (DP.toE dp_int) (DP.toE dp_int))) (dps_cons (DE.v (de_tup (dps_cons (DE.v (de_var (vo (by decide +kernel)))) dps_nil))) dps_nil))))
  dss_nil) dss_nil)
  (dss_cons (ds_ret (de_tup (dps_cons (DE.v (de_ite (dt_val (db_var (vo (by decide +kernel)))) (DP.toE dp_int) (DP.toE dp_int))) (dps_cons (DE.v (de_tuple (nb (by decide +kernel)) (db_var (vo (by decide +kernel))))) dps_nil))))
  dss_nil))))))))))))))
theorem ds181 : DSs Γ0 N181 (fnSco s181) (defBody s181) b181 := by exact
  (dss_cons (ds_if (DW.t (dw_or (dt_not (dt_val (DV.b (DE.v (de_isi (ty := .tuple) (nb (by decide +kernel)) (nb (by decide +kernel)) (DE.v (de_var (vo (by decide +kernel)))) (by decide +kernel)))))) (dw_or (dt_ne (DE.v (de_len (nb (by decide +kernel)) (db_var (vo (by decide +kernel))))) (DV.b (DP.v dp_int))) (dw_or1 (dt_not (dt_val (DV.b (DE.v (de_isi (ty := .tuple) (nb (by decide +kernel)) (nb (by decide +kernel)) (DE.v (de_ixB (db_var (vo (by decide +kernel))) dp_int)) (by decide +kernel)))))))))) (dss_cons (ds_ret (DP.toE dp_bool))
  dss_nil) dss_nil)
  (dss_cons (ds_unpack (dg_tup (dgs_cons (dg_name (to (by decide +kernel))) (dgs_cons (dg_name (to (by decide +kernel))) dgs_nil))) (DE.v (de_var (vo (by decide +kernel)))))
  (dss_cons (ds_for (di_e (DE.v (de_addD (DE.v (de_var (vo (by decide +kernel)))) (DE.v (de_tup (dps_cons (DE.v (de_var (vo (by decide +kernel)))) dps_nil)))))) (dg_name (to (by decide +kernel))) (dss_cons (ds_if (DW.t (dw_or (dt_not (dt_val (DV.b (DE.v (de_isi (ty := .int) (nb (by decide +kernel)) (nb (by decide +kernel)) (DE.v (de_var (vo (by decide +kernel)))) (by decide +kernel)))))) (dw_or1 (dt_val (DV.b (DE.v (de_isi (ty := .bool) (nb (by decide +kernel)) (nb (by decide +kernel)) (DE.v (de_var (vo (by decide +kernel)))) (by decide +kernel)))))))) (dss_cons (ds_ret (DP.toE dp_bool))
  dss_nil) dss_nil)
  dss_nil))
  (dss_cons (ds_if (DW.t (dw_or (dt_lt (DE.v (de_var (vo (by decide +kernel)))) (DV.b (DP.v dp_int))) (dw_or (dt_gt (DE.v (de_var (vo (by decide +kernel)))) (DV.b (DP.v dp_int))) (dw_or1 (dt_val (DV.b (DN.v (dn_comp (own := [(("_law_one" : Str), 3)]) (di_e (DE.v (de_var (vo (by decide +kernel))))) (bo (by decide +kernel)) (dg_name (to (by decide +kernel))) (dts_one (DW.t (dw_or (dt_lt (DE.v (de_var (vo (by decide +kernel)))) (DV.b (DP.v dp_int))) (dw_or1 (dt_gt (DE.v (de_var (vo (by decide +kernel)))) (DV.b (DP.v dp_int))))))) (DE.v (de_var (vo (by decide +kernel)))) (by decide +kernel))))))))) (dss_cons (ds_ret (DP.toE dp_bool))
  dss_nil) dss_nil)
  (dss_cons (ds_if (dt_in (DE.v (de_var (vo (by decide +kernel)))) (DV.b (DE.v (de_tup (dps_cons (DP.v dp_int) (dps_cons (DP.v dp_int) dps_nil)))))) (dss_cons (ds_ret (de_and (de_eq (DE.v (de_len (nb (by decide +kernel)) (db_var (vo (by decide +kernel))))) (DV.b (DP.v dp_int))) (de_one (de_ge (DE.v (de_ixB (db_var (vo (by decide +kernel))) dp_int)) (DV.b (DP.v dp_int))))))
  dss_nil) dss_nil)
  (dss_cons (ds_set (to (by decide +kernel)) (de_ixB (DV.b (DN.v (dn_lst (dps_cons (DE.v (de_tup (dps_cons (DP.v dp_int) (dps_cons (DP.v dp_int) (dps_cons (DP.v dp_int) (dps_cons (DP.v dp_int) (dps_cons (DP.v dp_int) dps_nil))))))) (dps_cons (DE.v (de_tup (dps_cons (DP.v dp_int) (dps_cons (DP.v dp_int) (dps_cons (DP.v dp_int) (dps_cons (DP.v dp_int) dps_nil)))))) (dps_cons (DE.v (de_tup (dps_cons (DP.v dp_int) (dps_cons (DP.v dp_int) (dps_cons (DP.v dp_int) dps_nil))))) (dps_cons (DE.v (de_tup (dps_cons (DP.v dp_int) (dps_cons (DP.v dp_int) (dps_cons (DP.v dp_int) dps_nil))))) (dps_cons (DE.v (de_tup dps_nil)) (dps_cons (DE.v (de_tup (dps_cons (DP.v dp_int) (dps_cons (DP.v dp_int) (dps_cons (DP.v dp_int) (dps_cons (DP.v dp_int) (dps_cons (DP.v dp_int) dps_nil))))))) (dps_cons (DE.v (de_tup (dps_cons (DP.v dp_int) (dps_cons (DP.v dp_int) dps_nil)))) (dps_cons (DE.v (de_tup (dps_cons (DP.v dp_int) (dps_cons (DP.v dp_int) dps_nil)))) dps_nil))))))))))) (dp_var (vo (by decide +kernel)))))
  (dss_cons (ds_if (dt_ne (DE.v (de_len (nb (by decide +kernel)) (db_var (vo (by decide +kernel))))) (DV.b (DE.v (de_len (nb (by decide +kernel)) (db_var (vo (by decide +kernel))))))) (dss_cons (ds_ret (DP.toE dp_bool))
  dss_nil) dss_nil)
  (dss_cons (ds_set (to (by decide +kernel)) (de_mk (dn_lst dps_nil)))
  (dss_cons (ds_for (di_zip (nb (by decide +kernel)) (DE.v (de_var (vo (by decide +kernel)))) (DE.v (de_var (vo (by decide +kernel))))) (dg_tup (dgs_cons (dg_name (to (by decide +kernel))) (dgs_cons (dg_name (to (by decide +kernel))) dgs_nil))) (dss_cons (ds_set (to (by decide +kernel)) (de_mk (dn_catB (vo (by decide +kernel)) (DN.v (dn_comp (own := [(("_law_suit" : Str), 8)]) (di_e (DE.v (de_sliceS (DV.b (DP.v dp_str)) do_none (do_some (dp_var (vo (by decide +kernel))))))) (bo (by decide +kernel)) (dg_name (to (by decide +kernel))) dts_nil (DE.v (de_tup (dps_cons (DE.v (de_var (vo (by decide +kernel)))) (dps_cons (DE.v (de_var (vo (by decide +kernel)))) dps_nil)))) (by decide +kernel))))))
  dss_nil))
  (dss_cons (ds_if (dt_eq (DE.v (de_var (vo (by decide +kernel)))) (DV.b (DP.v dp_int))) (dss_cons (ds_setIx (vo (by decide +kernel)) (DE.v (de_tup (dps_cons (DE.v (de_ixB (db_var (vo (by decide +kernel))) dp_int)) (dps_cons (DP.v dp_str) dps_nil)))) (DP.v dp_int))
  dss_nil) dss_nil)
  (dss_cons (ds_ret (de_and (de_eq (DE.v (de_lenSetT (nb (by decide +kernel)) (nb (by decide +kernel)) (db_var (vo (by decide +kernel))))) (DV.b (DP.v dp_int))) (de_one (de_eq (DE.v (de_call (go (by decide +kernel)) (mo (by decide +kernel)) (das_cons (de_freeze (vo (by decide +kernel))) das_nil))) (db_var (vo (by decide +kernel)))))))
  dss_nil)))))))))))
theorem ds182 : DSs Γ0 N182 (fnSco s182) (defBody s182) b182 := by exact
  (dss_cons (ds_set (to (by decide +kernel)) (de_call (go (by decide +kernel)) (mo (by decide +kernel)) (das_cons (de_var (vo (by decide +kernel))) (das_cons (DP.toE dp_int) das_nil))))
  (dss_cons (ds_set (to (by decide +kernel)) (de_mk (dn_lst (dps_cons (DP.v dp_none) (dps_cons (DP.v dp_int) (dps_cons (DP.v dp_str) (dps_cons (DE.v (de_tup dps_nil)) (dps_cons (DE.v (de_tup (dps_cons (DP.v dp_int) (dps_cons (DE.v (de_tup dps_nil)) dps_nil)))) (dps_cons (DE.v (de_tup (dps_cons (DP.v dp_int) (dps_cons (DE.v (de_tup (dps_cons (DP.v dp_int) dps_nil))) dps_nil)))) (dps_cons (DE.v (de_tup (dps_cons (DP.v dp_int) (dps_cons (DE.v (de_tup (dps_cons (DP.v dp_int) dps_nil))) dps_nil)))) (dps_cons (DE.v (de_tup (dps_cons (DP.v dp_int) (dps_cons (DE.v (de_tup (dps_cons (DP.v dp_int) dps_nil))) dps_nil)))) (dps_cons (DE.v (de_tup (dps_cons (DP.v dp_bool) (dps_cons (DE.v (de_tup (dps_cons (DP.v dp_int) (dps_cons (DP.v dp_int) (dps_cons (DP.v dp_int) (dps_cons (DP.v dp_int) dps_nil)))))) dps_nil)))) (dps_cons (DE.v (de_tup (dps_cons (DP.v dp_int) (dps_cons (DE.v (de_tup dps_nil)) dps_nil)))) dps_nil)))))))))))))
  (dss_cons (ds_app (vo (by decide +kernel)) (DE.v (de_tup (dps_cons (DP.v dp_int) (dps_cons (DE.v (de_tup (dps_cons (DP.v dp_int) (dps_cons (DP.v dp_int) (dps_cons (DP.v dp_int) (dps_cons (DP.v dp_int) (dps_cons (DP.v dp_int) dps_nil))))))) dps_nil)))) ⟨rfl⟩)
  (dss_cons (ds_set (to (by decide +kernel)) (de_addD (DE.v (de_call (go (by decide +kernel)) (mo (by decide +kernel)) (das_cons (de_var (vo (by decide +kernel))) (das_cons (DP.toE dp_int) (das_cons (DP.toE dp_int) das_nil))))) (DP.v dp_int)))
  (dss_cons (ds_set (to (by decide +kernel)) (de_tuple (nb (by decide +kernel)) (DV.b (DN.v (dn_comp (own := [(("_law_k" : Str), 12)]) (di_rng1 (nb (by decide +kernel)) (DP.v dp_int)) (bo (by decide +kernel)) (dg_name (to (by decide +kernel))) dts_nil (DE.v (de_ite (dt_eq (DE.v (de_subD (DE.v (de_var (vo (by decide +kernel)))) (DE.v (de_var (vo (by decide +kernel)))))) (DV.b (DP.v dp_int))) (DP.toE dp_int) (de_subD (DE.v (de_var (vo (by decide +kernel)))) (DE.v (de_var (vo (by decide +kernel))))))) (by decide +kernel))))))
  (dss_cons (ds_set (to (by decide +kernel)) (de_tuple (nb (by decide +kernel)) (DV.b (DN.v (dn_rev (DV.b (DN.v (dn_sorted (nb (by decide +kernel)) (db_var (vo (by decide +kernel)))))))))))
  (dss_cons (ds_set (to (by decide +kernel)) (de_mk (dn_catB (vo (by decide +kernel)) (DN.v (dn_lst (dps_cons (DE.v (de_tup (dps_cons (DP.v dp_int) (dps_cons (DE.v (de_var (vo (by decide +kernel)))) dps_nil)))) (dps_cons (DE.v (de_tup (dps_cons (DP.v dp_int) (dps_cons (DE.v (de_var (vo (by decide +kernel)))) dps_nil)))) (dps_cons (DE.v (de_tup (dps_cons (DP.v dp_int) (dps_cons (DE.v (de_var (vo (by decide +kernel)))) dps_nil)))) (dps_cons (DE.v (de_tup (dps_cons (DP.v dp_int) (dps_cons (DE.v (de_tup (dps_cons (DP.v dp_int) (dps_cons (DP.v dp_int) dps_nil)))) dps_nil)))) (dps_cons (DE.v (de_tup (dps_cons (DP.v dp_int) (dps_cons (DE.v (de_tup (dps_cons (DP.v dp_bool) (dps_cons (DP.v dp_int) (dps_cons (DP.v dp_int) (dps_cons (DP.v dp_int) dps_nil)))))) dps_nil)))) dps_nil))))))))))
  (dss_cons (ds_for (di_e (DN.v (dn_lst (dps_cons (DE.v (de_call (go (by decide +kernel)) (mo (by decide +kernel)) (das_cons (de_slice (db_var (vo (by decide +kernel))) (do_some dp_int) (do_some dp_int)) (das_cons (DP.toE dp_int) das_nil)))) (dps_cons (DE.v (de_call (go (by decide +kernel)) (mo (by decide +kernel)) (das_cons (de_slice (db_var (vo (by decide +kernel))) (do_some dp_int) (do_some dp_int)) (das_cons (DP.toE dp_int) das_nil)))) (dps_cons (DE.v (de_call (go (by decide +kernel)) (mo (by decide +kernel)) (das_cons (de_slice (db_var (vo (by decide +kernel))) (do_some dp_int) (do_some dp_int)) (das_cons (DP.toE dp_int) das_nil)))) dps_nil)))))) (dg_name (to (by decide +kernel))) (dss_cons (ds_unpack (dg_tup (dgs_cons (dg_name (to (by decide +kernel))) (dgs_cons (dg_name (to (by decide +kernel))) dgs_nil))) (DE.v (de_call (go (by decide +kernel)) (mo (by decide +kernel)) (das_cons (de_var (vo (by decide +kernel))) das_nil))))
  (dss_cons (ds_set (to (by decide +kernel)) (de_call (go (by decide +kernel)) (mo (by decide +kernel)) (das_cons (de_var (vo (by decide +kernel))) (das_cons (DP.toE dp_int) (das_cons (de_len (nb (by decide +kernel)) (db_var (vo (by decide +kernel)))) das_nil)))))
  (dss_cons (ds_set (to (by decide +kernel)) (de_call (go (by decide +kernel)) (mo (by decide +kernel)) (das_cons (de_var (vo (by decide +kernel))) (das_cons (DP.toE dp_int) (das_cons (DP.toE dp_int) das_nil)))))
  (dss_cons (ds_set (to (by decide +kernel)) (de_mk (dn_catB (vo (by decide +kernel)) (DN.v (dn_lst (dps_cons (DE.v (de_tup (dps_cons (DE.v (de_var (vo (by decide +kernel)))) (dps_cons (DE.v (de_var (vo (by decide +kernel)))) dps_nil)))) (dps_cons (DN.v (dn_lst (dps_cons (DE.v (de_var (vo (by decide +kernel)))) (dps_cons (DE.v (de_var (vo (by decide +kernel)))) dps_nil)))) (dps_cons (DE.v (de_tup (dps_cons (DE.v (de_var (vo (by decide +kernel)))) (dps_cons (DN.v (dn_list (nb (by decide +kernel)) (db_var (vo (by decide +kernel))))) dps_nil)))) (dps_cons (DE.v (de_tup (dps_cons (DE.v (de_var (vo (by decide +kernel)))) (dps_cons (DE.v (de_revT (db_var (vo (by decide +kernel))))) dps_nil)))) dps_nil)))))))))
  (dss_cons (ds_app (vo (by decide +kernel)) (DE.v (de_tup (dps_cons (DE.v (de_subD (DE.v (de_call (go (by decide +kernel)) (mo (by decide +kernel)) (das_cons (de_var (vo (by decide +kernel))) (das_cons (DP.toE dp_int) (das_cons (DP.toE dp_int) das_nil))))) (DP.v dp_int))) (dps_cons (DE.v (de_var (vo (by decide +kernel)))) dps_nil)))) ⟨rfl⟩)
  (dss_cons (ds_set (to (by decide +kernel)) (de_mk (dn_catB (vo (by decide +kernel)) (DN.v (dn_lst (dps_cons (DE.v (de_tup (dps_cons (DE.v (de_var (vo (by decide +kernel)))) (dps_cons (DE.v (de_addD (DE.v (de_addD (DE.v (de_slice (db_var (vo (by decide +kernel))) do_none (do_some (dp_var (vo (by decide +kernel)))))) (DE.v (de_tup (dps_cons (DE.v (de_var (vo (by decide +kernel)))) dps_nil))))) (DE.v (de_slice (db_var (vo (by decide +kernel))) (do_some (dp_add (dp_var (vo (by decide +kernel))) dp_int)) do_none)))) dps_nil)))) (dps_cons (DE.v (de_tup (dps_cons (DE.v (de_var (vo (by decide +kernel)))) (dps_cons (DE.v (de_addD (DE.v (de_addD (DE.v (de_slice (db_var (vo (by decide +kernel))) do_none (do_some (dp_var (vo (by decide +kernel)))))) (DE.v (de_tup (dps_cons (DE.v (de_var (vo (by decide +kernel)))) dps_nil))))) (DE.v (de_slice (db_var (vo (by decide +kernel))) (do_some (dp_var (vo (by decide +kernel)))) do_none)))) dps_nil)))) dps_nil)))))))
  (dss_cons (ds_set (to (by decide +kernel)) (de_mk (dn_catB (vo (by decide +kernel)) (DN.v (dn_lst (dps_cons (DE.v (de_tup (dps_cons (DE.v (de_var (vo (by decide +kernel)))) (dps_cons (DE.v (de_addD (DE.v (de_slice (db_var (vo (by decide +kernel))) do_none (do_some (dp_var (vo (by decide +kernel)))))) (DE.v (de_slice (db_var (vo (by decide +kernel))) (do_some (dp_add (dp_var (vo (by decide +kernel))) dp_int)) do_none)))) dps_nil)))) (dps_cons (DE.v (de_tup (dps_cons (DE.v (de_var (vo (by decide +kernel)))) (dps_cons (DE.v (de_var (vo (by decide +kernel)))) (dps_cons (DP.v dp_int) dps_nil))))) dps_nil)))))))
  (dss_cons (ds_app (vo (by decide +kernel)) (DE.v (de_tup (dps_cons (DE.v (de_var (vo (by decide +kernel)))) (dps_cons (DE.v (de_addD (DE.v (de_addD (DE.v (de_slice (db_var (vo (by decide +kernel))) do_none (do_some (dp_var (vo (by decide +kernel)))))) (DE.v (de_tup (dps_cons (DP.v dp_none) dps_nil))))) (DE.v (de_slice (db_var (vo (by decide +kernel))) (do_some (dp_add (dp_var (vo (by decide +kernel))) dp_int)) do_none)))) dps_nil)))) ⟨rfl⟩)
  dss_nil)))))))))
  (dss_cons (ds_forB (vo (by decide +kernel)) (dg_name (to (by decide +kernel))) (dss_cons (ds_if (dt_not (dt_val (DV.b (DE.v (de_call (go (by decide +kernel)) (mo (by decide +kernel)) (das_cons (de_call (go (by decide +kernel)) (mo (by decide +kernel)) (das_cons (de_var (vo (by decide +kernel))) das_nil)) (das_cons (de_call (go (by decide +kernel)) (mo (by decide +kernel)) (das_cons (de_var (vo (by decide +kernel))) das_nil)) das_nil))))))) (dss_cons (ds_ret (DP.toE dp_bool))
  dss_nil) dss_nil)
  dss_nil))
  (dss_cons (ds_ret (DP.toE dp_bool))
  dss_nil))))))))))
theorem all_mk {K : PySem.W.Frag} {h : Heap} {mg : Str → Option Value} {fa f48 f94 f95 f71 f72 f73 f74 f75 f76 f181 f182 : Addr} (X : K.In h) (G : h.Ns mainGlobals mg) (hfa : mg "law" = some (.ref fa))
    {cT0_0 : Tok} {cT0_1 : Tok} {cT0_2 : Tok} {cT0_3 : Tok} {cT0_4 : Tok} {cA0 : Addr} {cN0 : Nat} {cT1_0 : Tok} {cT1_1 : Tok} {cT1_2 : Tok} {cT1_3 : Tok} {cT1_4 : Tok} {cT1_5 : Tok} {cT1_6 : Tok} {cT1_7 : Tok} {cT1_8 : Tok} {cT1_9 : Tok} {cA1 : Addr} {cN1 : Nat} {cA2_0 : Addr} {cN2_0 : Nat} {cT2_1_0 : Tok} {cT2_1_1 : Tok} {cA2_1 : Addr} {cN2_1 : Nat} {cT2_2_0 : Tok} {cT2_2_1 : Tok} {cA2_2 : Addr} {cN2_2 : Nat} {cT2_3_0 : Tok} {cT2_3_1 : Tok} {cA2_3 : Addr} {cN2_3 : Nat} {cA2_4 : Addr} {cN2_4 : Nat} {cA2_5 : Addr} {cN2_5 : Nat} {cT2_6_0 : Tok} {cT2_6_1 : Tok} {cA2_6 : Addr} {cN2_6 : Nat} {cT2_7_0 : Tok} {cT2_7_1 : Tok} {cA2_7 : Addr} {cN2_7 : Nat} {cA2_8 : Addr} {cN2_8 : Nat} {cA2 : Addr} {cN2 : Nat}
    {od48 an48 od94 an94 od95 an95 od71 an71 od72 an72 od73 an73 od74 an74 od75 an75 od76 an76 od181 an181 od182 an182 : Option Addr} {sl48 sl94 sl95 sl71 sl72 sl73 sl74 sl75 sl76 sl181 sl182 : Array (Option Value)} {oc48 kV48 dc48 pm48 cd48 ct48 oc94 kV94 dc94 pm94 cd94 ct94 oc95 kV95 dc95 pm95 cd95 ct95 oc71 kV71 dc71 pm71 cd71 ct71 oc72 kV72 dc72 pm72 cd72 ct72 oc73 kV73 dc73 pm73 cd73 ct73 oc74 kV74 dc74 pm74 cd74 ct74 oc75 kV75 dc75 pm75 cd75 ct75 oc76 kV76 dc76 pm76 cd76 ct76 oc181 kV181 dc181 pm181 cd181 ct181 oc182 kV182 dc182 pm182 cd182 ct182 : Value}
    (a48 : PySem.W.nsIn K mainGlobals "row_top" = some (some (.ref f48)))
    (i48 : PySem.W.isFn K (.ref f48) = true)
    (l48 : K.lookup f48 = some ⟨oc48, od48, .func (PySem.W.fnOf "row_top" "row_top" (defArgs s48) (defBody s48) (defScope s48) .none kV48 dc48 pm48 an48 cd48 ct48), sl48⟩)
    (c48 : PySem.W.codeIn K cd48 "row_top" = true)
    (k48 : PySem.W.keepIn K (.ref f48) = true)
    (a94 : PySem.W.nsIn K mainGlobals "is_falling" = some (some (.ref f94)))
    (i94 : PySem.W.isFn K (.ref f94) = true)
    (l94 : K.lookup f94 = some ⟨oc94, od94, .func (PySem.W.fnOf "is_falling" "is_falling" (defArgs s94) (defBody s94) (defScope s94) .none kV94 dc94 pm94 an94 cd94 ct94), sl94⟩)
    (c94 : PySem.W.codeIn K cd94 "is_falling" = true)
    (k94 : PySem.W.keepIn K (.ref f94) = true)
    (a95 : PySem.W.nsIn K mainGlobals "is_rank" = some (some (.ref f95)))
    (i95 : PySem.W.isFn K (.ref f95) = true)
    (l95 : K.lookup f95 = some ⟨oc95, od95, .func (PySem.W.fnOf "is_rank" "is_rank" (defArgs s95) (defBody s95) (defScope s95) .none kV95 dc95 pm95 an95 cd95 ct95), sl95⟩)
    (c95 : PySem.W.codeIn K cd95 "is_rank" = true)
    (k95 : PySem.W.keepIn K (.ref f95) = true)
    (a71 : PySem.W.nsIn K mainGlobals "_law_d" = some (some (.ref f71)))
    (i71 : PySem.W.isFn K (.ref f71) = true)
    (l71 : K.lookup f71 = some ⟨oc71, od71, .func (PySem.W.fnOf "_law_d" "_law_d" (defArgs s71) (defBody s71) (defScope s71) .none kV71 dc71 pm71 an71 cd71 ct71), sl71⟩)
    (c71 : PySem.W.codeIn K cd71 "_law_d" = true)
    (k71 : PySem.W.keepIn K (.ref f71) = true)
    (a72 : PySem.W.nsIn K mainGlobals "_law_cell" = some (some (.ref f72)))
    (i72 : PySem.W.isFn K (.ref f72) = true)
    (l72 : K.lookup f72 = some ⟨oc72, od72, .func (PySem.W.fnOf "_law_cell" "_law_cell" (defArgs s72) (defBody s72) (defScope s72) .none kV72 dc72 pm72 an72 cd72 ct72), sl72⟩)
    (c72 : PySem.W.codeIn K cd72 "_law_cell" = true)
    (k72 : PySem.W.keepIn K (.ref f72) = true)
    (a73 : PySem.W.nsIn K mainGlobals "_law_same" = some (some (.ref f73)))
    (i73 : PySem.W.isFn K (.ref f73) = true)
    (l73 : K.lookup f73 = some ⟨oc73, od73, .func (PySem.W.fnOf "_law_same" "_law_same" (defArgs s73) (defBody s73) (defScope s73) .none kV73 dc73 pm73 an73 cd73 ct73), sl73⟩)
    (c73 : PySem.W.codeIn K cd73 "_law_same" = true)
    (k73 : PySem.W.keepIn K (.ref f73) = true)
    (a74 : PySem.W.nsIn K mainGlobals "_law_cards" = some (some (.ref f74)))
    (i74 : PySem.W.isFn K (.ref f74) = true)
    (l74 : K.lookup f74 = some ⟨oc74, od74, .func (PySem.W.fnOf "_law_cards" "_law_cards" (defArgs s74) (defBody s74) (defScope s74) .none kV74 dc74 pm74 an74 cd74 ct74), sl74⟩)
    (c74 : PySem.W.codeIn K cd74 "_law_cards" = true)
    (k74 : PySem.W.keepIn K (.ref f74) = true)
    (a75 : PySem.W.nsIn K mainGlobals "_law_close" = some (some (.ref f75)))
    (i75 : PySem.W.isFn K (.ref f75) = true)
    (l75 : K.lookup f75 = some ⟨oc75, od75, .func (PySem.W.fnOf "_law_close" "_law_close" (defArgs s75) (defBody s75) (defScope s75) .none kV75 dc75 pm75 an75 cd75 ct75), sl75⟩)
    (c75 : PySem.W.codeIn K cd75 "_law_close" = true)
    (k75 : PySem.W.keepIn K (.ref f75) = true)
    (a76 : PySem.W.nsIn K mainGlobals "_law_rank" = some (some (.ref f76)))
    (i76 : PySem.W.isFn K (.ref f76) = true)
    (l76 : K.lookup f76 = some ⟨oc76, od76, .func (PySem.W.fnOf "_law_rank" "_law_rank" (defArgs s76) (defBody s76) (defScope s76) .none kV76 dc76 pm76 an76 cd76 ct76), sl76⟩)
    (c76 : PySem.W.codeIn K cd76 "_law_rank" = true)
    (k76 : PySem.W.keepIn K (.ref f76) = true)
    (a181 : PySem.W.nsIn K mainGlobals "_law_is_rank" = some (some (.ref f181)))
    (i181 : PySem.W.isFn K (.ref f181) = true)
    (l181 : K.lookup f181 = some ⟨oc181, od181, .func (PySem.W.fnOf "_law_is_rank" "_law_is_rank" (defArgs s181) (defBody s181) (defScope s181) .none kV181 dc181 pm181 an181 cd181 ct181), sl181⟩)
    (c181 : PySem.W.codeIn K cd181 "_law_is_rank" = true)
    (k181 : PySem.W.keepIn K (.ref f181) = true)
    (a182 : PySem.W.nsIn K mainGlobals "law" = some (some (.ref f182)))
    (i182 : PySem.W.isFn K (.ref f182) = true)
    (l182 : K.lookup f182 = some ⟨oc182, od182, .func (PySem.W.fnOf "law" "law" (defArgs s182) (defBody s182) (defScope s182) .none kV182 dc182 pm182 an182 cd182 ct182), sl182⟩)
    (c182 : PySem.W.codeIn K cd182 "law" = true)
    (k182 : PySem.W.keepIn K (.ref f182) = true)
    (z0 : PySem.W.nsIn K mainGlobals "all" = some none)
    (z1 : PySem.W.nsIn K mainGlobals "any" = some none)
    (z2 : PySem.W.nsIn K mainGlobals "bool" = some none)
    (z3 : PySem.W.nsIn K mainGlobals "int" = some none)
    (z4 : PySem.W.nsIn K mainGlobals "isinstance" = some none)
    (z5 : PySem.W.nsIn K mainGlobals "len" = some none)
    (z6 : PySem.W.nsIn K mainGlobals "list" = some none)
    (z7 : PySem.W.nsIn K mainGlobals "range" = some none)
    (z8 : PySem.W.nsIn K mainGlobals "set" = some none)
    (z9 : PySem.W.nsIn K mainGlobals "sorted" = some none)
    (z10 : PySem.W.nsIn K mainGlobals "str" = some none)
    (z11 : PySem.W.nsIn K mainGlobals "tuple" = some none)
    (z12 : PySem.W.nsIn K mainGlobals "zip" = some none)
    (cn0 : PySem.W.nsIn K mainGlobals "LOW_ROW" = some (some (.ref cA0)))
    (ct0 : K.lookup cA0 = some ⟨.type "tuple", none, .seq [.int 14 cT0_0, .int 5 cT0_1, .int 4 cT0_2, .int 3 cT0_3, .int 2 cT0_4].toArray cN0, #[]⟩)
    (cn1 : PySem.W.nsIn K mainGlobals "ROW_TOPS" = some (some (.ref cA1)))
    (ct1 : K.lookup cA1 = some ⟨.type "tuple", none, .seq [.int 5 cT1_0, .int 6 cT1_1, .int 7 cT1_2, .int 8 cT1_3, .int 9 cT1_4, .int 10 cT1_5, .int 11 cT1_6, .int 12 cT1_7, .int 13 cT1_8, .int 14 cT1_9].toArray cN1, #[]⟩)
    (cn2 : PySem.W.nsIn K mainGlobals "SHARED" = some (some (.ref cA2)))
    (ct2 : K.lookup cA2 = some ⟨.type "tuple", none, .seq [.ref cA2_0, .ref cA2_1, .ref cA2_2, .ref cA2_3, .ref cA2_4, .ref cA2_5, .ref cA2_6, .ref cA2_7, .ref cA2_8].toArray cN2, #[]⟩)
    (ct2_8 : K.lookup cA2_8 = some ⟨.type "tuple", none, .seq [].toArray cN2_8, #[]⟩)
    (ct2_7 : K.lookup cA2_7 = some ⟨.type "tuple", none, .seq [.int 1 cT2_7_0, .int 1 cT2_7_1].toArray cN2_7, #[]⟩)
    (ct2_6 : K.lookup cA2_6 = some ⟨.type "tuple", none, .seq [.int 1 cT2_6_0, .int 1 cT2_6_1].toArray cN2_6, #[]⟩)
    (ct2_5 : K.lookup cA2_5 = some ⟨.type "tuple", none, .seq [].toArray cN2_5, #[]⟩)
    (ct2_4 : K.lookup cA2_4 = some ⟨.type "tuple", none, .seq [].toArray cN2_4, #[]⟩)
    (ct2_3 : K.lookup cA2_3 = some ⟨.type "tuple", none, .seq [.int 1 cT2_3_0, .int 2 cT2_3_1].toArray cN2_3, #[]⟩)
    (ct2_2 : K.lookup cA2_2 = some ⟨.type "tuple", none, .seq [.int 2 cT2_2_0, .int 1 cT2_2_1].toArray cN2_2, #[]⟩)
    (ct2_1 : K.lookup cA2_1 = some ⟨.type "tuple", none, .seq [.int 1 cT2_1_0, .int 3 cT2_1_1].toArray cN2_1, #[]⟩)
    (ct2_0 : K.lookup cA2_0 = some ⟨.type "tuple", none, .seq [].toArray cN2_0, #[]⟩)
    : ∃ (I : Inf) (fd : FuncData), (∀ (s : Shared) (u : Value), BindsTo s fd ⟨[u], []⟩ [(("_law_script" : Str), u)]) ∧ GS K mg I Γ0 ∧ ∃ (x qual : Str) (st : Stmt) (N : List Str) (dd : FnD), Fun K x qual st fa fd ∧ FnScope N [("_law_script" : Str)] (defScope st) ∧ Γ0.fns 182 = some dd ∧ dd.np = 1 ∧ N.length = dd.ns ∧ DSs Γ0 N (fnSco st) (defBody st) dd.body := by
  have e := hfa.symm.trans (PySem.W.mg_of X G a182)
  cases e
  have F48 := fun_mk (st := s48) l48 c48 k48
  have B48 := F48.binds (ps := [("ranks" : Str)]) fun _ _ _ _ _ _ us hl => match us, hl with | [_], _ => rfl
  have S48 : FnScope N48 [("ranks" : Str)] (defScope s48) := fs (by decide +kernel)
  have g48 : FnSt Γ0 K 48 _ := ⟨k48, i48, _, _, s48, _, N48, _, _, F48, S48, B48, rfl, rfl, rfl, ds48⟩
  have F94 := fun_mk (st := s94) l94 c94 k94
  have B94 := F94.binds (ps := [("ranks" : Str), ("many" : Str)]) fun _ _ _ _ _ _ us hl => match us, hl with | [_, _], _ => rfl
  have S94 : FnScope N94 [("ranks" : Str), ("many" : Str)] (defScope s94) := fs (by decide +kernel)
  have g94 : FnSt Γ0 K 94 _ := ⟨k94, i94, _, _, s94, _, N94, _, _, F94, S94, B94, rfl, rfl, rfl, ds94⟩
  have F95 := fun_mk (st := s95) l95 c95 k95
  have B95 := F95.binds (ps := [("thing" : Str)]) fun _ _ _ _ _ _ us hl => match us, hl with | [_], _ => rfl
  have S95 : FnScope N95 [("thing" : Str)] (defScope s95) := fs (by decide +kernel)
  have g95 : FnSt Γ0 K 95 _ := ⟨k95, i95, _, _, s95, _, N95, _, _, F95, S95, B95, rfl, rfl, rfl, ds95⟩
  have F71 := fun_mk (st := s71) l71 c71 k71
  have B71 := F71.binds (ps := [("_law_cell_here" : Str), ("_law_place" : Str), ("_law_many" : Str)]) fun _ _ _ _ _ _ us hl => match us, hl with | [_, _, _], _ => rfl
  have S71 : FnScope N71 [("_law_cell_here" : Str), ("_law_place" : Str), ("_law_many" : Str)] (defScope s71) := fs (by decide +kernel)
  have g71 : FnSt Γ0 K 71 _ := ⟨k71, i71, _, _, s71, _, N71, _, _, F71, S71, B71, rfl, rfl, rfl, ds71⟩
  have F72 := fun_mk (st := s72) l72 c72 k72
  have B72 := F72.binds (ps := [("_law_script" : Str), ("_law_k" : Str)]) fun _ _ _ _ _ _ us hl => match us, hl with | [_, _], _ => rfl
  have S72 : FnScope N72 [("_law_script" : Str), ("_law_k" : Str)] (defScope s72) := fs (by decide +kernel)
  have g72 : FnSt Γ0 K 72 _ := ⟨k72, i72, _, _, s72, _, N72, _, _, F72, S72, B72, rfl, rfl, rfl, ds72⟩
  have F73 := fun_mk (st := s73) l73 c73 k73
  have B73 := F73.binds (ps := [("_law_told" : Str), ("_law_due" : Str)]) fun _ _ _ _ _ _ us hl => match us, hl with | [_, _], _ => rfl
  have S73 : FnScope N73 [("_law_told" : Str), ("_law_due" : Str)] (defScope s73) := fs (by decide +kernel)
  have g73 : FnSt Γ0 K 73 _ := ⟨k73, i73, _, _, s73, _, N73, _, _, F73, S73, B73, rfl, rfl, rfl, ds73⟩
  have F74 := fun_mk (st := s74) l74 c74 k74
  have B74 := F74.binds (ps := [("_law_cells" : Str), ("_law_many" : Str)]) fun _ _ _ _ _ _ us hl => match us, hl with | [_, _], _ => rfl
  have S74 : FnScope N74 [("_law_cells" : Str), ("_law_many" : Str)] (defScope s74) := fs (by decide +kernel)
  have g74 : FnSt Γ0 K 74 _ := ⟨k74, i74, _, _, s74, _, N74, _, _, F74, S74, B74, rfl, rfl, rfl, ds74⟩
  have F75 := fun_mk (st := s75) l75 c75 k75
  have B75 := F75.binds (ps := [("_law_cells" : Str), ("_law_many" : Str)]) fun _ _ _ _ _ _ us hl => match us, hl with | [_, _], _ => rfl
  have S75 : FnScope N75 [("_law_cells" : Str), ("_law_many" : Str)] (defScope s75) := fs (by decide +kernel)
  have g75 : FnSt Γ0 K 75 _ := ⟨k75, i75, _, _, s75, _, N75, _, _, F75, S75, B75, rfl, rfl, rfl, ds75⟩
  have F76 := fun_mk (st := s76) l76 c76 k76
  have B76 := F76.binds (ps := [("_law_five" : Str)]) fun _ _ _ _ _ _ us hl => match us, hl with | [_], _ => rfl
  have S76 : FnScope N76 [("_law_five" : Str)] (defScope s76) := fs (by decide +kernel)
  have g76 : FnSt Γ0 K 76 _ := ⟨k76, i76, _, _, s76, _, N76, _, _, F76, S76, B76, rfl, rfl, rfl, ds76⟩
  have F181 := fun_mk (st := s181) l181 c181 k181
  have B181 := F181.binds (ps := [("_law_thing" : Str)]) fun _ _ _ _ _ _ us hl => match us, hl with | [_], _ => rfl
  have S181 : FnScope N181 [("_law_thing" : Str)] (defScope s181) := fs (by decide +kernel)
  have g181 : FnSt Γ0 K 181 _ := ⟨k181, i181, _, _, s181, _, N181, _, _, F181, S181, B181, rfl, rfl, rfl, ds181⟩
  have F182 := fun_mk (st := s182) l182 c182 k182
  have B182 := F182.binds (ps := [("_law_script" : Str)]) fun _ _ _ _ _ _ us hl => match us, hl with | [_], _ => rfl
  have S182 : FnScope N182 [("_law_script" : Str)] (defScope s182) := fs (by decide +kernel)
  have g182 : FnSt Γ0 K 182 _ := ⟨k182, i182, _, _, s182, _, N182, _, _, F182, S182, B182, rfl, rfl, rfl, ds182⟩
  refine ⟨⟨fun c => none, fun c => none⟩, _, fun s v => .of_eq rfl, ⟨(List.forall_mem_cons.mpr ⟨⟨_, PySem.W.mg_of X G a48, g48⟩, (List.forall_mem_cons.mpr ⟨⟨_, PySem.W.mg_of X G a94, g94⟩, (List.forall_mem_cons.mpr ⟨⟨_, PySem.W.mg_of X G a95, g95⟩, (List.forall_mem_cons.mpr ⟨⟨_, PySem.W.mg_of X G a71, g71⟩, (List.forall_mem_cons.mpr ⟨⟨_, PySem.W.mg_of X G a72, g72⟩, (List.forall_mem_cons.mpr ⟨⟨_, PySem.W.mg_of X G a73, g73⟩, (List.forall_mem_cons.mpr ⟨⟨_, PySem.W.mg_of X G a74, g74⟩, (List.forall_mem_cons.mpr ⟨⟨_, PySem.W.mg_of X G a75, g75⟩, (List.forall_mem_cons.mpr ⟨⟨_, PySem.W.mg_of X G a76, g76⟩, (List.forall_mem_cons.mpr ⟨⟨_, PySem.W.mg_of X G a181, g181⟩, (List.forall_mem_cons.mpr ⟨⟨_, PySem.W.mg_of X G a182, g182⟩, (List.forall_mem_nil _)⟩)⟩)⟩)⟩)⟩)⟩)⟩)⟩)⟩)⟩)⟩), (List.forall_mem_cons.mpr ⟨(PySem.W.mg_none_of X G z0), (List.forall_mem_cons.mpr ⟨(PySem.W.mg_none_of X G z1), (List.forall_mem_cons.mpr ⟨(PySem.W.mg_none_of X G z2), (List.forall_mem_cons.mpr ⟨(PySem.W.mg_none_of X G z3), (List.forall_mem_cons.mpr ⟨(PySem.W.mg_none_of X G z4), (List.forall_mem_cons.mpr ⟨(PySem.W.mg_none_of X G z5), (List.forall_mem_cons.mpr ⟨(PySem.W.mg_none_of X G z6), (List.forall_mem_cons.mpr ⟨(PySem.W.mg_none_of X G z7), (List.forall_mem_cons.mpr ⟨(PySem.W.mg_none_of X G z8), (List.forall_mem_cons.mpr ⟨(PySem.W.mg_none_of X G z9), (List.forall_mem_cons.mpr ⟨(PySem.W.mg_none_of X G z10), (List.forall_mem_cons.mpr ⟨(PySem.W.mg_none_of X G z11), (List.forall_mem_cons.mpr ⟨(PySem.W.mg_none_of X G z12), (List.forall_mem_nil _)⟩)⟩)⟩)⟩)⟩)⟩)⟩)⟩)⟩)⟩)⟩)⟩)⟩), ?con, ?cl, ?mt, ?fl, ?ci, ?xc, ?xm, ?tb, ?st, ?ho⟩, _, _, s182, N182, _, F182, S182, rfl, rfl, rfl, ds182⟩
  case con => exact (List.forall_mem_cons.mpr ⟨⟨_, .ref cA0, PySem.W.mg_of X G cn0, rfl, (con_tup ct0 (by show 5 ≤ 1000; decide) (.cons (show RelV (.int 14) _ from ⟨_, rfl⟩) (.cons (show RelV (.int 5) _ from ⟨_, rfl⟩) (.cons (show RelV (.int 4) _ from ⟨_, rfl⟩) (.cons (show RelV (.int 3) _ from ⟨_, rfl⟩) (.cons (show RelV (.int 2) _ from ⟨_, rfl⟩) .nil))))) fun F H => (.cons (.int _) (.cons (.int _) (.cons (.int _) (.cons (.int _) (.cons (.int _) .nil))))))⟩, (List.forall_mem_cons.mpr ⟨⟨_, .ref cA1, PySem.W.mg_of X G cn1, rfl, (con_tup ct1 (by show 10 ≤ 1000; decide) (.cons (show RelV (.int 5) _ from ⟨_, rfl⟩) (.cons (show RelV (.int 6) _ from ⟨_, rfl⟩) (.cons (show RelV (.int 7) _ from ⟨_, rfl⟩) (.cons (show RelV (.int 8) _ from ⟨_, rfl⟩) (.cons (show RelV (.int 9) _ from ⟨_, rfl⟩) (.cons (show RelV (.int 10) _ from ⟨_, rfl⟩) (.cons (show RelV (.int 11) _ from ⟨_, rfl⟩) (.cons (show RelV (.int 12) _ from ⟨_, rfl⟩) (.cons (show RelV (.int 13) _ from ⟨_, rfl⟩) (.cons (show RelV (.int 14) _ from ⟨_, rfl⟩) .nil)))))))))) fun F H => (.cons (.int _) (.cons (.int _) (.cons (.int _) (.cons (.int _) (.cons (.int _) (.cons (.int _) (.cons (.int _) (.cons (.int _) (.cons (.int _) (.cons (.int _) .nil)))))))))))⟩, (List.forall_mem_cons.mpr ⟨⟨_, .ref cA2, PySem.W.mg_of X G cn2, rfl, (con_tup ct2 (by show 9 ≤ 1000; decide) (.cons (show RelV (.ref cA2_0) _ from rfl) (.cons (show RelV (.ref cA2_1) _ from rfl) (.cons (show RelV (.ref cA2_2) _ from rfl) (.cons (show RelV (.ref cA2_3) _ from rfl) (.cons (show RelV (.ref cA2_4) _ from rfl) (.cons (show RelV (.ref cA2_5) _ from rfl) (.cons (show RelV (.ref cA2_6) _ from rfl) (.cons (show RelV (.ref cA2_7) _ from rfl) (.cons (show RelV (.ref cA2_8) _ from rfl) .nil))))))))) fun F H => (.cons ((con_tup ct2_0 (by show 0 ≤ 1000; decide) .nil fun F H => .nil) F H) (.cons ((con_tup ct2_1 (by show 2 ≤ 1000; decide) (.cons (show RelV (.int 1) _ from ⟨_, rfl⟩) (.cons (show RelV (.int 3) _ from ⟨_, rfl⟩) .nil)) fun F H => (.cons (.int _) (.cons (.int _) .nil))) F H) (.cons ((con_tup ct2_2 (by show 2 ≤ 1000; decide) (.cons (show RelV (.int 2) _ from ⟨_, rfl⟩) (.cons (show RelV (.int 1) _ from ⟨_, rfl⟩) .nil)) fun F H => (.cons (.int _) (.cons (.int _) .nil))) F H) (.cons ((con_tup ct2_3 (by show 2 ≤ 1000; decide) (.cons (show RelV (.int 1) _ from ⟨_, rfl⟩) (.cons (show RelV (.int 2) _ from ⟨_, rfl⟩) .nil)) fun F H => (.cons (.int _) (.cons (.int _) .nil))) F H) (.cons ((con_tup ct2_4 (by show 0 ≤ 1000; decide) .nil fun F H => .nil) F H) (.cons ((con_tup ct2_5 (by show 0 ≤ 1000; decide) .nil fun F H => .nil) F H) (.cons ((con_tup ct2_6 (by show 2 ≤ 1000; decide) (.cons (show RelV (.int 1) _ from ⟨_, rfl⟩) (.cons (show RelV (.int 1) _ from ⟨_, rfl⟩) .nil)) fun F H => (.cons (.int _) (.cons (.int _) .nil))) F H) (.cons ((con_tup ct2_7 (by show 2 ≤ 1000; decide) (.cons (show RelV (.int 1) _ from ⟨_, rfl⟩) (.cons (show RelV (.int 1) _ from ⟨_, rfl⟩) .nil)) fun F H => (.cons (.int _) (.cons (.int _) .nil))) F H) (.cons ((con_tup ct2_8 (by show 0 ≤ 1000; decide) .nil fun F H => .nil) F H) .nil))))))))))⟩, (List.forall_mem_nil _)⟩)⟩)⟩)
  case ho => exact List.forall_mem_nil _
  case tb => exact (List.forall_mem_nil _)
  case st => exact (List.forall_mem_nil _)
  case cl => exact List.forall_mem_nil _
  case mt => exact List.forall_mem_nil _
  case fl => exact List.forall_mem_nil _
  case ci => exact fun c D nm h => by cases h
  case xc => exact (List.forall_mem_nil _)
  case xm => exact fun c D c2 D2 h1 _ => by cases h1
end Cd
set_option Elab.async false
set_option linter.all false
set_option maxRecDepth 100000
set_option maxHeartbeats 4000000
namespace Cd
open PySem L2
theorem call_eq {fns : Nat → Option FnD} {n f : Nat} {args : List Val} {h : Hi} {d : FnD} (e : fns f = some d) (hl : args.length = d.np) : callF fns (n + 1) f args h = finF h.length (evalSs (callF fns n) d.body (startE d args) h) := by
  show (match fns f with
    | none => R.stuck
    | some d => if args.length = d.np then finF h.length (evalSs (callF fns n) d.body (startE d args) h) else .stuck) = _
  rw [e]
  exact if_pos hl
section
variable {cf : Calls} {env : Ev} {h : Hi} {a b c e : E} {i j : Nat} {d : PyData}
@[simp] theorem ev_var : evalE cf env (.var i) h = ofO (slot env i) h := id rfl
@[simp] theorem ev_lit : evalE cf env (.lit d) h = .ok (.p d) h := id rfl
@[simp] theorem ev_fld : evalE cf env (.fld i j) h = ofO ((insOf env h i).bind fun p => fldK p.2.2[j]?) h := id rfl
@[simp] theorem ev_op1 {o : O1} : evalE cf env (.op1 o a) h = (bor env h a (evalE cf env a h)).bind fun x h1 => ofO ((opf1 o x).map .p) h1 := id rfl
@[simp] theorem ev_op2 {o : O2} : evalE cf env (.op2 o a b) h = ((evalE cf env a h).bind unP).bind fun x h1 => (bor env h1 b (evalE cf env b h1)).bind fun y h2 => ofO ((opf2 o x y).map .p) h2 := id rfl
@[simp] theorem ev_op2b {o : O2} : evalE cf env (.op2b o a b) h = (bor env h a (evalE cf env a h)).bind fun x h1 => ((evalE cf env b h1).bind unP).bind fun y h2 => ofO ((opf2 o x y).map .p) h2 := id rfl
@[simp] theorem ev_op2d {o : O2} : evalE cf env (.op2d o a b) h = ((evalE cf env a h).bind unP).bind fun x h1 => ((evalE cf env b h1).bind unP).bind fun y h2 => ofO ((opf2 o x y).map .p) h2 := id rfl
@[simp] theorem ev_op3b {o : O3} : evalE cf env (.op3b o a b c) h = (bor env h a (evalE cf env a h)).bind fun x h1 => ((evalE cf env b h1).bind unP).bind fun y h2 => ((evalE cf env c h2).bind unP).bind fun z h3 => ofO ((opf3 o x y z).map .p) h3 := id rfl
@[simp] theorem ev_and : evalE cf env (.and_ a b) h = (evalE cf env a h).bind fun v h1 => andK (fun h2 => evalE cf env b h2) v h1 := id rfl
@[simp] theorem ev_or : evalE cf env (.or_ a b) h = (evalE cf env a h).bind fun v h1 => orK (fun h2 => evalE cf env b h2) v h1 := id rfl
@[simp] theorem ev_not : evalE cf env (.not_ a) h = (evalE cf env a h).bind notK := id rfl
@[simp] theorem ev_ite {t : Te} : evalE cf env (.ite t a b) h = (evalT cf env t h).bind fun k h1 => ifK (fun h2 => evalE cf env a h2) (fun h2 => evalE cf env b h2) k h1 := id rfl
@[simp] theorem ev_tup {es : List E} : evalE cf env (.tup es) h = (evalPs cf env es h).bind fun ds h1 => .ok (.p (.tuple ds)) h1 := id rfl
@[simp] theorem ev_lst {es : List E} : evalE cf env (.lst es) h = (evalPs cf env es h).bind fun ds h1 => .ok (.p (.list ds)) h1 := id rfl
@[simp] theorem ev_call {f : Nat} {es : List E} : evalE cf env (.call f es) h = (evalEs cf env es h).bind fun vs h1 => cf f vs h1 := id rfl
@[simp] theorem ev_meth {k f : Nat} {es : List E} : evalE cf env (.meth k f i es) h = match methOk env h k i with
    | none => .stuck
    | some n => (evalEs cf env es h).bind fun vs h1 => cf f (.ref n :: vs) h1 := id rfl
@[simp] theorem ev_new {k f : Nat} {es : List E} : evalE cf env (.new k f es) h = (evalEs cf env es h).bind fun vs h1 => (noX (cf f (.ref h1.length :: vs) (h1 ++ [.ins k []]))).bind fun v h2 => newK h1.length v h2 := id rfl
theorem ev_comp {own : List Nat} {t : Tg} {src : Src} {cond : List Te} {elt : E} : evalE cf env (.comp own t src cond elt) h = (evalSrc cf env src h).bind fun items h1 =>
    compK2 (compL (fun e h => (evalE cf e elt h).bind unP) (fun e h => evalTs cf e cond h) (fun x e => bindT t x e) (wipeE env own)) items h1 := id rfl
theorem ev_compB {own : List Nat} {t : Tg} {cond : List Te} {elt : E} : evalE cf env (.compB i own t cond elt) h = match lstOf env h i with
    | none => .stuck
    | some p => compK2 (compLB (fun h => stillL h p.1 p.2) (fun e h => (evalE cf e elt h).bind unP) (fun e h => evalTs cf e cond h) (fun x e => bindT t x e) (wipeE env own)) p.2 h := id rfl
@[simp] theorem ev_isi {t : Ty} : evalE cf env (.isi a t) h = ((evalE cf env a h).bind unP).bind fun d h1 => .ok (.p (.bool (isTy t d))) h1 := id rfl
@[simp] theorem ev_pop : evalE cf env (.pop i a) h = match lstOf env h i with
    | none => .stuck
    | some _ => ((evalE cf env a h).bind unP).bind fun d h1 => popK env i d h1 := id rfl
@[simp] theorem ev_mk : evalE cf env (.mk a) h = ((evalE cf env a h).bind unP).bind mkK := id rfl
@[simp] theorem et_and {s t : Te} : evalT cf env (.and_ s t) h = (evalT cf env s h).bind fun k h1 => ifK (fun h2 => evalT cf env t h2) (fun h2 => .ok false h2) k h1 := id rfl
@[simp] theorem et_or {s t : Te} : evalT cf env (.or_ s t) h = (evalT cf env s h).bind fun k h1 => ifK (fun h2 => .ok true h2) (fun h2 => evalT cf env t h2) k h1 := id rfl
@[simp] theorem et_not {s : Te} : evalT cf env (.not_ s) h = (evalT cf env s h).bind fun k h1 => .ok (!k) h1 := id rfl
@[simp] theorem et_val : evalT cf env (.val e) h = (bor env h e (evalE cf env e h)).bind fun d h1 => ofO (truthD d) h1 := id rfl
@[simp] theorem ets_nil : evalTs cf env [] h = .ok true h := id rfl
@[simp] theorem ets_cons {t : Te} {ts : List Te} : evalTs cf env (t :: ts) h = (evalT cf env t h).bind fun k h1 => ifK (fun h2 => evalTs cf env ts h2) (fun h2 => .ok false h2) k h1 := id rfl
@[simp high] theorem ets_one {t : Te} : evalTs cf env [t] h = evalT cf env t h := by
  show ((evalT cf env t h).bind fun k h1 => ifK (fun h2 => R.ok true h2) (fun h2 => .ok false h2) k h1) = _
  cases evalT cf env t h with
  | ok k h1 => cases k <;> rfl
  | exc e h1 => rfl
  | stuck => rfl
@[simp] theorem ees_nil : evalEs cf env [] h = .ok [] h := id rfl
@[simp] theorem ees_cons {es : List E} : evalEs cf env (e :: es) h = (evalE cf env e h).bind fun v h1 => (evalEs cf env es h1).bind fun vs h2 => .ok (v :: vs) h2 := id rfl
@[simp] theorem eps_nil : evalPs cf env [] h = .ok [] h := id rfl
@[simp] theorem eps_cons {es : List E} : evalPs cf env (e :: es) h = ((evalE cf env e h).bind unP).bind fun v h1 => (evalPs cf env es h1).bind fun vs h2 => .ok (v :: vs) h2 := id rfl
@[simp] theorem es_e : evalSrc cf env (.e a) h = ((evalE cf env a h).bind unP).bind fun d h1 => ofO (itemsOf d) h1 := id rfl
@[simp] theorem es_rng1 : evalSrc cf env (.rng1 a) h = ((evalE cf env a h).bind unP).bind rng1K := id rfl
@[simp] theorem es_rng2 : evalSrc cf env (.rng2 a b) h = ((evalE cf env a h).bind unP).bind fun d h1 => ((evalE cf env b h1).bind unP).bind fun e h2 => rng2K d e h2 := id rfl
@[simp] theorem es_enum : evalSrc cf env (.enum a) h = ((evalE cf env a h).bind unP).bind fun d h1 => ofO ((itemsOf d).map (enumFrom 0)) h1 := id rfl
@[simp] theorem es_zip : evalSrc cf env (.zip a b) h = ((evalE cf env a h).bind unP).bind fun d h1 => ((evalE cf env b h1).bind unP).bind fun e h2 => ofO ((itemsOf d).bind fun xs => (itemsOf e).map fun ys => zipD xs ys) h2 := id rfl
@[simp] theorem ss_nil : evalSs cf [] env h = .ok .nx env h := id rfl
@[simp] theorem ss_cons {s : S} {r : List S} : evalSs cf (s :: r) env h = (evalS cf s env h).bind (evalSs cf r) := id rfl
@[simp] theorem st_set : evalS cf (.set i e) env h = (evalE cf env e h).toS env fun v h1 => .ok .nx (setSlot env i (some v)) h1 := id rfl
@[simp] theorem st_set2 : evalS cf (.set2 i j a b) env h = (evalE cf env a h).toS env fun v h1 => (evalE cf env b h1).toS env fun w h2 => .ok .nx (setSlot (setSlot env i (some v)) j (some w)) h2 := id rfl
@[simp] theorem st_set3 {l : Nat} : evalS cf (.set3 i j l a b c) env h = (evalE cf env a h).toS env fun u h1 => (evalE cf env b h1).toS env fun v h2 => (evalE cf env c h2).toS env fun w h3 => .ok .nx (setSlot (setSlot (setSlot env i (some u)) j (some v)) l (some w)) h3 := id rfl
@[simp] theorem st_unpack {t : Tg} : evalS cf (.unpack t e) env h = ((evalE cf env e h).bind unP).toS env fun d h1 => match bindT t d env with
    | some env1 => .ok .nx env1 h1
    | none => .stuck := id rfl
@[simp] theorem st_setFld : evalS cf (.setFld i j e) env h = ((evalE cf env e h).bind unP).toS env fun d h1 => ofH env (setFldH env i j (.p d) h1) := id rfl
@[simp] theorem st_newFld : evalS cf (.newFld i j e) env h = ((evalE cf env e h).bind unP).toS env fun d h1 => ofH env ((listD d).bind fun ts => setFldH env i j (.l ts) h1) := id rfl
@[simp] theorem st_setIx {p q : E} : evalS cf (.setIx p q e) env h = ((evalE cf env e h).bind unP).toS env fun d h1 => match getL env h1 p with
    | none => .stuck
    | some _ => ((evalE cf env q h1).bind unP).toS env fun k h2 => ofH env (setIxH env p k d h2) := id rfl
@[simp] theorem st_app {p : E} : evalS cf (.app p e) env h = match getL env h p with
    | none => .stuck
    | some _ => ((evalE cf env e h).bind unP).toS env fun d h1 => ofH env (appH env p d h1) := id rfl
@[simp] theorem st_ext {p : E} : evalS cf (.ext p e) env h = match getL env h p with
    | none => .stuck
    | some _ => ((evalE cf env e h).bind unP).toS env fun d h1 => ofH env (extH env p d h1) := id rfl
@[simp] theorem st_expr : evalS cf (.expr e) env h = (evalE cf env e h).toS env fun _ h1 => .ok .nx env h1 := id rfl
@[simp] theorem st_if {t : Te} {x y : List S} : evalS cf (.if_ t x y) env h = (evalT cf env t h).toS env fun k h1 => if k then evalSs cf x env h1 else evalSs cf y env h1 := id rfl
@[simp] theorem st_for {t : Tg} {src : Src} {body : List S} : evalS cf (.for_ t src body) env h = (evalSrc cf env src h).toS env fun items h1 => forL (evalSs cf body) (bindT t) items env h1 := id rfl
@[simp] theorem st_ret : evalS cf (.ret e) env h = (evalE cf env e h).toS env fun v h1 => .ok (.rt v) env h1 := id rfl
@[simp] theorem st_raise {k : Nat} {es : List E} : evalS cf (.raise_ k es) env h = (evalPs cf env es h).toS env fun ds h1 => .exc ⟨k, ds⟩ env h1 := id rfl
@[simp] theorem st_pass : evalS cf .pass env h = .ok .nx env h := id rfl
@[simp] theorem st_brk : evalS cf .brk env h = .ok .bk env h := id rfl
@[simp] theorem st_cont : evalS cf .cont env h = .ok .ct env h := id rfl
end
@[simp] theorem unP_p {d : PyData} {h : Hi} : unP (.p d) h = .ok d h := id rfl
@[simp] theorem slot_0 {v : Option Val} {r : Ev} : slot (v :: r) 0 = v := id rfl
@[simp] theorem slot_s {v : Option Val} {r : Ev} {i : Nat} : slot (v :: r) (i + 1) = slot r i := id rfl
@[simp] theorem setSlot_0 {v w : Option Val} {r : Ev} : setSlot (v :: r) 0 w = w :: r := id rfl
@[simp] theorem setSlot_s {v w : Option Val} {r : Ev} {i : Nat} : setSlot (v :: r) (i + 1) w = v :: setSlot r i w := id rfl
@[simp] theorem startE_eq {np ns : Nat} {b : List S} {args : List Val} : startE ⟨np, ns, b⟩ args = args.map some ++ List.replicate (ns - args.length) none := id rfl
@[simp] theorem fin_rp {n : Nat} {d : PyData} {env : Ev} {h : Hi} : finF n (.ok (.rt (.p d)) env h) = .ok (.p d) (h.take n) := id rfl
@[simp] theorem fin_rr {n m : Nat} {env : Ev} {h : Hi} : finF n (.ok (.rt (.ref m)) env h) = .ok (.ref m) h := id rfl
@[simp] theorem fin_nx {n : Nat} {env : Ev} {h : Hi} : finF n (.ok .nx env h) = .ok (.p .none) (h.take n) := id rfl
@[simp] theorem fin_exc {n : Nat} {e : Ex} {env : Ev} {h : Hi} : finF n (.exc e env h) = .exc e (h.take n) := id rfl
@[simp] theorem ifK_eq {α : Type} {a b : Hi → R α} {k : Bool} {h : Hi} : ifK a b k h = if k = true then a h else b h := id rfl
@[simp] theorem andK_t {f : Hi → R Val} {h : Hi} {b : Bool} : andK f (.p (.bool b)) h = if b = true then f h else .ok (.p (.bool false)) h := by cases b <;> rfl
@[simp] theorem orK_t {f : Hi → R Val} {h : Hi} {b : Bool} : orK f (.p (.bool b)) h = if b = true then .ok (.p (.bool true)) h else f h := by cases b <;> rfl
@[simp] theorem notK_t {h : Hi} {b : Bool} : notK (.p (.bool b)) h = .ok (.p (.bool !b)) h := id rfl
@[simp] theorem truth_b {b : Bool} : truthD (.bool b) = some b := id rfl
@[simp] theorem truth_i {i : Int} : truthD (.int i) = some (i != 0) := id rfl
@[simp] theorem truth_l {ts : List PyData} : truthD (.list ts) = some (!ts.isEmpty) := id rfl
@[simp] theorem truth_t {ts : List PyData} : truthD (.tuple ts) = some (!ts.isEmpty) := id rfl
@[simp] theorem o_add {i j : Int} : opf2 .add (.int i) (.int j) = some (.int (i + j)) := id rfl
@[simp] theorem o_addI {i j : Int} : opf2 .addI (.int i) (.int j) = some (.int (i + j)) := id rfl
@[simp] theorem o_addT {xs ys : List PyData} : opf2 .add (.tuple xs) (.tuple ys) = if xs.length + ys.length ≤ sizeLine then some (.tuple (xs ++ ys)) else none := id rfl
@[simp] theorem o_sub {i j : Int} : opf2 .sub (.int i) (.int j) = some (.int (i - j)) := id rfl
theorem o_mul {i j : Int} (h : small64 i = true ∨ small64 j = true) : opf2 .mul (.int i) (.int j) = some (.int (i * j)) := by
  show (if small64 i || small64 j then some (PyData.int (i * j)) else none) = _
  rw [if_pos (by simpa using h)]
theorem o_mod {i j : Int} (h : j ≠ 0) : opf2 .mod (.int i) (.int j) = some (.int (i.fmod j)) := if_neg h
theorem o_div {i j : Int} (h : j ≠ 0) (h2 : j.natAbs < 1073741824) : opf2 .fdiv (.int i) (.int j) = some (.int (i.fdiv j)) := if_pos (by simp [h, h2])
@[simp] theorem o_lt {i j : Int} : opf2 .lt (.int i) (.int j) = some (.bool (decide (i < j))) := id rfl
@[simp] theorem o_le {i j : Int} : opf2 .le (.int i) (.int j) = some (.bool (decide (i ≤ j))) := id rfl
@[simp] theorem o_gt {i j : Int} : opf2 .gt (.int i) (.int j) = some (.bool (decide (j < i))) := id rfl
@[simp] theorem o_ge {i j : Int} : opf2 .ge (.int i) (.int j) = some (.bool (decide (j ≤ i))) := id rfl
@[simp] theorem o_max2 {i j : Int} : opf2 .max2 (.int i) (.int j) = some (.int (if j > i then j else i)) := id rfl
@[simp] theorem o_min2 {i j : Int} : opf2 .min2 (.int i) (.int j) = some (.int (if j < i then j else i)) := id rfl
@[simp] theorem o_ixL {xs : List PyData} {i : Int} : opf2 .ix (.list xs) (.int i) = atI xs i := id rfl
@[simp] theorem o_ixT {xs : List PyData} {i : Int} : opf2 .ix (.tuple xs) (.int i) = atI xs i := id rfl
@[simp] theorem o_neg {i : Int} : opf1 .neg (.int i) = some (.int (-i)) := id rfl
@[simp] theorem o_lenL {xs : List PyData} : opf1 .len (.list xs) = some (.int xs.length) := id rfl
@[simp] theorem o_lenT {xs : List PyData} : opf1 .len (.tuple xs) = some (.int xs.length) := id rfl
@[simp] theorem o_tupL {xs : List PyData} : opf1 .tuple (.list xs) = some (.tuple xs) := id rfl
@[simp] theorem o_tupT {xs : List PyData} : opf1 .tuple (.tuple xs) = some (.tuple xs) := id rfl
@[simp] theorem o_lstL {xs : List PyData} : opf1 .list (.list xs) = some (.list xs) := id rfl
@[simp] theorem o_lstT {xs : List PyData} : opf1 .list (.tuple xs) = some (.list xs) := id rfl
@[simp] theorem o_isNone {d : PyData} : opf1 .isNone d = some (.bool (isNoneD d)) := id rfl
@[simp] theorem o_notNone {d : PyData} : opf1 .notNone d = some (.bool (!isNoneD d)) := id rfl
@[simp] theorem intsD_map (ns : List Int) : intsD (ns.map .int) = some ns := by
  induction ns with
  | nil => rfl
  | cons n r ih => simp only [List.map_cons, intsD, ih, Option.map_some]
@[simp] theorem boolsD_map (ns : List Bool) : boolsD (ns.map .bool) = some ns := by
  induction ns with
  | nil => rfl
  | cons n r ih => simp only [List.map_cons, boolsD, ih, Option.map_some]
@[simp] theorem o_sumL {ns : List Int} : opf1 .sum (.list (ns.map .int)) = some (.int ns.sum) := by show (intsD _).map _ = _; rw [intsD_map]; rfl
@[simp] theorem o_sumT {ns : List Int} : opf1 .sum (.tuple (ns.map .int)) = some (.int ns.sum) := by show (intsD _).map _ = _; rw [intsD_map]; rfl
@[simp] theorem o_allL {ns : List Bool} : opf1 .all (.list (ns.map .bool)) = some (.bool (ns.all id)) := by show (boolsD _).map _ = _; rw [boolsD_map]; rfl
@[simp] theorem o_anyL {ns : List Bool} : opf1 .any (.list (ns.map .bool)) = some (.bool (ns.any id)) := by show (boolsD _).map _ = _; rw [boolsD_map]; rfl
@[simp] theorem items_L {xs : List PyData} : itemsOf (.list xs) = some xs := id rfl
@[simp] theorem items_T {xs : List PyData} : itemsOf (.tuple xs) = some xs := id rfl
@[simp] theorem bt_name {i : Nat} {d : PyData} {env : Ev} : bindT (.name i) d env = some (setSlot env i (some (.p d))) := id rfl
@[simp] theorem bt_tup {ts : List Tg} {ds : List PyData} {env : Ev} : bindT (.tup ts) (.tuple ds) env = bindTs ts ds env := id rfl
@[simp] theorem bts_nil {env : Ev} : bindTs [] [] env = some env := id rfl
@[simp] theorem bts_cons {t : Tg} {ts : List Tg} {d : PyData} {ds : List PyData} {env : Ev} : bindTs (t :: ts) (d :: ds) env = (bindT t d env).bind (bindTs ts ds) := id rfl
@[simp] theorem wipe_nil {env : Ev} : wipeE env [] = env := id rfl
@[simp] theorem wipe_cons {env : Ev} {v : Nat} {vs : List Nat} : wipeE env (v :: vs) = setSlot (wipeE env vs) v none := id rfl
section
variable {env : Ev} {h : Hi} {i : Nat} {r : R Val}
@[simp] theorem bor_op1 {o : O1} {a : E} : bor env h (.op1 o a) r = r.bind unP := id rfl
@[simp] theorem bor_op2 {o : O2} {a b : E} : bor env h (.op2 o a b) r = r.bind unP := id rfl
@[simp] theorem bor_op2b {o : O2} {a b : E} : bor env h (.op2b o a b) r = r.bind unP := id rfl
@[simp] theorem bor_op2d {o : O2} {a b : E} : bor env h (.op2d o a b) r = r.bind unP := id rfl
@[simp] theorem bor_op3b {o : O3} {a b c : E} : bor env h (.op3b o a b c) r = r.bind unP := id rfl
@[simp] theorem bor_lit {d : PyData} : bor env h (.lit d) r = r.bind unP := id rfl
@[simp] theorem bor_and {a b : E} : bor env h (.and_ a b) r = r.bind unP := id rfl
@[simp] theorem bor_or {a b : E} : bor env h (.or_ a b) r = r.bind unP := id rfl
@[simp] theorem bor_not {a : E} : bor env h (.not_ a) r = r.bind unP := id rfl
@[simp] theorem bor_ite {t : Te} {a b : E} : bor env h (.ite t a b) r = r.bind unP := id rfl
@[simp] theorem bor_tup {es : List E} : bor env h (.tup es) r = r.bind unP := id rfl
@[simp] theorem bor_lst {es : List E} : bor env h (.lst es) r = r.bind unP := id rfl
@[simp] theorem bor_call {f : Nat} {es : List E} : bor env h (.call f es) r = r.bind unP := id rfl
@[simp] theorem bor_meth {c f i : Nat} {es : List E} : bor env h (.meth c f i es) r = r.bind unP := id rfl
@[simp] theorem bor_comp {own : List Nat} {t : Tg} {src : Src} {cond : List Te} {elt : E} : bor env h (.comp own t src cond elt) r = r.bind unP := id rfl
@[simp] theorem bor_compB {j : Nat} {own : List Nat} {t : Tg} {cond : List Te} {elt : E} : bor env h (.compB j own t cond elt) r = r.bind unP := id rfl
@[simp] theorem bor_isi {a : E} {t : Ty} : bor env h (.isi a t) r = r.bind unP := id rfl
@[simp] theorem bor_pop {a : E} : bor env h (.pop i a) r = r.bind unP := id rfl
/-- a name: its slot first -/
def borV (o : Option Val) (h : Hi) (r : R Val) : R PyData := match o with
  | some (.ref n) => match listAt h n with
    | some ts => .ok (.list ts) h
    | none => r.bind unP
  | _ => r.bind unP
@[simp] theorem bor_var : bor env h (.var i) r = borV (slot env i) h r := by
  cases e : slot env i with
  | none =>
    simp only [bor, peek, lstOf, slotRef, borV, e, Option.bind_none, Option.map_none]
  | some v =>
    cases v with
    | p d => simp only [bor, peek, lstOf, slotRef, borV, e, Option.bind_none, Option.map_none]
    | ref n =>
      cases e2 : listAt h n with
      | none => simp only [bor, peek, lstOf, slotRef, borV, e, e2, Option.bind_some, Option.map_none]
      | some ts => simp only [bor, peek, lstOf, slotRef, borV, e, e2, Option.bind_some, Option.map_some]
@[simp] theorem borV_p {d : PyData} : borV (some (.p d)) h r = r.bind unP := id rfl
@[simp] theorem borV_r {n : Nat} : borV (some (.ref n)) h r = match listAt h n with
    | some ts => .ok (.list ts) h
    | none => r.bind unP := id rfl
end
def refOf : Option Val → Option Nat
  | some (.ref n) => some n
  | _ => none
@[simp] theorem refOf_r {n : Nat} : refOf (some (.ref n)) = some n := id rfl
@[simp] theorem refOf_p {d : PyData} : refOf (some (.p d)) = none := id rfl
@[simp] theorem slotRef_eq {env : Ev} {i : Nat} : slotRef env i = refOf (slot env i) := by
  unfold slotRef refOf
  cases slot env i with
  | none => rfl
  | some v => cases v <;> rfl
@[simp] theorem getL_var {env : Ev} {h : Hi} {i : Nat} : getL env h (.var i) = (refOf (slot env i)).bind (listAt h) := by
  simp only [getL, peek, lstOf, slotRef_eq]
  cases refOf (slot env i) with
  | none => rfl
  | some n =>
    simp only [Option.bind_some]
    cases listAt h n <;> rfl
@[simp] theorem lstOf_eq {env : Ev} {h : Hi} {i : Nat} : lstOf env h i = (refOf (slot env i)).bind fun n => (listAt h n).map fun ts => (n, ts) := by
  simp only [lstOf, slotRef_eq]
@[simp] theorem appH_var {env : Ev} {h : Hi} {i : Nat} {d : PyData} : appH env (.var i) d h = (getL env h (.var i)).bind fun ts => if ts.length < sizeLine then (refOf (slot env i)).map fun n => h.set n (.lst (ts ++ [d])) else none := by
  simp only [appH, storeL, slotRef_eq]
@[simp] theorem setIxH_var {env : Ev} {h : Hi} {i : Nat} {k : Int} {d : PyData} : setIxH env (.var i) (.int k) d h = (getL env h (.var i)).bind fun ts => (ixN ts.length k).bind fun j => (refOf (slot env i)).map fun n => h.set n (.lst (ts.set j d)) := by
  simp only [setIxH, storeL, slotRef_eq]
@[simp] theorem ixN_last {n : Nat} : ixN (n + 1) (-1) = some n := by
  unfold ixN
  rw [if_neg (by decide), if_pos (by omega)]
  congr 1
  omega
@[simp] theorem ofH_some {env : Ev} {h : Hi} : ofH env (some h) = .ok .nx env h := id rfl
@[simp] theorem ofH_none {env : Ev} : ofH env none = .stuck := id rfl
/-- a comprehension whose parts read only -/
theorem comp_pure {elt : Ev → Hi → R PyData} {cond : Ev → Hi → R Bool} {bt : PyData → Ev → Option Ev} {env : Ev} {h : Hi} {α : Type} (g : α → PyData) (f : α → PyData) (c : α → Bool) : ∀ {xs : List α}, (∀ x ∈ xs, ∃ env1, bt (g x) env = some env1 ∧ cond env1 h = .ok (c x) h ∧ (c x = true → elt env1 h = .ok (f x) h)) →
    compL elt cond bt env (xs.map g) h = .ok ((xs.filter c).map f) h
  | [], _ => rfl
  | x :: r, hx => by
    obtain ⟨env1, e1, e2, e3⟩ := hx x List.mem_cons_self
    have ih := comp_pure g f c (xs := r) fun y hy => hx y (List.mem_cons_of_mem _ hy)
    rw [List.map_cons]
    unfold compL
    rw [e1]
    simp only [e2, R.bind_ok]
    cases hc : c x with
    | false => simp only [Bool.false_eq_true, if_false, ih, List.filter_cons, hc]
    | true => simp only [if_true, e3 hc, R.bind_ok, ih, List.filter_cons, hc, List.map_cons]
theorem s64_fmod {a m : Int} (h0 : 0 < m) (h1 : m < 2 ^ 64) : small64 (a.fmod m) = true := by
  have := Int.fmod_nonneg_of_pos a h0
  have := Int.fmod_lt_of_pos a h0
  unfold small64
  rw [decide_eq_true_eq]
  omega
@[simp] theorem o_eqI {i j : Int} : opf2 .eq (.int i) (.int j) = some (.bool (decide (i = j))) := by
  show (some (PyData.eqv (.int i) (.int j))).map PyData.bool = _
  have : PyData.eqv (.int i) (.int j) = decide (i = j) := by
    by_cases h : i = j
    · subst h; simp [PyData.eqv]
    · simp [PyData.eqv, h]
  rw [this]; rfl
@[simp] theorem o_neI {i j : Int} : opf2 .ne (.int i) (.int j) = some (.bool !decide (i = j)) := by
  have := o_eqI (i := i) (j := j)
  have e : (eqD (.int i) (.int j)).map PyData.bool = some (.bool (decide (i = j))) := this
  cases h : eqD (.int i) (.int j) with
  | none => rw [h] at e; cases e
  | some b =>
    rw [h] at e
    have e2 : b = decide (i = j) := by simpa using e
    show (eqD (.int i) (.int j)).map (fun b => PyData.bool !b) = _
    rw [h, e2]; rfl
@[simp] theorem listAt_app {h : Hi} {ts : List PyData} : listAt (h ++ [.lst ts]) h.length = some ts := by
  unfold listAt
  rw [List.getElem?_append_right (Nat.le_refl _)]
  simp
@[simp] theorem set_app {h : Hi} {o o' : Ob} : (h ++ [o]).set h.length o' = h ++ [o'] := by
  rw [List.set_append_right _ _ (Nat.le_refl _)]
  simp
@[simp] theorem take_app {h : Hi} {o : Ob} : (h ++ [o]).take h.length = h := by simp
theorem size1000 : (1000 : Nat) < sizeLine := by decide
@[simp] theorem compK2_ok {run : List PyData → Hi → R (List PyData)} {items ys : List PyData} {h h' : Hi} (hz : items.length < sizeLine) (e : run items h = .ok ys h') : compK2 run items h = .ok (.p (.list ys)) h' := by
  unfold compK2
  rw [if_pos hz, e]
  rfl
section
variable {cf : Calls} {h : Hi}
theorem comp_ok {env : Ev} {own : List Nat} {t : Tg} {src : Src} {cond : List Te} {elt : E} {α : Type} (g f : α → PyData) (c : α → Bool) {xs : List α} (es : evalSrc cf env src h = .ok (xs.map g) h) (hz : xs.length < 1000)
    (hx : ∀ x ∈ xs, ∃ env1, bindT t (g x) (wipeE env own) = some env1 ∧ evalTs cf env1 cond h = .ok (c x) h ∧ (c x = true → (evalE cf env1 elt h).bind unP = .ok (f x) h)) :
    evalE cf env (.comp own t src cond elt) h = .ok (.p (.list ((xs.filter c).map f))) h := by
  rw [ev_comp, es]
  exact compK2_ok (by rw [List.length_map]; exact Nat.lt_trans hz size1000) (comp_pure g f c hx)
theorem comp_all {env : Ev} {own : List Nat} {t : Tg} {src : Src} {elt : E} {α : Type} (g f : α → PyData) {xs : List α} (es : evalSrc cf env src h = .ok (xs.map g) h) (hz : xs.length < 1000)
    (hx : ∀ x ∈ xs, ∃ env1, bindT t (g x) (wipeE env own) = some env1 ∧ (evalE cf env1 elt h).bind unP = .ok (f x) h) :
    evalE cf env (.comp own t src [] elt) h = .ok (.p (.list (xs.map f))) h := by
  have := comp_ok (cond := []) g f (fun _ => true) es hz fun x hm => by
    obtain ⟨env1, e1, e2⟩ := hx x hm
    exact ⟨env1, e1, rfl, fun _ => e2⟩
  rw [this, List.filter_eq_self.mpr fun _ _ => rfl]
theorem rngOk_small {i : Int} (h0 : 0 ≤ i) (h1 : i < 1000000) : rngOk i = true := by
  unfold rngOk
  exact decide_eq_true (by omega)
theorem src_rng1 {env : Ev} {a : E} {j : Int} (e : (evalE cf env a h).bind unP = .ok (.int j) h) (hj : rngOk j = true) : evalSrc cf env (.rng1 a) h = .ok (rangeD 0 j.toNat 1) h := by
  rw [es_rng1, e]
  exact if_pos hj
theorem src_rng2 {env : Ev} {a b : E} {i j : Int} (e : (evalE cf env a h).bind unP = .ok (.int i) h) (e2 : (evalE cf env b h).bind unP = .ok (.int j) h) (hi : rngOk i = true) (hj : rngOk j = true) : evalSrc cf env (.rng2 a b) h = .ok (rangeD i (j - i).toNat 1) h := by
  rw [es_rng2, e]
  show R.bind ((evalE cf env b h).bind unP) (fun e h2 => rng2K (.int i) e h2) = _
  rw [e2]
  exact if_pos ⟨hi, hj⟩
end
abbrev natD (i : Nat) : PyData := .int i
theorem depth_ints : ∀ ns : List Int, PyData.depthAll (ns.map .int) = 0
  | [] => rfl
  | n :: r => by
    rw [List.map_cons]
    show max (PyData.depth (.int n)) (PyData.depthAll (r.map .int)) = 0
    rw [depth_ints r]; rfl
theorem eqv_int {i j : Int} : PyData.eqv (.int i) (.int j) = decide (i = j) := by
  by_cases h : i = j
  · subst h; simp [PyData.eqv]
  · simp [PyData.eqv, h]
theorem rangeD_nat (n : Nat) : rangeD 0 n 1 = (List.range n).map natD := by
  unfold rangeD
  apply List.map_congr_left
  intro i _
  simp
end Cd
set_option Elab.async false
set_option linter.all false
set_option maxRecDepth 100000
set_option maxHeartbeats 4000000
namespace Cd
open PySem L2
structure RD where
  left : List Int
  laid : List Int
  gone : List Bool
  done : List Bool
  high : Int
  least : Int
  nxt : Option Nat
def nxD : Option Nat → PyData
  | none => .none
  | some k => .int k
def RD.fs (r : RD) : List Fld := [.l (r.left.map .int), .l (r.laid.map .int), .l (r.gone.map .bool), .l (r.done.map .bool), .p (.int r.high), .p (.int r.least), .p (nxD r.nxt)]
/-- an item (0, False beyond the end) -/
def gi (xs : List Int) (i : Nat) : Int := xs.getD i 0
def gb (xs : List Bool) (i : Nat) : Bool := xs.getD i false
def RD.must (r : RD) (s : Nat) : Bool := if gb r.gone s || decide (gi r.left s = 0) then false else (!gb r.done s) || decide (gi r.laid s < r.high)
def orderN (m here : Nat) : List Nat := (List.range (m - here)).map (here + ·) ++ List.range here
def RD.find (r : RD) (here : Nat) : RD := { r with nxt := if 1 < r.gone.count false then ((orderN r.laid.length here).filter r.must).head? else none }
section
variable {fns : Nat → Option FnD} {h : Hi} {n k : Nat} {r : RD} {s : Nat}
@[simp] theorem insOf_eq {env : Ev} {i : Nat} : insOf env h i = (refOf (slot env i)).bind fun n => (insAt h n).map fun p => (n, p) := by
  unfold insOf; rw [slotRef_eq]
@[simp] theorem methOk_eq {env : Ev} {c i : Nat} : methOk env h c i = match insOf env h i with
    | some p => if p.2.1 = c then some p.1 else none
    | none => none := id rfl
@[simp] theorem bor_fld {env : Ev} {i j : Nat} {rr : R Val} : bor env h (.fld i j) rr = match insOf env h i with
    | some p => (match p.2.2[j]? with
      | some (.l ts) => .ok (.list ts) h
      | _ => rr.bind unP)
    | none => rr.bind unP := by
  simp only [bor, peek]
  cases e : insOf env h i with
  | none => simp only [Option.bind_none]
  | some p =>
    simp only [Option.bind_some]
    cases e2 : p.2.2[j]? with
    | none => simp only
    | some u => cases u <;> simp only
@[simp] theorem fldK_p {d : PyData} : fldK (some (.p d)) = some (.p d) := id rfl
@[simp] theorem setFldH_eq {env : Ev} {i j : Nat} {f : Fld} : setFldH env i j f h = (insOf env h i).bind fun p => (putFl p.2.2 j f).map fun fs => h.set p.1 (.ins p.2.1 fs) := id rfl
theorem countP_bool (bs : List Bool) (b : Bool) : (bs.map PyData.bool).countP (fun x => PyData.eqv x (.bool b)) = bs.count b := by
  induction bs with
  | nil => rfl
  | cons c r ih =>
    rw [List.map_cons, List.countP_cons, List.count_cons, ih]
    cases b <;> cases c <;> rfl
@[simp] theorem o_countB {bs : List Bool} {b : Bool} : opf2 .count (.list (bs.map .bool)) (.bool b) = some (.int (bs.count b : Nat)) := by
  show (if scalD (.bool b) && (bs.map PyData.bool).all scalD then some (PyData.int ((bs.map PyData.bool).countP fun x => PyData.eqv x (.bool b))) else none) = _
  rw [countP_bool, if_pos]
  simp only [scalD, Bool.true_and, List.all_map]
  exact List.all_eq_true.mpr fun x _ => rfl
@[simp] theorem o_addL {xs ys : List PyData} : opf2 .add (.list xs) (.list ys) = if xs.length + ys.length ≤ sizeLine then some (.list (xs ++ ys)) else none := id rfl
end
end Cd
set_option Elab.async false
set_option linter.all false
set_option maxRecDepth 100000
set_option maxHeartbeats 4000000
namespace Cd
open PySem L2
section
variable {fns : Nat → Option FnD} {h : Hi} {n k : Nat} {r : RD} {s : Nat}
@[simp] theorem fs_0 : r.fs[0]? = some (.l (r.left.map .int)) := id rfl
@[simp] theorem fs_1 : r.fs[1]? = some (.l (r.laid.map .int)) := id rfl
@[simp] theorem fs_2 : r.fs[2]? = some (.l (r.gone.map .bool)) := id rfl
@[simp] theorem fs_3 : r.fs[3]? = some (.l (r.done.map .bool)) := id rfl
@[simp] theorem fs_4 : r.fs[4]? = some (.p (.int r.high)) := id rfl
@[simp] theorem fs_5 : r.fs[5]? = some (.p (.int r.least)) := id rfl
@[simp] theorem fs_6 : r.fs[6]? = some (.p (nxD r.nxt)) := id rfl
@[simp] theorem fs_s0 {xs : List Int} : r.fs.set 0 (.l (xs.map .int)) = ({ r with left := xs } : RD).fs := id rfl
@[simp] theorem fs_s1 {xs : List Int} : r.fs.set 1 (.l (xs.map .int)) = ({ r with laid := xs } : RD).fs := id rfl
@[simp] theorem fs_s2 {xs : List Bool} : r.fs.set 2 (.l (xs.map .bool)) = ({ r with gone := xs } : RD).fs := id rfl
@[simp] theorem fs_s3 {xs : List Bool} : r.fs.set 3 (.l (xs.map .bool)) = ({ r with done := xs } : RD).fs := id rfl
@[simp] theorem fs_p3 {xs : List Bool} : putFl r.fs 3 (.l (xs.map .bool)) = some ({ r with done := xs } : RD).fs := id rfl
@[simp] theorem fs_p4 {v : Int} : putFl r.fs 4 (.p (.int v)) = some ({ r with high := v } : RD).fs := id rfl
@[simp] theorem fs_p5 {v : Int} : putFl r.fs 5 (.p (.int v)) = some ({ r with least := v } : RD).fs := id rfl
@[simp] theorem fs_p60 : putFl r.fs 6 (.p .none) = some ({ r with nxt := none } : RD).fs := id rfl
@[simp] theorem nxD_none : nxD none = .none := id rfl
@[simp] theorem nxD_some {v : Nat} : nxD (some v) = .int (v : Int) := id rfl
@[simp] theorem isNone_none : isNoneD .none = true := id rfl
@[simp] theorem isNone_int {v : Int} : isNoneD (.int v) = false := id rfl
@[simp] theorem getL_fld {env : Ev} {i j : Nat} : getL env h (.fld i j) = (insOf env h i).bind fun p => match p.2.2[j]? with
    | some (.l ts) => some ts
    | _ => none := by
  simp only [getL, peek]
  cases insOf env h i with
  | none => simp only [Option.bind_none]
  | some p =>
    simp only [Option.bind_some]
    cases p.2.2[j]? with
    | none => simp only
    | some u => cases u <;> simp only
@[simp] theorem setIxH_fld {env : Ev} {i j : Nat} {q : Int} {d : PyData} : setIxH env (.fld i j) (.int q) d h = (getL env h (.fld i j)).bind fun ts => (ixN ts.length q).bind fun x => (refOf (slot env i)).bind fun n => (insAt h n).map fun p => h.set n (.ins p.1 (p.2.set j (.l (ts.set x d)))) := by
  simp only [setIxH, storeL, slotRef_eq]
theorem ixN_nat {m s : Nat} (hs : s < m) : ixN m (s : Int) = some s := by
  unfold ixN
  rw [if_pos (by omega), if_pos (by omega)]
  simp
@[simp] theorem set_mapI {xs : List Int} {i : Nat} {v : Int} : (xs.map PyData.int).set i (.int v) = (xs.set i v).map .int := by rw [List.map_set]
@[simp] theorem set_mapB {xs : List Bool} {i : Nat} {v : Bool} : (xs.map PyData.bool).set i (.bool v) = (xs.set i v).map .bool := by rw [List.map_set]
@[simp] theorem take_set {o : Ob} : (h.set n o).take h.length = h.set n o := List.take_of_length_le (by simp)
def RD.endR (r : RD) (s : Nat) : RD := ({ r with done := r.done.set s true } : RD).find (if s + 1 = r.laid.length then 0 else s + 1)
def RD.layR (r : RD) (s : Nat) (v : Int) : RD := { r with left := r.left.set s (gi r.left s - v), laid := r.laid.set s (gi r.laid s + v) }
def minV (x y : Int) : Int := if y < x then y else x
def RD.callR (r : RD) (s : Nat) : RD := (r.layR s (minV (r.high - gi r.laid s) (gi r.left s))).endR s
end
end Cd
set_option Elab.async false
set_option linter.all false
set_option maxRecDepth 100000
set_option maxHeartbeats 4000000
namespace Cd
open PySem L2
section
variable {fns : Nat → Option FnD} {h : Hi} {n k t : Nat} {r : RD} {s : Nat} {cf : Calls}
end
end Cd
set_option Elab.async false
set_option linter.all false
set_option maxRecDepth 100000
set_option maxHeartbeats 4000000
namespace Cd
open PySem L2
def hT (h : Hi) (t k : Nat) : Hi := h.set t (.lst (List.replicate k (.int 0)))
section
variable {fns : Nat → Option FnD} {h : Hi} {n k t q : Nat} {r : RD} {s : Nat} {cf : Calls}
@[simp] theorem hT_len : (hT h t k).length = h.length := by unfold hT; rw [List.length_set]
@[simp] theorem hT_take {o : Nat} : (hT h t o).take h.length = hT h t o := List.take_of_length_le (by simp)
theorem fmod_ix {j m : Int} (hm : 0 < m) : 0 ≤ j.fmod m ∧ j.fmod m < m := ⟨Int.fmod_nonneg_of_pos j hm, Int.fmod_lt_of_pos j hm⟩
theorem s64_c {i : Int} (h : i.natAbs < 18446744073709551616) : small64 i = true := decide_eq_true h
end
end Cd
set_option Elab.async false
set_option linter.all false
set_option maxRecDepth 100000
set_option maxHeartbeats 4000000
namespace Cd
open PySem L2
section
variable {fns : Nat → Option FnD} {h : Hi} {n k t q : Nat} {r : RD} {s : Nat} {cf : Calls}
end
end Cd
set_option Elab.async false
set_option linter.all false
set_option maxRecDepth 100000
set_option maxHeartbeats 4000000
namespace Cd
open PySem L2
section
variable {fns : Nat → Option FnD} {h : Hi} {n k t q : Nat} {r : RD} {s : Nat} {cf : Calls}
theorem eqv_str {x y : Str} : PyData.eqv (.str x) (.str y) = decide (x = y) := by
  by_cases h : x = y
  · subst h; simp [PyData.eqv]
  · simp [PyData.eqv, h]
@[simp] theorem o_eqS {x y : Str} : opf2 .eq (.str x) (.str y) = some (.bool (decide (x = y))) := by
  show (some (PyData.eqv (.str x) (.str y))).map PyData.bool = _
  rw [eqv_str]; rfl
@[simp] theorem o_neS {x y : Str} : opf2 .ne (.str x) (.str y) = some (.bool !decide (x = y)) := by
  show (some (PyData.eqv (.str x) (.str y))).map (fun b => PyData.bool !b) = _
  rw [eqv_str]; rfl
theorem lay_mapI : ∀ xs : List Int, PyData.canLayAll0 (xs.map .int) = true
  | [] => by simp [PyData.canLayAll0]
  | x :: xs => by simp [PyData.canLayAll0, PyData.canLay0, lay_mapI xs]
end
end Cd
set_option Elab.async false
set_option linter.all false
set_option maxRecDepth 100000
set_option maxHeartbeats 4000000
namespace Cd
open PySem L2
def G1 (H : Hi) (r : RD) (k : Nat) : Hi := hT (H ++ [.ins 0 r.fs]) 0 k
def G2 (H : Hi) (r1 r2 : RD) (k : Nat) : Hi := hT (H ++ [.ins 0 r1.fs, .ins 0 r2.fs]) 0 k
section
variable {fns : Nat → Option FnD} {H h : Hi} {n k t q : Nat} {r r1 r2 : RD} {s : Nat} {cf : Calls}
@[simp] theorem G1_len : (G1 H r k).length = H.length + 1 := by simp [G1]
@[simp] theorem G2_len : (G2 H r1 r2 k).length = H.length + 2 := by simp [G2]
theorem call_len : (r.callR s).laid.length = r.laid.length := by
  show (r.laid.set _ _).length = _
  rw [List.length_set]
end
end Cd
set_option Elab.async false
set_option linter.all false
set_option maxRecDepth 100000
set_option maxHeartbeats 4000000
namespace Cd
open PySem L2
theorem cutD_map {α : Type} (f : α → PyData) (xs : List α) (lo hi : Option Int) : cutD (xs.map f) lo hi = ((xs.drop (HT.sIx xs.length 0 lo)).take (HT.sIx xs.length xs.length hi - HT.sIx xs.length 0 lo)).map f := by
  unfold cutD
  rw [List.length_map, ← List.map_drop, ← List.map_take]
def cutM {α : Type} (xs : List α) (lo hi : Option Int) : List α := (xs.drop (HT.sIx xs.length 0 lo)).take (HT.sIx xs.length xs.length hi - HT.sIx xs.length 0 lo)
theorem slice_T {α : Type} {f : α → PyData} {xs : List α} {l u : Bool} {a b : PyData} {lo hi : Option Int} (e1 : partD l a = some lo) (e2 : partD u b = some hi) : opf3 (.slice l u) (.tuple (xs.map f)) a b = some (.tuple ((cutM xs lo hi).map f)) := by
  show ((partD l a).bind fun lo => (partD u b).map fun hi => PyData.tuple (cutD (xs.map f) lo hi)) = _
  rw [e1, e2, Option.bind_some, Option.map_some, cutD_map]
  rfl
theorem slice_L {α : Type} {f : α → PyData} {xs : List α} {l u : Bool} {a b : PyData} {lo hi : Option Int} (e1 : partD l a = some lo) (e2 : partD u b = some hi) : opf3 (.slice l u) (.list (xs.map f)) a b = some (.list ((cutM xs lo hi).map f)) := by
  show ((partD l a).bind fun lo => (partD u b).map fun hi => PyData.list (cutD (xs.map f) lo hi)) = _
  rw [e1, e2, Option.bind_some, Option.map_some, cutD_map]
  rfl
theorem cut_lo {α : Type} (xs : List α) (j : Nat) : cutM xs none (some (j : Int)) = xs.take j := by
  unfold cutM
  rw [HT.sIx_none, HT.sIx_nat, List.drop_zero, Nat.sub_zero]
  by_cases h : j ≤ xs.length
  · rw [Nat.min_eq_left h]
  · rw [Nat.min_eq_right (by omega), List.take_of_length_le (Nat.le_refl _), List.take_of_length_le (by omega)]
theorem cut_hi {α : Type} (xs : List α) (j : Nat) (h : j ≤ xs.length) : cutM xs (some (j : Int)) none = xs.drop j := by
  unfold cutM
  rw [HT.sIx_none, HT.sIx_nat, Nat.min_eq_left h]
  exact List.take_of_length_le (by simp)
theorem sA {F : List Bool} {j : Nat} : opf3 (.slice false true) (.tuple (F.map PyData.bool)) .none (.int (j : Int)) = some (.tuple ((F.take j).map PyData.bool)) := by
  have := slice_T (f := PyData.bool) (xs := F) (l := false) (u := true) (a := .none) (b := .int (j : Int)) (lo := none) (hi := some (j : Int)) rfl rfl
  rw [this, cut_lo]
theorem sz_ok {n : Nat} (h : n ≤ 1000) : n ≤ sizeLine := Nat.le_trans h (Nat.le_of_lt size1000)
theorem addT_ok {xs ys : List PyData} (h : xs.length + ys.length ≤ 1000) : opf2 .add (.tuple xs) (.tuple ys) = some (.tuple (xs ++ ys)) := o_addT.trans (if_pos (sz_ok h))
theorem shaped_seq {ds : List PyData} (hz : ds.length < 1000) (hl : PyData.canLayAll0 ds = true) (hd : PyData.depthAll ds ≤ 60) : SeqAt.shaped (.tuple ds) = true ∧ SeqAt.shaped (.list ds) = true := by
  have z := Nat.le_of_lt (Nat.lt_trans hz size1000)
  have d1 : PyData.depth (.tuple ds) ≤ 64 := by show PyData.depthAll ds + 1 ≤ 64; omega
  have d2 : PyData.depth (.list ds) ≤ 64 := by show PyData.depthAll ds + 1 ≤ 64; omega
  unfold SeqAt.shaped
  rw [decide_eq_true d1, decide_eq_true d2]
  simp [PyData.canLay0, hl, z]
theorem shapedI {xs : List Int} (hz : xs.length < 1000) : SeqAt.shaped (.tuple (xs.map .int)) = true ∧ SeqAt.shaped (.list (xs.map .int)) = true := shaped_seq (by simpa using hz) (lay_mapI xs) (by rw [depth_ints]; omega)
def minI : List Int → Int
  | [] => 0
  | n :: r => r.foldl min n
theorem foldl_min_mem : ∀ (r : List Int) (n : Int), r.foldl min n = n ∨ r.foldl min n ∈ r
  | [], n => .inl rfl
  | y :: r, n => by
    rw [List.foldl_cons]
    rcases foldl_min_mem r (min n y) with h | h
    · rw [h]
      by_cases e : n ≤ y
      · left; exact Int.min_eq_left e
      · right; rw [Int.min_eq_right (by omega)]; exact List.mem_cons_self
    · exact .inr (List.mem_cons_of_mem _ h)
theorem minI_mem {ns : List Int} (h : ns ≠ []) : minI ns ∈ ns := by
  cases ns with
  | nil => exact absurd rfl h
  | cons n r =>
    rcases foldl_min_mem r n with e | e
    · show r.foldl min n ∈ _
      rw [e]; exact List.mem_cons_self
    · exact List.mem_cons_of_mem _ e
theorem foldl_min_le : ∀ (r : List Int) (n : Int), r.foldl min n ≤ n ∧ ∀ x ∈ r, r.foldl min n ≤ x
  | [], n => ⟨Int.le_refl _, fun _ h => nomatch h⟩
  | y :: r, n => by
    obtain ⟨h1, h2⟩ := foldl_min_le r (min n y)
    rw [List.foldl_cons]
    refine ⟨by omega, fun x hx => ?_⟩
    rcases List.mem_cons.mp hx with rfl | hx
    · omega
    · exact h2 x hx
theorem minI_le {ns : List Int} {x : Int} (h : x ∈ ns) : minI ns ≤ x := by
  cases ns with
  | nil => cases h
  | cons n r =>
    rcases List.mem_cons.mp h with rfl | h
    · exact (foldl_min_le r x).1
    · exact (foldl_min_le r n).2 x h
@[simp] theorem o_eqB {x y : Bool} : opf2 .eq (.bool x) (.bool y) = some (.bool (x == y)) := by cases x <;> cases y <;> rfl
@[simp] theorem o_neB {x y : Bool} : opf2 .ne (.bool x) (.bool y) = some (.bool (x != y)) := by cases x <;> cases y <;> rfl
section
variable {r r1 r2 : RD} {s : Nat} {chips : List Int}
end
end Cd
set_option Elab.async false
set_option linter.all false
set_option maxRecDepth 100000
set_option maxHeartbeats 4000000
namespace Cd
open PySem L2
def seatsM (gs : List Bool) : List Nat := (List.range gs.length).filter fun i => !gs.getD i false
def ge (bs : List Int) (l : Int) (i : Nat) : Bool := decide (l ≤ bs.getD i 0)
def dL (bs : List Int) (before l : Int) : List Int := bs.map fun b => (if l < b then l else b) - (if before < b then before else b)
def dR (bs : List Int) (before : Int) : List Int := bs.map fun b => b - (if before < b then before else b)
def lvM (bs : List Int) (seats : List Nat) : List Int := seats.map fun i => bs.getD i 0
abbrev manyM (bs : List Int) (before l : Int) : Int := (dL bs before l).sum
abbrev restM (bs : List Int) (before : Int) : Int := (dR bs before).sum
def potsL (last : Int) (bs : List Int) (seats : List Nat) : Int → List Int → List (Int × List Nat)
  | _, [] => []
  | before, l :: ls =>
    let many := if l = last then restM bs before else manyM bs before l
    (if 0 < many then [(many, seats.filter (ge bs l))] else []) ++ potsL last bs seats l ls
def levelsM (bs : List Int) (gs : List Bool) : List Int := sortI (dedup (lvM bs (seatsM gs)))
def potsM (bs : List Int) (gs : List Bool) : List (Int × List Nat) := potsL ((levelsM bs gs).getLast?.getD 0) bs (seatsM gs) 0 (levelsM bs gs)
theorem seats_lt {gs : List Bool} {i : Nat} (h : i ∈ seatsM gs) : i < gs.length := by
  have := List.mem_filter.mp h
  simpa using this.1
section
variable {cf : Calls} {h : Hi} {fns : Nat → Option FnD}
abbrev intsT (bs : List Int) : PyData := .tuple (bs.map .int)
theorem mem_insI {x y : Int} : ∀ {l : List Int}, y ∈ insI x l ↔ y = x ∨ y ∈ l
  | [] => by simp [insI]
  | z :: r => by
    unfold insI
    split
    · simp
    · simp only [List.mem_cons, mem_insI (l := r)]
      constructor
      · rintro (h | h | h)
        · exact .inr (.inl h)
        · exact .inl h
        · exact .inr (.inr h)
      · rintro (h | h | h)
        · exact .inr (.inl h)
        · exact .inl h
        · exact .inr (.inr h)
end
theorem mem_sortI {y : Int} : ∀ {l : List Int}, y ∈ sortI l ↔ y ∈ l
  | [] => Iff.rfl
  | x :: r => by
    show y ∈ insI x (sortI r) ↔ _
    rw [mem_insI, mem_sortI, List.mem_cons]
theorem mem_dedup {y : Int} : ∀ {l : List Int}, y ∈ dedup l ↔ y ∈ l
  | [] => Iff.rfl
  | x :: r => by
    unfold dedup
    split
    · rename_i hx
      rw [mem_dedup, List.mem_cons]
      constructor
      · exact .inr
      · rintro (rfl | h)
        · exact hx
        · exact h
    · rw [List.mem_cons, List.mem_cons, mem_dedup]
theorem insI_lt {x : Int} : ∀ {l : List Int}, l.Pairwise (· < ·) → x ∉ l → (insI x l).Pairwise (· < ·)
  | [], _, _ => by simp [insI]
  | y :: r, h, hx => by
    obtain ⟨h1, h2⟩ := List.pairwise_cons.mp h
    have hy : x ≠ y := fun e => hx (by rw [e]; exact List.mem_cons_self)
    have hr : x ∉ r := fun e => hx (List.mem_cons_of_mem _ e)
    unfold insI
    split
    · rename_i hxy
      refine List.pairwise_cons.mpr ⟨fun z hz => ?_, h⟩
      rcases List.mem_cons.mp hz with rfl | hz
      · omega
      · have := h1 z hz; omega
    · rename_i hxy
      refine List.pairwise_cons.mpr ⟨fun z hz => ?_, insI_lt h2 hr⟩
      rcases mem_insI.mp hz with rfl | hz
      · omega
      · exact h1 z hz
theorem sortI_lt : ∀ {l : List Int}, (sortI (dedup l)).Pairwise (· < ·)
  | [] => List.Pairwise.nil
  | x :: r => by
    unfold dedup
    split
    · exact sortI_lt
    · rename_i hx
      show (insI x (sortI (dedup r))).Pairwise _
      exact insI_lt sortI_lt fun h => hx (mem_dedup.mp (mem_sortI.mp h))
section
variable {bs : List Int} {seats : List Nat} {top M : Int}
theorem dL_nonneg {a l : Int} (h : a ≤ l) : 0 ≤ (dL bs a l).sum := by
  unfold dL
  induction bs with
  | nil => simp
  | cons x r ih =>
    simp only [List.map_cons, List.sum_cons]
    omega
theorem dR_split {a l : Int} (h : a ≤ l) : (dR bs a).sum = (dL bs a l).sum + (dR bs l).sum := by
  unfold dL dR
  induction bs with
  | nil => simp
  | cons x r ih =>
    simp only [List.map_cons, List.sum_cons]
    rw [ih]
    omega
theorem dR_nonneg {a : Int} : 0 ≤ (dR bs a).sum := by
  unfold dR
  induction bs with
  | nil => simp
  | cons x r ih =>
    simp only [List.map_cons, List.sum_cons]
    omega
theorem potsL_sum : ∀ (ls : List Int) (a : Int), (∀ x ∈ ls, a ≤ x) → ls.Pairwise (· < ·) → ls.getLast? = some top → ((potsL top bs seats a ls).map (·.1)).sum = (dR bs a).sum
  | [], _, _, _, h => nomatch h
  | l :: ls, a, ha, hp, hl => by
    obtain ⟨hp1, hp2⟩ := List.pairwise_cons.mp hp
    have hal := ha l (by simp)
    rw [potsL.eq_2]
    rw [List.map_append, List.sum_append]
    cases ls with
    | nil =>
      have e : l = top := by simpa using hl
      subst e
      have z := dR_nonneg (bs := bs) (a := a)
      simp only [if_pos, potsL, List.map_nil, List.sum_nil, Int.add_zero]
      split
      · simp [restM]
      · simp only [restM] at *; simp; omega
    | cons l2 ls =>
      have hne : l ≠ top := by
        intro e
        have : (l2 :: ls).getLast? = some top := by simpa using hl
        have := hp1 top (List.mem_of_getLast? this)
        omega
      rw [potsL_sum (l2 :: ls) l (fun x hx => Int.le_of_lt (hp1 x hx)) hp2 (by simpa using hl), dR_split (bs := bs) hal]
      simp only [if_neg hne]
      have z := dL_nonneg (bs := bs) hal
      split
      · simp
      · simp only [manyM] at *; simp; omega
end
end Cd
set_option Elab.async false
set_option linter.all false
set_option maxRecDepth 100000
set_option maxHeartbeats 4000000
namespace Cd
open PySem L2
section
variable {t : Int}
theorem pots_sum {bs : List Int} {gs : List Bool} (h0 : ∀ b ∈ bs, 0 ≤ b) (hi : ∀ i ∈ seatsM gs, i < bs.length) (hne : seatsM gs ≠ []) : ((potsM bs gs).map (·.1)).sum = bs.sum := by
  have hl : levelsM bs gs ≠ [] := by
    obtain ⟨i, hi'⟩ := List.exists_mem_of_ne_nil _ hne
    have : bs.getD i 0 ∈ levelsM bs gs := mem_sortI.mpr (mem_dedup.mpr (List.mem_map.mpr ⟨i, hi', rfl⟩))
    exact List.ne_nil_of_mem this
  obtain ⟨last, hlast⟩ : ∃ last, (levelsM bs gs).getLast? = some last := ⟨_, List.getLast?_eq_some_getLast hl⟩
  unfold potsM
  rw [hlast]
  have := potsL_sum (bs := bs) (seats := seatsM gs) (top := last) (levelsM bs gs) 0 (fun x hx => by
    obtain ⟨i, hm, e⟩ := List.mem_map.mp (mem_dedup.mp (mem_sortI.mp hx))
    have h1 := hi i hm
    rw [← e]
    exact h0 _ (by simp [h1])) sortI_lt hlast
  rw [Option.getD_some, this]
  unfold dR
  congr 1
  have : ∀ b ∈ bs, b - (if 0 < b then 0 else b) = b := fun b hb => by
    have := h0 b hb
    split <;> omega
  rw [List.map_congr_left this, List.map_id']
variable {r r2 : RD} {s : Nat}
end
end Cd
set_option Elab.async false
set_option linter.all false
set_option maxRecDepth 100000
set_option maxHeartbeats 4000000
namespace Cd
open PySem L2
theorem sum_nonneg : ∀ {l : List Int}, (∀ x ∈ l, 0 ≤ x) → 0 ≤ l.sum
  | [], _ => by simp
  | x :: r, h => by
    rw [List.sum_cons]
    have := h x List.mem_cons_self
    have := sum_nonneg fun y hy => h y (List.mem_cons_of_mem _ hy)
    omega
theorem sum_ge : ∀ {l : List Int} {y : Int}, (∀ x ∈ l, 0 ≤ x) → y ∈ l → y ≤ l.sum
  | x :: r, y, h, hy => by
    rw [List.sum_cons]
    have h1 := h x List.mem_cons_self
    have h2 : ∀ z ∈ r, 0 ≤ z := fun z hz => h z (List.mem_cons_of_mem _ hz)
    rcases List.mem_cons.mp hy with rfl | hy
    · have := sum_nonneg h2; omega
    · have := sum_ge h2 hy; omega
def potsP (last : Int) (bs : List Int) (seats : List Nat) : Int → List Int → List (Int × List Nat)
  | _, [] => []
  | a, l :: ls => (if l = last then restM bs a else manyM bs a l, seats.filter (ge bs l)) :: potsP last bs seats l ls
def posL (ls : List Int) : List Int := ls.filter fun l => decide (0 < l)
section
variable {bs : List Int} {gs : List Bool} {seats : List Nat} {last : Int}
theorem many_pos {a l : Int} (h : a < l) (hl : l ∈ bs) : 0 < manyM bs a l := by
  have z : ∀ x ∈ dL bs a l, 0 ≤ x := fun x hx => by
    obtain ⟨b, _, rfl⟩ := List.mem_map.mp hx
    split <;> split <;> omega
  have m : l - a ∈ dL bs a l := List.mem_map.mpr ⟨l, hl, by rw [if_neg (by omega), if_pos h]⟩
  have := sum_ge z m
  unfold manyM
  omega
theorem rest_pos {a l : Int} (h : a < l) (hl : l ∈ bs) : 0 < restM bs a := by
  have z : ∀ x ∈ dR bs a, 0 ≤ x := fun x hx => by
    obtain ⟨b, _, rfl⟩ := List.mem_map.mp hx
    split <;> omega
  have m : l - a ∈ dR bs a := List.mem_map.mpr ⟨l, hl, by rw [if_pos h]⟩
  have := sum_ge z m
  unfold restM
  omega
theorem potsL_P : ∀ (ls : List Int) (a : Int), (∀ l ∈ ls, a < l) → ls.Pairwise (· < ·) → (∀ l ∈ ls, l ∈ bs) → potsL last bs seats a ls = potsP last bs seats a ls
  | [], _, _, _, _ => rfl
  | l :: ls, a, h1, h2, h3 => by
    obtain ⟨h4, h5⟩ := List.pairwise_cons.mp h2
    rw [potsL.eq_2, potsP.eq_2, potsL_P ls l h4 h5 fun x hx => h3 x (List.mem_cons_of_mem _ hx)]
    have p : 0 < (if l = last then restM bs a else manyM bs a l) := by
      have h6 := h1 l List.mem_cons_self
      have h7 := h3 l List.mem_cons_self
      split
      · exact rest_pos h6 h7
      · exact many_pos h6 h7
    rw [if_pos p]
    rfl
theorem lev_mem {l : Int} : l ∈ levelsM bs gs ↔ ∃ i ∈ seatsM gs, bs.getD i 0 = l := by
  unfold levelsM
  rw [mem_sortI, mem_dedup]
  exact List.mem_map
theorem lev_lt : (levelsM bs gs).Pairwise (· < ·) := sortI_lt
theorem lev_in (hi : ∀ i ∈ seatsM gs, i < bs.length) {l : Int} (h : l ∈ levelsM bs gs) : l ∈ bs := by
  obtain ⟨i, h1, h2⟩ := lev_mem.mp h
  have h3 := hi i h1
  rw [← h2]
  simp [h3]
theorem potsM_P (h0 : ∀ b ∈ bs, 0 ≤ b) (hi : ∀ i ∈ seatsM gs, i < bs.length) (hp : posL (levelsM bs gs) ≠ []) :
    potsM bs gs = potsP ((posL (levelsM bs gs)).getLast?.getD 0) bs (seatsM gs) 0 (posL (levelsM bs gs)) := by
  have h1 := lev_lt (bs := bs) (gs := gs)
  have h2 : ∀ l ∈ levelsM bs gs, l ∈ bs := fun l hl => lev_in hi hl
  unfold potsM
  generalize levelsM bs gs = ls at hp h1 h2 ⊢
  cases ls with
  | nil => exact absurd rfl hp
  | cons l r =>
    obtain ⟨h4, h5⟩ := List.pairwise_cons.mp h1
    have hl := h0 l (h2 l List.mem_cons_self)
    by_cases c : 0 < l
    · have e : posL (l :: r) = l :: r := List.filter_eq_self.mpr fun x hx => by
        rcases List.mem_cons.mp hx with rfl | hx
        · exact decide_eq_true c
        · have := h4 x hx; exact decide_eq_true (by omega)
      rw [e]
      exact potsL_P _ _ (fun x hx => by
        rcases List.mem_cons.mp hx with rfl | hx
        · exact c
        · have := h4 x hx; omega) h1 h2
    · have z : l = 0 := by omega
      subst z
      have e : posL ((0 : Int) :: r) = r := by
        unfold posL
        rw [List.filter_cons_of_neg (by simp)]
        exact List.filter_eq_self.mpr fun x hx => by
          have := h4 x hx; exact decide_eq_true (by omega)
      rw [e] at hp ⊢
      have e2 : ((0 : Int) :: r).getLast? = r.getLast? := by
        cases r with
        | nil => exact absurd rfl hp
        | cons y r => simp [List.getLast?_cons_cons]
      have hl2 : ∃ y, r.getLast? = some y := ⟨_, List.getLast?_eq_some_getLast hp⟩
      obtain ⟨y, hy⟩ := hl2
      have hy2 : 0 < y := h4 y (List.mem_of_getLast? hy)
      rw [e2, hy, Option.getD_some, potsL.eq_2]
      rw [if_neg (show ¬ (0 : Int) = y by omega)]
      have m0 : ¬ 0 < manyM bs 0 0 := by
        have : dL bs 0 0 = bs.map fun _ => 0 := List.map_congr_left fun b _ => by omega
        show ¬ 0 < (dL bs 0 0).sum
        rw [this]
        have : ∀ l : List Int, (l.map fun _ => (0 : Int)).sum = 0 := fun l => by
          induction l with
          | nil => rfl
          | cons x r ih => rw [List.map_cons, List.sum_cons, ih]; rfl
        rw [this]; omega
      rw [if_neg m0, List.nil_append]
      exact potsL_P _ _ h4 h5 fun x hx => h2 x (List.mem_cons_of_mem _ hx)
theorem posL_mem {ls : List Int} {l : Int} : l ∈ posL ls ↔ l ∈ ls ∧ 0 < l := by
  unfold posL
  rw [List.mem_filter, decide_eq_true_eq]
theorem posL_lt {ls : List Int} (h : ls.Pairwise (· < ·)) : (posL ls).Pairwise (· < ·) := h.filter _
end
end Cd
set_option Elab.async false
set_option linter.all false
set_option maxRecDepth 100000
set_option maxHeartbeats 4000000
namespace Cd
open PySem L2
section
variable {cf : Calls} {env : Ev} {h H : Hi} {n m k t q i j : Nat}
@[simp] theorem st_setIx2 {a b c d : E} : evalS cf (.setIx2 i j c d a b) env h = ((evalE cf env a h).bind unP).toS env fun d1 h1 => ((evalE cf env b h1).bind unP).toS env fun d2 h2 =>
    (stIx (fun env h => evalE cf env c h) (.var i) d1 env h2).bind fun env2 h3 => stIx (fun env h => evalE cf env d h) (.var j) d2 env2 h3 := id rfl
@[simp] theorem stIx_eq {ek : Ev → Hi → R Val} {p : E} {d : PyData} : stIx ek p d env h = match getL env h p with
  | none => .stuck
  | some _ => ((ek env h).bind unP).toS env fun k h2 => ofH env (setIxH env p k d h2) := id rfl
theorem atI_c0 {x : PyData} {xs : List PyData} : atI (x :: xs) 0 = some x := by
  have : atI (x :: xs) ((0 : Nat) : Int) = some x := by rw [atI_nat]; rfl
  exact this
/-- range(n) where n is had -/
theorem src_nat {env : Ev} {a : E} {j : Nat} (e : (evalE cf env a h).bind unP = .ok (.int (j : Int)) h) (hj : j < 1000000) : evalSrc cf env (.rng1 a) h = .ok ((List.range j).map natD) h := by
  have z := src_rng1 e (rngOk_small (by omega) (by omega))
  rw [Int.toNat_natCast, rangeD_nat] at z
  exact z
theorem o_sortL {xs : List Int} : opf1 .sorted (.list (xs.map .int)) = some (.list ((sortI xs).map .int)) := by
  show (match intsD (xs.map PyData.int) with
    | some ns => some (PyData.list ((sortI ns).map .int))
    | none => (pairsD (xs.map PyData.int)).map fun ps => PyData.list ((sortP ps).map pairD)) = _
  rw [intsD_map]
theorem o_sortT {xs : List Int} : opf1 .sorted (.tuple (xs.map .int)) = some (.list ((sortI xs).map .int)) := by
  show (intsD _).map _ = _
  rw [intsD_map]; rfl
end
end Cd
set_option Elab.async false
set_option linter.all false
set_option maxRecDepth 100000
set_option maxHeartbeats 4000000
namespace Cd
open PySem L2
def s48_0 : S := .if_ (.val (.op2 .eq (.var 0) (.lit (.tuple [(.int 14), (.int 5), (.int 4), (.int 3), (.int 2)])))) [.ret (.lit (.int 5))] []
def s48_1 : S := .if_ (.val (.op2 .eq (.var 0) (.op1 .tuple (.comp [1] (.name 1) (.rng1 (.lit (.int 5))) [] (.op2d .sub (.op2b .ix (.var 0) (.lit (.int 0))) (.var 1)))))) [.ret (.op2b .ix (.var 0) (.lit (.int 0)))] []
def s48_2 : S := .ret (.lit (.int 0))
def ls48 : List S := [s48_0, s48_1, s48_2]
theorem b48_eq : b48 = ls48 := rfl
end Cd
set_option Elab.async false
set_option linter.all false
set_option maxRecDepth 100000
set_option maxHeartbeats 4000000
namespace Cd
open PySem L2
abbrev Card := Int × Str
def cardD (c : Card) : PyData := .tuple [.int c.1, .str c.2]
/-- one more of the rank r -/
def bump (r : Int) : List (Int × Int) → List (Int × Int)
  | [] => [(r, 1)]
  | (q, c) :: t => if q = r then (q, c + 1) :: t else (q, c) :: bump r t
def oftenM (rs : List Int) : List (Int × Int) := rs.foldl (fun l r => bump r l) []
def rowsM (five : List Card) : List (Int × Int) := (sortP ((oftenM (five.map (·.1))).map fun p => (p.2, p.1))).reverse
def ranksM (five : List Card) : List Int := (rowsM five).map (·.2)
def shapeM (five : List Card) : List Int := (rowsM five).map (·.1)
def shapes : List (List Int × Int) := [([2, 1, 1, 1], 1), ([2, 2, 1], 2), ([3, 1, 1], 3), ([3, 2], 6), ([4, 1], 7)]
def topM (rs : List Int) : Int := if rs = [14, 5, 4, 3, 2] then 5 else if rs = (List.range 5).map (fun k : Nat => rs.headD 0 - k) then rs.headD 0 else 0
def alikeM (five : List Card) : Bool := decide (((dedup (five.map (·.2)).reverse).length : Int) = 1)
def rankM (five : List Card) : Int × List Int :=
  if (ranksM five).length < 5 then ((shapes.lookup (shapeM five)).getD 0, ranksM five)
  else if (decide (0 < topM (ranksM five)) && alikeM five) = true then (8, [topM (ranksM five)])
  else if alikeM five = true then (5, ranksM five)
  else if 0 < topM (ranksM five) then (4, [topM (ranksM five)])
  else (0, ranksM five)
def rankD (r : Int × List Int) : PyData := .tuple [.int r.1, .tuple (r.2.map .int)]
theorem bump_len (r : Int) : ∀ l : List (Int × Int), (bump r l).length ≤ l.length + 1
  | [] => by simp [bump]
  | (q, c) :: t => by
    unfold bump
    split
    · simp
    · have := bump_len r t
      simp; omega
theorem eqv_ints : ∀ xs ys : List Int, PyData.eqvAll (xs.map .int) (ys.map .int) = decide (xs = ys)
  | [], [] => by simp [PyData.eqvAll]
  | [], _ :: _ => by simp [PyData.eqvAll]
  | _ :: _, [] => by simp [PyData.eqvAll]
  | x :: xs, y :: ys => by
    simp only [List.map_cons, PyData.eqvAll, eqv_int, eqv_ints xs ys, List.cons.injEq, Bool.decide_and]
theorem o_eqT {xs ys : List Int} (h1 : xs.length < 1000) (h2 : ys.length < 1000) : opf2 .eq (.tuple (xs.map .int)) (.tuple (ys.map .int)) = some (.bool (decide (xs = ys))) := by
  show (eqD _ _).map PyData.bool = _
  unfold eqD
  rw [if_neg (by simp [scalD]), if_pos (by rw [(shapedI h1).1, (shapedI h2).1]; rfl), Option.map_some]
  simp only [PyData.eqv, eqv_ints]
theorem o_rev (xs : List PyData) : opf1 .rev (.list xs) = some (.list xs.reverse) := id rfl
section
variable {fns : Nat → Option FnD} {h : Hi} {n m k t q i : Nat} {cf : Calls}
theorem top_eval (F : fns 48 = some d48) {rs : List Int} (hl : rs.length = 5) : callF fns (q + 1) 48 [.p (intsT rs)] h = .ok (.p (.int (topM rs))) h := by
  rw [call_eq F rfl]
  generalize callF fns q = cf
  show finF h.length (evalSs cf b48 [some (.p (intsT rs)), none] h) = _
  rw [b48_eq]
  unfold ls48
  have e1 := o_eqT (xs := rs) (ys := [14, 5, 4, 3, 2]) (by omega) (by decide)
  obtain ⟨a, r, rfl⟩ : ∃ a r, rs = a :: r := by
    cases rs with
    | nil => simp at hl
    | cons a r => exact ⟨a, r, rfl⟩
  have a0 : atI ((a :: r).map PyData.int) 0 = some (.int a) := atI_c0
  have c1 : evalE cf [some (.p (intsT (a :: r))), none] (.comp [1] (.name 1) (.rng1 (.lit (.int 5))) [] (.op2d .sub (.op2b .ix (.var 0) (.lit (.int 0))) (.var 1))) h = .ok (.p (.list (((List.range 5).map fun k : Nat => a - k).map .int))) h := by
    rw [List.map_map]
    refine comp_all natD _ (src_nat (j := 5) (by simp) (by omega)) (by simp) fun j hj => ⟨[some (.p (intsT (a :: r))), some (.p (.int j))], by simp, ?_⟩
    simp only [ev_op2d, ev_op2b, bor_var, slot_0, slot_s, borV_p, ev_var, ofO_some, R.bind_ok, unP_p, ev_lit, o_ixT, intsT, a0, Option.map_some, o_sub]
    rfl
  have e2 := o_eqT (xs := a :: r) (ys := (List.range 5).map fun k : Nat => a - k) (by omega) (by simp)
  unfold topM
  rw [ss_cons]
  have t0 : evalS cf s48_0 [some (.p (intsT (a :: r))), none] h = if a :: r = [14, 5, 4, 3, 2] then .ok (.rt (.p (.int 5))) [some (.p (intsT (a :: r))), none] h else .ok .nx [some (.p (intsT (a :: r))), none] h := by
    unfold s48_0
    have e1' : opf2 .eq (.tuple ((a :: r).map PyData.int)) (.tuple [.int 14, .int 5, .int 4, .int 3, .int 2]) = some (.bool (decide (a :: r = [14, 5, 4, 3, 2]))) := e1
    by_cases c : a :: r = [14, 5, 4, 3, 2]
    · rw [if_pos c]
      rw [decide_eq_true c] at e1'
      simp only [st_if, et_val, bor_op2, ev_op2, ev_var, slot_0, ofO_some, R.bind_ok, unP_p, bor_lit, ev_lit, intsT, e1', Option.map_some, truth_b, R.toS_ok, if_true, ss_cons, st_ret, RS.bind_rt]
    · rw [if_neg c]
      rw [decide_eq_false c] at e1'
      simp only [st_if, et_val, bor_op2, ev_op2, ev_var, slot_0, ofO_some, R.bind_ok, unP_p, bor_lit, ev_lit, intsT, e1', Option.map_some, truth_b, R.toS_ok, Bool.false_eq_true, if_false, ss_nil]
  rw [t0]
  by_cases c : a :: r = [14, 5, 4, 3, 2]
  · rw [if_pos c, if_pos c, RS.bind_rt, fin_rp, List.take_length]
  · rw [if_neg c, if_neg c, RS.bind_nx, ss_cons]
    show finF _ _ = R.ok (.p (.int (if a :: r = (List.range 5).map (fun k : Nat => a - k) then a else 0))) h
    simp only [intsT] at c1
    by_cases c2 : a :: r = (List.range 5).map fun k : Nat => a - k
    · rw [if_pos c2]
      rw [decide_eq_true c2] at e2
      simp only [s48_1, st_if, et_val, bor_op2, ev_op2, ev_var, slot_0, ofO_some, R.bind_ok, unP_p, bor_op1, ev_op1, bor_comp, intsT, c1, o_tupL, Option.map_some, e2, truth_b, R.toS_ok, if_true, ss_cons, st_ret, ev_op2b, bor_var, borV_p, ev_lit, o_ixT, a0, RS.bind_rt, fin_rp, List.take_length]
    · rw [if_neg c2]
      rw [decide_eq_false c2] at e2
      simp only [s48_1, st_if, et_val, bor_op2, ev_op2, ev_var, slot_0, ofO_some, R.bind_ok, unP_p, bor_op1, ev_op1, bor_comp, intsT, c1, o_tupL, Option.map_some, e2, truth_b, R.toS_ok, Bool.false_eq_true, if_false, ss_nil, RS.bind_nx, ss_cons, s48_2, st_ret, ev_lit, RS.bind_rt, fin_rp, List.take_length]
@[simp] theorem st_newD0 {env : Ev} : evalS cf (.newD i []) env h = .ok .nx (setSlot env i (some (.ref h.length))) (h ++ [.dct []]) := id rfl
@[simp] theorem st_setKeyD {env : Ev} {b e : E} : evalS cf (.setKeyD i b e) env h = ((evalE cf env e h).bind unP).toS env fun d h1 => ((evalE cf env b h1).bind unP).toS env fun kd h2 => ofH env ((keyOf kd).bind fun q => setKeyH env i q (.p d) h2) := id rfl
@[simp] theorem ev_dgetD {env : Ev} {b e : E} : evalE cf env (.dgetD i b e) h = ((evalE cf env b h).bind unP).bind fun kd h1 => ((evalE cf env e h1).bind unP).bind fun dd h2 => dgetDK env i kd dd h2 := id rfl
theorem often_len (rs : List Int) : (oftenM rs).length ≤ rs.length := by
  have : ∀ (rs : List Int) (l : List (Int × Int)), (rs.foldl (fun l r => bump r l) l).length ≤ l.length + rs.length := fun rs => by
    induction rs with
    | nil => intro l; exact Nat.le_refl _
    | cons r rs ih =>
      intro l
      rw [List.foldl_cons, List.length_cons]
      have := ih (bump r l)
      have := bump_len r l
      omega
  have z := this rs []
  rw [List.length_nil, Nat.zero_add] at z
  exact z
theorem sortP_len (l : List (Int × Int)) : (sortP l).length = l.length := by
  have hi : ∀ (x : Int × Int) (l : List (Int × Int)), (insP x l).length = l.length + 1 := fun x l => by
    induction l with
    | nil => rfl
    | cons y r ih => unfold insP; split <;> simp [ih]
  induction l with
  | nil => rfl
  | cons x r ih =>
    show (insP x (sortP r)).length = _
    rw [hi, ih]; rfl
theorem rows_len (five : List Card) : (rowsM five).length ≤ five.length := by
  unfold rowsM
  rw [List.length_reverse, sortP_len, List.length_map]
  have := often_len (five.map (·.1))
  rw [List.length_map] at this
  exact this
end
end Cd
set_option Elab.async false
set_option linter.all false
set_option maxRecDepth 100000
set_option maxHeartbeats 4000000
namespace Cd
open PySem L2
end Cd
set_option Elab.async false
set_option linter.all false
set_option maxRecDepth 100000
set_option maxHeartbeats 4000000
namespace Cd
open PySem L2
section
variable {fns : Nat → Option FnD} {h : Hi} {k t q : Nat}
theorem er_map {α : Type} (f : α → PyData) : ∀ (l : List α) (j : Nat), (l.map f).eraseIdx j = (l.eraseIdx j).map f
  | [], _ => rfl
  | a :: l, 0 => rfl
  | a :: l, j + 1 => by rw [List.map_cons, List.eraseIdx_cons_succ, List.eraseIdx_cons_succ, List.map_cons, er_map f l j]
theorem er_perm {α : Type} : ∀ (l : List α) (j : Nat) (h : j < l.length), (l[j] :: l.eraseIdx j).Perm l
  | a :: l, 0, _ => List.Perm.refl _
  | a :: l, j + 1, h => by
    have := er_perm l j (by simpa using h)
    rw [List.eraseIdx_cons_succ, List.getElem_cons_succ]
    exact (List.Perm.swap _ _ _).trans (this.cons a)
end
end Cd
set_option Elab.async false
set_option linter.all false
set_option maxRecDepth 100000
set_option maxHeartbeats 4000000
namespace Cd
open PySem L2
end Cd
set_option Elab.async false
set_option linter.all false
set_option maxRecDepth 100000
set_option maxHeartbeats 4000000
namespace Cd
open PySem L2
def suitsL : List Str := [("c" : Str), ("d" : Str), ("h" : Str), ("s" : Str)]
def deckOf (rs : List Int) : List Card := rs.flatMap fun r => suitsL.map fun s => (r, s)
def every : List Int := [2, 3, 4, 5, 6, 7, 8, 9, 10, 11, 12, 13, 14]
def deckRs : List (List Int) := [every, every, [2, 3, 4, 5, 14], [9, 10, 11, 12, 13], [6, 7, 8, 9]]
/-- some cards of one of the decks, drawn without being put back -/
def Deck (cs : List Card) : Prop := ∃ rs ∈ deckRs, ∃ rest, (cs ++ rest).Perm (deckOf rs)
theorem deck_len (rs : List Int) : (deckOf rs).length = 4 * rs.length := by
  unfold deckOf
  induction rs with
  | nil => rfl
  | cons r rs ih => rw [List.flatMap_cons, List.length_append, ih, List.length_map, List.length_cons]; show 4 + _ = _; omega
theorem deck_snoc (rs : List Int) (r : Int) : deckOf (rs ++ [r]) = deckOf rs ++ suitsL.map fun s => (r, s) := by
  unfold deckOf
  rw [List.flatMap_append]; simp
theorem deck_count (r : Int) (rs : List Int) : ((deckOf rs).map (·.1)).count r = 4 * rs.count r := by
  unfold deckOf
  induction rs with
  | nil => rfl
  | cons q rs ih =>
    rw [List.flatMap_cons, List.map_append, List.count_append, ih, List.count_cons]
    have : (suitsL.map fun s => (q, s)).map (·.1) = [q, q, q, q] := rfl
    rw [this]
    by_cases e : q = r
    · subst e; simp; omega
    · have : (q == r) = false := by simpa using e
      simp [List.count_cons, this]
theorem rs_count {rs : List Int} (h : rs ∈ deckRs) (r : Int) : rs.count r ≤ 1 := by
  have nd : rs.Nodup := by
    have : ∀ rs ∈ deckRs, rs.Nodup := by decide
    exact this rs h
  exact List.nodup_iff_count.mp nd r
theorem Deck.count {cs : List Card} (d : Deck cs) (r : Int) : (cs.map (·.1)).count r ≤ 4 := by
  obtain ⟨rs, hrs, rest, p⟩ := d
  have h1 := (p.map (·.1)).count_eq r
  rw [List.map_append, List.count_append, deck_count] at h1
  have := rs_count hrs r
  omega
theorem Deck.range {cs : List Card} (d : Deck cs) : ∀ c ∈ cs, 2 ≤ c.1 ∧ c.1 ≤ 14 ∧ c.2 ∈ suitsL := by
  obtain ⟨rs, hrs, rest, p⟩ := d
  intro c hc
  have hm := p.mem_iff.mp (List.mem_append_left rest hc)
  unfold deckOf at hm
  obtain ⟨r, hr, h2⟩ := List.mem_flatMap.mp hm
  obtain ⟨s, hs, rfl⟩ := List.mem_map.mp h2
  have : ∀ rs ∈ deckRs, ∀ r ∈ rs, 2 ≤ r ∧ r ≤ 14 := by decide
  exact ⟨(this rs hrs r hr).1, (this rs hrs r hr).2, hs⟩
theorem Deck.nodup {cs : List Card} (d : Deck cs) : cs.Nodup := by
  obtain ⟨rs, hrs, rest, p⟩ := d
  have : ∀ rs ∈ deckRs, (deckOf rs).Nodup := by decide
  exact (List.nodup_append.mp (p.nodup_iff.mpr (this rs hrs))).1
section
variable {fns : Nat → Option FnD} {h : Hi} {k t q : Nat} {cf : Calls}
theorem items_suits : itemsOf (.str ("cdhs" : Str)) = some (suitsL.map .str) := by rfl
end
end Cd
set_option Elab.async false
set_option linter.all false
set_option maxRecDepth 100000
set_option maxHeartbeats 4000000
namespace Cd
open PySem L2
structure Often (done : List Int) (l : List (Int × Int)) : Prop where
  val : ∀ p ∈ l, p.2 = (done.count p.1 : Int) ∧ 0 < p.2
  sum : (l.map (·.2)).sum = done.length
  keys : ∀ x, x ∈ done ↔ x ∈ l.map (·.1)
  nd : (l.map (·.1)).Nodup
theorem bump_keys (r : Int) : ∀ l : List (Int × Int), (bump r l).map (·.1) = if r ∈ l.map (·.1) then l.map (·.1) else l.map (·.1) ++ [r]
  | [] => rfl
  | (q, c) :: t => by
    unfold bump
    by_cases e : q = r
    · subst e; simp
    · rw [if_neg e, List.map_cons, List.map_cons, bump_keys r t]
      have : r ∈ q :: t.map (·.1) ↔ r ∈ t.map (·.1) := by
        rw [List.mem_cons]
        exact ⟨fun h => h.resolve_left fun z => e z.symm, .inr⟩
      by_cases c : r ∈ t.map (·.1)
      · rw [if_pos c, if_pos (this.mpr c)]
      · rw [if_neg c, if_neg (fun z => c (this.mp z))]; rfl
theorem bump_sum (r : Int) : ∀ l : List (Int × Int), ((bump r l).map (·.2)).sum = (l.map (·.2)).sum + 1
  | [] => rfl
  | (q, c) :: t => by
    unfold bump
    by_cases e : q = r
    · rw [if_pos e, List.map_cons, List.map_cons, List.sum_cons, List.sum_cons]; omega
    · rw [if_neg e, List.map_cons, List.map_cons, List.sum_cons, List.sum_cons, bump_sum r t]; omega
theorem bump_mem (r : Int) : ∀ (l : List (Int × Int)), (l.map (·.1)).Nodup → ∀ p ∈ bump r l, (p ∈ l ∧ p.1 ≠ r) ∨ (p.1 = r ∧ (((r, p.2 - 1) ∈ l) ∨ (r ∉ l.map (·.1) ∧ p.2 = 1)))
  | [], _, p, h => by
    rw [List.mem_singleton.mp h]
    exact .inr ⟨rfl, .inr ⟨by simp, rfl⟩⟩
  | (q, c) :: t, nd, p, h => by
    obtain ⟨n1, n2⟩ := List.nodup_cons.mp nd
    unfold bump at h
    by_cases e : q = r
    · subst e
      rw [if_pos rfl] at h
      rcases List.mem_cons.mp h with rfl | h
      · refine .inr ⟨rfl, .inl ?_⟩
        have : c + 1 - 1 = c := by omega
        rw [this]; exact List.mem_cons_self
      · refine .inl ⟨List.mem_cons_of_mem _ h, fun z => n1 ?_⟩
        rw [← z]; exact List.mem_map.mpr ⟨p, h, rfl⟩
    · rw [if_neg e] at h
      rcases List.mem_cons.mp h with rfl | h
      · exact .inl ⟨List.mem_cons_self, e⟩
      · rcases bump_mem r t n2 p h with ⟨h1, h2⟩ | ⟨h1, h2 | ⟨h2, h3⟩⟩
        · exact .inl ⟨List.mem_cons_of_mem _ h1, h2⟩
        · exact .inr ⟨h1, .inl (List.mem_cons_of_mem _ h2)⟩
        · refine .inr ⟨h1, .inr ⟨?_, h3⟩⟩
          rw [List.map_cons, List.mem_cons]
          rintro (z | z)
          · exact e z.symm
          · exact h2 z
theorem Often.snoc {done : List Int} {l : List (Int × Int)} (o : Often done l) (r : Int) : Often (done ++ [r]) (bump r l) := by
  refine ⟨fun p hp => ?_, by rw [bump_sum, o.sum, List.length_append]; rfl, fun x => ?_, ?_⟩
  · rw [List.count_append]
    rcases bump_mem r l o.nd p hp with ⟨h1, h2⟩ | ⟨h1, h2 | ⟨h2, h3⟩⟩
    · have := o.val p h1
      have z : [r].count p.1 = 0 := List.count_eq_zero.mpr (by simpa using h2)
      rw [z]; exact this
    · have := o.val _ h2
      simp only at this
      rw [h1, List.count_singleton_self]
      constructor <;> omega
    · rw [h1, List.count_singleton_self, h3]
      have : done.count r = 0 := List.count_eq_zero.mpr (fun z => h2 ((o.keys r).mp z))
      rw [this]
      exact ⟨rfl, by decide⟩
  · rw [bump_keys, List.mem_append, List.mem_singleton, o.keys x]
    by_cases c : r ∈ l.map (·.1)
    · rw [if_pos c]
      constructor
      · rintro (h | rfl)
        · exact h
        · exact c
      · exact .inl
    · rw [if_neg c, List.mem_append, List.mem_singleton]
  · rw [bump_keys]
    by_cases c : r ∈ l.map (·.1)
    · rw [if_pos c]; exact o.nd
    · rw [if_neg c]
      exact List.nodup_append.mpr ⟨o.nd, by simp, fun a ha b hb => by rw [List.mem_singleton.mp hb]; rintro rfl; exact c ha⟩
theorem often_ok (rs : List Int) : Often rs (oftenM rs) := by
  have : ∀ (rs done : List Int) (l : List (Int × Int)), Often done l → Often (done ++ rs) (rs.foldl (fun l r => bump r l) l) := fun rs => by
    induction rs with
    | nil => intro done l o; rw [List.append_nil]; exact o
    | cons r rs ih =>
      intro done l o
      have := ih (done ++ [r]) (bump r l) (o.snoc r)
      rw [List.append_assoc, List.singleton_append] at this
      exact this
  have z := this rs [] [] ⟨(fun p hp => by cases hp), rfl, (fun x => by simp), List.Pairwise.nil⟩
  rw [List.nil_append] at z
  exact z
theorem sortP_permX (l : List (Int × Int)) : (sortP l).Perm l := by
  have hi : ∀ (x : Int × Int) (l : List (Int × Int)), (insP x l).Perm (x :: l) := fun x l => by
    induction l with
    | nil => exact .refl _
    | cons y r ih =>
      unfold insP
      split
      · exact .refl _
      · exact (ih.cons y).trans (.swap _ _ _)
  induction l with
  | nil => exact .refl _
  | cons x r ih => exact (hi x _).trans (ih.cons x)
theorem rows_perm (five : List Card) : (rowsM five).Perm ((oftenM (five.map (·.1))).map fun p => (p.2, p.1)) := (List.reverse_perm _).trans (sortP_permX _)
theorem leP_fst {p q : Int × Int} (h : leP p q = true) : p.1 ≤ q.1 := by
  unfold leP at h
  simp at h
  omega
theorem sortP_sortedX (l : List (Int × Int)) : (sortP l).Pairwise fun p q => leP p q = true := by
  have hi : ∀ (x : Int × Int) (l : List (Int × Int)), l.Pairwise (fun p q => leP p q = true) → (insP x l).Pairwise fun p q => leP p q = true := fun x l => by
    induction l with
    | nil => intro _; exact List.pairwise_singleton _ _
    | cons y r ih =>
      intro h
      obtain ⟨h1, h2⟩ := List.pairwise_cons.mp h
      have tr : ∀ {a b c : Int × Int}, leP a b = true → leP b c = true → leP a c = true := fun {a b c} x y => by
        unfold leP at *
        simp at *
        omega
      have tot : ∀ {a b : Int × Int}, ¬ leP a b = true → leP b a = true := fun {a b} x => by
        unfold leP at *
        simp at *
        omega
      unfold insP
      split
      · rename_i c
        refine List.pairwise_cons.mpr ⟨fun z hz => ?_, h⟩
        rcases List.mem_cons.mp hz with rfl | hz
        · exact c
        · exact tr c (h1 z hz)
      · rename_i c
        refine List.pairwise_cons.mpr ⟨fun z hz => ?_, ih h2⟩
        have pm : ∀ (x : Int × Int) (l : List (Int × Int)), z ∈ insP x l → z = x ∨ z ∈ l := fun x l => by
          induction l with
          | nil => intro h; exact .inl (List.mem_singleton.mp h)
          | cons y r ih =>
            intro h
            unfold insP at h
            split at h
            · exact List.mem_cons.mp h
            · rcases List.mem_cons.mp h with h | h
              · exact .inr (h ▸ List.mem_cons_self)
              · exact (ih h).imp id (List.mem_cons_of_mem _)
        rcases pm x r hz with rfl | hz
        · exact tot c
        · exact h1 z hz
  induction l with
  | nil => exact .nil
  | cons x r ih => exact hi x _ ih
theorem shape_desc (five : List Card) : (shapeM five).Pairwise (· ≥ ·) := by
  unfold shapeM rowsM
  rw [List.pairwise_map, List.pairwise_reverse]
  exact (sortP_sortedX _).imp fun h => leP_fst h
theorem isum_perm {xs ys : List Int} (h : xs.Perm ys) : xs.sum = ys.sum := by
  induction h with
  | nil => rfl
  | cons x _ ih => rw [List.sum_cons, List.sum_cons, ih]
  | swap x y l => simp only [List.sum_cons]; omega
  | trans _ _ h1 h2 => exact h1.trans h2
theorem shape_sum (five : List Card) : (shapeM five).sum = five.length := by
  have h := isum_perm ((rows_perm five).map (·.1))
  unfold shapeM
  rw [h, List.map_map]
  have := (often_ok (five.map (·.1))).sum
  rw [List.length_map] at this
  exact this
theorem shape_mem {five : List Card} (hc : ∀ r, (five.map (·.1)).count r ≤ 4) : ∀ c ∈ shapeM five, 1 ≤ c ∧ c ≤ 4 := fun c h => by
  obtain ⟨p, hp, rfl⟩ := List.mem_map.mp h
  obtain ⟨q, hq, rfl⟩ := List.mem_map.mp ((rows_perm five).mem_iff.mp hp)
  have := (often_ok (five.map (·.1))).val q hq
  have := hc q.1
  simp only
  omega
theorem shape_ok {five : List Card} (h5 : five.length = 5) (hc : ∀ r, (five.map (·.1)).count r ≤ 4) : (ranksM five).length < 5 → (shapes.lookup (shapeM five)).isSome := by
  intro hl
  have e : (ranksM five).length = (shapeM five).length := by unfold ranksM shapeM; rw [List.length_map, List.length_map]
  rw [e] at hl
  have h1 := shape_desc five
  have h2 := shape_sum five
  have h3 := shape_mem hc
  rw [h5] at h2
  generalize shapeM five = sh at hl h1 h2 h3
  match sh, hl, h1, h2, h3 with
  | [], _, _, h2, _ => simp at h2
  | [a], _, _, h2, h3 =>
    have := h3 a (by simp)
    simp at h2
    omega
  | [a, b], _, h1, h2, h3 =>
    have a1 := h3 a (by simp)
    have b1 := h3 b (by simp)
    simp at h1 h2
    have : (a = 4 ∧ b = 1) ∨ (a = 3 ∧ b = 2) := by omega
    rcases this with ⟨rfl, rfl⟩ | ⟨rfl, rfl⟩ <;> decide
  | [a, b, c], _, h1, h2, h3 =>
    have a1 := h3 a (by simp)
    have b1 := h3 b (by simp)
    have c1 := h3 c (by simp)
    simp at h1 h2
    have : (a = 3 ∧ b = 1 ∧ c = 1) ∨ (a = 2 ∧ b = 2 ∧ c = 1) := by omega
    rcases this with ⟨rfl, rfl, rfl⟩ | ⟨rfl, rfl, rfl⟩ <;> decide
  | [a, b, c, d], _, h1, h2, h3 =>
    have a1 := h3 a (by simp)
    have b1 := h3 b (by simp)
    have c1 := h3 c (by simp)
    have d1 := h3 d (by simp)
    simp at h1 h2
    have : a = 2 ∧ b = 1 ∧ c = 1 ∧ d = 1 := by omega
    obtain ⟨rfl, rfl, rfl, rfl⟩ := this
    decide
  | a :: b :: c :: d :: e :: f, hl, _, _, _ => simp at hl; omega
theorem ranks_mem {five : List Card} {r : Int} (h : r ∈ ranksM five) : r ∈ five.map (·.1) := by
  obtain ⟨p, hp, rfl⟩ := List.mem_map.mp h
  obtain ⟨q, hq, rfl⟩ := List.mem_map.mp ((rows_perm five).mem_iff.mp hp)
  exact ((often_ok _).keys q.1).mpr (List.mem_map.mpr ⟨q, hq, rfl⟩)
/-- cards of which there is one at most, or four of one rank -/
def Fit (cs : List Card) : Prop := (∀ r, (cs.map (·.1)).count r ≤ 4) ∧ ∀ c ∈ cs, 2 ≤ c.1 ∧ c.1 ≤ 14
theorem Deck.fit {cs : List Card} (d : Deck cs) : Fit cs := ⟨d.count, fun c hc => ⟨(d.range c hc).1, (d.range c hc).2.1⟩⟩
def ltI : List Int → List Int → Bool
  | [], [] => false
  | [], _ :: _ => true
  | _ :: _, [] => false
  | x :: xs, y :: ys => if x = y then ltI xs ys else decide (x < y)
theorem depth_rank (r : Int × List Int) : PyData.depth (rankD r) = 2 := by
  show max 0 (max (PyData.depthAll (r.2.map .int) + 1) 0) + 1 = 2
  rw [depth_ints]; rfl
theorem eqv_rank (a b : Int × List Int) : PyData.eqv (rankD a) (rankD b) = decide (a = b) := by
  simp only [rankD, PyData.eqv, PyData.eqvAll, eqv_ints, Bool.and_true]
  have e : (a.1 == b.1) = decide (a.1 = b.1) := by
    by_cases c : a.1 = b.1
    · rw [decide_eq_true c, c]; simp
    · rw [decide_eq_false c]; simpa using c
  rw [e, ← Bool.decide_and]
  exact decide_eq_decide.mpr ⟨fun h => Prod.ext h.1 h.2, fun h => by rw [h]; exact ⟨rfl, rfl⟩⟩
theorem rank_shaped {r : Int × List Int} (h : r.2.length < 1000) : SeqAt.shaped (rankD r) = true := by
  refine (shaped_seq (ds := [.int r.1, .tuple (r.2.map .int)]) (by simp) ?_ ?_).1
  · have z := size1000
    simp only [PyData.canLay0, PyData.canLayAll0, lay_mapI, List.length_map, Bool.and_true, Bool.true_and, decide_eq_true_eq]
    first | omega | skip
  · have := depth_rank r
    show max 0 (max (PyData.depthAll (r.2.map .int) + 1) 0) ≤ 60
    rw [depth_ints]; decide
theorem o_eqRank {a b : Int × List Int} (ha : a.2.length < 1000) (hb : b.2.length < 1000) : opf2 .eq (rankD a) (rankD b) = some (.bool (decide (a = b))) := by
  show (eqD _ _).map PyData.bool = _
  unfold eqD
  rw [if_neg (by simp [scalD, rankD]), if_pos (by rw [rank_shaped ha, rank_shaped hb]; rfl), Option.map_some, eqv_rank]
end Cd
set_option Elab.async false
set_option linter.all false
set_option maxRecDepth 100000
set_option maxHeartbeats 4000000
namespace Cd
open PySem L2
end Cd
set_option Elab.async false
set_option linter.all false
set_option maxRecDepth 100000
set_option maxHeartbeats 4000000
namespace Cd
open PySem L2
def chooseM {α : Type} : List α → Nat → List (List α)
  | _, 0 => [[]]
  | [], _ + 1 => []
  | x :: l, k + 1 => (chooseM l k).map (x :: ·) ++ chooseM l (k + 1)
theorem choose_zero {α : Type} (l : List α) : chooseM l 0 = [[]] := by cases l <;> rfl
theorem choose_mem {α : Type} : ∀ (l : List α) (k : Nat) (c : List α), c ∈ chooseM l k ↔ c.Sublist l ∧ c.length = k
  | l, 0, c => by
    rw [choose_zero, List.mem_singleton]
    constructor
    · rintro rfl; exact ⟨List.nil_sublist _, rfl⟩
    · intro h; exact List.length_eq_zero_iff.mp h.2
  | [], k + 1, c => by
    constructor
    · intro h; cases h
    · intro h
      have h1 := h.1.length_le
      have h2 := h.2
      rw [List.length_nil] at h1
      omega
  | x :: l, k + 1, c => by
    show c ∈ (chooseM l k).map (x :: ·) ++ chooseM l (k + 1) ↔ _
    rw [List.mem_append, List.mem_map, choose_mem l (k + 1) c]
    constructor
    · rintro (⟨d, hd, rfl⟩ | ⟨h1, h2⟩)
      · have := (choose_mem l k d).mp hd
        exact ⟨this.1.cons_cons x, by rw [List.length_cons, this.2]⟩
      · exact ⟨h1.cons x, h2⟩
    · rintro ⟨h1, h2⟩
      cases h1 with
      | cons _ h => exact .inr ⟨h, h2⟩
      | cons_cons _ h => exact .inl ⟨_, (choose_mem l k _).mpr ⟨h, by simpa using h2⟩, rfl⟩
def fivD (cs : List Card) : PyData := .tuple (cs.map cardD)
section
variable {fns : Nat → Option FnD} {h : Hi} {cf : Calls}
end
end Cd
set_option Elab.async false
set_option linter.all false
set_option maxRecDepth 100000
set_option maxHeartbeats 4000000
namespace Cd
open PySem L2
theorem Fit.sub {cs ds : List Card} (f : Fit cs) (s : ds.Sublist cs) : Fit ds :=
  ⟨fun r => Nat.le_trans ((s.map (·.1)).count_le r) (f.1 r), fun c hc => f.2 c (s.subset hc)⟩
theorem Fit.perm {cs ds : List Card} (f : Fit cs) (p : ds.Perm cs) : Fit ds :=
  ⟨fun r => by rw [(p.map (·.1)).count_eq r]; exact f.1 r, fun c hc => f.2 c (p.mem_iff.mp hc)⟩
abbrev Rank := Int × List Int
section
variable {fns : Nat → Option FnD} {h : Hi} {cf : Calls} {q : Nat}
end
end Cd
set_option Elab.async false
set_option linter.all false
set_option maxRecDepth 100000
set_option maxHeartbeats 4000000
namespace Cd
open PySem L2
theorem leP_anti {p q : Int × Int} (h1 : leP p q = true) (h2 : leP q p = true) : p = q := by
  unfold leP at h1 h2
  simp at h1 h2
  obtain ⟨a, b⟩ := p
  obtain ⟨c, d⟩ := q
  simp only at h1 h2
  have : a = c ∧ b = d := by omega
  rw [this.1, this.2]
theorem perm_sortedP : ∀ {xs ys : List (Int × Int)}, xs.Perm ys → xs.Pairwise (fun p q => leP p q = true) → ys.Pairwise (fun p q => leP p q = true) → xs = ys
  | [], ys, h, _, _ => by rw [List.nil_perm.mp h]
  | x :: xs, [], h, _, _ => absurd h.symm (by simp)
  | x :: xs, y :: ys, h, hx, hy => by
    have e : x = y := by
      obtain ⟨h1, _⟩ := List.pairwise_cons.mp hx
      obtain ⟨h2, _⟩ := List.pairwise_cons.mp hy
      rcases List.mem_cons.mp (h.mem_iff.mp List.mem_cons_self) with e | e
      · exact e
      · rcases List.mem_cons.mp (h.mem_iff.mpr (List.mem_cons_self : y ∈ y :: ys)) with e2 | e2
        · exact e2.symm
        · exact leP_anti (h1 y e2) (h2 x e)
    subst e
    rw [perm_sortedP (List.Perm.cons_inv h) (List.pairwise_cons.mp hx).2 (List.pairwise_cons.mp hy).2]
theorem often_mem {rs : List Int} {p : Int × Int} : p ∈ oftenM rs ↔ p.1 ∈ rs ∧ p.2 = (rs.count p.1 : Int) := by
  have o := often_ok rs
  constructor
  · intro h
    exact ⟨(o.keys p.1).mpr (List.mem_map.mpr ⟨p, h, rfl⟩), (o.val p h).1⟩
  · rintro ⟨h1, h2⟩
    obtain ⟨q, hq, e⟩ := List.mem_map.mp ((o.keys p.1).mp h1)
    have h3 := (o.val q hq).1
    rw [e, ← h2] at h3
    obtain ⟨a, b⟩ := p
    obtain ⟨c, d⟩ := q
    simp only at e h3
    rw [← e, ← h3]; exact hq
theorem often_nd (rs : List Int) : (oftenM rs).Nodup := by
  have h := (often_ok rs).nd
  unfold List.Nodup at h ⊢
  rw [List.pairwise_map] at h
  exact h.imp fun hne e => hne (by rw [e])
theorem alike_iff {five : List Card} : alikeM five = true ↔ ∃ s, (five.map (·.2)) ≠ [] ∧ ∀ x ∈ five.map (·.2), x = s := by
  have dd : ∀ xs : List Str, (dedup xs).length = 1 ↔ ∃ s, xs ≠ [] ∧ ∀ x ∈ xs, x = s := fun xs => by
    induction xs with
    | nil => simp [dedup]
    | cons x r ih =>
      unfold dedup
      by_cases c : x ∈ r
      · rw [if_pos c, ih]
        constructor
        · rintro ⟨s, _, h⟩
          exact ⟨s, by simp, fun y hy => by
            rcases List.mem_cons.mp hy with rfl | hy
            · exact h _ c
            · exact h y hy⟩
        · rintro ⟨s, _, h⟩
          exact ⟨s, ⟨fun e => (by rw [e] at c; cases c), fun y hy => h y (List.mem_cons_of_mem _ hy)⟩⟩
      · rw [if_neg c, List.length_cons]
        constructor
        · intro h
          have hd : dedup r = [] := List.length_eq_zero_iff.mp (by omega)
          have hr : r = [] := by
            cases r with
            | nil => rfl
            | cons y t =>
              have md : ∀ (l : List Str) (z : Str), z ∈ l → z ∈ dedup l := fun l => by
                induction l with
                | nil => intro z hz; cases hz
                | cons w l ih =>
                  intro z hz
                  unfold dedup
                  rcases List.mem_cons.mp hz with rfl | hz
                  · split
                    · exact ih _ ‹_›
                    · exact List.mem_cons_self
                  · split
                    · exact ih _ hz
                    · exact List.mem_cons_of_mem _ (ih _ hz)
              have := md (y :: t) y List.mem_cons_self
              rw [hd] at this; cases this
          subst hr
          exact ⟨x, by simp, fun y hy => List.mem_singleton.mp hy⟩
        · rintro ⟨s, _, h⟩
          cases r with
          | nil => rfl
          | cons y t =>
            have h1 := h x List.mem_cons_self
            have h2 := h y (List.mem_cons_of_mem _ List.mem_cons_self)
            exact absurd (by rw [h1, ← h2]; exact List.mem_cons_self) c
  unfold alikeM
  rw [decide_eq_true_iff]
  have := dd (five.map (·.2)).reverse
  constructor
  · intro h
    obtain ⟨s, h1, h2⟩ := this.mp (by omega)
    exact ⟨s, fun e => h1 (by rw [e]; rfl), fun x hx => h2 x (List.mem_reverse.mpr hx)⟩
  · rintro ⟨s, h1, h2⟩
    have := this.mpr ⟨s, fun e => h1 (List.reverse_eq_nil_iff.mp e), fun x hx => h2 x (List.mem_reverse.mp hx)⟩
    omega
end Cd
set_option Elab.async false
set_option linter.all false
set_option maxRecDepth 100000
set_option maxHeartbeats 4000000
namespace Cd
open PySem L2
theorem ranks_len (five : List Card) : (ranksM five).length = (shapeM five).length := by unfold ranksM shapeM; rw [List.length_map, List.length_map]
theorem rows_mem {five : List Card} {p : Int × Int} : p ∈ rowsM five ↔ p.2 ∈ five.map (·.1) ∧ p.1 = ((five.map (·.1)).count p.2 : Int) := by
  rw [(rows_perm five).mem_iff, List.mem_map]
  constructor
  · rintro ⟨q, hq, rfl⟩
    have := often_mem.mp hq
    exact this
  · intro h
    exact ⟨(p.2, p.1), often_mem.mpr h, rfl⟩
end Cd
set_option Elab.async false
set_option linter.all false
set_option maxRecDepth 100000
set_option maxHeartbeats 4000000
namespace Cd
open PySem L2
/-- bets of two to six seats, somebody stays -/
structure Bu (bs : List Int) (gs : List Bool) : Prop where
  len : bs.length = gs.length
  two : 2 ≤ gs.length
  six : gs.length ≤ 6
  nn : ∀ b ∈ bs, 0 ≤ b
  ne : seatsM gs ≠ []
section
variable {bs : List Int} {gs : List Bool} {seats : List Nat} {last top : Int}
theorem Bu.hi (B : Bu bs gs) : ∀ i ∈ seatsM gs, i < bs.length := fun i h => by rw [B.len]; exact seats_lt h
theorem Bu.sum (B : Bu bs gs) : ((potsM bs gs).map (·.1)).sum = bs.sum := pots_sum B.nn B.hi B.ne
theorem potsL_pos : ∀ (ls : List Int) (a : Int), ∀ r ∈ potsL top bs seats a ls, 0 < r.1
  | [], _, r, h => by cases h
  | l :: ls, a, r, h => by
    rw [potsL.eq_2] at h
    rcases List.mem_append.mp h with h | h
    · by_cases p : 0 < (if l = top then restM bs a else manyM bs a l)
      · simp only [if_pos p] at h
        rw [List.mem_singleton.mp h]
        exact p
      · simp only [if_neg p] at h
        cases h
    · exact potsL_pos ls l r h
theorem sum_pos_nil {rows : List (Int × List Nat)} (h : ∀ r ∈ rows, 0 < r.1) (z : (rows.map (·.1)).sum = 0) : rows = [] := by
  cases rows with
  | nil => rfl
  | cons r rs =>
    exfalso
    rw [List.map_cons, List.sum_cons] at z
    have h1 := h r List.mem_cons_self
    have : 0 ≤ (rs.map (·.1)).sum := sum_nonneg fun x hx => by
      obtain ⟨y, hy, rfl⟩ := List.mem_map.mp hx
      have := h y (List.mem_cons_of_mem _ hy); omega
    omega
theorem Bu.nil_iff (B : Bu bs gs) : potsM bs gs = [] ↔ bs.sum = 0 := by
  constructor
  · intro z
    rw [← B.sum, z]; rfl
  · intro z
    exact sum_pos_nil (fun r hr => potsL_pos _ _ r hr) (by rw [B.sum]; exact z)
theorem sum_zeros (m : Nat) : (List.replicate m (0 : Int)).sum = 0 := by
  induction m with
  | zero => rfl
  | succ m ih => rw [List.replicate_succ, List.sum_cons, ih]; rfl
theorem Bu.zero (B : Bu bs gs) : potsM (List.replicate gs.length 0) gs = [] := by
  have B' : Bu (List.replicate gs.length 0) gs := ⟨by simp, B.two, B.six, fun b hb => by rw [(List.mem_replicate.mp hb).2]; omega, B.ne⟩
  exact B'.nil_iff.mpr (sum_zeros _)
variable {p : List Nat}
def bsP (bs : List Int) (p : List Nat) : List Int := p.map fun i => bs.getD i 0
def gsP (gs : List Bool) (p : List Nat) : List Bool := p.map fun i => gs.getD i false
theorem bs_range : (List.range bs.length).map (fun i => bs.getD i 0) = bs := by
  refine List.ext_getElem (by simp) fun i h1 h2 => ?_
  simp [h2]
theorem bsP_perm (hp : p.Perm (List.range bs.length)) : (bsP bs p).Perm bs := by
  have := hp.map fun i => bs.getD i 0
  rw [bs_range] at this
  exact this
theorem gsP_gd {j : Nat} (h : j < p.length) : (gsP gs p).getD j false = gs.getD (p.getD j 0) false := by
  unfold gsP; simp [h]
theorem Bu.perm (B : Bu bs gs) (hp : p.Perm (List.range gs.length)) : Bu (bsP bs p) (gsP gs p) := by
  have lp : p.length = gs.length := by rw [hp.length_eq, List.length_range]
  refine ⟨by unfold bsP gsP; simp, by unfold gsP; rw [List.length_map, lp]; exact B.two, by unfold gsP; rw [List.length_map, lp]; exact B.six, fun b hb => ?_, ?_⟩
  · exact B.nn b ((bsP_perm (by rw [B.len]; exact hp)).mem_iff.mp hb)
  · obtain ⟨i, hi⟩ := List.exists_mem_of_ne_nil _ B.ne
    obtain ⟨h1, h2⟩ := List.mem_filter.mp hi
    obtain ⟨j, hj', e2⟩ := List.getElem_of_mem (hp.mem_iff.mpr h1)
    have e3 : p.getD j 0 = i := by simp [hj', e2]
    exact List.ne_nil_of_mem (a := j) (List.mem_filter.mpr ⟨List.mem_range.mpr (by unfold gsP; rw [List.length_map]; exact hj'), by rw [gsP_gd hj', e3]; exact h2⟩)
theorem Bu.P (B : Bu bs gs) (hp : posL (levelsM bs gs) ≠ []) : potsM bs gs = potsP ((posL (levelsM bs gs)).getLast?.getD 0) bs (seatsM gs) 0 (posL (levelsM bs gs)) := potsM_P B.nn B.hi hp
/-- the levels beyond a -/
structure Lv (bs : List Int) (seats : List Nat) (top a : Int) (ls : List Int) : Prop where
  lt : ls.Pairwise (· < ·)
  gt : ∀ l ∈ ls, a < l
  all : ∀ i ∈ seats, a < bs.getD i 0 → bs.getD i 0 ∈ ls
  has : ∀ l ∈ ls, ∃ i ∈ seats, bs.getD i 0 = l
  last : ls ≠ [] → ls.getLast? = some top
theorem Lv.tail {a l : Int} {ls : List Int} (L : Lv bs seats top a (l :: ls)) : Lv bs seats top l ls := by
  obtain ⟨h1, h2⟩ := List.pairwise_cons.mp L.lt
  refine ⟨h2, h1, fun i hi hl => ?_, fun x hx => L.has x (List.mem_cons_of_mem _ hx), fun hne => ?_⟩
  · have := L.gt l List.mem_cons_self
    rcases List.mem_cons.mp (L.all i hi (by omega)) with h | h
    · omega
    · exact h
  · have := L.last (by simp)
    cases ls with
    | nil => exact absurd rfl hne
    | cons y r => rw [List.getLast?_cons_cons] at this; exact this
theorem Lv.next {a l : Int} {ls : List Int} (L : Lv bs seats top a (l :: ls)) : (seats.filter fun i => decide (a < bs.getD i 0)) = seats.filter (ge bs l) := by
  obtain ⟨h1, h2⟩ := List.pairwise_cons.mp L.lt
  have h3 := L.gt l List.mem_cons_self
  refine List.filter_congr fun i hi => decide_eq_decide.mpr ⟨fun h => ?_, fun h => by omega⟩
  rcases List.mem_cons.mp (L.all i hi h) with e | e
  · omega
  · have := h1 _ e; omega
theorem Lv.some {a l : Int} {ls : List Int} (L : Lv bs seats top a (l :: ls)) : ∃ i ∈ seats.filter (ge bs l), bs.getD i 0 = l := by
  obtain ⟨i, h1, h2⟩ := L.has l List.mem_cons_self
  exact ⟨i, List.mem_filter.mpr ⟨h1, by unfold ge; rw [h2]; simp⟩, h2⟩
theorem Lv.min {a l : Int} {ls : List Int} (L : Lv bs seats top a (l :: ls)) : (lvM bs (seats.filter (ge bs l))) ≠ [] ∧ minI (lvM bs (seats.filter (ge bs l))) = l := by
  obtain ⟨i, h1, h2⟩ := L.some
  have m : l ∈ lvM bs (seats.filter (ge bs l)) := List.mem_map.mpr ⟨i, h1, h2⟩
  have ne := List.ne_nil_of_mem m
  have m1 := minI_le m
  obtain ⟨j, h3, h4⟩ := List.mem_map.mp (minI_mem ne)
  have h5 : l ≤ bs.getD j 0 := of_decide_eq_true (List.mem_filter.mp h3).2
  have h6 : bs.getD j 0 = minI (lvM bs (seats.filter (ge bs l))) := h4
  exact ⟨ne, by omega⟩
theorem Bu.Lv (B : Bu bs gs) (hp : posL (levelsM bs gs) ≠ []) : Lv bs (seatsM gs) ((posL (levelsM bs gs)).getLast?.getD 0) 0 (posL (levelsM bs gs)) := by
  obtain ⟨y, hy⟩ : ∃ y, (posL (levelsM bs gs)).getLast? = some y := ⟨_, List.getLast?_eq_some_getLast hp⟩
  exact ⟨posL_lt lev_lt, fun l hl => (posL_mem.mp hl).2, fun i hi h => posL_mem.mpr ⟨lev_mem.mpr ⟨i, hi, rfl⟩, h⟩, fun l hl => lev_mem.mp (posL_mem.mp hl).1, fun _ => by rw [hy]; rfl⟩
end
end Cd
set_option Elab.async false
set_option linter.all false
set_option maxRecDepth 100000
set_option maxHeartbeats 4000000
namespace Cd
open PySem L2
def downs : List Int := [14, 13, 12, 11, 10, 9, 8, 7, 6, 5, 4, 3, 2]
def ranksL (rs : List Int) : List Int := [4, 3, 2, 1].flatMap fun m : Int => downs.filter fun r => decide ((rs.count r : Int) = m)
def oftL (rs : List Int) : List Int := (List.range 15).map fun i : Nat => ((rs.count (i : Int) : Nat) : Int)
def shapeL (rs : List Int) : List Int := (sortI ((oftL rs).filter fun m => decide (0 < m))).reverse
def topL (rs : List Int) : Int := if rs = [14, 5, 4, 3, 2] then 5 else if rs.headD 0 - rs.getD 4 0 = 4 then rs.headD 0 else 0
theorem downs_mem {r : Int} : r ∈ downs ↔ 2 ≤ r ∧ r ≤ 14 := by
  unfold downs
  simp only [List.mem_cons, List.not_mem_nil, or_false]
  omega
theorem ranksL_mem {rs : List Int} {r : Int} (h4 : ∀ r, rs.count r ≤ 4) (hr : ∀ r ∈ rs, 2 ≤ r ∧ r ≤ 14) : r ∈ ranksL rs ↔ r ∈ rs := by
  unfold ranksL
  rw [List.mem_flatMap]
  constructor
  · rintro ⟨m, hm, h⟩
    obtain ⟨_, h2⟩ := List.mem_filter.mp h
    have h2 := of_decide_eq_true h2
    have : 0 < rs.count r := by
      simp at hm
      omega
    exact List.count_pos_iff.mp this
  · intro h
    have c1 := List.count_pos_iff.mpr h
    have c2 := h4 r
    refine ⟨(rs.count r : Int), ?_, List.mem_filter.mpr ⟨downs_mem.mpr (hr r h), decide_eq_true rfl⟩⟩
    simp
    omega
theorem rowsL_desc (rs : List Int) : ((ranksL rs).map fun r => ((rs.count r : Int), r)).Pairwise fun p q => leP q p = true ∧ p ≠ q := by
  have piece : ∀ m : Int, ((downs.filter fun r => decide ((rs.count r : Int) = m)).map fun r => ((rs.count r : Int), r)).Pairwise fun p q => leP q p = true ∧ p ≠ q := fun m => by
    rw [List.pairwise_map]
    have dd : downs.Pairwise (fun a b => b < a) := by decide
    refine (List.pairwise_filter.mpr (dd.imp fun h ha hb => ?_))
    have ha := of_decide_eq_true ha
    have hb := of_decide_eq_true hb
    refine ⟨?_, fun e => ?_⟩
    · unfold leP
      rw [ha, hb]
      simp
      omega
    · have := congrArg Prod.snd e
      simp only at this
      omega
  have mem : ∀ (m : Int) p, p ∈ ((downs.filter fun r => decide ((rs.count r : Int) = m)).map fun r => ((rs.count r : Int), r)) → p.1 = m := fun m p hp => by
    obtain ⟨r, hr, rfl⟩ := List.mem_map.mp hp
    exact of_decide_eq_true (List.mem_filter.mp hr).2
  have cross : ∀ (m1 m2 : Int) p q, p.1 = m1 → q.1 = m2 → m2 < m1 → (leP q p = true ∧ p ≠ q) := fun m1 m2 p q h1 h2 h => by
    refine ⟨?_, fun e => ?_⟩
    · unfold leP
      rw [h1, h2]
      simp
      omega
    · rw [e] at h1; omega
  unfold ranksL
  rw [List.flatMap_cons, List.flatMap_cons, List.flatMap_cons, List.flatMap_cons, List.flatMap_nil, List.append_nil, List.map_append, List.map_append, List.map_append]
  refine List.pairwise_append.mpr ⟨piece 4, List.pairwise_append.mpr ⟨piece 3, List.pairwise_append.mpr ⟨piece 2, piece 1, fun p hp q hq => cross 2 1 p q (mem _ _ hp) (mem _ _ hq) (by decide)⟩, fun p hp q hq => ?_⟩, fun p hp q hq => ?_⟩
  · rcases List.mem_append.mp hq with hq | hq
    · exact cross 3 2 p q (mem _ _ hp) (mem _ _ hq) (by decide)
    · exact cross 3 1 p q (mem _ _ hp) (mem _ _ hq) (by decide)
  · rcases List.mem_append.mp hq with hq | hq
    · exact cross 4 3 p q (mem _ _ hp) (mem _ _ hq) (by decide)
    · rcases List.mem_append.mp hq with hq | hq
      · exact cross 4 2 p q (mem _ _ hp) (mem _ _ hq) (by decide)
      · exact cross 4 1 p q (mem _ _ hp) (mem _ _ hq) (by decide)
theorem rows_eqL {five : List Card} (f : Fit five) : rowsM five = (ranksL (five.map (·.1))).map fun r => (((five.map (·.1)).count r : Int), r) := by
  have desc := rowsL_desc (five.map (·.1))
  have ndM : (rowsM five).Nodup := by
    rw [(rows_perm five).nodup_iff]
    have h := often_nd (five.map (·.1))
    unfold List.Nodup at h ⊢
    rw [List.pairwise_map]
    exact h.imp fun hne e => hne (by
      have e1 := congrArg Prod.fst e
      have e2 := congrArg Prod.snd e
      exact Prod.ext e2 e1)
  have ndL : ((ranksL (five.map (·.1))).map fun r => (((five.map (·.1)).count r : Int), r)).Nodup := desc.imp fun h => h.2
  have pm : (rowsM five).Perm ((ranksL (five.map (·.1))).map fun r => (((five.map (·.1)).count r : Int), r)) := by
    refine (List.perm_ext_iff_of_nodup ndM ndL).mpr fun p => ?_
    rw [rows_mem]
    have hm := fun r => ranksL_mem (rs := five.map (·.1)) (r := r) f.1 (fun r hr => by
      obtain ⟨c, hc, rfl⟩ := List.mem_map.mp hr
      exact f.2 c hc)
    constructor
    · rintro ⟨h1, h2⟩
      exact List.mem_map.mpr ⟨p.2, (hm p.2).mpr h1, Prod.ext h2.symm rfl⟩
    · intro hp
      obtain ⟨r, hr, rfl⟩ := List.mem_map.mp hp
      exact ⟨(hm r).mp hr, rfl⟩
  have s1 : ((rowsM five).reverse).Pairwise fun p q => leP p q = true := by
    unfold rowsM
    rw [List.reverse_reverse]
    exact sortP_sortedX _
  have s2 : (((ranksL (five.map (·.1))).map fun r => (((five.map (·.1)).count r : Int), r)).reverse).Pairwise fun p q => leP p q = true := by
    rw [List.pairwise_reverse]
    exact desc.imp fun h => h.1
  have e := perm_sortedP ((List.reverse_perm _).trans (pm.trans (List.reverse_perm _).symm)) s1 s2
  exact List.reverse_inj.mp e
theorem ranks_eqL {five : List Card} (f : Fit five) : ranksM five = ranksL (five.map (·.1)) := by
  unfold ranksM
  rw [rows_eqL f, List.map_map]
  exact (List.map_congr_left fun r _ => rfl).trans (List.map_id _)
theorem shape_eqL {five : List Card} (f : Fit five) : shapeM five = shapeL (five.map (·.1)) := by
  have pm : ((rowsM five)).Perm ((((List.range 15).filter fun i : Nat => decide (0 < (((five.map (·.1)).count (i : Int) : Nat) : Int)))).map fun i : Nat => (((five.map (·.1)).count (i : Int) : Int), (i : Int))) := by
    have ndM : (rowsM five).Nodup := by rw [rows_eqL f]; exact (rowsL_desc _).imp fun h => h.2
    have ndL : ((((List.range 15).filter fun i : Nat => decide (0 < (((five.map (·.1)).count (i : Int) : Nat) : Int)))).map fun i : Nat => (((five.map (·.1)).count (i : Int) : Int), (i : Int))).Nodup := by
      unfold List.Nodup
      rw [List.pairwise_map]
      exact (List.pairwise_lt_range.filter _).imp fun h e => by
        have := congrArg Prod.snd e
        simp only at this
        omega
    refine (List.perm_ext_iff_of_nodup ndM ndL).mpr fun p => ?_
    rw [rows_mem]
    constructor
    · rintro ⟨h1, h2⟩
      obtain ⟨c, hc, e⟩ := List.mem_map.mp h1
      have rg := f.2 c hc
      obtain ⟨i, hi⟩ := Int.eq_ofNat_of_zero_le (show 0 ≤ p.2 by rw [← e]; omega)
      refine List.mem_map.mpr ⟨i, List.mem_filter.mpr ⟨List.mem_range.mpr (by rw [e] at rg; omega), decide_eq_true ?_⟩, ?_⟩
      · have := List.count_pos_iff.mpr h1
        rw [← hi]
        omega
      · rw [← hi]; exact Prod.ext h2.symm rfl
    · intro hp
      obtain ⟨i, hi, rfl⟩ := List.mem_map.mp hp
      have := of_decide_eq_true (List.mem_filter.mp hi).2
      have c : 0 < (five.map (·.1)).count (i : Int) := by omega
      exact ⟨List.count_pos_iff.mp c, rfl⟩
  have e1 : (oftL (five.map (·.1))).filter (fun m => decide (0 < m)) = (((List.range 15).filter fun i : Nat => decide (0 < (((five.map (·.1)).count (i : Int) : Nat) : Int)))).map fun i : Nat => (((five.map (·.1)).count (i : Int) : Nat) : Int) := by
    unfold oftL
    rw [List.filter_map]; rfl
  have pm2 : ((shapeM five).reverse).Perm ((oftL (five.map (·.1))).filter fun m => decide (0 < m)) := by
    rw [e1]
    refine (List.reverse_perm _).trans ?_
    unfold shapeM
    have := pm.map (·.1)
    rw [List.map_map] at this
    exact this
  have sd : ((shapeM five).reverse).Pairwise (· ≤ ·) := by
    rw [List.pairwise_reverse]
    exact (shape_desc five).imp fun h => h
  unfold shapeL
  have := sorted_uniq ((sortI_perm _).trans pm2.symm) (sortI_sorted _) sd
  rw [this, List.reverse_reverse]
theorem unlike {five : List Card} (h5 : five.length = 5) (f : Fit five) (hl : ¬ (ranksM five).length < 5) : (ranksM five).length = 5 ∧ (ranksM five).Pairwise (fun a b => b < a) ∧ (∀ m ∈ shapeM five, m = 1) := by
  have rl := rows_len five
  have l5 : (ranksM five).length = 5 := by unfold ranksM at hl ⊢; rw [List.length_map] at hl ⊢; omega
  have ones : ∀ m ∈ shapeM five, m = 1 := by
    have ss := shape_sum five
    have sm := shape_mem f.1
    have sl : (shapeM five).length = 5 := by rw [← ranks_len]; exact l5
    rw [h5] at ss
    generalize shapeM five = sh at ss sm sl
    match sh, sl with
    | [a, b, c, d, e], _ =>
      have := sm a (by simp); have := sm b (by simp); have := sm c (by simp); have := sm d (by simp); have := sm e (by simp)
      simp at ss
      intro m hm
      simp at hm
      omega
  refine ⟨l5, ?_, ones⟩
  have desc := rowsL_desc (five.map (·.1))
  rw [ranks_eqL f]
  rw [List.pairwise_map] at desc
  have cnt : ∀ r ∈ ranksL (five.map (·.1)), ((five.map (·.1)).count r : Int) = 1 := fun r hr => by
    refine ones _ ?_
    unfold shapeM
    rw [rows_eqL f, List.map_map]
    exact List.mem_map.mpr ⟨r, hr, rfl⟩
  refine List.Pairwise.imp_of_mem (fun {a b} ha hb h => ?_) desc
  obtain ⟨h1, h2⟩ := h
  rw [cnt a ha, cnt b hb] at h1 h2
  unfold leP at h1
  simp at h1
  have : a ≠ b := fun e => h2 (by rw [e])
  omega
theorem top_eqL {rs : List Int} (h5 : rs.length = 5) (hd : rs.Pairwise fun a b => b < a) : topM rs = topL rs := by
  unfold topM topL
  by_cases c : rs = [14, 5, 4, 3, 2]
  · rw [if_pos c, if_pos c]
  · rw [if_neg c, if_neg c]
    match rs, h5, hd with
    | [a, b, c, d, e], _, hd =>
      have e1 : (List.range 5).map (fun k : Nat => ([a, b, c, d, e] : List Int).headD 0 - k) = [a - 0, a - 1, a - 2, a - 3, a - 4] := rfl
      rw [e1]
      simp only [List.pairwise_cons, List.mem_cons, List.not_mem_nil, or_false, forall_eq_or_imp, forall_eq] at hd
      show (if [a, b, c, d, e] = [a - 0, a - 1, a - 2, a - 3, a - 4] then a else 0) = (if a - e = 4 then a else 0)
      by_cases z : a - e = 4
      · rw [if_pos z, if_pos (by
          have h1 : b = a - 1 := by omega
          have h2 : c = a - 2 := by omega
          have h3 : d = a - 3 := by omega
          have h4 : e = a - 4 := by omega
          rw [h1, h2, h3, h4]; simp)]
      · rw [if_neg z, if_neg (fun q => z (by simp at q; omega))]
theorem alike_count {five : List Card} {c : Card} (h5 : five.length = 5) (hc : five.head? = some c) : decide (((five.map (·.2)).count c.2 : Int) = 5) = alikeM five := by
  have iff : ((five.map (·.2)).count c.2 : Int) = 5 ↔ alikeM five = true := by
    rw [alike_iff]
    have l : (five.map (·.2)).length = 5 := by rw [List.length_map]; exact h5
    constructor
    · intro h
      have : (five.map (·.2)).count c.2 = (five.map (·.2)).length := by omega
      exact ⟨c.2, ⟨fun e => (by rw [e] at l; cases l), fun x hx => (List.count_eq_length.mp this x hx).symm⟩⟩
    · rintro ⟨s, _, h⟩
      have hcs : c.2 = s := by
        cases five with
        | nil => cases hc
        | cons x t => cases hc; exact h _ List.mem_cons_self
      have : (five.map (·.2)).count c.2 = (five.map (·.2)).length := List.count_eq_length.mpr fun x hx => by rw [hcs, h x hx]
      omega
  cases e : alikeM five
  · exact decide_eq_false fun z => by rw [iff.mp z] at e; cases e
  · exact decide_eq_true (iff.mpr e)
end Cd
set_option Elab.async false
set_option linter.all false
set_option maxRecDepth 100000
set_option maxHeartbeats 4000000
namespace Cd
open PySem L2
end Cd
set_option Elab.async false
set_option linter.all false
set_option maxRecDepth 100000
set_option maxHeartbeats 4000000
namespace Cd
open PySem L2
end Cd
set_option Elab.async false
set_option linter.all false
set_option maxRecDepth 100000
set_option maxHeartbeats 4000000
namespace Cd
open PySem L2
/-- the things from place a to place b -/
def seg {α : Type} (xs : List α) (a b : Nat) : List α := (xs.drop a).take (b - a)
theorem seg_app {α : Type} {xs t : List α} {a b : Nat} (hab : a ≤ b) (h : t.Sublist (xs.drop b)) : (seg xs a b ++ t).Sublist (xs.drop a) := by
  have e : seg xs a b ++ xs.drop b = xs.drop a := by
    unfold seg
    have : xs.drop b = (xs.drop a).drop (b - a) := by rw [List.drop_drop]; congr 1; omega
    rw [this]
    exact List.take_append_drop _ _
  rw [← e]
  exact (List.Sublist.refl _).append h
def holesM (cs : List Card) (s : Nat) : List (List Card) := (List.range s).map fun a => seg cs (2 * a) (2 * a + 2)
section
variable {fns : Nat → Option FnD} {h : Hi} {cf : Calls} {q k n m : Nat}
end
end Cd
set_option Elab.async false
set_option linter.all false
set_option maxRecDepth 100000
set_option maxHeartbeats 4000000
namespace Cd
open PySem L2
def s71_0 : S := .set 3 (.op2d .mod (.op2d .add (.var 0) (.op2d .mul (.lit (.int 104729)) (.var 1))) (.lit (.int 4294967291)))
def s71_1 : S := .set 3 (.op2d .mod (.op2d .mul (.op2d .mod (.op2d .mul (.var 3) (.var 3)) (.lit (.int 4294967279))) (.lit (.int 48271))) (.lit (.int 4294967291)))
def s71_2 : S := .ret (.op2d .mod (.op2d .fdiv (.var 3) (.lit (.int 64))) (.var 2))
def ls71 : List S := [s71_0, s71_1, s71_2]
theorem b71_eq : b71 = ls71 := rfl
def s72_0 : S := .if_ (.val (.op2 .lt (.var 1) (.op1 .len (.var 0)))) [.ret (.op2b .ix (.var 0) (.var 1))] []
def s72_1 : S := .ret (.lit (.int 0))
def ls72 : List S := [s72_0, s72_1]
theorem b72_eq : b72 = ls72 := rfl
def s73_0 : S := .if_ (.val (.op1 .isNone (.var 1))) [.ret (.op1 .isNone (.var 0))] []
def s73_1 : S := .if_ (.val (.isi (.var 1) .bool)) [.ret (.and_ (.isi (.var 0) .bool) (.op2 .eq (.var 0) (.var 1)))] []
def s73_2_0 : S := .if_ (.or_ (.not_ (.val (.isi (.var 0) .tuple))) (.val (.op2 .ne (.op1 .len (.var 0)) (.op1 .len (.var 1))))) [.ret (.lit (.bool false))] []
def s73_2_1 : S := .ret (.op1 .all (.comp [2, 3] (.tup [(.name 2), (.name 3)]) (.zip (.var 0) (.var 1)) [] (.call 73 [(.var 2), (.var 3)])))
def ls73_2 : List S := [s73_2_0, s73_2_1]
def s73_2 : S := .if_ (.val (.isi (.var 1) .tuple)) ls73_2 []
def s73_3 : S := .if_ (.val (.isi (.var 1) .str)) [.ret (.and_ (.isi (.var 0) .str) (.op2 .eq (.var 0) (.var 1)))] []
def s73_4 : S := .ret (.and_ (.isi (.var 0) .int) (.and_ (.not_ (.isi (.var 0) .bool)) (.op2 .eq (.var 0) (.var 1))))
def ls73 : List S := [s73_0, s73_1, s73_2, s73_3, s73_4]
theorem b73_eq : b73 = ls73 := rfl
def s74_0 : S := .set 2 (.mk (.lst []))
def s74_1_0 : S := .set 2 (.mk (.catB 2 (.comp [7] (.name 7) (.e (.lit (.str ("cdhs" : Str)))) [] (.tup [(.var 3), (.var 7)]))))
def ls74_1 : List S := [s74_1_0]
def s74_1 : S := .for_ (.name 3) (.rng2 (.lit (.int 2)) (.lit (.int 15))) ls74_1
def s74_2 : S := .set 4 (.tup [])
def s74_3 : S := .set 5 (.lit (.int 0))
def s74_4_0 : S := .if_ (.val (.op2 .lt (.var 6) (.op1 .len (.var 0)))) [.set 5 (.op2b .ix (.var 0) (.var 6))] []
def s74_4_1 : S := .set 4 (.op2d .add (.var 4) (.tup [(.pop 2 (.call 71 [(.var 5), (.op2d .add (.var 6) (.lit (.int 1))), (.op1 .len (.var 2))]))]))
def ls74_4 : List S := [s74_4_0, s74_4_1]
def s74_4 : S := .for_ (.name 6) (.rng1 (.var 1)) ls74_4
def s74_5 : S := .ret (.var 4)
def ls74 : List S := [s74_0, s74_1, s74_2, s74_3, s74_4, s74_5]
theorem b74_eq : b74 = ls74 := rfl
def s75_0 : S := .set 2 (.mk (.lst []))
def s75_1 : S := .set 3 (.lit (.int 0))
def s75_2 : S := .if_ (.val (.var 0)) [.set 3 (.op2d .mod (.op2b .ix (.var 0) (.lit (.int 0))) (.lit (.int 9)))] []
def s75_3_0 : S := .set 2 (.mk (.catB 2 (.comp [8] (.name 8) (.e (.lit (.str ("cdhs" : Str)))) [] (.tup [(.var 4), (.var 8)]))))
def ls75_3 : List S := [s75_3_0]
def s75_3 : S := .for_ (.name 4) (.rng2 (.op2d .add (.var 3) (.lit (.int 2))) (.op2d .add (.var 3) (.lit (.int 7)))) ls75_3
def s75_4 : S := .set 5 (.tup [])
def s75_5 : S := .set 6 (.lit (.int 0))
def s75_6_0 : S := .if_ (.val (.op2 .lt (.op2d .add (.var 7) (.lit (.int 1))) (.op1 .len (.var 0)))) [.set 6 (.op2b .ix (.var 0) (.op2d .addI (.var 7) (.lit (.int 1))))] []
def s75_6_1 : S := .set 5 (.op2d .add (.var 5) (.tup [(.pop 2 (.call 71 [(.var 6), (.lit (.int 1)), (.op1 .len (.var 2))]))]))
def ls75_6 : List S := [s75_6_0, s75_6_1]
def s75_6 : S := .for_ (.name 7) (.rng1 (.var 1)) ls75_6
def s75_7 : S := .ret (.var 5)
def ls75 : List S := [s75_0, s75_1, s75_2, s75_3, s75_4, s75_5, s75_6, s75_7]
theorem b75_eq : b75 = ls75 := rfl
def s76_0 : S := .set 1 (.mk (.op2b .rep (.lst [(.lit (.int 0))]) (.lit (.int 15))))
def s76_1_0 : S := .setIx (.var 1) (.var 2) (.op2d .add (.op2b .ix (.var 1) (.var 2)) (.lit (.int 1)))
def ls76_1 : List S := [s76_1_0]
def s76_1 : S := .for_ (.tup [(.name 2), (.name 3)]) (.e (.var 0)) ls76_1
def s76_2 : S := .set 4 (.lst [])
def s76_3_0 : S := .set 4 (.op2d .add (.var 4) (.comp [2] (.name 2) (.rng3 (.lit (.int 14)) (.lit (.int 1))) [(.val (.op2 .eq (.op2b .ix (.var 1) (.var 2)) (.var 5)))] (.var 2)))
def ls76_3 : List S := [s76_3_0]
def s76_3 : S := .for_ (.name 5) (.e (.tup [(.lit (.int 4)), (.lit (.int 3)), (.lit (.int 2)), (.lit (.int 1))])) ls76_3
def s76_4 : S := .set 6 (.op1 .rev (.op1 .sorted (.compB 1 [5] (.name 5) [(.val (.op2 .gt (.var 5) (.lit (.int 0))))] (.var 5))))
def s76_5 : S := .set 7 (.lst [(.lst [(.lit (.int 2)), (.lit (.int 1)), (.lit (.int 1)), (.lit (.int 1))]), (.lst [(.lit (.int 2)), (.lit (.int 2)), (.lit (.int 1))]), (.lst [(.lit (.int 3)), (.lit (.int 1)), (.lit (.int 1))]), (.lst [(.lit (.int 3)), (.lit (.int 2))]), (.lst [(.lit (.int 4)), (.lit (.int 1))])])
def s76_6 : S := .if_ (.val (.op2 .isIn (.var 6) (.var 7))) [.ret (.tup [(.op2 .ix (.lst [(.lit (.int 1)), (.lit (.int 2)), (.lit (.int 3)), (.lit (.int 6)), (.lit (.int 7))]) (.op2b .index (.var 7) (.var 6))), (.op1 .tuple (.var 4))])] []
def s76_7 : S := .set 8 (.comp [2, 3] (.tup [(.name 2), (.name 3)]) (.e (.var 0)) [] (.var 3))
def s76_8 : S := .set 9 (.op2 .eq (.op2b .count (.var 8) (.op2d .ix (.var 8) (.lit (.int 0)))) (.lit (.int 5)))
def s76_9 : S := .set 10 (.lit (.int 0))
def s76_10 : S := .if_ (.val (.op2 .eq (.op2d .sub (.op2b .ix (.var 4) (.lit (.int 0))) (.op2b .ix (.var 4) (.lit (.int 4)))) (.lit (.int 4)))) [.set 10 (.op2b .ix (.var 4) (.lit (.int 0)))] []
def s76_11 : S := .if_ (.val (.op2 .eq (.var 4) (.lst [(.lit (.int 14)), (.lit (.int 5)), (.lit (.int 4)), (.lit (.int 3)), (.lit (.int 2))]))) [.set 10 (.lit (.int 5))] []
def s76_12 : S := .if_ (.val (.op2 .gt (.var 10) (.lit (.int 0)))) [.ret (.tup [(.ite (.val (.var 9)) (.lit (.int 8)) (.lit (.int 4))), (.tup [(.var 10)])])] []
def s76_13 : S := .ret (.tup [(.ite (.val (.var 9)) (.lit (.int 5)) (.lit (.int 0))), (.op1 .tuple (.var 4))])
def ls76 : List S := [s76_0, s76_1, s76_2, s76_3, s76_4, s76_5, s76_6, s76_7, s76_8, s76_9, s76_10, s76_11, s76_12, s76_13]
theorem b76_eq : b76 = ls76 := rfl
end Cd
set_option Elab.async false
set_option linter.all false
set_option maxRecDepth 100000
set_option maxHeartbeats 4000000
namespace Cd
open PySem L2
def DeckR (rs : List Int) (cs : List Card) : Prop := ∃ rest, (cs ++ rest).Perm (deckOf rs)
theorem deckR_count {rs : List Int} {cs : List Card} (nd : rs.Nodup) (d : DeckR rs cs) (r : Int) : (cs.map (·.1)).count r ≤ 4 := by
  obtain ⟨rest, p⟩ := d
  have h1 := (p.map (·.1)).count_eq r
  rw [List.map_append, List.count_append, deck_count] at h1
  have := List.nodup_iff_count.mp nd r
  omega
theorem deckR_mem {rs : List Int} {cs : List Card} (d : DeckR rs cs) : ∀ c ∈ cs, c.1 ∈ rs ∧ c.2 ∈ suitsL := by
  obtain ⟨rest, p⟩ := d
  intro c hc
  have hm := p.mem_iff.mp (List.mem_append_left rest hc)
  unfold deckOf at hm
  obtain ⟨r, hr, h2⟩ := List.mem_flatMap.mp hm
  obtain ⟨s, hs, rfl⟩ := List.mem_map.mp h2
  exact ⟨hr, hs⟩
theorem deckR_fit {rs : List Int} {cs : List Card} (nd : rs.Nodup) (hr : ∀ r ∈ rs, 2 ≤ r ∧ r ≤ 14) (d : DeckR rs cs) : Fit cs :=
  ⟨deckR_count nd d, fun c hc => hr _ (deckR_mem d c hc).1⟩
/-- the ranks near one another -/
def near (low : Nat) : List Int := (List.range 5).map fun i : Nat => (low : Int) + 2 + (i : Int)
theorem near_nd (low : Nat) : (near low).Nodup := by
  unfold near List.Nodup
  rw [List.pairwise_map]
  exact List.pairwise_lt_range.imp fun h => by omega
theorem near_rng {low : Nat} (h : low < 9) : ∀ r ∈ near low, 2 ≤ r ∧ r ≤ 14 := fun r hr => by
  obtain ⟨i, hi, rfl⟩ := List.mem_map.mp hr
  have := List.mem_range.mp hi
  omega
section
variable {fns : Nat → Option FnD} {h : Hi} {cf : Calls} {q k n m : Nat} {env : Ev}
@[simp] theorem ev_catB {i : Nat} {b : E} : evalE cf env (.catB i b) h = match lstOf env h i with
    | none => .stuck
    | some _ => ((evalE cf env b h).bind unP).bind fun y h1 => catBK env i y h1 := id rfl
theorem d_eval (F : fns 71 = some d71) (c p : Int) {m : Int} (hm : 0 < m) : ∃ v, 0 ≤ v ∧ v < m ∧ callF fns (q + 1) 71 [.p (.int c), .p (.int p), .p (.int m)] h = .ok (.p (.int v)) h := by
  let n1 := (c + 104729 * p).fmod 4294967291
  let n2 := ((n1 * n1).fmod 4294967279 * 48271).fmod 4294967291
  refine ⟨(n2.fdiv 64).fmod m, (fmod_ix hm).1, (fmod_ix hm).2, ?_⟩
  rw [call_eq F rfl]
  generalize callF fns q = cf
  have m1 : opf2 .mul (.int 104729) (.int p) = some (.int (104729 * p)) := o_mul (.inl (s64_c (by decide)))
  have q1 : opf2 .mul (.int n1) (.int n1) = some (.int (n1 * n1)) := o_mul (.inl (s64_fmod (by decide) (by decide)))
  have m3 : ∀ (x c : Int), c.natAbs < 18446744073709551616 → opf2 .mul (.int x) (.int c) = some (.int (x * c)) := fun x c hc => o_mul (.inr (s64_c hc))
  have m4 : ∀ x : Int, opf2 .mod (.int x) (.int 4294967291) = some (.int (x.fmod 4294967291)) := fun x => o_mod (by decide)
  have m5 : ∀ x : Int, opf2 .mod (.int x) (.int 4294967279) = some (.int (x.fmod 4294967279)) := fun x => o_mod (by decide)
  have m6 : ∀ x : Int, opf2 .fdiv (.int x) (.int 64) = some (.int (x.fdiv 64)) := fun x => o_div (by decide) (by decide)
  have m7 : ∀ x : Int, opf2 .mod (.int x) (.int m) = some (.int (x.fmod m)) := fun x => o_mod (by omega)
  have m8 := fun x => m3 x 48271 (by decide)
  have t0 : evalS cf s71_0 [some (.p (.int c)), some (.p (.int p)), some (.p (.int m)), none] h = .ok .nx [some (.p (.int c)), some (.p (.int p)), some (.p (.int m)), some (.p (.int n1))] h := by
    unfold s71_0
    simp only [st_set, ev_op2d, ev_var, ev_lit, slot_0, slot_s, ofO_some, R.bind_ok, unP_p, m1, Option.map_some, o_add, m4, R.toS_ok, setSlot_0, setSlot_s]
    rfl
  have t1 : evalS cf s71_1 [some (.p (.int c)), some (.p (.int p)), some (.p (.int m)), some (.p (.int n1))] h = .ok .nx [some (.p (.int c)), some (.p (.int p)), some (.p (.int m)), some (.p (.int n2))] h := by
    have e2 : ((n1 * n1).fmod 4294967279 * 48271).fmod 4294967291 = n2 := rfl
    generalize n2 = b at e2
    generalize n1 = a at q1 e2
    unfold s71_1
    simp only [st_set, ev_op2d, ev_var, ev_lit, slot_0, slot_s, ofO_some, R.bind_ok, unP_p, q1, m5, m8, Option.map_some, m4, e2, R.toS_ok, setSlot_0, setSlot_s]
  show finF h.length (evalSs cf b71 [some (.p (.int c)), some (.p (.int p)), some (.p (.int m)), none] h) = _
  rw [b71_eq]
  unfold ls71
  rw [ss_cons, t0, RS.bind_nx, ss_cons, t1, RS.bind_nx, ss_cons]
  generalize n2 = b
  simp only [s71_2, st_ret, ev_op2d, ev_var, ev_lit, slot_0, slot_s, ofO_some, R.bind_ok, unP_p, m6, Option.map_some, m7, R.toS_ok, RS.bind_rt, fin_rp, List.take_length]
theorem cell_eval (F : fns 72 = some d72) (ns : List Int) {j : Nat} : callF fns (q + 1) 72 [.p (.list (ns.map .int)), .p (.int (j : Int))] h = .ok (.p (.int (ns.getD j 0))) h := by
  rw [call_eq F rfl]
  generalize callF fns q = cf
  show finF h.length (evalSs cf b72 [some (.p (.list (ns.map .int))), some (.p (.int (j : Int)))] h) = _
  rw [b72_eq]
  unfold ls72
  have ln : (((ns.map PyData.int).length : Nat) : Int) = (ns.length : Int) := by rw [List.length_map]
  by_cases c : j < ns.length
  · have z : decide ((j : Int) < (ns.length : Int)) = true := decide_eq_true (by omega)
    have gx : atI (ns.map PyData.int) ((j : Nat) : Int) = some (.int (ns.getD j 0)) := atI_nat (by simp [c])
    simp only [ss_cons, s72_0, st_if, et_val, bor_op2, ev_op2, ev_var, slot_0, slot_s, ofO_some, R.bind_ok, unP_p, bor_op1, ev_op1, bor_var, borV_p, o_lenL, ln, Option.map_some, o_lt, z, truth_b, R.toS_ok, if_true, st_ret, ev_op2b, o_ixL, gx, RS.bind_rt, fin_rp, List.take_length]
  · have z : decide ((j : Int) < (ns.length : Int)) = false := decide_eq_false (by omega)
    have e : ns.getD j 0 = 0 := by simp [List.getElem?_eq_none (show ns.length ≤ j by omega)]
    rw [e]
    simp only [ss_cons, ss_nil, s72_0, s72_1, st_if, et_val, bor_op2, ev_op2, ev_var, slot_0, slot_s, ofO_some, R.bind_ok, unP_p, bor_op1, ev_op1, bor_var, borV_p, o_lenL, ln, Option.map_some, o_lt, z, truth_b, R.toS_ok, Bool.false_eq_true, if_false, RS.bind_nx, st_ret, ev_lit, RS.bind_rt, fin_rp, List.take_length]
theorem pop_at {left : List Card} {G : Hi} {i j : Nat} (hi : slot env i = some (.ref G.length)) (hj : j < left.length) (hz : left.length < 1000) :
    popK env i (.int (j : Int)) (G ++ [.lst (left.map cardD)]) = .ok (.p (cardD left[j])) (G ++ [.lst ((left.eraseIdx j).map cardD)]) := by
  have ix : ixN (left.map cardD).length ((j : Nat) : Int) = some j := ixN_nat (by rw [List.length_map]; exact hj)
  have gx : (left.map cardD)[j]? = some (cardD left[j]) := by rw [List.getElem?_map, List.getElem?_eq_getElem hj]; rfl
  have er := er_map cardD left j
  have sm : ((j : Nat) : Int).natAbs < 9223372036854775808 := by omega
  unfold popK
  simp only [lstOf_eq, hi, refOf_r, Option.bind_some, listAt_app, Option.map_some, ix, gx, if_pos sm, er, set_app]
abbrev envC4 (cs : List Int) (m : Nat) (v2 v3 v4 v5 v6 : Option Val) : Ev := [some (.p (.list (cs.map .int))), some (.p (.int (m : Int))), v2, v3, v4, v5, v6, none]
theorem comp_suits {i j : Nat} {r : Int} {env1 : Str → Ev} (hb : ∀ z, bindT (.name j) (.str z) (wipeE env [j]) = some (env1 z)) (hi : ∀ z, slot (env1 z) i = some (.p (.int r))) (hj : ∀ z, slot (env1 z) j = some (.p (.str z))) :
    evalE cf env (.comp [j] (.name j) (.e (.lit (.str ("cdhs" : Str)))) [] (.tup [(.var i), (.var j)])) h = .ok (.p (.list ((suitsL.map fun z => (r, z)).map cardD))) h := by
  rw [List.map_map]
  refine comp_all PyData.str _ (by simp only [es_e, ev_lit, R.bind_ok, unP_p, items_suits, ofO_some]) (by decide) fun z hz => ⟨env1 z, hb z, ?_⟩
  simp only [ev_tup, eps_cons, eps_nil, ev_var, hi, hj, ofO_some, R.bind_ok, unP_p]
  rfl
theorem loop74a {cs : List Int} {m : Nat} {v4 v5 v6 : Option Val} : ∀ (rs done : List Int) (G : Hi) (v3 : Option Val), h.length ≤ G.length → G.take h.length = h → done.length + rs.length < 100 →
    ∃ (G' : Hi) (w3 : Option Val), h.length ≤ G'.length ∧ G'.take h.length = h ∧ forL (evalSs cf ls74_1) (bindT (.name 3)) (rs.map .int) (envC4 cs m (some (.ref G.length)) v3 v4 v5 v6) (G ++ [.lst ((deckOf done).map cardD)]) =
      .ok .nx (envC4 cs m (some (.ref G'.length)) w3 v4 v5 v6) (G' ++ [.lst ((deckOf (done ++ rs)).map cardD)])
  | [], done, G, v3, hG, hT, _ => ⟨G, v3, hG, hT, by rw [List.append_nil]; rfl⟩
  | r :: rs, done, G, v3, hG, hT, hl => by
    rw [List.length_cons] at hl
    obtain ⟨G', w3, g1, g2, e⟩ := loop74a (cs := cs) (m := m) (v4 := v4) (v5 := v5) (v6 := v6) rs (done ++ [r]) (G ++ [.lst ((deckOf done).map cardD)]) (some (.p (.int r))) (by simp; omega) (by rw [List.take_append_of_le_length hG]; exact hT) (by simp; omega)
    refine ⟨G', w3, g1, g2, ?_⟩
    rw [List.append_assoc done, List.singleton_append] at e
    rw [List.map_cons]
    unfold forL
    have eb : bindT (.name 3) (.int r) (envC4 cs m (some (.ref G.length)) v3 v4 v5 v6) = some (envC4 cs m (some (.ref G.length)) (some (.p (.int r))) v4 v5 v6) := by
      simp only [bt_name, setSlot_0, setSlot_s]
    rw [eb]
    have c1 := comp_suits (cf := cf) (h := G ++ [.lst ((deckOf done).map cardD)]) (env := envC4 cs m (some (.ref G.length)) (some (.p (.int r))) v4 v5 v6) (i := 3) (j := 7) (r := r) (env1 := fun z => [some (.p (.list (cs.map .int))), some (.p (.int (m : Int))), some (.ref G.length), some (.p (.int r)), v4, v5, v6, some (.p (.str z))]) (fun z => by simp) (fun z => rfl) (fun z => rfl)
    have sz : ((deckOf done).map cardD).length + ((suitsL.map fun s => (r, s)).map cardD).length ≤ sizeLine := by
      rw [List.length_map, List.length_map, List.length_map, deck_len]
      exact sz_ok (by show 4 * done.length + 4 ≤ 1000; omega)
    have ct : catD (.list ((deckOf done).map cardD)) (.list ((suitsL.map fun s => (r, s)).map cardD)) = some (.list ((deckOf (done ++ [r])).map cardD)) := by
      unfold catD
      simp only
      rw [if_pos sz, deck_snoc, List.map_append]
    have st : evalSs cf ls74_1 (envC4 cs m (some (.ref G.length)) (some (.p (.int r))) v4 v5 v6) (G ++ [.lst ((deckOf done).map cardD)]) = .ok .nx (envC4 cs m (some (.ref (G ++ [Ob.lst ((deckOf done).map cardD)]).length)) (some (.p (.int r))) v4 v5 v6) (G ++ [.lst ((deckOf done).map cardD)] ++ [.lst ((deckOf (done ++ [r])).map cardD)]) := by
      unfold ls74_1 s74_1_0
      rw [ss_cons, st_set, ev_mk, ev_catB]
      simp only [lstOf_eq, slot_0, slot_s, refOf_r, Option.bind_some, listAt_app, Option.map_some]
      rw [c1]
      simp only [R.bind_ok, unP_p, catBK, lstOf_eq, slot_0, slot_s, refOf_r, Option.bind_some, listAt_app, Option.map_some, ct, ofO_some, mkK, R.toS_ok, setSlot_0, setSlot_s, RS.bind_nx, ss_nil]
    simp only [st]
    exact e
theorem loop74b (F71 : fns 71 = some d71) {cs : List Int} {m : Nat} {v3 : Option Val} {G : Hi} {deck : List Card} (hd : deck.length < 900) : ∀ (mm n : Nat) (left got : List Card) (c : Int) (v6 : Option Val), mm ≤ left.length → (got ++ left).Perm deck →
    ∃ (left' got' : List Card) (c' : Int) (w6 : Option Val), (got' ++ left').Perm deck ∧ got'.length = got.length + mm ∧ forL (evalSs (callF fns (q + 1)) ls74_4) (bindT (.name 6)) ((List.range' n mm).map natD) (envC4 cs m (some (.ref G.length)) v3 (some (.p (.tuple (got.map cardD)))) (some (.p (.int c))) v6) (G ++ [.lst (left.map cardD)]) =
      .ok .nx (envC4 cs m (some (.ref G.length)) v3 (some (.p (.tuple (got'.map cardD)))) (some (.p (.int c'))) w6) (G ++ [.lst (left'.map cardD)])
  | 0, n, left, got, c, v6, _, p => ⟨left, got, c, v6, p, rfl, rfl⟩
  | mm + 1, n, left, got, c, v6, hl, p => by
    have pl := p.length_eq
    rw [List.length_append] at pl
    obtain ⟨c1, hc1⟩ : ∃ c1, c1 = if n < cs.length then cs.getD n 0 else c := ⟨_, rfl⟩
    obtain ⟨v, v0, v1, ev⟩ := d_eval (q := q) (h := G ++ [.lst (left.map cardD)]) F71 c1 ((n : Int) + 1) (m := (left.length : Int)) (by omega)
    obtain ⟨j, rfl⟩ := Int.eq_ofNat_of_zero_le v0
    have hj : j < left.length := by omega
    have ep := er_perm left j hj
    have el : (left.eraseIdx j).length = left.length - 1 := List.length_eraseIdx_of_lt hj
    obtain ⟨left', got', c', w6, p', l', e⟩ := loop74b F71 (cs := cs) (m := m) (v3 := v3) (G := G) hd mm (n + 1) (left.eraseIdx j) (got ++ [left[j]]) c1 (some (.p (natD n))) (by omega) (by
      refine List.Perm.trans ?_ p
      rw [List.append_assoc, List.singleton_append]
      exact ep.append_left got)
    refine ⟨left', got', c', w6, p', by rw [l']; simp; omega, ?_⟩
    rw [List.range'_succ, List.map_cons]
    unfold forL
    let Y : Option Val → Option Val → Ev := fun v4 v5 => envC4 cs m (some (.ref G.length)) v3 v4 v5 (some (.p (natD n)))
    have eb : bindT (.name 6) (natD n) (envC4 cs m (some (.ref G.length)) v3 (some (.p (.tuple (got.map cardD)))) (some (.p (.int c))) v6) = some (Y (some (.p (.tuple (got.map cardD)))) (some (.p (.int c)))) := by
      simp only [bt_name, setSlot_0, setSlot_s, Y]
    rw [eb]
    generalize callF fns (q + 1) = cf at ev e
    have u0 : evalS cf s74_4_0 (Y (some (.p (.tuple (got.map cardD)))) (some (.p (.int c)))) (G ++ [.lst (left.map cardD)]) = .ok .nx (Y (some (.p (.tuple (got.map cardD)))) (some (.p (.int c1)))) (G ++ [.lst (left.map cardD)]) := by
      unfold s74_4_0
      have ln : (((cs.map PyData.int).length : Nat) : Int) = (cs.length : Int) := by rw [List.length_map]
      by_cases d : n < cs.length
      · have z : decide ((n : Int) < (cs.length : Int)) = true := decide_eq_true (by omega)
        have gx : atI (cs.map PyData.int) ((n : Nat) : Int) = some (.int c1) := atI_nat (by rw [hc1, if_pos d]; simp [d])
        simp only [st_if, et_val, bor_op2, ev_op2, ev_var, Y, slot_0, slot_s, natD, ofO_some, R.bind_ok, unP_p, bor_op1, ev_op1, bor_var, borV_p, o_lenL, ln, Option.map_some, o_lt, z, truth_b, R.toS_ok, if_true, ss_cons, ss_nil, st_set, ev_op2b, o_ixL, gx, setSlot_0, setSlot_s, RS.bind_nx]
      · have z : decide ((n : Int) < (cs.length : Int)) = false := decide_eq_false (by omega)
        rw [if_neg d] at hc1
        rw [hc1]
        simp only [st_if, et_val, bor_op2, ev_op2, ev_var, Y, slot_0, slot_s, natD, ofO_some, R.bind_ok, unP_p, bor_op1, ev_op1, bor_var, borV_p, o_lenL, ln, Option.map_some, o_lt, z, truth_b, R.toS_ok, Bool.false_eq_true, if_false, ss_nil]
    have pp := pop_at (env := Y (some (.p (.tuple (got.map cardD)))) (some (.p (.int c1)))) (left := left) (G := G) (i := 2) rfl hj (by omega)
    have ln2 : (((left.map cardD).length : Nat) : Int) = (left.length : Int) := by rw [List.length_map]
    have u1 : evalS cf s74_4_1 (Y (some (.p (.tuple (got.map cardD)))) (some (.p (.int c1)))) (G ++ [.lst (left.map cardD)]) = .ok .nx (Y (some (.p (.tuple ((got ++ [left[j]]).map cardD)))) (some (.p (.int c1)))) (G ++ [.lst ((left.eraseIdx j).map cardD)]) := by
      generalize left[j] = x at *
      generalize left.eraseIdx j = l2 at *
      have ad : opf2 .add (.tuple (got.map cardD)) (.tuple [cardD x]) = some (.tuple ((got ++ [x]).map cardD)) := by
        rw [addT_ok (by rw [List.length_map]; simp; omega), List.map_append]; rfl
      unfold s74_4_1
      simp only [Y] at pp
      simp only [st_set, ev_op2d, ev_var, Y, slot_0, slot_s, natD, ofO_some, R.bind_ok, unP_p, ev_tup, eps_cons, eps_nil, ev_pop, lstOf_eq, refOf_r, Option.bind_some, listAt_app, Option.map_some, ev_call, ees_cons, ees_nil, ev_lit, o_add, ev_op1, bor_var, borV_r, o_lenL, ln2, ev]
      simp only [natD] at pp
      simp only [pp, R.bind_ok, unP_p, ad, Option.map_some, ofO_some, R.toS_ok, setSlot_0, setSlot_s]
    have st : evalSs cf ls74_4 (Y (some (.p (.tuple (got.map cardD)))) (some (.p (.int c)))) (G ++ [.lst (left.map cardD)]) = .ok .nx (Y (some (.p (.tuple ((got ++ [left[j]]).map cardD)))) (some (.p (.int c1)))) (G ++ [.lst ((left.eraseIdx j).map cardD)]) := by
      unfold ls74_4
      rw [ss_cons, u0, RS.bind_nx, ss_cons, u1, RS.bind_nx, ss_nil]
    simp only [st]
    exact e
theorem every_rng : rangeD 2 ((15 : Int) - 2).toNat 1 = every.map .int := by rfl
theorem cut_take {G G2 : Hi} {n : Nat} (h : n ≤ G.length) : (G ++ G2).take n = G.take n := List.take_append_of_le_length h
theorem cards74_eval (F71 : fns 71 = some d71) (F74 : fns 74 = some d74) (cs : List Int) {m : Nat} (hm : m ≤ 52) : ∃ got : List Card, got.length = m ∧ DeckR every got ∧ (m = 52 → got.Perm (deckOf every)) ∧ callF fns (q + 2) 74 [.p (.list (cs.map .int)), .p (.int (m : Int))] h = .ok (.p (fivD got)) h := by
  obtain ⟨G, w3, g1, g2, e1⟩ := loop74a (cf := callF fns (q + 1)) (h := h) (cs := cs) (m := m) (v4 := none) (v5 := none) (v6 := none) every [] h none (Nat.le_refl _) (List.take_length) (by decide)
  rw [List.nil_append] at e1
  have d52 : (deckOf every).length = 52 := rfl
  obtain ⟨left', got', c', w6, p', l', e2⟩ := loop74b (q := q) F71 (cs := cs) (m := m) (v3 := w3) (G := G) (deck := deckOf every) (by decide) m 0 (deckOf every) [] 0 none (by omega) (List.Perm.refl _)
  rw [← List.range_eq_range'] at e2
  refine ⟨got', by simpa using l', ⟨left', p'⟩, fun z => ?_, ?_⟩
  · have := p'.length_eq
    rw [List.length_append, l', d52] at this
    have l0 : left' = [] := List.length_eq_zero_iff.mp (by simp at this; omega)
    rw [l0, List.append_nil] at p'
    exact p'
  rw [call_eq F74 rfl]
  generalize callF fns (q + 1) = cf at e1 e2
  show finF h.length (evalSs cf b74 (envC4 cs m none none none none none) h) = _
  rw [b74_eq]
  unfold ls74
  have t0 : evalS cf s74_0 (envC4 cs m none none none none none) h = .ok .nx (envC4 cs m (some (.ref h.length)) none none none none) (h ++ [.lst ((deckOf []).map cardD)]) := by
    unfold s74_0
    simp only [st_set, ev_mk, ev_lst, eps_nil, R.bind_ok, unP_p, mkK, R.toS_ok, setSlot_0, setSlot_s]
    rfl
  have t1 : evalS cf s74_1 (envC4 cs m (some (.ref h.length)) none none none none) (h ++ [.lst ((deckOf []).map cardD)]) = .ok .nx (envC4 cs m (some (.ref G.length)) w3 none none none) (G ++ [.lst ((deckOf every).map cardD)]) := by
    unfold s74_1
    rw [st_for, src_rng2 (i := 2) (j := 15) (by simp) (by simp) (by decide) (by decide), R.toS_ok, every_rng]
    exact e1
  have t2 : evalS cf s74_2 (envC4 cs m (some (.ref G.length)) w3 none none none) (G ++ [.lst ((deckOf every).map cardD)]) = .ok .nx (envC4 cs m (some (.ref G.length)) w3 (some (.p (.tuple []))) none none) (G ++ [.lst ((deckOf every).map cardD)]) := by simp [s74_2]
  have t3 : evalS cf s74_3 (envC4 cs m (some (.ref G.length)) w3 (some (.p (.tuple []))) none none) (G ++ [.lst ((deckOf every).map cardD)]) = .ok .nx (envC4 cs m (some (.ref G.length)) w3 (some (.p (.tuple []))) (some (.p (.int 0))) none) (G ++ [.lst ((deckOf every).map cardD)]) := by simp [s74_3]
  have t4 : evalS cf s74_4 (envC4 cs m (some (.ref G.length)) w3 (some (.p (.tuple []))) (some (.p (.int 0))) none) (G ++ [.lst ((deckOf every).map cardD)]) = .ok .nx (envC4 cs m (some (.ref G.length)) w3 (some (.p (.tuple (got'.map cardD)))) (some (.p (.int c'))) w6) (G ++ [.lst (left'.map cardD)]) := by
    unfold s74_4
    rw [st_for, src_nat (j := m) (by simp) (by omega), R.toS_ok]
    exact e2
  rw [ss_cons, t0, RS.bind_nx, ss_cons, t1, RS.bind_nx, ss_cons, t2, RS.bind_nx, ss_cons, t3, RS.bind_nx, ss_cons, t4, RS.bind_nx, ss_cons]
  simp only [s74_5, st_ret, ev_var, slot_0, slot_s, ofO_some, R.toS_ok, RS.bind_rt, fin_rp, cut_take g1, g2]
  rfl
abbrev envC5 (cs : List Int) (m : Nat) (v2 v3 v4 v5 v6 v7 : Option Val) : Ev := [some (.p (.list (cs.map .int))), some (.p (.int (m : Int))), v2, v3, v4, v5, v6, v7, none]
theorem loop75a {cs : List Int} {m : Nat} {v3 v5 v6 v7 : Option Val} : ∀ (rs done : List Int) (G : Hi) (v4 : Option Val), h.length ≤ G.length → G.take h.length = h → done.length + rs.length < 100 →
    ∃ (G' : Hi) (w4 : Option Val), h.length ≤ G'.length ∧ G'.take h.length = h ∧ forL (evalSs cf ls75_3) (bindT (.name 4)) (rs.map .int) (envC5 cs m (some (.ref G.length)) v3 v4 v5 v6 v7) (G ++ [.lst ((deckOf done).map cardD)]) =
      .ok .nx (envC5 cs m (some (.ref G'.length)) v3 w4 v5 v6 v7) (G' ++ [.lst ((deckOf (done ++ rs)).map cardD)])
  | [], done, G, v4, hG, hT, _ => ⟨G, v4, hG, hT, by rw [List.append_nil]; rfl⟩
  | r :: rs, done, G, v4, hG, hT, hl => by
    rw [List.length_cons] at hl
    obtain ⟨G', w4, g1, g2, e⟩ := loop75a (cs := cs) (m := m) (v3 := v3) (v5 := v5) (v6 := v6) (v7 := v7) rs (done ++ [r]) (G ++ [.lst ((deckOf done).map cardD)]) (some (.p (.int r))) (by simp; omega) (by rw [List.take_append_of_le_length hG]; exact hT) (by simp; omega)
    refine ⟨G', w4, g1, g2, ?_⟩
    rw [List.append_assoc done, List.singleton_append] at e
    rw [List.map_cons]
    unfold forL
    have eb : bindT (.name 4) (.int r) (envC5 cs m (some (.ref G.length)) v3 v4 v5 v6 v7) = some (envC5 cs m (some (.ref G.length)) v3 (some (.p (.int r))) v5 v6 v7) := by
      simp only [bt_name, setSlot_0, setSlot_s]
    rw [eb]
    have c1 := comp_suits (cf := cf) (h := G ++ [.lst ((deckOf done).map cardD)]) (env := envC5 cs m (some (.ref G.length)) v3 (some (.p (.int r))) v5 v6 v7) (i := 4) (j := 8) (r := r) (env1 := fun z => [some (.p (.list (cs.map .int))), some (.p (.int (m : Int))), some (.ref G.length), v3, some (.p (.int r)), v5, v6, v7, some (.p (.str z))]) (fun z => by simp) (fun z => rfl) (fun z => rfl)
    have sz : ((deckOf done).map cardD).length + ((suitsL.map fun s => (r, s)).map cardD).length ≤ sizeLine := by
      rw [List.length_map, List.length_map, List.length_map, deck_len]
      exact sz_ok (by show 4 * done.length + 4 ≤ 1000; omega)
    have ct : catD (.list ((deckOf done).map cardD)) (.list ((suitsL.map fun s => (r, s)).map cardD)) = some (.list ((deckOf (done ++ [r])).map cardD)) := by
      unfold catD
      simp only
      rw [if_pos sz, deck_snoc, List.map_append]
    have st : evalSs cf ls75_3 (envC5 cs m (some (.ref G.length)) v3 (some (.p (.int r))) v5 v6 v7) (G ++ [.lst ((deckOf done).map cardD)]) = .ok .nx (envC5 cs m (some (.ref (G ++ [Ob.lst ((deckOf done).map cardD)]).length)) v3 (some (.p (.int r))) v5 v6 v7) (G ++ [.lst ((deckOf done).map cardD)] ++ [.lst ((deckOf (done ++ [r])).map cardD)]) := by
      unfold ls75_3 s75_3_0
      rw [ss_cons, st_set, ev_mk, ev_catB]
      simp only [lstOf_eq, slot_0, slot_s, refOf_r, Option.bind_some, listAt_app, Option.map_some]
      rw [c1]
      simp only [R.bind_ok, unP_p, catBK, lstOf_eq, slot_0, slot_s, refOf_r, Option.bind_some, listAt_app, Option.map_some, ct, ofO_some, mkK, R.toS_ok, setSlot_0, setSlot_s, RS.bind_nx, ss_nil]
    simp only [st]
    exact e
theorem loop75b (F71 : fns 71 = some d71) {cs : List Int} {m : Nat} {v3 v4 : Option Val} {G : Hi} {deck : List Card} (hd : deck.length < 900) : ∀ (mm n : Nat) (left got : List Card) (c : Int) (v7 : Option Val), mm ≤ left.length → (got ++ left).Perm deck →
    ∃ (left' got' : List Card) (c' : Int) (w7 : Option Val), (got' ++ left').Perm deck ∧ got'.length = got.length + mm ∧ forL (evalSs (callF fns (q + 1)) ls75_6) (bindT (.name 7)) ((List.range' n mm).map natD) (envC5 cs m (some (.ref G.length)) v3 v4 (some (.p (.tuple (got.map cardD)))) (some (.p (.int c))) v7) (G ++ [.lst (left.map cardD)]) =
      .ok .nx (envC5 cs m (some (.ref G.length)) v3 v4 (some (.p (.tuple (got'.map cardD)))) (some (.p (.int c'))) w7) (G ++ [.lst (left'.map cardD)])
  | 0, n, left, got, c, v7, _, p => ⟨left, got, c, v7, p, rfl, rfl⟩
  | mm + 1, n, left, got, c, v7, hl, p => by
    have pl := p.length_eq
    rw [List.length_append] at pl
    obtain ⟨c1, hc1⟩ : ∃ c1, c1 = if n + 1 < cs.length then cs.getD (n + 1) 0 else c := ⟨_, rfl⟩
    obtain ⟨v, v0, v1, ev⟩ := d_eval (q := q) (h := G ++ [.lst (left.map cardD)]) F71 c1 1 (m := (left.length : Int)) (by omega)
    obtain ⟨j, rfl⟩ := Int.eq_ofNat_of_zero_le v0
    have hj : j < left.length := by omega
    have ep := er_perm left j hj
    have el : (left.eraseIdx j).length = left.length - 1 := List.length_eraseIdx_of_lt hj
    obtain ⟨left', got', c', w7, p', l', e⟩ := loop75b F71 (cs := cs) (m := m) (v3 := v3) (v4 := v4) (G := G) hd mm (n + 1) (left.eraseIdx j) (got ++ [left[j]]) c1 (some (.p (natD n))) (by omega) (by
      refine List.Perm.trans ?_ p
      rw [List.append_assoc, List.singleton_append]
      exact ep.append_left got)
    refine ⟨left', got', c', w7, p', by rw [l']; simp; omega, ?_⟩
    rw [List.range'_succ, List.map_cons]
    unfold forL
    let Y : Option Val → Option Val → Ev := fun v5 v6 => envC5 cs m (some (.ref G.length)) v3 v4 v5 v6 (some (.p (natD n)))
    have eb : bindT (.name 7) (natD n) (envC5 cs m (some (.ref G.length)) v3 v4 (some (.p (.tuple (got.map cardD)))) (some (.p (.int c))) v7) = some (Y (some (.p (.tuple (got.map cardD)))) (some (.p (.int c)))) := by
      simp only [bt_name, setSlot_0, setSlot_s, Y]
    rw [eb]
    generalize callF fns (q + 1) = cf at ev e
    have u0 : evalS cf s75_6_0 (Y (some (.p (.tuple (got.map cardD)))) (some (.p (.int c)))) (G ++ [.lst (left.map cardD)]) = .ok .nx (Y (some (.p (.tuple (got.map cardD)))) (some (.p (.int c1)))) (G ++ [.lst (left.map cardD)]) := by
      unfold s75_6_0
      have ln : (((cs.map PyData.int).length : Nat) : Int) = (cs.length : Int) := by rw [List.length_map]
      by_cases d : n + 1 < cs.length
      · have z : decide ((n : Int) + 1 < (cs.length : Int)) = true := decide_eq_true (by omega)
        have gx : atI (cs.map PyData.int) ((n : Int) + 1) = some (.int c1) := by
          have : atI (cs.map PyData.int) ((n + 1 : Nat) : Int) = some (.int c1) := atI_nat (by rw [hc1, if_pos d]; simp [d])
          exact this
        simp only [st_if, et_val, bor_op2, ev_op2, ev_op2d, ev_lit, o_add, o_addI, ev_var, Y, slot_0, slot_s, natD, ofO_some, R.bind_ok, unP_p, bor_op1, ev_op1, bor_var, borV_p, o_lenL, ln, Option.map_some, o_lt, z, truth_b, R.toS_ok, if_true, ss_cons, ss_nil, st_set, ev_op2b, o_ixL, gx, setSlot_0, setSlot_s, RS.bind_nx]
      · have z : decide ((n : Int) + 1 < (cs.length : Int)) = false := decide_eq_false (by omega)
        rw [if_neg d] at hc1
        rw [hc1]
        simp only [st_if, et_val, bor_op2, ev_op2, ev_op2d, ev_lit, o_add, o_addI, ev_var, Y, slot_0, slot_s, natD, ofO_some, R.bind_ok, unP_p, bor_op1, ev_op1, bor_var, borV_p, o_lenL, ln, Option.map_some, o_lt, z, truth_b, R.toS_ok, Bool.false_eq_true, if_false, ss_nil]
    have pp := pop_at (env := Y (some (.p (.tuple (got.map cardD)))) (some (.p (.int c1)))) (left := left) (G := G) (i := 2) rfl hj (by omega)
    have ln2 : (((left.map cardD).length : Nat) : Int) = (left.length : Int) := by rw [List.length_map]
    have u1 : evalS cf s75_6_1 (Y (some (.p (.tuple (got.map cardD)))) (some (.p (.int c1)))) (G ++ [.lst (left.map cardD)]) = .ok .nx (Y (some (.p (.tuple ((got ++ [left[j]]).map cardD)))) (some (.p (.int c1)))) (G ++ [.lst ((left.eraseIdx j).map cardD)]) := by
      generalize left[j] = x at *
      generalize left.eraseIdx j = l2 at *
      have ad : opf2 .add (.tuple (got.map cardD)) (.tuple [cardD x]) = some (.tuple ((got ++ [x]).map cardD)) := by
        rw [addT_ok (by rw [List.length_map]; simp; omega), List.map_append]; rfl
      unfold s75_6_1
      simp only [Y] at pp
      simp only [st_set, ev_op2d, ev_var, Y, slot_0, slot_s, natD, ofO_some, R.bind_ok, unP_p, ev_tup, eps_cons, eps_nil, ev_pop, lstOf_eq, refOf_r, Option.bind_some, listAt_app, Option.map_some, ev_call, ees_cons, ees_nil, ev_lit, o_add, ev_op1, bor_var, borV_r, o_lenL, ln2, ev]
      simp only [natD] at pp
      simp only [pp, R.bind_ok, unP_p, ad, Option.map_some, ofO_some, R.toS_ok, setSlot_0, setSlot_s]
    have st : evalSs cf ls75_6 (Y (some (.p (.tuple (got.map cardD)))) (some (.p (.int c)))) (G ++ [.lst (left.map cardD)]) = .ok .nx (Y (some (.p (.tuple ((got ++ [left[j]]).map cardD)))) (some (.p (.int c1)))) (G ++ [.lst ((left.eraseIdx j).map cardD)]) := by
      unfold ls75_6
      rw [ss_cons, u0, RS.bind_nx, ss_cons, u1, RS.bind_nx, ss_nil]
    simp only [st]
    exact e
theorem near_rngD {low : Nat} : rangeD ((low : Int) + 2) (((low : Int) + 7) - ((low : Int) + 2)).toNat 1 = (near low).map .int := by
  have e : (((low : Int) + 7) - ((low : Int) + 2)).toNat = 5 := by omega
  rw [e]
  unfold near rangeD
  rw [List.map_map]
  rfl
theorem close75_eval (F71 : fns 71 = some d71) (F75 : fns 75 = some d75) (cs : List Int) {m : Nat} (hm : m ≤ 20) : ∃ (low : Nat) (got : List Card), low < 9 ∧ got.length = m ∧ DeckR (near low) got ∧ callF fns (q + 2) 75 [.p (.list (cs.map .int)), .p (.int (m : Int))] h = .ok (.p (fivD got)) h := by
  obtain ⟨low, hlow, t2⟩ : ∃ low : Nat, low < 9 ∧ ∀ (cf : Calls), evalS cf s75_2 (envC5 cs m (some (.ref h.length)) (some (.p (.int 0))) none none none none) (h ++ [.lst ((deckOf []).map cardD)]) = .ok .nx (envC5 cs m (some (.ref h.length)) (some (.p (.int (low : Int)))) none none none none) (h ++ [.lst ((deckOf []).map cardD)]) := by
    cases cs with
    | nil => exact ⟨0, by decide, fun cf => by simp [s75_2]⟩
    | cons c cs =>
      obtain ⟨h0, h1⟩ := fmod_ix (j := c) (show (0 : Int) < 9 by decide)
      obtain ⟨low, hl⟩ := Int.eq_ofNat_of_zero_le h0
      refine ⟨low, by omega, fun cf => ?_⟩
      have md : opf2 .mod (.int c) (.int 9) = some (.int (low : Int)) := by rw [o_mod (by decide), hl]
      unfold s75_2
      simp only [st_if, et_val, bor_var, slot_0, slot_s, borV_p, ev_var, ofO_some, R.bind_ok, unP_p, truth_l, List.map_cons, List.isEmpty_cons, Bool.not_false, R.toS_ok, if_true, ss_cons, ss_nil, st_set, ev_op2d, ev_op2b, ev_lit, o_ixL, atI_c0, Option.map_some, md, setSlot_0, setSlot_s, RS.bind_nx]
      rfl
  obtain ⟨G, w4, g1, g2, e1⟩ := loop75a (cf := callF fns (q + 1)) (h := h) (cs := cs) (m := m) (v3 := some (.p (.int (low : Int)))) (v5 := none) (v6 := none) (v7 := none) (near low) [] h none (Nat.le_refl _) (List.take_length) (by simp [near])
  rw [List.nil_append] at e1
  have d20 : (deckOf (near low)).length = 20 := by rw [deck_len]; simp [near]
  obtain ⟨left', got', c', w7, p', l', e2⟩ := loop75b (q := q) F71 (cs := cs) (m := m) (v3 := some (.p (.int (low : Int)))) (v4 := w4) (G := G) (deck := deckOf (near low)) (by omega) m 0 (deckOf (near low)) [] 0 none (by omega) (List.Perm.refl _)
  rw [← List.range_eq_range'] at e2
  refine ⟨low, got', hlow, by simpa using l', ⟨left', p'⟩, ?_⟩
  rw [call_eq F75 rfl]
  have t2' := t2 (callF fns (q + 1))
  generalize callF fns (q + 1) = cf at e1 e2 t2'
  show finF h.length (evalSs cf b75 (envC5 cs m none none none none none none) h) = _
  rw [b75_eq]
  unfold ls75
  have t0 : evalS cf s75_0 (envC5 cs m none none none none none none) h = .ok .nx (envC5 cs m (some (.ref h.length)) none none none none none) (h ++ [.lst ((deckOf []).map cardD)]) := by
    unfold s75_0
    simp only [st_set, ev_mk, ev_lst, eps_nil, R.bind_ok, unP_p, mkK, R.toS_ok, setSlot_0, setSlot_s]
    rfl
  have t1 : evalS cf s75_1 (envC5 cs m (some (.ref h.length)) none none none none none) (h ++ [.lst ((deckOf []).map cardD)]) = .ok .nx (envC5 cs m (some (.ref h.length)) (some (.p (.int 0))) none none none none) (h ++ [.lst ((deckOf []).map cardD)]) := by simp [s75_1]
  have t3 : evalS cf s75_3 (envC5 cs m (some (.ref h.length)) (some (.p (.int (low : Int)))) none none none none) (h ++ [.lst ((deckOf []).map cardD)]) = .ok .nx (envC5 cs m (some (.ref G.length)) (some (.p (.int (low : Int)))) w4 none none none) (G ++ [.lst ((deckOf (near low)).map cardD)]) := by
    unfold s75_3
    rw [st_for, src_rng2 (i := (low : Int) + 2) (j := (low : Int) + 7) (by simp) (by simp) (rngOk_small (by omega) (by omega)) (rngOk_small (by omega) (by omega)), R.toS_ok, near_rngD]
    exact e1
  have t4 : evalS cf s75_4 (envC5 cs m (some (.ref G.length)) (some (.p (.int (low : Int)))) w4 none none none) (G ++ [.lst ((deckOf (near low)).map cardD)]) = .ok .nx (envC5 cs m (some (.ref G.length)) (some (.p (.int (low : Int)))) w4 (some (.p (.tuple []))) none none) (G ++ [.lst ((deckOf (near low)).map cardD)]) := by simp [s75_4]
  have t5 : evalS cf s75_5 (envC5 cs m (some (.ref G.length)) (some (.p (.int (low : Int)))) w4 (some (.p (.tuple []))) none none) (G ++ [.lst ((deckOf (near low)).map cardD)]) = .ok .nx (envC5 cs m (some (.ref G.length)) (some (.p (.int (low : Int)))) w4 (some (.p (.tuple []))) (some (.p (.int 0))) none) (G ++ [.lst ((deckOf (near low)).map cardD)]) := by simp [s75_5]
  have t6 : evalS cf s75_6 (envC5 cs m (some (.ref G.length)) (some (.p (.int (low : Int)))) w4 (some (.p (.tuple []))) (some (.p (.int 0))) none) (G ++ [.lst ((deckOf (near low)).map cardD)]) = .ok .nx (envC5 cs m (some (.ref G.length)) (some (.p (.int (low : Int)))) w4 (some (.p (.tuple (got'.map cardD)))) (some (.p (.int c'))) w7) (G ++ [.lst (left'.map cardD)]) := by
    unfold s75_6
    rw [st_for, src_nat (j := m) (by simp) (by omega), R.toS_ok]
    exact e2
  rw [ss_cons, t0, RS.bind_nx, ss_cons, t1, RS.bind_nx, ss_cons, t2', RS.bind_nx, ss_cons, t3, RS.bind_nx, ss_cons, t4, RS.bind_nx, ss_cons, t5, RS.bind_nx, ss_cons, t6, RS.bind_nx, ss_cons]
  simp only [s75_7, st_ret, ev_var, slot_0, slot_s, ofO_some, R.toS_ok, RS.bind_rt, fin_rp, cut_take g1, g2]
  rfl
end
end Cd
set_option Elab.async false
set_option linter.all false
set_option maxRecDepth 100000
set_option maxHeartbeats 4000000
namespace Cd
open PySem L2
end Cd
set_option Elab.async false
set_option linter.all false
set_option maxRecDepth 100000
set_option maxHeartbeats 4000000
namespace Cd
open PySem L2
section
variable {fns : Nat → Option FnD} {h : Hi} {cf : Calls} {q k n m : Nat}
end
end Cd
set_option Elab.async false
set_option linter.all false
set_option maxRecDepth 100000
set_option maxHeartbeats 4000000
namespace Cd
open PySem L2
section
variable {fns : Nat → Option FnD} {h : Hi} {cf : Calls} {q k n m : Nat}
end
end Cd
set_option Elab.async false
set_option linter.all false
set_option maxRecDepth 100000
set_option maxHeartbeats 4000000
namespace Cd
open PySem L2
section
variable {fns : Nat → Option FnD} {h : Hi} {cf : Calls} {q k n m : Nat}
end
end Cd
set_option Elab.async false
set_option linter.all false
set_option maxRecDepth 100000
set_option maxHeartbeats 4000000
namespace Cd
open PySem L2
section
variable {fns : Nat → Option FnD} {h : Hi} {cf : Calls} {q k n m i : Nat} {env : Ev}
@[simp] theorem es_rng3 {a b : E} : evalSrc cf env (.rng3 a b) h = ((evalE cf env a h).bind unP).bind fun d h1 => ((evalE cf env b h1).bind unP).bind fun e h2 => rng3K d e h2 := id rfl
theorem compLB_cond {ok : Hi → Bool} {elt : Ev → Hi → R PyData} {cond : Ev → Hi → R Bool} {bt : PyData → Ev → Option Ev} {α : Type} (g f : α → PyData) (c : α → Bool) (hok : ok h = true) : ∀ {xs : List α}, (∀ x ∈ xs, ∃ env1, bt (g x) env = some env1 ∧ cond env1 h = .ok (c x) h ∧ (c x = true → elt env1 h = .ok (f x) h)) →
    compLB ok elt cond bt env (xs.map g) h = .ok ((xs.filter c).map f) h
  | [], _ => by
    rw [List.map_nil]
    unfold compLB
    rw [if_pos hok]; rfl
  | x :: xs, hx => by
    obtain ⟨env1, e1, e2, e3⟩ := hx x List.mem_cons_self
    have ih := compLB_cond (elt := elt) (cond := cond) (bt := bt) g f c hok (xs := xs) fun y hy => hx y (List.mem_cons_of_mem _ hy)
    rw [List.map_cons]
    unfold compLB
    rw [if_pos hok, e1]
    cases z : c x with
    | true =>
      rw [z] at e2 e3
      rw [List.filter_cons, if_pos z]
      simp only [e2, e3 rfl, ih, R.bind_ok, if_true, List.map_cons]
    | false =>
      rw [z] at e2
      rw [List.filter_cons, if_neg (by rw [z]; decide)]
      simp only [e2, ih, R.bind_ok, Bool.false_eq_true, if_false]
theorem compB_cond {own : List Nat} {t : Tg} {elt : E} {cond : List Te} {α : Type} (g f : α → PyData) (c : α → Bool) {xs : List α} (hi : slot env i = some (.ref n)) (hl : listAt h n = some (xs.map g)) (hs : sameL (xs.map g) (xs.map g) = true) (hz : xs.length < 1000)
    (hx : ∀ x ∈ xs, ∃ env1, bindT t (g x) (wipeE env own) = some env1 ∧ evalTs cf env1 cond h = .ok (c x) h ∧ (c x = true → (evalE cf env1 elt h).bind unP = .ok (f x) h)) : evalE cf env (.compB i own t cond elt) h = .ok (.p (.list ((xs.filter c).map f))) h := by
  rw [ev_compB, lstOf_eq, hi]
  simp only [refOf_r, Option.bind_some, hl, Option.map_some]
  refine compK2_ok (by rw [List.length_map]; exact Nat.lt_trans hz size1000) (compLB_cond g f c ?_ hx)
  show stillL h n (xs.map g) = true
  unfold stillL
  rw [hl]
  exact hs
theorem sameL_int : ∀ as : List Int, sameL (as.map .int) (as.map .int) = true
  | [] => rfl
  | a :: as => by
    rw [List.map_cons]
    show (sameD (.int a) (.int a) && sameL _ _) = true
    rw [sameL_int as]
    simp [sameD]
abbrev envR (five : List Card) (v1 v2 v3 v4 v5 v6 v7 v8 v9 v10 : Option Val) : Ev := [some (.p (fivD five)), v1, v2, v3, v4, v5, v6, v7, v8, v9, v10]
theorem oft_snoc {rs : List Int} {r : Nat} (hr : r < 15) : (oftL rs).set r ((oftL rs).getD r 0 + 1) = oftL (rs ++ [(r : Int)]) := by
  refine List.ext_getElem (by simp [oftL]) fun i h1 h2 => ?_
  rw [List.getElem_set]
  unfold oftL
  by_cases c : r = i
  · subst c
    simp [hr, List.count_append]
  · have : ¬ (r : Int) = (i : Int) := by omega
    rw [if_neg c]
    simp [List.count_append, List.count_cons, this]
theorem loop76a {five : List Card} {v4 v5 v6 v7 v8 v9 v10 : Option Val} : ∀ (cs : List Card) (done : List Int) (v2 v3 : Option Val), (∀ c ∈ cs, 0 ≤ c.1 ∧ c.1 ≤ 14) →
    ∃ w2 w3, forL (evalSs cf ls76_1) (bindT (.tup [(.name 2), (.name 3)])) (cs.map cardD) (envR five (some (.ref h.length)) v2 v3 v4 v5 v6 v7 v8 v9 v10) (h ++ [.lst ((oftL done).map .int)]) =
      .ok .nx (envR five (some (.ref h.length)) w2 w3 v4 v5 v6 v7 v8 v9 v10) (h ++ [.lst ((oftL (done ++ cs.map (·.1))).map .int)])
  | [], done, v2, v3, _ => ⟨v2, v3, by simp [forL]⟩
  | c :: cs, done, v2, v3, hc => by
    obtain ⟨c0, c14⟩ := hc c List.mem_cons_self
    obtain ⟨r, er⟩ := Int.eq_ofNat_of_zero_le c0
    obtain ⟨w2, w3, e⟩ := loop76a cs (done ++ [(r : Int)]) (some (.p (.int c.1))) (some (.p (.str c.2))) (fun x hx => hc x (List.mem_cons_of_mem _ hx))
    refine ⟨w2, w3, ?_⟩
    rw [List.map_cons, List.map_cons]
    unfold forL
    have eb : bindT (.tup [(.name 2), (.name 3)]) (cardD c) (envR five (some (.ref h.length)) v2 v3 v4 v5 v6 v7 v8 v9 v10) = some (envR five (some (.ref h.length)) (some (.p (.int c.1))) (some (.p (.str c.2))) v4 v5 v6 v7 v8 v9 v10) := by
      simp only [cardD, bt_tup, bts_cons, bts_nil, bt_name, Option.bind_some, setSlot_0, setSlot_s]
    rw [eb]
    have rl : r < (oftL done).length := by unfold oftL; simp; omega
    have gx : atI ((oftL done).map PyData.int) c.1 = some (.int ((oftL done).getD r 0)) := by
      rw [er]
      exact atI_nat (by simp [rl])
    have ix : ixN ((oftL done).map PyData.int).length c.1 = some r := by
      rw [er]
      exact ixN_nat (by simpa using rl)
    have se : (((oftL done).map PyData.int).set r (.int ((oftL done).getD r 0 + 1))) = (oftL (done ++ [(r : Int)])).map PyData.int := by
      rw [← List.map_set, oft_snoc (by omega)]
    have st : evalSs cf ls76_1 (envR five (some (.ref h.length)) (some (.p (.int c.1))) (some (.p (.str c.2))) v4 v5 v6 v7 v8 v9 v10) (h ++ [.lst ((oftL done).map .int)]) = .ok .nx (envR five (some (.ref h.length)) (some (.p (.int c.1))) (some (.p (.str c.2))) v4 v5 v6 v7 v8 v9 v10) (h ++ [.lst ((oftL (done ++ [(r : Int)])).map .int)]) := by
      unfold ls76_1 s76_1_0
      simp only [ss_cons, ss_nil, st_setIx, ev_op2d, ev_op2b, bor_var, slot_0, slot_s, borV_r, listAt_app, R.bind_ok, unP_p, ev_var, ofO_some, o_ixL, gx, Option.map_some, ev_lit, o_add, R.toS_ok, getL_var, refOf_r, Option.bind_some, setIxH_var, ix, se, set_app, ofH_some, RS.bind_nx]
    simp only [st]
    rw [e, ← er, List.append_assoc, List.singleton_append]
theorem down_rng : rangeD 14 ((14 : Int) - 1).toNat (-1) = downs.map .int := by rfl
theorem oft_at {rs : List Int} {r : Int} (h2 : 2 ≤ r) (h14 : r ≤ 14) : atI ((oftL rs).map PyData.int) r = some (.int ((rs.count r : Nat) : Int)) := by
  obtain ⟨j, rfl⟩ := Int.eq_ofNat_of_zero_le (show 0 ≤ r by omega)
  have : j < 15 := by omega
  exact atI_nat (by unfold oftL; simp [this])
theorem loop76b {five : List Card} {rs : List Int} {v2 v3 v6 v7 v8 v9 v10 : Option Val} : ∀ (ms done : List Int) (v5 : Option Val), done.length + 13 * ms.length < 400 →
    ∃ w5, forL (evalSs cf ls76_3) (bindT (.name 5)) (ms.map .int) (envR five (some (.ref h.length)) v2 v3 (some (.p (.list (done.map .int)))) v5 v6 v7 v8 v9 v10) (h ++ [.lst ((oftL rs).map .int)]) =
      .ok .nx (envR five (some (.ref h.length)) v2 v3 (some (.p (.list ((done ++ ms.flatMap fun m => downs.filter fun r => decide ((rs.count r : Int) = m)).map .int)))) w5 v6 v7 v8 v9 v10) (h ++ [.lst ((oftL rs).map .int)])
  | [], done, v5, _ => ⟨v5, by rw [List.flatMap_nil, List.append_nil]; rfl⟩
  | m :: ms, done, v5, hd => by
    rw [List.length_cons] at hd
    have fl : (downs.filter fun r => decide ((rs.count r : Int) = m)).length ≤ 13 := List.length_filter_le _ _
    obtain ⟨w5, e⟩ := loop76b (five := five) (rs := rs) (v2 := v2) (v3 := v3) (v6 := v6) (v7 := v7) (v8 := v8) (v9 := v9) (v10 := v10) ms (done ++ downs.filter fun r => decide ((rs.count r : Int) = m)) (some (.p (.int m))) (by rw [List.length_append]; omega)
    refine ⟨w5, ?_⟩
    rw [List.map_cons]
    unfold forL
    have eb : bindT (.name 5) (.int m) (envR five (some (.ref h.length)) v2 v3 (some (.p (.list (done.map .int)))) v5 v6 v7 v8 v9 v10) = some (envR five (some (.ref h.length)) v2 v3 (some (.p (.list (done.map .int)))) (some (.p (.int m))) v6 v7 v8 v9 v10) := by
      simp only [bt_name, setSlot_0, setSlot_s]
    rw [eb]
    have c1 : evalE cf (envR five (some (.ref h.length)) v2 v3 (some (.p (.list (done.map .int)))) (some (.p (.int m))) v6 v7 v8 v9 v10) (.comp [2] (.name 2) (.rng3 (.lit (.int 14)) (.lit (.int 1))) [(.val (.op2 .eq (.op2b .ix (.var 1) (.var 2)) (.var 5)))] (.var 2)) (h ++ [.lst ((oftL rs).map .int)]) = .ok (.p (.list ((downs.filter fun r => decide ((rs.count r : Int) = m)).map .int))) (h ++ [.lst ((oftL rs).map .int)]) := by
      refine comp_ok PyData.int PyData.int _ ?_ (by decide) fun r hr => ⟨envR five (some (.ref h.length)) (some (.p (.int r))) v3 (some (.p (.list (done.map .int)))) (some (.p (.int m))) v6 v7 v8 v9 v10, by simp, ?_, fun _ => by simp⟩
      · rw [← down_rng]
        simp only [es_rng3, ev_lit, R.bind_ok, unP_p]
        rfl
      · have g := oft_at (rs := rs) (downs_mem.mp hr).1 (downs_mem.mp hr).2
        simp only [ets_one, et_val, bor_op2, ev_op2, ev_op2b, bor_var, slot_0, slot_s, borV_r, listAt_app, ev_var, ofO_some, R.bind_ok, unP_p, o_ixL, g, Option.map_some, borV_p, o_eqI, truth_b]
    have ad : opf2 .add (.list (done.map .int)) (.list ((downs.filter fun r => decide ((rs.count r : Int) = m)).map .int)) = some (.list ((done ++ downs.filter fun r => decide ((rs.count r : Int) = m)).map .int)) := by
      show (if _ ≤ sizeLine then _ else none) = _
      rw [if_pos (sz_ok (by rw [List.length_map, List.length_map]; omega)), List.map_append]
    have st : evalSs cf ls76_3 (envR five (some (.ref h.length)) v2 v3 (some (.p (.list (done.map .int)))) (some (.p (.int m))) v6 v7 v8 v9 v10) (h ++ [.lst ((oftL rs).map .int)]) = .ok .nx (envR five (some (.ref h.length)) v2 v3 (some (.p (.list ((done ++ downs.filter fun r => decide ((rs.count r : Int) = m)).map .int)))) (some (.p (.int m))) v6 v7 v8 v9 v10) (h ++ [.lst ((oftL rs).map .int)]) := by
      unfold ls76_3 s76_3_0
      have v4 : evalE cf (envR five (some (.ref h.length)) v2 v3 (some (.p (.list (done.map .int)))) (some (.p (.int m))) v6 v7 v8 v9 v10) (.var 4) (h ++ [.lst ((oftL rs).map .int)]) = .ok (.p (.list (done.map .int))) (h ++ [.lst ((oftL rs).map .int)]) := by simp
      rw [ss_cons, st_set, ev_op2d, v4]
      simp only [R.bind_ok, unP_p]
      rw [c1]
      simp only [R.bind_ok, unP_p, ad, Option.map_some, ofO_some, R.toS_ok, setSlot_0, setSlot_s, RS.bind_nx, ss_nil]
    simp only [st]
    rw [e, List.flatMap_cons, List.append_assoc]
theorem lookup_memL {k : Int} : ∀ {l : List (List Int × Int)} {sh : List Int}, l.lookup sh = some k → (sh, k) ∈ l
  | [], _, h => by cases h
  | (s, i) :: l, sh, h => by
    rw [List.lookup_cons] at h
    by_cases c : (sh == s) = true
    · rw [c] at h
      have : sh = s := by simpa using c
      cases h
      rw [this]; exact List.mem_cons_self
    · have c' : (sh == s) = false := by simpa using c
      rw [c'] at h
      exact List.mem_cons_of_mem _ (lookup_memL h)
theorem eqv_listI (xs ys : List Int) : PyData.eqv (.list (xs.map .int)) (.list (ys.map .int)) = decide (xs = ys) := by
  simp only [PyData.eqv, eqv_ints]
theorem plainI : ∀ xs : List Int, PyData.plainAll (xs.map .int) = true
  | [] => rfl
  | x :: xs => by rw [List.map_cons]; simp [PyData.plainAll, PyData.plain, plainI xs]
def shpL : List (List Int) := [[2, 1, 1, 1], [2, 2, 1], [3, 1, 1], [3, 2], [4, 1]]
theorem plainLs : ∀ xs : List (List Int), PyData.plainAll (xs.map fun l => .list (l.map .int)) = true
  | [] => rfl
  | x :: xs => by rw [List.map_cons]; simp [PyData.plainAll, PyData.plain, plainI, plainLs xs]
theorem depthLI (xs : List Int) : (PyData.list (xs.map .int)).depth = 1 := by
  show PyData.depthAll (xs.map .int) + 1 = 1
  rw [depth_ints]
theorem shp_in (sh : List Int) : opf2 .isIn (.list (sh.map .int)) (.list (shpL.map fun l => .list (l.map .int))) = some (.bool (decide (sh ∈ shpL))) := by
  show (inD (.list (sh.map .int)) (shpL.map fun l => .list (l.map .int))).map PyData.bool = _
  unfold inD
  rw [if_pos (by rw [plainLs, depthLI]; simp [PyData.plain, plainI]), List.any_map, Option.map_some]
  congr 2
  have : ∀ ls : List (List Int), ls.any ((fun y => PyData.eqv y (.list (sh.map .int))) ∘ fun l => PyData.list (l.map .int)) = decide (sh ∈ ls) := fun ls => by
    induction ls with
    | nil => rfl
    | cons l ls ih =>
      rw [List.any_cons, ih]
      show (PyData.eqv (.list (l.map .int)) (.list (sh.map .int)) || _) = _
      rw [eqv_listI, ← Bool.decide_or]
      refine decide_eq_decide.mpr ?_
      rw [List.mem_cons]
      constructor
      · rintro (h | h)
        · exact .inl h.symm
        · exact .inr h
      · rintro (h | h)
        · exact .inl h.symm
        · exact .inr h
  exact this shpL
theorem shp_ix (sh : List Int) : opf2 .index (.list (shpL.map fun l => .list (l.map .int))) (.list (sh.map .int)) = (shpL.findIdx? fun l => decide (l = sh)).map fun j : Nat => .int (j : Int) := by
  show placeD (shpL.map fun l => .list (l.map .int)) (.list (sh.map .int)) = _
  unfold placeD
  rw [if_pos (by rw [plainLs, depthLI]; simp [PyData.plain, plainI]), List.findIdx?_map]
  congr 2
  funext l
  exact eqv_listI l sh
theorem count_strs (xs : List Str) (y : Str) : opf2 .count (.list (xs.map .str)) (.str y) = some (.int (xs.count y : Nat)) := by
  show (if scalD (.str y) && (xs.map PyData.str).all scalD then some (PyData.int (((xs.map PyData.str).countP fun x => PyData.eqv x (.str y) : Nat) : Int)) else none) = _
  rw [if_pos (by simp [scalD])]
  have e : ((xs.map PyData.str).countP fun x => PyData.eqv x (.str y)) = xs.count y := by
    rw [List.countP_map]
    unfold List.count
    refine List.countP_congr fun x _ => ?_
    show PyData.eqv (.str x) (.str y) = true ↔ (x == y) = true
    simp [PyData.eqv]
  rw [e]
theorem rank76_eval (F76 : fns 76 = some d76) {five : List Card} (h5 : five.length = 5) (f : Fit five) : callF fns (q + 1) 76 [.p (fivD five)] h = .ok (.p (rankD (rankM five))) h := by
  rw [call_eq F76 rfl]
  generalize callF fns q = cf
  have rg : ∀ c ∈ five, 0 ≤ c.1 ∧ c.1 ≤ 14 := fun c hc => ⟨by have := f.2 c hc; omega, (f.2 c hc).2⟩
  obtain ⟨w2, w3, e1⟩ := loop76a (cf := cf) (h := h) (five := five) (v4 := none) (v5 := none) (v6 := none) (v7 := none) (v8 := none) (v9 := none) (v10 := none) five [] none none rg
  rw [List.nil_append] at e1
  have rk := ranks_eqL f
  have sh := shape_eqL f
  have rlen := ranks_len five
  have so := shape_ok h5 f.1
  have un := unlike h5 f
  generalize hrs : five.map (·.1) = rs at e1 rk sh
  have rsl : rs.length = 5 := by rw [← hrs, List.length_map]; exact h5
  obtain ⟨w5, e3⟩ := loop76b (cf := cf) (h := h) (five := five) (rs := rs) (v2 := w2) (v3 := w3) (v6 := none) (v7 := none) (v8 := none) (v9 := none) (v10 := none) [4, 3, 2, 1] [] none (by decide)
  rw [List.nil_append] at e3
  change forL _ _ _ _ _ = .ok .nx (envR five (some (.ref h.length)) w2 w3 (some (.p (.list ((ranksL rs).map .int)))) w5 none none none none none) _ at e3
  rw [← rk] at e3
  let G : Hi := h ++ [.lst ((oftL rs).map .int)]
  let RK : Option Val := some (.p (.list ((ranksM five).map .int)))
  let X : Option Val → Option Val → Option Val → Option Val → Option Val → Ev := fun v6 v7 v8 v9 v10 => envR five (some (.ref h.length)) w2 w3 RK w5 v6 v7 v8 v9 v10
  have rl4 : (ranksM five).length ≤ 5 := by
    have := rows_len five
    unfold ranksM
    rw [List.length_map]; omega
  show finF h.length (evalSs cf b76 (envR five none none none none none none none none none none) h) = _
  rw [b76_eq]
  unfold ls76
  have t0 : evalS cf s76_0 (envR five none none none none none none none none none none) h = .ok .nx (envR five (some (.ref h.length)) none none none none none none none none none) (h ++ [.lst ((oftL []).map .int)]) := by
    unfold s76_0
    have rep : opf2 .rep (.list [.int 0]) (.int 15) = some (.list ((oftL []).map .int)) := by
      show (if decide ((15 : Int).natAbs < 9223372036854775808) && decide (1 * (15 : Int).toNat ≤ sizeLine) then some (PyData.list (List.replicate (15 : Int).toNat [PyData.int 0]).flatten) else none) = _
      have sz := sizeLine_eq
      rw [if_pos (by rw [Bool.and_eq_true, decide_eq_true_iff, decide_eq_true_iff]; constructor <;> omega)]
      rfl
    simp only [st_set, ev_mk, ev_op2b, bor_lst, ev_lst, eps_cons, eps_nil, ev_lit, R.bind_ok, unP_p, rep, Option.map_some, ofO_some, mkK, R.toS_ok, setSlot_0, setSlot_s]
  have t1 : evalS cf s76_1 (envR five (some (.ref h.length)) none none none none none none none none none) (h ++ [.lst ((oftL []).map .int)]) = .ok .nx (envR five (some (.ref h.length)) w2 w3 none none none none none none none) G := by
    unfold s76_1
    have v0 : evalSrc cf (envR five (some (.ref h.length)) none none none none none none none none none) (.e (.var 0)) (h ++ [.lst ((oftL []).map .int)]) = .ok (five.map cardD) (h ++ [.lst ((oftL []).map .int)]) := by simp [fivD]
    rw [st_for, v0, R.toS_ok]
    exact e1
  have t2 : evalS cf s76_2 (envR five (some (.ref h.length)) w2 w3 none none none none none none none) G = .ok .nx (envR five (some (.ref h.length)) w2 w3 (some (.p (.list []))) none none none none none none) G := by simp [s76_2]
  have t3 : evalS cf s76_3 (envR five (some (.ref h.length)) w2 w3 (some (.p (.list []))) none none none none none none) G = .ok .nx (X none none none none none) G := by
    unfold s76_3
    simp only [st_for, es_e, ev_tup, eps_cons, eps_nil, ev_lit, R.bind_ok, unP_p, items_T, ofO_some, R.toS_ok]
    exact e3
  have c4 : evalE cf (X none none none none none) (.compB 1 [5] (.name 5) [(.val (.op2 .gt (.var 5) (.lit (.int 0))))] (.var 5)) G = .ok (.p (.list (((oftL rs).filter fun m => decide (0 < m)).map .int))) G := by
    refine compB_cond PyData.int PyData.int _ (n := h.length) rfl (listAt_app) (sameL_int _) (by unfold oftL; simp) fun m hm => ⟨envR five (some (.ref h.length)) w2 w3 RK (some (.p (.int m))) none none none none none, by simp [X], ?_, fun _ => by simp⟩
    simp only [ets_one, et_val, bor_op2, ev_op2, ev_var, slot_0, slot_s, ofO_some, R.bind_ok, unP_p, bor_lit, ev_lit, o_gt, Option.map_some, truth_b]
  have t4 : evalS cf s76_4 (X none none none none none) G = .ok .nx (X (some (.p (.list ((shapeM five).map .int)))) none none none none) G := by
    unfold s76_4
    rw [st_set, ev_op1, bor_op1, ev_op1, bor_compB, c4]
    simp only [R.bind_ok, unP_p, o_sortL, Option.map_some, ofO_some, o_rev, R.toS_ok, X, setSlot_0, setSlot_s]
    rw [sh]
    unfold shapeL
    rw [List.map_reverse]
  let SH : Option Val := some (.p (.list ((shapeM five).map .int)))
  let LS : Option Val := some (.p (.list (shpL.map fun l => .list (l.map .int))))
  have t5 : evalS cf s76_5 (X SH none none none none) G = .ok .nx (X SH LS none none none) G := by
    unfold s76_5
    simp only [st_set, ev_lst, eps_cons, eps_nil, ev_lit, R.bind_ok, unP_p, R.toS_ok, X, setSlot_0, setSlot_s, LS, shpL, List.map_cons, List.map_nil]
  have isI := shp_in (shapeM five)
  have shapes_mem : ∀ k, shapes.lookup (shapeM five) = some k → (shapeM five = [2, 1, 1, 1] ∧ k = 1) ∨ (shapeM five = [2, 2, 1] ∧ k = 2) ∨ (shapeM five = [3, 1, 1] ∧ k = 3) ∨ (shapeM five = [3, 2] ∧ k = 6) ∨ (shapeM five = [4, 1] ∧ k = 7) := fun k hk => by
    have := lookup_memL hk
    simpa [shapes] using this
  rw [ss_cons, t0, RS.bind_nx, ss_cons, t1, RS.bind_nx, ss_cons, t2, RS.bind_nx, ss_cons, t3, RS.bind_nx, ss_cons, t4, RS.bind_nx, ss_cons, t5, RS.bind_nx, ss_cons]
  by_cases c : (ranksM five).length < 5
  · obtain ⟨kd, hk⟩ := Option.isSome_iff_exists.mp (so c)
    have hm := shapes_mem kd hk
    have inn : shapeM five ∈ shpL := by
      rcases hm with ⟨e, _⟩ | ⟨e, _⟩ | ⟨e, _⟩ | ⟨e, _⟩ | ⟨e, _⟩ <;> rw [e] <;> decide
    rw [decide_eq_true inn] at isI
    have ixx : ∃ j : Nat, opf2 .index (.list (shpL.map fun l => .list (l.map .int))) (.list ((shapeM five).map .int)) = some (.int (j : Int)) ∧ atI ([1, 2, 3, 6, 7].map PyData.int) (j : Int) = some (.int kd) := by
      rw [shp_ix]
      rcases hm with ⟨e, rfl⟩ | ⟨e, rfl⟩ | ⟨e, rfl⟩ | ⟨e, rfl⟩ | ⟨e, rfl⟩
      · exact ⟨0, by rw [e]; rfl, rfl⟩
      · exact ⟨1, by rw [e]; rfl, rfl⟩
      · exact ⟨2, by rw [e]; rfl, rfl⟩
      · exact ⟨3, by rw [e]; rfl, rfl⟩
      · exact ⟨4, by rw [e]; rfl, rfl⟩
    obtain ⟨j, x1, x2⟩ := ixx
    have rv : rankM five = (kd, ranksM five) := by
      unfold rankM
      rw [if_pos c, hk]; rfl
    rw [rv]
    have x2' : atI [PyData.int 1, .int 2, .int 3, .int 6, .int 7] (j : Int) = some (.int kd) := x2
    simp only [s76_6, st_if, et_val, bor_op2, ev_op2, ev_var, X, SH, LS, slot_0, slot_s, ofO_some, R.bind_ok, unP_p, bor_var, borV_p, isI, Option.map_some, truth_b, R.toS_ok, if_true, ss_cons, st_ret, ev_tup, eps_cons, eps_nil, ev_lst, ev_lit, bor_op2b, ev_op2b, x1, o_ixL, x2', ev_op1, RK, o_tupL, RS.bind_rt, fin_rp, G, take_app]
    rfl
  · obtain ⟨l5, dsc, ones⟩ := un c
    have nin : ¬ shapeM five ∈ shpL := fun hm => by
      have : ∀ l ∈ shpL, l.length < 5 := by decide
      have := this _ hm
      omega
    rw [decide_eq_false nin] at isI
    have t6 : evalS cf s76_6 (X SH LS none none none) G = .ok .nx (X SH LS none none none) G := by
      unfold s76_6
      simp only [st_if, et_val, bor_op2, ev_op2, ev_var, X, SH, LS, slot_0, slot_s, ofO_some, R.bind_ok, unP_p, bor_var, borV_p, isI, Option.map_some, truth_b, R.toS_ok, Bool.false_eq_true, if_false, ss_nil]
    let SU : Option Val := some (.p (.list ((five.map (·.2)).map .str)))
    have c7 : evalE cf (X SH LS none none none) (.comp [2, 3] (.tup [(.name 2), (.name 3)]) (.e (.var 0)) [] (.var 3)) G = .ok (.p (.list ((five.map (·.2)).map .str))) G := by
      rw [List.map_map]
      refine comp_all cardD _ (by simp [X, fivD]) (by omega) fun cd hc => ⟨envR five (some (.ref h.length)) (some (.p (.int cd.1))) (some (.p (.str cd.2))) RK w5 SH LS none none none, by simp [X, cardD], by simp⟩
    have t7 : evalS cf s76_7 (X SH LS none none none) G = .ok .nx (X SH LS SU none none) G := by
      unfold s76_7
      rw [st_set, c7, R.toS_ok]
      simp only [X, SU, setSlot_0, setSlot_s]
    obtain ⟨c0, hc0⟩ : ∃ c0, five.head? = some c0 := by
      cases five with
      | nil => cases h5
      | cons a t => exact ⟨a, rfl⟩
    have ac := alike_count h5 hc0
    have s0 : atI ((five.map (·.2)).map PyData.str) 0 = some (.str c0.2) := by
      cases five with
      | nil => cases h5
      | cons a t => cases hc0; exact atI_c0
    have ct := count_strs (five.map (·.2)) c0.2
    have t8 : evalS cf s76_8 (X SH LS SU none none) G = .ok .nx (X SH LS SU (some (.p (.bool (alikeM five)))) none) G := by
      unfold s76_8
      rw [← ac]
      simp only [st_set, ev_op2, ev_op2b, bor_var, ev_op2d, X, SU, slot_0, slot_s, borV_p, ev_var, ofO_some, R.bind_ok, unP_p, ev_lit, o_ixL, s0, Option.map_some, ct, bor_lit, o_eqI, R.toS_ok, setSlot_0, setSlot_s]
    let AL : Option Val := some (.p (.bool (alikeM five)))
    have t9 : evalS cf s76_9 (X SH LS SU AL none) G = .ok .nx (X SH LS SU AL (some (.p (.int 0)))) G := by
      unfold s76_9
      simp only [st_set, ev_lit, R.toS_ok, X, setSlot_0, setSlot_s]
    have r0 : atI ((ranksM five).map PyData.int) 0 = some (.int ((ranksM five).headD 0)) := by
      match ranksM five, l5 with
      | a :: t, _ => exact atI_c0
    have r4 : atI ((ranksM five).map PyData.int) 4 = some (.int ((ranksM five).getD 4 0)) := by
      have : atI ((ranksM five).map PyData.int) ((4 : Nat) : Int) = some (.int ((ranksM five).getD 4 0)) := atI_nat (by simp [l5])
      exact this
    have T1 : ∃ t1 : Int, t1 = (if (ranksM five).headD 0 - (ranksM five).getD 4 0 = 4 then (ranksM five).headD 0 else 0) ∧ evalS cf s76_10 (X SH LS SU AL (some (.p (.int 0)))) G = .ok .nx (X SH LS SU AL (some (.p (.int t1)))) G := by
      refine ⟨_, rfl, ?_⟩
      unfold s76_10
      by_cases d : (ranksM five).headD 0 - (ranksM five).getD 4 0 = 4
      · rw [if_pos d]
        have z : decide ((ranksM five).headD 0 - (ranksM five).getD 4 0 = 4) = true := decide_eq_true d
        simp only [st_if, et_val, bor_op2, ev_op2, ev_op2d, ev_op2b, bor_var, X, RK, slot_0, slot_s, borV_p, ev_var, ofO_some, R.bind_ok, unP_p, ev_lit, o_ixL, r0, r4, Option.map_some, o_sub, bor_lit, o_eqI, z, truth_b, R.toS_ok, if_true, ss_cons, ss_nil, st_set, setSlot_0, setSlot_s, RS.bind_nx]
      · rw [if_neg d]
        have z : decide ((ranksM five).headD 0 - (ranksM five).getD 4 0 = 4) = false := decide_eq_false d
        simp only [st_if, et_val, bor_op2, ev_op2, ev_op2d, ev_op2b, bor_var, X, RK, slot_0, slot_s, borV_p, ev_var, ofO_some, R.bind_ok, unP_p, ev_lit, o_ixL, r0, r4, Option.map_some, o_sub, bor_lit, o_eqI, z, truth_b, R.toS_ok, Bool.false_eq_true, if_false, ss_nil]
    obtain ⟨t1, ht1, t10⟩ := T1
    have tt : topL (ranksM five) = if ranksM five = [14, 5, 4, 3, 2] then 5 else t1 := by rw [ht1]; rfl
    have lowE : opf2 .eq (.list ((ranksM five).map .int)) (.list [.int 14, .int 5, .int 4, .int 3, .int 2]) = some (.bool (decide (ranksM five = [14, 5, 4, 3, 2]))) := by
      show (eqD _ _).map PyData.bool = _
      unfold eqD
      have s2 : SeqAt.shaped (.list [.int 14, .int 5, .int 4, .int 3, .int 2]) = true := (shapedI (xs := [14, 5, 4, 3, 2]) (by decide)).2
      rw [if_neg (by simp [scalD]), if_pos (by rw [(shapedI (xs := ranksM five) (by omega)).2, s2]; rfl), Option.map_some]
      congr 2
      exact eqv_listI (ranksM five) [14, 5, 4, 3, 2]
    have t11 : evalS cf s76_11 (X SH LS SU AL (some (.p (.int t1)))) G = .ok .nx (X SH LS SU AL (some (.p (.int (topM (ranksM five)))))) G := by
      rw [top_eqL l5 dsc, tt]
      unfold s76_11
      by_cases d : ranksM five = [14, 5, 4, 3, 2]
      · rw [if_pos d]
        rw [decide_eq_true d] at lowE
        simp only [st_if, et_val, bor_op2, ev_op2, ev_var, X, RK, slot_0, slot_s, ofO_some, R.bind_ok, unP_p, bor_lst, ev_lst, eps_cons, eps_nil, ev_lit, lowE, Option.map_some, truth_b, R.toS_ok, if_true, ss_cons, ss_nil, st_set, setSlot_0, setSlot_s, RS.bind_nx]
      · rw [if_neg d]
        rw [decide_eq_false d] at lowE
        simp only [st_if, et_val, bor_op2, ev_op2, ev_var, X, RK, slot_0, slot_s, ofO_some, R.bind_ok, unP_p, bor_lst, ev_lst, eps_cons, eps_nil, ev_lit, lowE, Option.map_some, truth_b, R.toS_ok, Bool.false_eq_true, if_false, ss_nil]
    rw [t6, RS.bind_nx, ss_cons, t7, RS.bind_nx, ss_cons, t8, RS.bind_nx, ss_cons, t9, RS.bind_nx, ss_cons, t10, RS.bind_nx, ss_cons, t11, RS.bind_nx, ss_cons]
    unfold rankM
    rw [if_neg c]
    generalize topM (ranksM five) = T
    have ite_v : ∀ (a b : Int) (v10 : Option Val), evalE cf (X SH LS SU AL v10) (.ite (.val (.var 9)) (.lit (.int a)) (.lit (.int b))) G = .ok (.p (.int (if alikeM five = true then a else b))) G := fun a b v10 => by
      simp only [ev_ite, et_val, bor_var, X, AL, slot_0, slot_s, borV_p, ev_var, ofO_some, R.bind_ok, unP_p, truth_b, ifK_eq, ev_lit]
      split <;> rfl
    by_cases t0' : 0 < T
    · have z : decide ((0 : Int) < T) = true := decide_eq_true t0'
      have t12 : evalS cf s76_12 (X SH LS SU AL (some (.p (.int T)))) G = .ok (.rt (.p (rankD (if alikeM five = true then 8 else 4, [T])))) (X SH LS SU AL (some (.p (.int T)))) G := by
        unfold s76_12
        have v10 : evalE cf (X SH LS SU AL (some (.p (.int T)))) (.var 10) G = .ok (.p (.int T)) G := by simp [X]
        rw [st_if, et_val, bor_op2, ev_op2, v10]
        simp only [R.bind_ok, unP_p, bor_lit, ev_lit, o_gt, z, Option.map_some, ofO_some, truth_b, R.toS_ok, if_true]
        rw [ss_cons, st_ret, ev_tup, eps_cons, ite_v]
        simp only [R.bind_ok, unP_p]
        rw [eps_cons, ev_tup, eps_cons, v10]
        simp only [R.bind_ok, unP_p, eps_nil, R.toS_ok, RS.bind_rt]
        rfl
      rw [t12, RS.bind_rt]
      simp only [fin_rp, G, take_app, z, Bool.true_and]
      by_cases al : alikeM five = true
      · rw [if_pos al, if_pos al]
      · rw [if_neg al, if_neg al, if_neg al, if_pos t0']
    · have z : decide ((0 : Int) < T) = false := decide_eq_false t0'
      have t12 : evalS cf s76_12 (X SH LS SU AL (some (.p (.int T)))) G = .ok .nx (X SH LS SU AL (some (.p (.int T)))) G := by
        unfold s76_12
        simp only [st_if, et_val, bor_op2, ev_op2, ev_var, X, slot_0, slot_s, ofO_some, R.bind_ok, unP_p, bor_lit, ev_lit, o_gt, z, Option.map_some, truth_b, R.toS_ok, Bool.false_eq_true, if_false, ss_nil]
      rw [t12, RS.bind_nx, ss_cons]
      have t13 : evalS cf s76_13 (X SH LS SU AL (some (.p (.int T)))) G = .ok (.rt (.p (rankD (if alikeM five = true then 5 else 0, ranksM five)))) (X SH LS SU AL (some (.p (.int T)))) G := by
        unfold s76_13
        rw [st_ret, ev_tup, eps_cons, ite_v]
        simp only [R.bind_ok, unP_p, eps_cons, eps_nil, ev_op1, bor_var, ev_var, X, RK, slot_0, slot_s, borV_p, ofO_some, o_tupL, Option.map_some, R.toS_ok]
        rfl
      rw [t13, RS.bind_rt]
      simp only [fin_rp, G, take_app, z, Bool.false_and, Bool.false_eq_true, if_false]
      by_cases al : alikeM five = true
      · rw [if_pos al, if_pos al]
      · rw [if_neg al, if_neg al, if_neg t0']
end
end Cd
set_option Elab.async false
set_option linter.all false
set_option maxRecDepth 100000
set_option maxHeartbeats 4000000
namespace Cd
open PySem L2
section
variable {fns : Nat → Option FnD} {h : Hi} {cf : Calls} {q k n m i : Nat} {env : Ev}
abbrev envRL (five : List Card) (v1 v2 v3 v4 v5 v6 v7 v8 v9 v10 : Option Val) : Ev := [some (.p (.list (five.map cardD))), v1, v2, v3, v4, v5, v6, v7, v8, v9, v10]
theorem loop76aL {five : List Card} {v4 v5 v6 v7 v8 v9 v10 : Option Val} : ∀ (cs : List Card) (done : List Int) (v2 v3 : Option Val), (∀ c ∈ cs, 0 ≤ c.1 ∧ c.1 ≤ 14) →
    ∃ w2 w3, forL (evalSs cf ls76_1) (bindT (.tup [(.name 2), (.name 3)])) (cs.map cardD) (envRL five (some (.ref h.length)) v2 v3 v4 v5 v6 v7 v8 v9 v10) (h ++ [.lst ((oftL done).map .int)]) =
      .ok .nx (envRL five (some (.ref h.length)) w2 w3 v4 v5 v6 v7 v8 v9 v10) (h ++ [.lst ((oftL (done ++ cs.map (·.1))).map .int)])
  | [], done, v2, v3, _ => ⟨v2, v3, by simp [forL]⟩
  | c :: cs, done, v2, v3, hc => by
    obtain ⟨c0, c14⟩ := hc c List.mem_cons_self
    obtain ⟨r, er⟩ := Int.eq_ofNat_of_zero_le c0
    obtain ⟨w2, w3, e⟩ := loop76aL cs (done ++ [(r : Int)]) (some (.p (.int c.1))) (some (.p (.str c.2))) (fun x hx => hc x (List.mem_cons_of_mem _ hx))
    refine ⟨w2, w3, ?_⟩
    rw [List.map_cons, List.map_cons]
    unfold forL
    have eb : bindT (.tup [(.name 2), (.name 3)]) (cardD c) (envRL five (some (.ref h.length)) v2 v3 v4 v5 v6 v7 v8 v9 v10) = some (envRL five (some (.ref h.length)) (some (.p (.int c.1))) (some (.p (.str c.2))) v4 v5 v6 v7 v8 v9 v10) := by
      simp only [cardD, bt_tup, bts_cons, bts_nil, bt_name, Option.bind_some, setSlot_0, setSlot_s]
    rw [eb]
    have rl : r < (oftL done).length := by unfold oftL; simp; omega
    have gx : atI ((oftL done).map PyData.int) c.1 = some (.int ((oftL done).getD r 0)) := by
      rw [er]
      exact atI_nat (by simp [rl])
    have ix : ixN ((oftL done).map PyData.int).length c.1 = some r := by
      rw [er]
      exact ixN_nat (by simpa using rl)
    have se : (((oftL done).map PyData.int).set r (.int ((oftL done).getD r 0 + 1))) = (oftL (done ++ [(r : Int)])).map PyData.int := by
      rw [← List.map_set, oft_snoc (by omega)]
    have st : evalSs cf ls76_1 (envRL five (some (.ref h.length)) (some (.p (.int c.1))) (some (.p (.str c.2))) v4 v5 v6 v7 v8 v9 v10) (h ++ [.lst ((oftL done).map .int)]) = .ok .nx (envRL five (some (.ref h.length)) (some (.p (.int c.1))) (some (.p (.str c.2))) v4 v5 v6 v7 v8 v9 v10) (h ++ [.lst ((oftL (done ++ [(r : Int)])).map .int)]) := by
      unfold ls76_1 s76_1_0
      simp only [ss_cons, ss_nil, st_setIx, ev_op2d, ev_op2b, bor_var, slot_0, slot_s, borV_r, listAt_app, R.bind_ok, unP_p, ev_var, ofO_some, o_ixL, gx, Option.map_some, ev_lit, o_add, R.toS_ok, getL_var, refOf_r, Option.bind_some, setIxH_var, ix, se, set_app, ofH_some, RS.bind_nx]
    simp only [st]
    rw [e, ← er, List.append_assoc, List.singleton_append]
theorem loop76bL {five : List Card} {rs : List Int} {v2 v3 v6 v7 v8 v9 v10 : Option Val} : ∀ (ms done : List Int) (v5 : Option Val), done.length + 13 * ms.length < 400 →
    ∃ w5, forL (evalSs cf ls76_3) (bindT (.name 5)) (ms.map .int) (envRL five (some (.ref h.length)) v2 v3 (some (.p (.list (done.map .int)))) v5 v6 v7 v8 v9 v10) (h ++ [.lst ((oftL rs).map .int)]) =
      .ok .nx (envRL five (some (.ref h.length)) v2 v3 (some (.p (.list ((done ++ ms.flatMap fun m => downs.filter fun r => decide ((rs.count r : Int) = m)).map .int)))) w5 v6 v7 v8 v9 v10) (h ++ [.lst ((oftL rs).map .int)])
  | [], done, v5, _ => ⟨v5, by rw [List.flatMap_nil, List.append_nil]; rfl⟩
  | m :: ms, done, v5, hd => by
    rw [List.length_cons] at hd
    have fl : (downs.filter fun r => decide ((rs.count r : Int) = m)).length ≤ 13 := List.length_filter_le _ _
    obtain ⟨w5, e⟩ := loop76bL (five := five) (rs := rs) (v2 := v2) (v3 := v3) (v6 := v6) (v7 := v7) (v8 := v8) (v9 := v9) (v10 := v10) ms (done ++ downs.filter fun r => decide ((rs.count r : Int) = m)) (some (.p (.int m))) (by rw [List.length_append]; omega)
    refine ⟨w5, ?_⟩
    rw [List.map_cons]
    unfold forL
    have eb : bindT (.name 5) (.int m) (envRL five (some (.ref h.length)) v2 v3 (some (.p (.list (done.map .int)))) v5 v6 v7 v8 v9 v10) = some (envRL five (some (.ref h.length)) v2 v3 (some (.p (.list (done.map .int)))) (some (.p (.int m))) v6 v7 v8 v9 v10) := by
      simp only [bt_name, setSlot_0, setSlot_s]
    rw [eb]
    have c1 : evalE cf (envRL five (some (.ref h.length)) v2 v3 (some (.p (.list (done.map .int)))) (some (.p (.int m))) v6 v7 v8 v9 v10) (.comp [2] (.name 2) (.rng3 (.lit (.int 14)) (.lit (.int 1))) [(.val (.op2 .eq (.op2b .ix (.var 1) (.var 2)) (.var 5)))] (.var 2)) (h ++ [.lst ((oftL rs).map .int)]) = .ok (.p (.list ((downs.filter fun r => decide ((rs.count r : Int) = m)).map .int))) (h ++ [.lst ((oftL rs).map .int)]) := by
      refine comp_ok PyData.int PyData.int _ ?_ (by decide) fun r hr => ⟨envRL five (some (.ref h.length)) (some (.p (.int r))) v3 (some (.p (.list (done.map .int)))) (some (.p (.int m))) v6 v7 v8 v9 v10, by simp, ?_, fun _ => by simp⟩
      · rw [← down_rng]
        simp only [es_rng3, ev_lit, R.bind_ok, unP_p]
        rfl
      · have g := oft_at (rs := rs) (downs_mem.mp hr).1 (downs_mem.mp hr).2
        simp only [ets_one, et_val, bor_op2, ev_op2, ev_op2b, bor_var, slot_0, slot_s, borV_r, listAt_app, ev_var, ofO_some, R.bind_ok, unP_p, o_ixL, g, Option.map_some, borV_p, o_eqI, truth_b]
    have ad : opf2 .add (.list (done.map .int)) (.list ((downs.filter fun r => decide ((rs.count r : Int) = m)).map .int)) = some (.list ((done ++ downs.filter fun r => decide ((rs.count r : Int) = m)).map .int)) := by
      show (if _ ≤ sizeLine then _ else none) = _
      rw [if_pos (sz_ok (by rw [List.length_map, List.length_map]; omega)), List.map_append]
    have st : evalSs cf ls76_3 (envRL five (some (.ref h.length)) v2 v3 (some (.p (.list (done.map .int)))) (some (.p (.int m))) v6 v7 v8 v9 v10) (h ++ [.lst ((oftL rs).map .int)]) = .ok .nx (envRL five (some (.ref h.length)) v2 v3 (some (.p (.list ((done ++ downs.filter fun r => decide ((rs.count r : Int) = m)).map .int)))) (some (.p (.int m))) v6 v7 v8 v9 v10) (h ++ [.lst ((oftL rs).map .int)]) := by
      unfold ls76_3 s76_3_0
      have v4 : evalE cf (envRL five (some (.ref h.length)) v2 v3 (some (.p (.list (done.map .int)))) (some (.p (.int m))) v6 v7 v8 v9 v10) (.var 4) (h ++ [.lst ((oftL rs).map .int)]) = .ok (.p (.list (done.map .int))) (h ++ [.lst ((oftL rs).map .int)]) := by simp
      rw [ss_cons, st_set, ev_op2d, v4]
      simp only [R.bind_ok, unP_p]
      rw [c1]
      simp only [R.bind_ok, unP_p, ad, Option.map_some, ofO_some, R.toS_ok, setSlot_0, setSlot_s, RS.bind_nx, ss_nil]
    simp only [st]
    rw [e, List.flatMap_cons, List.append_assoc]
theorem rank76L_eval (F76 : fns 76 = some d76) {five : List Card} (h5 : five.length = 5) (f : Fit five) : callF fns (q + 1) 76 [.p (.list (five.map cardD))] h = .ok (.p (rankD (rankM five))) h := by
  rw [call_eq F76 rfl]
  generalize callF fns q = cf
  have rg : ∀ c ∈ five, 0 ≤ c.1 ∧ c.1 ≤ 14 := fun c hc => ⟨by have := f.2 c hc; omega, (f.2 c hc).2⟩
  obtain ⟨w2, w3, e1⟩ := loop76aL (cf := cf) (h := h) (five := five) (v4 := none) (v5 := none) (v6 := none) (v7 := none) (v8 := none) (v9 := none) (v10 := none) five [] none none rg
  rw [List.nil_append] at e1
  have rk := ranks_eqL f
  have sh := shape_eqL f
  have rlen := ranks_len five
  have so := shape_ok h5 f.1
  have un := unlike h5 f
  generalize hrs : five.map (·.1) = rs at e1 rk sh
  have rsl : rs.length = 5 := by rw [← hrs, List.length_map]; exact h5
  obtain ⟨w5, e3⟩ := loop76bL (cf := cf) (h := h) (five := five) (rs := rs) (v2 := w2) (v3 := w3) (v6 := none) (v7 := none) (v8 := none) (v9 := none) (v10 := none) [4, 3, 2, 1] [] none (by decide)
  rw [List.nil_append] at e3
  change forL _ _ _ _ _ = .ok .nx (envRL five (some (.ref h.length)) w2 w3 (some (.p (.list ((ranksL rs).map .int)))) w5 none none none none none) _ at e3
  rw [← rk] at e3
  let G : Hi := h ++ [.lst ((oftL rs).map .int)]
  let RK : Option Val := some (.p (.list ((ranksM five).map .int)))
  let X : Option Val → Option Val → Option Val → Option Val → Option Val → Ev := fun v6 v7 v8 v9 v10 => envRL five (some (.ref h.length)) w2 w3 RK w5 v6 v7 v8 v9 v10
  have rl4 : (ranksM five).length ≤ 5 := by
    have := rows_len five
    unfold ranksM
    rw [List.length_map]; omega
  show finF h.length (evalSs cf b76 (envRL five none none none none none none none none none none) h) = _
  rw [b76_eq]
  unfold ls76
  have t0 : evalS cf s76_0 (envRL five none none none none none none none none none none) h = .ok .nx (envRL five (some (.ref h.length)) none none none none none none none none none) (h ++ [.lst ((oftL []).map .int)]) := by
    unfold s76_0
    have rep : opf2 .rep (.list [.int 0]) (.int 15) = some (.list ((oftL []).map .int)) := by
      show (if decide ((15 : Int).natAbs < 9223372036854775808) && decide (1 * (15 : Int).toNat ≤ sizeLine) then some (PyData.list (List.replicate (15 : Int).toNat [PyData.int 0]).flatten) else none) = _
      have sz := sizeLine_eq
      rw [if_pos (by rw [Bool.and_eq_true, decide_eq_true_iff, decide_eq_true_iff]; constructor <;> omega)]
      rfl
    simp only [st_set, ev_mk, ev_op2b, bor_lst, ev_lst, eps_cons, eps_nil, ev_lit, R.bind_ok, unP_p, rep, Option.map_some, ofO_some, mkK, R.toS_ok, setSlot_0, setSlot_s]
  have t1 : evalS cf s76_1 (envRL five (some (.ref h.length)) none none none none none none none none none) (h ++ [.lst ((oftL []).map .int)]) = .ok .nx (envRL five (some (.ref h.length)) w2 w3 none none none none none none none) G := by
    unfold s76_1
    have v0 : evalSrc cf (envRL five (some (.ref h.length)) none none none none none none none none none) (.e (.var 0)) (h ++ [.lst ((oftL []).map .int)]) = .ok (five.map cardD) (h ++ [.lst ((oftL []).map .int)]) := by simp [fivD]
    rw [st_for, v0, R.toS_ok]
    exact e1
  have t2 : evalS cf s76_2 (envRL five (some (.ref h.length)) w2 w3 none none none none none none none) G = .ok .nx (envRL five (some (.ref h.length)) w2 w3 (some (.p (.list []))) none none none none none none) G := by simp [s76_2]
  have t3 : evalS cf s76_3 (envRL five (some (.ref h.length)) w2 w3 (some (.p (.list []))) none none none none none none) G = .ok .nx (X none none none none none) G := by
    unfold s76_3
    simp only [st_for, es_e, ev_tup, eps_cons, eps_nil, ev_lit, R.bind_ok, unP_p, items_T, ofO_some, R.toS_ok]
    exact e3
  have c4 : evalE cf (X none none none none none) (.compB 1 [5] (.name 5) [(.val (.op2 .gt (.var 5) (.lit (.int 0))))] (.var 5)) G = .ok (.p (.list (((oftL rs).filter fun m => decide (0 < m)).map .int))) G := by
    refine compB_cond PyData.int PyData.int _ (n := h.length) rfl (listAt_app) (sameL_int _) (by unfold oftL; simp) fun m hm => ⟨envRL five (some (.ref h.length)) w2 w3 RK (some (.p (.int m))) none none none none none, by simp [X], ?_, fun _ => by simp⟩
    simp only [ets_one, et_val, bor_op2, ev_op2, ev_var, slot_0, slot_s, ofO_some, R.bind_ok, unP_p, bor_lit, ev_lit, o_gt, Option.map_some, truth_b]
  have t4 : evalS cf s76_4 (X none none none none none) G = .ok .nx (X (some (.p (.list ((shapeM five).map .int)))) none none none none) G := by
    unfold s76_4
    rw [st_set, ev_op1, bor_op1, ev_op1, bor_compB, c4]
    simp only [R.bind_ok, unP_p, o_sortL, Option.map_some, ofO_some, o_rev, R.toS_ok, X, setSlot_0, setSlot_s]
    rw [sh]
    unfold shapeL
    rw [List.map_reverse]
  let SH : Option Val := some (.p (.list ((shapeM five).map .int)))
  let LS : Option Val := some (.p (.list (shpL.map fun l => .list (l.map .int))))
  have t5 : evalS cf s76_5 (X SH none none none none) G = .ok .nx (X SH LS none none none) G := by
    unfold s76_5
    simp only [st_set, ev_lst, eps_cons, eps_nil, ev_lit, R.bind_ok, unP_p, R.toS_ok, X, setSlot_0, setSlot_s, LS, shpL, List.map_cons, List.map_nil]
  have isI := shp_in (shapeM five)
  have shapes_mem : ∀ k, shapes.lookup (shapeM five) = some k → (shapeM five = [2, 1, 1, 1] ∧ k = 1) ∨ (shapeM five = [2, 2, 1] ∧ k = 2) ∨ (shapeM five = [3, 1, 1] ∧ k = 3) ∨ (shapeM five = [3, 2] ∧ k = 6) ∨ (shapeM five = [4, 1] ∧ k = 7) := fun k hk => by
    have := lookup_memL hk
    simpa [shapes] using this
  rw [ss_cons, t0, RS.bind_nx, ss_cons, t1, RS.bind_nx, ss_cons, t2, RS.bind_nx, ss_cons, t3, RS.bind_nx, ss_cons, t4, RS.bind_nx, ss_cons, t5, RS.bind_nx, ss_cons]
  by_cases c : (ranksM five).length < 5
  · obtain ⟨kd, hk⟩ := Option.isSome_iff_exists.mp (so c)
    have hm := shapes_mem kd hk
    have inn : shapeM five ∈ shpL := by
      rcases hm with ⟨e, _⟩ | ⟨e, _⟩ | ⟨e, _⟩ | ⟨e, _⟩ | ⟨e, _⟩ <;> rw [e] <;> decide
    rw [decide_eq_true inn] at isI
    have ixx : ∃ j : Nat, opf2 .index (.list (shpL.map fun l => .list (l.map .int))) (.list ((shapeM five).map .int)) = some (.int (j : Int)) ∧ atI ([1, 2, 3, 6, 7].map PyData.int) (j : Int) = some (.int kd) := by
      rw [shp_ix]
      rcases hm with ⟨e, rfl⟩ | ⟨e, rfl⟩ | ⟨e, rfl⟩ | ⟨e, rfl⟩ | ⟨e, rfl⟩
      · exact ⟨0, by rw [e]; rfl, rfl⟩
      · exact ⟨1, by rw [e]; rfl, rfl⟩
      · exact ⟨2, by rw [e]; rfl, rfl⟩
      · exact ⟨3, by rw [e]; rfl, rfl⟩
      · exact ⟨4, by rw [e]; rfl, rfl⟩
    obtain ⟨j, x1, x2⟩ := ixx
    have rv : rankM five = (kd, ranksM five) := by
      unfold rankM
      rw [if_pos c, hk]; rfl
    rw [rv]
    have x2' : atI [PyData.int 1, .int 2, .int 3, .int 6, .int 7] (j : Int) = some (.int kd) := x2
    simp only [s76_6, st_if, et_val, bor_op2, ev_op2, ev_var, X, SH, LS, slot_0, slot_s, ofO_some, R.bind_ok, unP_p, bor_var, borV_p, isI, Option.map_some, truth_b, R.toS_ok, if_true, ss_cons, st_ret, ev_tup, eps_cons, eps_nil, ev_lst, ev_lit, bor_op2b, ev_op2b, x1, o_ixL, x2', ev_op1, RK, o_tupL, RS.bind_rt, fin_rp, G, take_app]
    rfl
  · obtain ⟨l5, dsc, ones⟩ := un c
    have nin : ¬ shapeM five ∈ shpL := fun hm => by
      have : ∀ l ∈ shpL, l.length < 5 := by decide
      have := this _ hm
      omega
    rw [decide_eq_false nin] at isI
    have t6 : evalS cf s76_6 (X SH LS none none none) G = .ok .nx (X SH LS none none none) G := by
      unfold s76_6
      simp only [st_if, et_val, bor_op2, ev_op2, ev_var, X, SH, LS, slot_0, slot_s, ofO_some, R.bind_ok, unP_p, bor_var, borV_p, isI, Option.map_some, truth_b, R.toS_ok, Bool.false_eq_true, if_false, ss_nil]
    let SU : Option Val := some (.p (.list ((five.map (·.2)).map .str)))
    have c7 : evalE cf (X SH LS none none none) (.comp [2, 3] (.tup [(.name 2), (.name 3)]) (.e (.var 0)) [] (.var 3)) G = .ok (.p (.list ((five.map (·.2)).map .str))) G := by
      rw [List.map_map]
      refine comp_all cardD _ (by simp [X, fivD]) (by omega) fun cd hc => ⟨envRL five (some (.ref h.length)) (some (.p (.int cd.1))) (some (.p (.str cd.2))) RK w5 SH LS none none none, by simp [X, cardD], by simp⟩
    have t7 : evalS cf s76_7 (X SH LS none none none) G = .ok .nx (X SH LS SU none none) G := by
      unfold s76_7
      rw [st_set, c7, R.toS_ok]
      simp only [X, SU, setSlot_0, setSlot_s]
    obtain ⟨c0, hc0⟩ : ∃ c0, five.head? = some c0 := by
      cases five with
      | nil => cases h5
      | cons a t => exact ⟨a, rfl⟩
    have ac := alike_count h5 hc0
    have s0 : atI ((five.map (·.2)).map PyData.str) 0 = some (.str c0.2) := by
      cases five with
      | nil => cases h5
      | cons a t => cases hc0; exact atI_c0
    have ct := count_strs (five.map (·.2)) c0.2
    have t8 : evalS cf s76_8 (X SH LS SU none none) G = .ok .nx (X SH LS SU (some (.p (.bool (alikeM five)))) none) G := by
      unfold s76_8
      rw [← ac]
      simp only [st_set, ev_op2, ev_op2b, bor_var, ev_op2d, X, SU, slot_0, slot_s, borV_p, ev_var, ofO_some, R.bind_ok, unP_p, ev_lit, o_ixL, s0, Option.map_some, ct, bor_lit, o_eqI, R.toS_ok, setSlot_0, setSlot_s]
    let AL : Option Val := some (.p (.bool (alikeM five)))
    have t9 : evalS cf s76_9 (X SH LS SU AL none) G = .ok .nx (X SH LS SU AL (some (.p (.int 0)))) G := by
      unfold s76_9
      simp only [st_set, ev_lit, R.toS_ok, X, setSlot_0, setSlot_s]
    have r0 : atI ((ranksM five).map PyData.int) 0 = some (.int ((ranksM five).headD 0)) := by
      match ranksM five, l5 with
      | a :: t, _ => exact atI_c0
    have r4 : atI ((ranksM five).map PyData.int) 4 = some (.int ((ranksM five).getD 4 0)) := by
      have : atI ((ranksM five).map PyData.int) ((4 : Nat) : Int) = some (.int ((ranksM five).getD 4 0)) := atI_nat (by simp [l5])
      exact this
    have T1 : ∃ t1 : Int, t1 = (if (ranksM five).headD 0 - (ranksM five).getD 4 0 = 4 then (ranksM five).headD 0 else 0) ∧ evalS cf s76_10 (X SH LS SU AL (some (.p (.int 0)))) G = .ok .nx (X SH LS SU AL (some (.p (.int t1)))) G := by
      refine ⟨_, rfl, ?_⟩
      unfold s76_10
      by_cases d : (ranksM five).headD 0 - (ranksM five).getD 4 0 = 4
      · rw [if_pos d]
        have z : decide ((ranksM five).headD 0 - (ranksM five).getD 4 0 = 4) = true := decide_eq_true d
        simp only [st_if, et_val, bor_op2, ev_op2, ev_op2d, ev_op2b, bor_var, X, RK, slot_0, slot_s, borV_p, ev_var, ofO_some, R.bind_ok, unP_p, ev_lit, o_ixL, r0, r4, Option.map_some, o_sub, bor_lit, o_eqI, z, truth_b, R.toS_ok, if_true, ss_cons, ss_nil, st_set, setSlot_0, setSlot_s, RS.bind_nx]
      · rw [if_neg d]
        have z : decide ((ranksM five).headD 0 - (ranksM five).getD 4 0 = 4) = false := decide_eq_false d
        simp only [st_if, et_val, bor_op2, ev_op2, ev_op2d, ev_op2b, bor_var, X, RK, slot_0, slot_s, borV_p, ev_var, ofO_some, R.bind_ok, unP_p, ev_lit, o_ixL, r0, r4, Option.map_some, o_sub, bor_lit, o_eqI, z, truth_b, R.toS_ok, Bool.false_eq_true, if_false, ss_nil]
    obtain ⟨t1, ht1, t10⟩ := T1
    have tt : topL (ranksM five) = if ranksM five = [14, 5, 4, 3, 2] then 5 else t1 := by rw [ht1]; rfl
    have lowE : opf2 .eq (.list ((ranksM five).map .int)) (.list [.int 14, .int 5, .int 4, .int 3, .int 2]) = some (.bool (decide (ranksM five = [14, 5, 4, 3, 2]))) := by
      show (eqD _ _).map PyData.bool = _
      unfold eqD
      have s2 : SeqAt.shaped (.list [.int 14, .int 5, .int 4, .int 3, .int 2]) = true := (shapedI (xs := [14, 5, 4, 3, 2]) (by decide)).2
      rw [if_neg (by simp [scalD]), if_pos (by rw [(shapedI (xs := ranksM five) (by omega)).2, s2]; rfl), Option.map_some]
      congr 2
      exact eqv_listI (ranksM five) [14, 5, 4, 3, 2]
    have t11 : evalS cf s76_11 (X SH LS SU AL (some (.p (.int t1)))) G = .ok .nx (X SH LS SU AL (some (.p (.int (topM (ranksM five)))))) G := by
      rw [top_eqL l5 dsc, tt]
      unfold s76_11
      by_cases d : ranksM five = [14, 5, 4, 3, 2]
      · rw [if_pos d]
        rw [decide_eq_true d] at lowE
        simp only [st_if, et_val, bor_op2, ev_op2, ev_var, X, RK, slot_0, slot_s, ofO_some, R.bind_ok, unP_p, bor_lst, ev_lst, eps_cons, eps_nil, ev_lit, lowE, Option.map_some, truth_b, R.toS_ok, if_true, ss_cons, ss_nil, st_set, setSlot_0, setSlot_s, RS.bind_nx]
      · rw [if_neg d]
        rw [decide_eq_false d] at lowE
        simp only [st_if, et_val, bor_op2, ev_op2, ev_var, X, RK, slot_0, slot_s, ofO_some, R.bind_ok, unP_p, bor_lst, ev_lst, eps_cons, eps_nil, ev_lit, lowE, Option.map_some, truth_b, R.toS_ok, Bool.false_eq_true, if_false, ss_nil]
    rw [t6, RS.bind_nx, ss_cons, t7, RS.bind_nx, ss_cons, t8, RS.bind_nx, ss_cons, t9, RS.bind_nx, ss_cons, t10, RS.bind_nx, ss_cons, t11, RS.bind_nx, ss_cons]
    unfold rankM
    rw [if_neg c]
    generalize topM (ranksM five) = T
    have ite_v : ∀ (a b : Int) (v10 : Option Val), evalE cf (X SH LS SU AL v10) (.ite (.val (.var 9)) (.lit (.int a)) (.lit (.int b))) G = .ok (.p (.int (if alikeM five = true then a else b))) G := fun a b v10 => by
      simp only [ev_ite, et_val, bor_var, X, AL, slot_0, slot_s, borV_p, ev_var, ofO_some, R.bind_ok, unP_p, truth_b, ifK_eq, ev_lit]
      split <;> rfl
    by_cases t0' : 0 < T
    · have z : decide ((0 : Int) < T) = true := decide_eq_true t0'
      have t12 : evalS cf s76_12 (X SH LS SU AL (some (.p (.int T)))) G = .ok (.rt (.p (rankD (if alikeM five = true then 8 else 4, [T])))) (X SH LS SU AL (some (.p (.int T)))) G := by
        unfold s76_12
        have v10 : evalE cf (X SH LS SU AL (some (.p (.int T)))) (.var 10) G = .ok (.p (.int T)) G := by simp [X]
        rw [st_if, et_val, bor_op2, ev_op2, v10]
        simp only [R.bind_ok, unP_p, bor_lit, ev_lit, o_gt, z, Option.map_some, ofO_some, truth_b, R.toS_ok, if_true]
        rw [ss_cons, st_ret, ev_tup, eps_cons, ite_v]
        simp only [R.bind_ok, unP_p]
        rw [eps_cons, ev_tup, eps_cons, v10]
        simp only [R.bind_ok, unP_p, eps_nil, R.toS_ok, RS.bind_rt]
        rfl
      rw [t12, RS.bind_rt]
      simp only [fin_rp, G, take_app, z, Bool.true_and]
      by_cases al : alikeM five = true
      · rw [if_pos al, if_pos al]
      · rw [if_neg al, if_neg al, if_neg al, if_pos t0']
    · have z : decide ((0 : Int) < T) = false := decide_eq_false t0'
      have t12 : evalS cf s76_12 (X SH LS SU AL (some (.p (.int T)))) G = .ok .nx (X SH LS SU AL (some (.p (.int T)))) G := by
        unfold s76_12
        simp only [st_if, et_val, bor_op2, ev_op2, ev_var, X, slot_0, slot_s, ofO_some, R.bind_ok, unP_p, bor_lit, ev_lit, o_gt, z, Option.map_some, truth_b, R.toS_ok, Bool.false_eq_true, if_false, ss_nil]
      rw [t12, RS.bind_nx, ss_cons]
      have t13 : evalS cf s76_13 (X SH LS SU AL (some (.p (.int T)))) G = .ok (.rt (.p (rankD (if alikeM five = true then 5 else 0, ranksM five)))) (X SH LS SU AL (some (.p (.int T)))) G := by
        unfold s76_13
        rw [st_ret, ev_tup, eps_cons, ite_v]
        simp only [R.bind_ok, unP_p, eps_cons, eps_nil, ev_op1, bor_var, ev_var, X, RK, slot_0, slot_s, borV_p, ofO_some, o_tupL, Option.map_some, R.toS_ok]
        rfl
      rw [t13, RS.bind_rt]
      simp only [fin_rp, G, take_app, z, Bool.false_and, Bool.false_eq_true, if_false]
      by_cases al : alikeM five = true
      · rw [if_pos al, if_pos al]
      · rw [if_neg al, if_neg al, if_neg t0']
end
end Cd
set_option Elab.async false
set_option linter.all false
set_option maxRecDepth 100000
set_option maxHeartbeats 4000000
namespace Cd
open PySem L2
end Cd
set_option Elab.async false
set_option linter.all false
set_option maxRecDepth 100000
set_option maxHeartbeats 4000000
namespace Cd
open PySem L2
section
variable {fns : Nat → Option FnD} {h : Hi} {cf : Calls} {q : Nat}
end
end Cd
set_option Elab.async false
set_option linter.all false
set_option maxRecDepth 100000
set_option maxHeartbeats 4000000
namespace Cd
open PySem L2
structure Whole (cs : List Card) : Prop where
  nd : cs.Nodup
  mem : ∀ c ∈ cs, c.1 ∈ every ∧ c.2 ∈ suitsL
theorem every_nd : every.Nodup := by decide
theorem every_rng14 : ∀ r ∈ every, 2 ≤ r ∧ r ≤ 14 := by decide
theorem len_sub {α : Type} [DecidableEq α] : ∀ (xs ys : List α), xs.Nodup → (∀ x ∈ xs, x ∈ ys) → xs.length ≤ ys.length
  | [], ys, _, _ => Nat.zero_le _
  | x :: xs, ys, h, hs => by
    obtain ⟨h1, h2⟩ := List.nodup_cons.mp h
    have hx := hs x List.mem_cons_self
    have := len_sub xs (ys.erase x) h2 fun z hz => (List.mem_erase_of_ne (fun e => h1 (by rw [← e]; exact hz))).mpr (hs z (List.mem_cons_of_mem _ hz))
    rw [List.length_erase_of_mem hx] at this
    have p : 0 < ys.length := List.length_pos_of_mem hx
    rw [List.length_cons]; omega
theorem Whole.fit {cs : List Card} (w : Whole cs) : Fit cs := by
  refine ⟨fun r => ?_, fun c hc => every_rng14 _ (w.mem c hc).1⟩
  have e : (cs.map (·.1)).count r = ((cs.filter fun c => decide (c.1 = r)).map (·.2)).length := by
    rw [List.length_map, List.count_eq_length_filter, List.filter_map, List.length_map]
    congr 1
  rw [e]
  refine len_sub _ suitsL ?_ fun z hz => ?_
  · unfold List.Nodup
    rw [List.pairwise_map]
    refine List.Pairwise.imp_of_mem ?_ (w.nd.filter _)
    intro a b ha hb hn e
    have h1 := of_decide_eq_true (List.mem_filter.mp ha).2
    have h2 := of_decide_eq_true (List.mem_filter.mp hb).2
    exact hn (Prod.ext (h1.trans h2.symm) e)
  · obtain ⟨c, hc, rfl⟩ := List.mem_map.mp hz
    exact (w.mem c (List.mem_filter.mp hc).1).2
theorem Whole.sub {cs ds : List Card} (w : Whole cs) (s : ds.Sublist cs) : Whole ds := ⟨w.nd.sublist s, fun c hc => w.mem c (s.subset hc)⟩
theorem Whole.perm {cs ds : List Card} (w : Whole cs) (p : ds.Perm cs) : Whole ds := ⟨p.nodup_iff.mpr w.nd, fun c hc => w.mem c (p.mem_iff.mp hc)⟩
section
variable {fns : Nat → Option FnD} {h : Hi} {cf : Calls} {q k n m : Nat} {env : Ev}
/-- a deal, told by what is asked of it -/
structure DealW (cs more : List Card) (s b st : Nat) : Prop where
  len : cs.length = 2 * s + b
  len2 : more.length = st
  whole : Whole (cs ++ more)
end
end Cd
set_option Elab.async false
set_option linter.all false
set_option maxRecDepth 100000
set_option maxHeartbeats 4000000
namespace Cd
open PySem L2
section
variable {cs more : List Card} {s b st : Nat}
theorem DealW.bl (D : DealW cs more s b st) : (cs.drop (2 * s)).length = b := by
  have := D.len
  rw [List.length_drop]; omega
theorem DealW.sub (D : DealW cs more s b st) {x t : List Card} (hx : x ∈ holesM cs s) (ht : t.Sublist more) : (x ++ (cs.drop (2 * s) ++ t)).Sublist (cs ++ more) := by
  obtain ⟨a, ha, rfl⟩ := List.mem_map.mp hx
  have ha := List.mem_range.mp ha
  rw [← List.append_assoc]
  refine List.Sublist.append ?_ ht
  have e : cs.drop (2 * s) = (cs.drop (2 * a + 2)).drop (2 * s - (2 * a + 2)) := by rw [List.drop_drop]; congr 1; omega
  exact (seg_app (by omega) (by rw [e]; exact List.drop_sublist _ _)).trans (List.drop_sublist _ _)
theorem DealW.two (D : DealW cs more s b st) {t : List Card} (ht : t.Sublist more) : Fit (t ++ cs.drop (2 * s)) := by
  have h : (cs.drop (2 * s) ++ t).Sublist (cs ++ more) := List.Sublist.append (List.drop_sublist _ _) ht
  exact ((D.whole.sub h).perm List.perm_append_comm).fit
end
section
variable {fns : Nat → Option FnD} {h : Hi} {cf : Calls} {q k n m : Nat} {env : Ev}
@[simp] theorem ev_freeze {i : Nat} : evalE cf env (.freeze i) h = freezeK env i h := id rfl
end
end Cd
set_option Elab.async false
set_option linter.all false
set_option maxRecDepth 100000
set_option maxHeartbeats 4000000
namespace Cd
open PySem L2
end Cd
set_option Elab.async false
set_option linter.all false
set_option maxRecDepth 100000
set_option maxHeartbeats 4000000
namespace Cd
open PySem L2
section
variable {fns : Nat → Option FnD} {h : Hi} {cf : Calls} {q : Nat} {r : Rank}
end
end Cd
set_option Elab.async false
set_option linter.all false
set_option maxRecDepth 100000
set_option maxHeartbeats 4000000
namespace Cd
open PySem L2
abbrev lowRow : List Int := [14, 5, 4, 3, 2]
theorem kind_of {five : List Card} (hl : ¬ (ranksM five).length < 5) : rankM five = if 0 < topM (ranksM five) then (if alikeM five then 8 else 4, [topM (ranksM five)]) else (if alikeM five then 5 else 0, ranksM five) := by
  unfold rankM
  rw [if_neg hl]
  by_cases t : 0 < topM (ranksM five)
  · rw [if_pos t]
    cases alikeM five <;> simp [t]
  · rw [if_neg t]
    cases alikeM five <;> simp [t]
end Cd
set_option Elab.async false
set_option linter.all false
set_option maxRecDepth 100000
set_option maxHeartbeats 4000000
namespace Cd
open PySem L2
theorem desc_uniq {l m : List Int} (hl : l.Pairwise (fun a b => b < a)) (hm : m.Pairwise (fun a b => b < a)) (h : ∀ x, x ∈ l ↔ x ∈ m) : l = m := by
  have nl : l.Nodup := hl.imp fun h => by omega
  have nm : m.Nodup := hm.imp fun h => by omega
  exact ((List.perm_ext_iff_of_nodup nl nm).mpr h).eq_of_pairwise (fun _ _ _ _ a b => by omega) hl hm
theorem downs_desc16 : downs.Pairwise (fun a b => b < a) := by decide
/-- a list that falls -/
theorem rev_desc {l : List Int} (h : l.Nodup) : (sortI l).reverse.Pairwise (fun a b => b < a) := by
  rw [List.pairwise_reverse]
  have h1 := sortI_sorted l
  have h2 : (sortI l).Nodup := (sortI_perm l).nodup_iff.mpr h
  exact (h1.and h2).imp fun ⟨a, b⟩ => by omega
/-- rows of ranks and how often each -/
def frL (ps : List (Int × Int)) : List Int := ps.flatMap fun p => List.replicate p.2.toNat p.1
theorem fr_count {ps : List (Int × Int)} (nd : (ps.map (·.1)).Nodup) {p : Int × Int} (hp : p ∈ ps) (h0 : 0 ≤ p.2) : ((frL ps).count p.1 : Int) = p.2 := by
  induction ps with
  | nil => cases hp
  | cons q ps ih =>
    rw [List.map_cons] at nd
    obtain ⟨n1, n2⟩ := List.nodup_cons.mp nd
    show ((((List.replicate q.2.toNat q.1) ++ frL ps).count p.1 : Nat) : Int) = p.2
    rw [List.count_append, List.count_replicate]
    rcases List.mem_cons.mp hp with rfl | hp
    · have z : (frL ps).count p.1 = 0 := by
        rw [List.count_eq_zero]
        intro h
        obtain ⟨r, hr, h2⟩ := List.mem_flatMap.mp h
        exact n1 (List.mem_map.mpr ⟨r, hr, (List.eq_of_mem_replicate h2).symm⟩)
      rw [z]
      simp
      omega
    · have ne : q.1 ≠ p.1 := fun e => n1 (List.mem_map.mpr ⟨p, hp, e.symm⟩)
      rw [if_neg (by simpa using ne), Nat.zero_add]
      exact ih n2 hp
theorem fr_mem {ps : List (Int × Int)} {x : Int} : x ∈ frL ps ↔ ∃ p ∈ ps, p.1 = x ∧ 0 < p.2 := by
  unfold frL
  rw [List.mem_flatMap]
  constructor
  · rintro ⟨p, hp, h⟩
    rw [List.mem_replicate] at h
    exact ⟨p, hp, h.2.symm, by omega⟩
  · rintro ⟨p, hp, rfl, h⟩
    exact ⟨p, hp, List.mem_replicate.mpr ⟨by omega, rfl⟩⟩
def dueL (ps : List (Int × Int)) (m : Int) : List Int := (sortI ((ps.filter fun p => decide (p.2 = m)).map (·.1))).reverse
theorem due_eq {ps : List (Int × Int)} (nd : (ps.map (·.1)).Nodup) (rg : ∀ p ∈ ps, 2 ≤ p.1 ∧ p.1 ≤ 14) (ps0 : ∀ p ∈ ps, 0 < p.2) {m : Int} (hm : 0 < m) : dueL ps m = downs.filter fun r => decide (((frL ps).count r : Int) = m) := by
  refine desc_uniq (rev_desc ((List.filter_sublist.map _).nodup nd)) (downs_desc16.sublist List.filter_sublist) fun x => ?_
  unfold dueL
  rw [List.mem_reverse, (sortI_perm _).mem_iff, List.mem_map, List.mem_filter, downs_mem]
  constructor
  · rintro ⟨p, hp, rfl⟩
    obtain ⟨hp, e⟩ := List.mem_filter.mp hp
    have e := of_decide_eq_true e
    exact ⟨rg p hp, decide_eq_true (by rw [fr_count nd hp (by have := ps0 p hp; omega)]; exact e)⟩
  · rintro ⟨_, e⟩
    have e := of_decide_eq_true e
    have hx : x ∈ frL ps := by
      rw [← List.count_pos_iff]
      omega
    obtain ⟨p, hp, rfl, h0⟩ := fr_mem.mp hx
    rw [fr_count nd hp (by omega)] at e
    exact ⟨p, List.mem_filter.mpr ⟨hp, decide_eq_true e⟩, rfl⟩
def dueAll (ps : List (Int × Int)) : List Int := [4, 3, 2, 1].flatMap fun m => dueL ps m
theorem due_ranks {ps : List (Int × Int)} (nd : (ps.map (·.1)).Nodup) (rg : ∀ p ∈ ps, 2 ≤ p.1 ∧ p.1 ≤ 14) (ps0 : ∀ p ∈ ps, 0 < p.2) : dueAll ps = ranksL (frL ps) := by
  unfold dueAll ranksL
  simp only [List.flatMap_cons, List.flatMap_nil]
  rw [due_eq nd rg ps0 (by decide), due_eq nd rg ps0 (by decide), due_eq nd rg ps0 (by decide), due_eq nd rg ps0 (by decide)]
def shapesK : List (Int × List Int) := [(1, [2, 1, 1, 1]), (2, [2, 2, 1]), (3, [3, 1, 1]), (6, [3, 2]), (7, [4, 1])]
/-- a five of a shape has the rank that is due -/
theorem shape_rank {five : List Card} {rs : List Int} {ks : Int × List Int} (hk : ks ∈ shapesK) (hl : rs.length = ks.2.length) (nd : rs.Nodup) (rg : ∀ r ∈ rs, 2 ≤ r ∧ r ≤ 14) (e : five.map (·.1) = frL (rs.zip ks.2)) :
    Fit five ∧ five.length = 5 ∧ rankM five = (ks.1, dueAll (rs.zip ks.2)) := by
  have f1 : (rs.zip ks.2).map (·.1) = rs := List.map_fst_zip (by omega)
  have f2 : (rs.zip ks.2).map (·.2) = ks.2 := List.map_snd_zip (by omega)
  have nd' : ((rs.zip ks.2).map (·.1)).Nodup := by rw [f1]; exact nd
  have rg' : ∀ p ∈ rs.zip ks.2, 2 ≤ p.1 ∧ p.1 ≤ 14 := fun p hp => rg _ (by rw [← f1]; exact List.mem_map.mpr ⟨p, hp, rfl⟩)
  have sh : ∀ m ∈ ks.2, 1 ≤ m ∧ m ≤ 4 := by
    have : ∀ ks ∈ shapesK, ∀ m ∈ ks.2, 1 ≤ m ∧ m ≤ 4 := by decide
    exact this ks hk
  have ps0 : ∀ p ∈ rs.zip ks.2, 1 ≤ p.2 ∧ p.2 ≤ 4 := fun p hp => sh _ (by rw [← f2]; exact List.mem_map.mpr ⟨p, hp, rfl⟩)
  have ps1 : ∀ p ∈ rs.zip ks.2, 0 < p.2 := fun p hp => by have := ps0 p hp; omega
  have fit : Fit five := by
    refine ⟨fun r => ?_, fun c hc => ?_⟩
    · rw [e]
      by_cases c : r ∈ frL (rs.zip ks.2)
      · obtain ⟨p, hp, rfl, _⟩ := fr_mem.mp c
        have h1 := fr_count nd' hp (by have := ps0 p hp; omega)
        have := ps0 p hp
        omega
      · rw [List.count_eq_zero_of_not_mem c]; omega
    · have : c.1 ∈ frL (rs.zip ks.2) := by rw [← e]; exact List.mem_map.mpr ⟨c, hc, rfl⟩
      obtain ⟨p, hp, e1, _⟩ := fr_mem.mp this
      rw [← e1]; exact rg' p hp
  have len : ∀ ps : List (Int × Int), (∀ p ∈ ps, 0 < p.2) → ((frL ps).length : Int) = (ps.map (·.2)).sum := by
    intro ps h
    induction ps with
    | nil => rfl
    | cons p ps ih =>
      show ((((List.replicate p.2.toNat p.1) ++ frL ps).length : Nat) : Int) = p.2 + (ps.map (·.2)).sum
      rw [List.length_append, List.length_replicate, ← ih fun q hq => h q (List.mem_cons_of_mem _ hq)]
      have := h p List.mem_cons_self
      omega
  have h5 : five.length = 5 := by
    have h1 := len _ ps1
    rw [f2, ← e, List.length_map] at h1
    have : ∀ ks ∈ shapesK, ks.2.sum = 5 := by decide
    rw [this ks hk] at h1
    omega
  have rk : ranksM five = dueAll (rs.zip ks.2) := by rw [ranks_eqL fit, e, due_ranks nd' rg' ps1]
  have shp : shapeM five = ks.2 := by
    have p1 : (shapeM five).Perm ks.2 := by
      have h1 : shapeM five = (ranksL (five.map (·.1))).map fun r => ((five.map (·.1)).count r : Int) := by
        unfold shapeM; rw [rows_eqL fit, List.map_map]; rfl
      have h2 : (ranksL (five.map (·.1))).Perm rs := by
        have nl : (ranksL (five.map (·.1))).Nodup := by
          have := rowsL_desc (five.map (·.1))
          rw [List.pairwise_map] at this
          exact this.imp fun h e => h.2 (by rw [e])
        refine (List.perm_ext_iff_of_nodup nl nd).mpr fun x => ?_
        rw [ranksL_mem fit.1 (fun r hr => by obtain ⟨c, hc, rfl⟩ := List.mem_map.mp hr; exact fit.2 c hc), e, fr_mem]
        constructor
        · rintro ⟨p, hp, rfl, _⟩
          rw [← f1]; exact List.mem_map.mpr ⟨p, hp, rfl⟩
        · intro hx
          rw [← f1] at hx
          obtain ⟨p, hp, rfl⟩ := List.mem_map.mp hx
          exact ⟨p, hp, rfl, ps1 p hp⟩
      have h3 : rs.map (fun r => ((five.map (·.1)).count r : Int)) = ks.2 := by
        rw [e, ← f1, List.map_map]
        conv => rhs; rw [← f2]
        refine List.map_congr_left fun p hp => ?_
        show ((frL _).count p.1 : Int) = p.2
        rw [f1]
        exact fr_count nd' hp (by have := ps0 p hp; omega)
      rw [h1, ← h3]
      exact h2.map _
    have d1 := shape_desc five
    have d2 : ks.2.Pairwise (· ≥ ·) := by
      have : ∀ ks ∈ shapesK, ks.2.Pairwise (· ≥ ·) := by decide
      exact this ks hk
    exact p1.eq_of_pairwise (fun _ _ _ _ a b => Int.le_antisymm b a) d1 d2
  have rl : (ranksM five).length = ks.2.length := by
    have : (ranksM five).length = (shapeM five).length := by unfold ranksM shapeM; rw [List.length_map, List.length_map]
    rw [this, shp]
  have few : ∀ ks ∈ shapesK, ks.2.length < 5 ∧ (shapes.lookup ks.2).getD 0 = ks.1 := by decide
  refine ⟨fit, h5, ?_⟩
  unfold rankM
  rw [if_pos (by rw [rl]; exact (few ks hk).1), shp, (few ks hk).2, rk]
/-- five unlike ones -/
def isRow (ds : List Int) : Bool := decide (ds.headD 0 - ds.getD 4 0 = 4) || decide (ds = lowRow)
def dueU (b : Bool) (ds : List Int) : Rank := ((if isRow ds then (if b then 8 else 4) else (if b then 5 else 0)), (if !isRow ds then ds else [if ds = lowRow then 5 else ds.headD 0]))
theorem unlike_rank {five : List Card} {ds : List Int} (h5 : ds.length = 5) (hd : ds.Pairwise fun a b => b < a) (rg : ∀ r ∈ ds, 2 ≤ r ∧ r ≤ 14) (e : five.map (·.1) = ds) : Fit five ∧ five.length = 5 ∧ rankM five = dueU (alikeM five) ds := by
  have nd : ds.Nodup := hd.imp fun h => by omega
  have fit : Fit five := ⟨fun r => by rw [e]; have := List.nodup_iff_count.mp nd r; omega, fun c hc => rg _ (by rw [← e]; exact List.mem_map.mpr ⟨c, hc, rfl⟩)⟩
  have l5 : five.length = 5 := by have := congrArg List.length e; rw [List.length_map, h5] at this; exact this
  have rk : ranksM five = ds := by
    rw [ranks_eqL fit, e]
    have c1 : ∀ r, ds.count r ≤ 1 := fun r => List.nodup_iff_count.mp nd r
    unfold ranksL
    simp only [List.flatMap_cons, List.flatMap_nil, List.append_nil]
    have z : ∀ m : Int, 1 < m → (downs.filter fun r => decide ((ds.count r : Int) = m)) = [] := fun m hm => by
      rw [List.filter_eq_nil_iff]
      intro r _ h
      have := of_decide_eq_true h
      have := c1 r
      omega
    rw [z 4 (by decide), z 3 (by decide), z 2 (by decide)]
    refine desc_uniq (downs_desc16.sublist List.filter_sublist) hd fun x => ?_
    show x ∈ List.filter _ _ ↔ _
    rw [List.mem_filter, downs_mem]
    constructor
    · rintro ⟨_, h⟩
      have h := of_decide_eq_true h
      rw [← List.count_pos_iff]; omega
    · intro hx
      have h1 := c1 x
      have h2 := List.count_pos_iff.mpr hx
      exact ⟨rg x hx, decide_eq_true (by omega)⟩
  refine ⟨fit, l5, ?_⟩
  rw [kind_of (by rw [rk, h5]; decide), rk, top_eqL h5 hd]
  have hpos : ds ≠ lowRow → ds.headD 0 - ds.getD 4 0 = 4 → 0 < ds.headD 0 := fun _ _ => by
    cases ds with
    | nil => cases h5
    | cons x t => have := rg x List.mem_cons_self; show 0 < x; omega
  unfold topL dueU isRow
  by_cases c1 : ds = lowRow
  · rw [if_pos c1, if_pos (show (0 : Int) < 5 by decide), decide_eq_true c1, Bool.or_true]
    simp only [if_true, Bool.not_true, Bool.false_eq_true, if_false, if_pos c1]
  · rw [if_neg c1, decide_eq_false c1, Bool.or_false]
    by_cases c2 : ds.headD 0 - ds.getD 4 0 = 4
    · rw [if_pos c2, if_pos (hpos c1 c2), decide_eq_true c2]
      simp only [if_true, Bool.not_true, Bool.false_eq_true, if_false, if_neg c1]
    · rw [if_neg c2, if_neg (show ¬ (0 : Int) < 0 by decide), decide_eq_false c2]
      simp only [Bool.false_eq_true, if_false, Bool.not_false, if_true]
/-- rows of a top -/
def rowUp (t : Int) : List Int := (List.range 5).map fun k : Nat => if t - 4 + (k : Int) = 1 then 14 else t - 4 + (k : Int)
def rowC (t : Int) (ss : List Str) : List Card := (rowUp t).zip ss
def ccc : List Str := ["c", "c", "c", "c", "c"]
def ccd : List Str := ["c", "c", "d", "c", "c"]
end Cd
set_option Elab.async false
set_option linter.all false
set_option maxRecDepth 100000
set_option maxHeartbeats 4000000
namespace Cd
open PySem L2
def s94_0 : S := .if_ (.or_ (.not_ (.val (.isi (.var 0) .tuple))) (.val (.op2 .ne (.op1 .len (.var 0)) (.var 1)))) [.ret (.lit (.bool false))] []
def s94_1 : S := .if_ (.not_ (.val (.op1 .all (.comp [2] (.name 2) (.e (.var 0)) [] (.and_ (.isi (.var 2) .int) (.and_ (.not_ (.isi (.var 2) .bool)) (.and_ (.op2d .le (.lit (.int 2)) (.var 2)) (.op2d .le (.var 2) (.lit (.int 14)))))))))) [.ret (.lit (.bool false))] []
def s94_2 : S := .ret (.op1 .all (.comp [2, 3] (.tup [(.name 2), (.name 3)]) (.zip (.op3b (.slice false true) (.var 0) (.lit .none) (.op1 .neg (.lit (.int 1)))) (.op3b (.slice true false) (.var 0) (.lit (.int 1)) (.lit .none))) [] (.op2 .gt (.var 2) (.var 3))))
def ls94 : List S := [s94_0, s94_1, s94_2]
theorem b94_eq : b94 = ls94 := rfl
def s95_0 : S := .if_ (.or_ (.not_ (.val (.isi (.var 0) .tuple))) (.or_ (.val (.op2 .ne (.op1 .len (.var 0)) (.lit (.int 2)))) (.not_ (.val (.isi (.op2b .ix (.var 0) (.lit (.int 1))) .tuple))))) [.ret (.lit (.bool false))] []
def s95_1 : S := .unpack (.tup [(.name 1), (.name 2)]) (.var 0)
def s95_2 : S := .if_ (.or_ (.not_ (.val (.isi (.var 1) .int))) (.or_ (.val (.isi (.var 1) .bool)) (.not_ (.val (.and_ (.op2d .le (.lit (.int 0)) (.var 1)) (.op2d .le (.var 1) (.lit (.int 8)))))))) [.ret (.lit (.bool false))] []
def s95_3 : S := .if_ (.val (.op2 .isIn (.var 1) (.tup [(.lit (.int 4)), (.lit (.int 8))]))) [.ret (.and_ (.call 94 [(.var 2), (.lit (.int 1))]) (.op2 .isIn (.op2b .ix (.var 2) (.lit (.int 0))) (.lit (.tuple [(.int 5), (.int 6), (.int 7), (.int 8), (.int 9), (.int 10), (.int 11), (.int 12), (.int 13), (.int 14)]))))] []
def s95_4 : S := .if_ (.val (.op2 .isIn (.var 1) (.tup [(.lit (.int 0)), (.lit (.int 5))]))) [.ret (.and_ (.call 94 [(.var 2), (.lit (.int 5))]) (.op2 .eq (.call 48 [(.var 2)]) (.lit (.int 0))))] []
def s95_5 : S := .unpack (.tup [(.name 3), (.name 4)]) (.op2b .ix (.lit (.tuple [(.tuple []), (.tuple [(.int 1), (.int 3)]), (.tuple [(.int 2), (.int 1)]), (.tuple [(.int 1), (.int 2)]), (.tuple []), (.tuple []), (.tuple [(.int 1), (.int 1)]), (.tuple [(.int 1), (.int 1)]), (.tuple [])])) (.var 1))
def s95_6 : S := .if_ (.or_ (.not_ (.val (.call 94 [(.op3b (.slice false true) (.var 2) (.lit .none) (.var 3)), (.var 3)]))) (.not_ (.val (.call 94 [(.op3b (.slice true false) (.var 2) (.var 3) (.lit .none)), (.var 4)])))) [.ret (.lit (.bool false))] []
def s95_7 : S := .ret (.not_ (.op1 .any (.comp [5] (.name 5) (.e (.op3b (.slice true false) (.var 2) (.var 3) (.lit .none))) [] (.op2 .isIn (.var 5) (.op3b (.slice false true) (.var 2) (.lit .none) (.var 3))))))
def ls95 : List S := [s95_0, s95_1, s95_2, s95_3, s95_4, s95_5, s95_6, s95_7]
theorem b95_eq : b95 = ls95 := rfl
end Cd
set_option Elab.async false
set_option linter.all false
set_option maxRecDepth 100000
set_option maxHeartbeats 4000000
namespace Cd
open PySem L2
def waysI (m : Int) (f : Nat) : Int := (List.range f).foldl (fun (x : Int) (k : Nat) => (x * (m - (k : Int))).fdiv ((k : Int) + 1)) 1
def fallB (rs : List Int) (m : Nat) : Bool := decide (rs.length = m) && ((rs.all fun x => decide (2 ≤ x) && decide (x ≤ 14)) && ((rs.dropLast.zip (rs.drop 1)).all fun p => decide (p.2 < p.1)))
def pfM (gone : List Int) : List Int → Int
  | [] => 0
  | r :: rs => waysI (r - 2 - (((gone.filter fun o => decide (o < r)).length : Nat) : Int)) (rs.length + 1) + pfM gone rs
def rows10 : List (List Int) := ((List.range 9).map fun i : Nat => (List.range 5).map fun k : Nat => (6 + (i : Int)) - (k : Int)) ++ [[14, 5, 4, 3, 2]]
def frM (k : Int) : Nat := if k = 2 then 2 else 1
def moM (k : Int) : Nat := if k = 1 then 3 else if k = 3 then 2 else 1
def lenM (k : Int) : Nat := if k = 0 ∨ k = 5 then 5 else if k = 4 ∨ k = 8 then 1 else frM k + moM k
def pkM (r : Rank) : Int :=
  if r.1 = 4 ∨ r.1 = 8 then r.2.headD 0 - 5
  else if r.1 = 0 ∨ r.1 = 5 then pfM [] r.2 - (((rows10.filter fun row => ltI row r.2).length : Nat) : Int)
  else pfM [] (r.2.take (frM r.1)) * waysI (13 - (frM r.1 : Int)) (moM r.1) + pfM (r.2.take (frM r.1)) (r.2.drop (frM r.1))
def leftM (gone : List Int) : List Int := every.filter fun r => !decide (r ∈ gone)
def findAt (k : Nat) (p : Int) : Nat → Nat
  | 0 => 0
  | a + 1 => if p < waysI ((a + 1 : Nat) : Int) k then findAt k p a else a + 1
def faL : Nat → Int → List Int → List Int
  | 0, _, _ => []
  | k + 1, p, left => left.getD (findAt (k + 1) p (left.length - 1)) 0 :: faL k (p - waysI ((findAt (k + 1) p (left.length - 1) : Nat) : Int) (k + 1)) (left.take (findAt (k + 1) p (left.length - 1)))
def faOk : Nat → Int → List Int → Bool
  | 0, _, _ => true
  | k + 1, p, left => decide (0 < left.length) && (decide (waysI 0 (k + 1) ≤ p) && faOk k (p - waysI ((findAt (k + 1) p (left.length - 1) : Nat) : Int) (k + 1)) (left.take (findAt (k + 1) p (left.length - 1))))
/-- a rank of the right form -/
structure Frm (r : Rank) : Prop where
  lo : 0 ≤ r.1
  hi : r.1 ≤ 8
  len : r.2.length = lenM r.1
  rng : ∀ x ∈ r.2, 2 ≤ x ∧ x ≤ 14
def vldB (r : Rank) : Bool :=
  if r.1 = 4 ∨ r.1 = 8 then fallB r.2 1 && decide (r.2.headD 0 ∈ ([5, 6, 7, 8, 9, 10, 11, 12, 13, 14] : List Int))
  else if r.1 = 0 ∨ r.1 = 5 then fallB r.2 5 && decide (topM r.2 = 0)
  else fallB (r.2.take (frM r.1)) (frM r.1) && (fallB (r.2.drop (frM r.1)) (moM r.1) && !((r.2.drop (frM r.1)).any fun x => decide (x ∈ r.2.take (frM r.1))))
theorem inI (x : Int) : ∀ xs : List Int, inD (.int x) (xs.map .int) = some (decide (x ∈ xs)) := fun xs => by
  unfold inD
  have p : PyData.plainAll (xs.map PyData.int) = true := plainI xs
  rw [if_pos (by rw [p]; rfl), List.any_map]
  congr 1
  induction xs with
  | nil => rfl
  | cons w ws ih =>
    rw [List.any_cons, ih (plainI ws)]
    show (PyData.eqv (.int w) (.int x) || _) = _
    have e : PyData.eqv (.int w) (.int x) = decide (w = x) := by
      by_cases c : w = x
      · rw [c]; simp [PyData.eqv]
      · rw [decide_eq_false c]; simpa [PyData.eqv] using c
    rw [e, ← Bool.decide_or]
    refine decide_eq_decide.mpr ?_
    rw [List.mem_cons]
    exact ⟨fun h => h.elim (fun z => .inl z.symm) .inr, fun h => h.elim (fun z => .inl z.symm) .inr⟩
theorem o_inI (x : Int) (xs : List Int) : opf2 .isIn (.int x) (.tuple (xs.map .int)) = some (.bool (decide (x ∈ xs))) := by
  show (inD (.int x) (xs.map .int)).map PyData.bool = _
  rw [inI]; rfl
theorem cut_from {α : Type} (xs : List α) (j : Nat) : cutM xs (some (j : Int)) none = xs.drop j := by
  by_cases h : j ≤ xs.length
  · exact cut_hi xs j h
  · unfold cutM
    rw [HT.sIx_none, HT.sIx_nat, Nat.min_eq_right (by omega), List.drop_eq_nil_of_le (Nat.le_refl _), List.drop_eq_nil_of_le (by omega)]
    simp
theorem cut_last {α : Type} (xs : List α) : cutM xs none (some (-1)) = xs.dropLast := by
  unfold cutM
  have e : HT.sIx xs.length xs.length (some (-1)) = xs.length - 1 := by
    show (if (-1 : Int) < 0 then (-1 + (xs.length : Int)).toNat else min (-1 : Int).toNat xs.length) = _
    rw [if_pos (by decide)]
    omega
  rw [HT.sIx_none, e, List.drop_zero, Nat.sub_zero, List.dropLast_eq_take]
theorem zipD_ii : ∀ (xs ys : List Int), zipD (xs.map .int) (ys.map .int) = (xs.zip ys).map fun p => .tuple [.int p.1, .int p.2]
  | [], _ => by simp [zipD]
  | _ :: _, [] => by simp [zipD]
  | x :: xs, y :: ys => by
    show PyData.tuple [.int x, .int y] :: zipD (xs.map .int) (ys.map .int) = _
    rw [zipD_ii xs ys]; rfl
section
variable {fns : Nat → Option FnD} {h : Hi} {cf : Calls} {q : Nat}
theorem falling_eval (F94 : fns 94 = some d94) {rs : List Int} {m : Nat} (hz : rs.length < 900) : callF fns (q + 1) 94 [.p (intsT rs), .p (.int (m : Int))] h = .ok (.p (.bool (fallB rs m))) h := by
  rw [call_eq F94 rfl]
  generalize callF fns q = cf
  let X : Ev := [some (.p (intsT rs)), some (.p (.int (m : Int))), none, none]
  have c1 : evalE cf X (.comp [2] (.name 2) (.e (.var 0)) [] (.and_ (.isi (.var 2) .int) (.and_ (.not_ (.isi (.var 2) .bool)) (.and_ (.op2d .le (.lit (.int 2)) (.var 2)) (.op2d .le (.var 2) (.lit (.int 14))))))) h = .ok (.p (.list ((rs.map fun x => decide (2 ≤ x) && decide (x ≤ 14)).map .bool))) h := by
    rw [List.map_map]
    refine comp_all PyData.int _ (by simp [X]) (by omega) fun x hx => ⟨[some (.p (intsT rs)), some (.p (.int (m : Int))), some (.p (.int x)), none], by simp [X], ?_⟩
    by_cases c : 2 ≤ x
    · simp [isTy, andK, notK, c]
    · simp [isTy, andK, notK, c]
  have zl : (rs.dropLast.zip (rs.drop 1)).length < 1000 := by rw [List.length_zip, List.length_dropLast]; omega
  have sa : opf3 (.slice false true) (intsT rs) .none (.int (-1)) = some (.tuple (rs.dropLast.map .int)) := by
    rw [slice_T (lo := none) (hi := some (-1)) rfl rfl, cut_last]
  have sb : opf3 (.slice true false) (intsT rs) (.int 1) .none = some (.tuple ((rs.drop 1).map .int)) := by
    rw [slice_T (lo := some ((1 : Nat) : Int)) (hi := none) rfl rfl, cut_from]
  have c2 : evalE cf X (.comp [2, 3] (.tup [(.name 2), (.name 3)]) (.zip (.op3b (.slice false true) (.var 0) (.lit .none) (.op1 .neg (.lit (.int 1)))) (.op3b (.slice true false) (.var 0) (.lit (.int 1)) (.lit .none))) [] (.op2 .gt (.var 2) (.var 3))) h = .ok (.p (.list (((rs.dropLast.zip (rs.drop 1)).map fun p => decide (p.2 < p.1)).map .bool))) h := by
    rw [List.map_map]
    refine comp_all (fun p : Int × Int => .tuple [.int p.1, .int p.2]) _ (by simp only [es_zip, ev_op3b, bor_var, X, slot_0, borV_p, ev_var, ofO_some, R.bind_ok, unP_p, ev_lit, ev_op1, bor_lit, o_neg, Option.map_some, sa, sb, items_T, Option.bind_some, zipD_ii]) zl fun p hp => ⟨[some (.p (intsT rs)), some (.p (.int (m : Int))), some (.p (.int p.1)), some (.p (.int p.2))], by simp [X], by simp⟩
  show finF h.length (evalSs cf b94 X h) = _
  rw [b94_eq]
  unfold ls94 fallB
  have ln : (((rs.map PyData.int).length : Nat) : Int) = (rs.length : Int) := by rw [List.length_map]
  by_cases c : rs.length = m
  · have ne : ((rs.length : Int) ≠ (m : Int)) = False := by simp; omega
    have t0 : evalS cf s94_0 X h = .ok .nx X h := by
      unfold s94_0
      simp [X, isTy, ne, c]
    rw [ss_cons, t0, RS.bind_nx, ss_cons, decide_eq_true c, Bool.true_and]
    have al : ((rs.map fun x => decide (2 ≤ x) && decide (x ≤ 14)).all id) = rs.all fun x => decide (2 ≤ x) && decide (x ≤ 14) := by rw [List.all_map]; rfl
    have al2 : (((rs.dropLast.zip (rs.drop 1)).map fun p => decide (p.2 < p.1)).all id) = (rs.dropLast.zip (rs.drop 1)).all fun p => decide (p.2 < p.1) := by rw [List.all_map]; rfl
    by_cases d : (rs.all fun x => decide (2 ≤ x) && decide (x ≤ 14)) = true
    · have t1 : evalS cf s94_1 X h = .ok .nx X h := by
        unfold s94_1
        simp only [st_if, et_not, et_val, bor_op1, ev_op1, bor_comp, c1, R.bind_ok, unP_p, o_allL, al, d, Option.map_some, ofO_some, truth_b, Bool.not_true, R.toS_ok, Bool.false_eq_true, if_false, ss_nil]
      rw [t1, RS.bind_nx, ss_cons, d, Bool.true_and]
      simp only [s94_2, st_ret, ev_op1, bor_comp, c2, R.bind_ok, unP_p, o_allL, al2, Option.map_some, ofO_some, R.toS_ok, RS.bind_rt, fin_rp, List.take_length]
    · rw [Bool.not_eq_true] at d
      simp only [s94_1, st_if, et_not, et_val, bor_op1, ev_op1, bor_comp, c1, R.bind_ok, unP_p, o_allL, al, d, Option.map_some, ofO_some, truth_b, Bool.not_false, R.toS_ok, if_true, ss_cons, st_ret, ev_lit, RS.bind_rt, fin_rp, List.take_length, Bool.false_and]
  · rw [decide_eq_false c, Bool.false_and, ss_cons]
    have ne : ((rs.length : Int) = (m : Int)) = False := by simp; omega
    simp [s94_0, X, isTy, ne]
end
end Cd
set_option Elab.async false
set_option linter.all false
set_option maxRecDepth 100000
set_option maxHeartbeats 4000000
namespace Cd
open PySem L2
theorem findAt_le (k : Nat) (p : Int) : ∀ a, findAt k p a ≤ a
  | 0 => Nat.le_refl _
  | a + 1 => by
    unfold findAt
    split
    · exact Nat.le_succ_of_le (findAt_le k p a)
    · exact Nat.le_refl _
section
variable {fns : Nat → Option FnD} {h : Hi} {cf : Calls} {q : Nat}
def sharedL : List PyData := [.tuple [], .tuple [.int 1, .int 3], .tuple [.int 2, .int 1], .tuple [.int 1, .int 2], .tuple [], .tuple [], .tuple [.int 1, .int 1], .tuple [.int 1, .int 1], .tuple []]
theorem shared_at {k : Int} (h : k = 1 ∨ k = 2 ∨ k = 3 ∨ k = 6 ∨ k = 7) : atI sharedL k = some (.tuple [.int (frM k : Int), .int (moM k : Int)]) := by
  rcases h with rfl | rfl | rfl | rfl | rfl <;> rfl
theorem Frm.kinds {r : Rank} (f : Frm r) (h1 : ¬ (r.1 = 4 ∨ r.1 = 8)) (h2 : ¬ (r.1 = 0 ∨ r.1 = 5)) : (r.1 = 1 ∨ r.1 = 2 ∨ r.1 = 3 ∨ r.1 = 6 ∨ r.1 = 7) ∧ r.2.length = frM r.1 + moM r.1 := by
  have lo := f.lo
  have hi := f.hi
  refine ⟨by omega, ?_⟩
  rw [f.len]
  unfold lenM
  rw [if_neg h2, if_neg h1]
theorem in48 (k : Int) : opf2 .isIn (.int k) (.tuple [.int 4, .int 8]) = some (.bool (decide (k = 4 ∨ k = 8))) := by
  have := o_inI k [4, 8]
  rw [show (.tuple [.int 4, .int 8] : PyData) = .tuple (([4, 8] : List Int).map .int) from rfl, this]
  congr 2
  exact decide_eq_decide.mpr (by simp)
theorem in05 (k : Int) : opf2 .isIn (.int k) (.tuple [.int 0, .int 5]) = some (.bool (decide (k = 0 ∨ k = 5))) := by
  have := o_inI k [0, 5]
  rw [show (.tuple [.int 0, .int 5] : PyData) = .tuple (([0, 5] : List Int).map .int) from rfl, this]
  congr 2
  exact decide_eq_decide.mpr (by simp)
end
end Cd
set_option Elab.async false
set_option linter.all false
set_option maxRecDepth 100000
set_option maxHeartbeats 4000000
namespace Cd
open PySem L2
def F5 (i : Nat) : List Int := faL 5 (i : Int) every
def rowsR : List Nat := [0, 5, 20, 55, 125, 251, 461, 791, 1286, 792]
def cntR (i : Nat) : Nat := (rowsR.filter fun r => decide (r < i)).length
def scB (p i : Nat) : Bool := decide (i - cntR i < p) || decide (i ∈ rowsR)
def upD (p : Nat) : Nat := ((List.range 12).find? fun d => !scB p (p + d)).getD 0
def upM (p : Nat) : Nat := p + upD p
def aheadM (k : Int) (p : Nat) : List Int := faL (frM k) ((p : Int).fdiv (waysI (13 - (frM k : Int)) (moM k))) every
def backM (k : Int) (p : Nat) : Int := (p : Int) - (p : Int).fdiv (waysI (13 - (frM k : Int)) (moM k)) * waysI (13 - (frM k : Int)) (moM k)
def rkM (k : Int) (p : Nat) : Rank :=
  if k = 4 ∨ k = 8 then (k, [(p : Int) + 5])
  else if k = 0 ∨ k = 5 then (k, F5 (upM p))
  else (k, aheadM k p ++ faL (moM k) (backM k p) (leftM (aheadM k p)))
theorem faL_mem : ∀ (k : Nat) (p : Int) (left : List Int), faOk k p left = true → ∀ x ∈ faL k p left, x ∈ left
  | 0, _, _, _, x, h => by cases h
  | k + 1, p, left, ok, x, h => by
    unfold faOk at ok
    rw [Bool.and_eq_true, Bool.and_eq_true, decide_eq_true_iff, decide_eq_true_iff] at ok
    obtain ⟨o1, o2, o3⟩ := ok
    rcases List.mem_cons.mp (show x ∈ left.getD (findAt (k + 1) p (left.length - 1)) 0 :: faL k (p - waysI ((findAt (k + 1) p (left.length - 1) : Nat) : Int) (k + 1)) (left.take (findAt (k + 1) p (left.length - 1))) from h) with e | e
    · have al : findAt (k + 1) p (left.length - 1) < left.length := by have := findAt_le (k + 1) p (left.length - 1); omega
      rw [e, List.getD_eq_getElem?_getD, List.getElem?_eq_getElem al, Option.getD_some]
      exact List.getElem_mem al
    · exact List.mem_of_mem_take (faL_mem k _ _ o3 x e)
theorem every_in {x : Int} (h : x ∈ every) : 2 ≤ x ∧ x ≤ 14 := by
  simp only [every, List.mem_cons, List.not_mem_nil, or_false] at h
  omega
theorem left_rng {g : List Int} {x : Int} (h : x ∈ leftM g) : 2 ≤ x ∧ x ≤ 14 := every_in (List.mem_filter.mp h).1
/-- what rank_in_kind asks for at a place -/
def okKP (k : Int) (p : Nat) : Prop := (k = 4 ∨ k = 8) ∨ ((k = 0 ∨ k = 5) ∧ (∀ i : Nat, i < 1287 → faOk 5 (i : Int) every = true) ∧ upM p < 1287 ∧ (∀ j < upD p, (decide (pkM (k, F5 (p + j)) < (p : Int)) || decide (0 < topM (F5 (p + j)))) = true) ∧ (decide (pkM (k, F5 (upM p)) < (p : Int)) || decide (0 < topM (F5 (upM p)))) = false) ∨
  ((k = 1 ∨ k = 2 ∨ k = 3 ∨ k = 6 ∨ k = 7) ∧ faOk (frM k) ((p : Int).fdiv (waysI (13 - (frM k : Int)) (moM k))) every = true ∧ faOk (moM k) (backM k p) (leftM (aheadM k p)) = true)
section
variable {fns : Nat → Option FnD} {h : Hi} {cf : Calls} {q : Nat}
end
end Cd
set_option Elab.async false
set_option linter.all false
set_option maxRecDepth 100000
set_option maxHeartbeats 4000000
namespace Cd
open PySem L2
section
variable {fns : Nat → Option FnD} {h : Hi} {cf : Calls} {q : Nat}
end
end Cd
set_option Elab.async false
set_option linter.all false
set_option maxRecDepth 100000
set_option maxHeartbeats 4000000
namespace Cd
open PySem L2
def cTab : List (List Nat) := [[1, 0, 0, 0, 0, 0], [1, 1, 0, 0, 0, 0], [1, 2, 1, 0, 0, 0], [1, 3, 3, 1, 0, 0], [1, 4, 6, 4, 1, 0], [1, 5, 10, 10, 5, 1], [1, 6, 15, 20, 15, 6], [1, 7, 21, 35, 35, 21], [1, 8, 28, 56, 70, 56], [1, 9, 36, 84, 126, 126], [1, 10, 45, 120, 210, 252], [1, 11, 55, 165, 330, 462], [1, 12, 66, 220, 495, 792], [1, 13, 78, 286, 715, 1287]]
def cT (m k : Nat) : Nat := (cTab.getD m []).getD k 0
theorem cT_eq : ∀ m : Nat, m < 14 → ∀ k : Nat, k < 6 → waysI (m : Int) k = (cT m k : Int) := by decide +kernel
theorem cT_0 : ∀ k : Nat, k < 5 → cT 0 (k + 1) = 0 := by decide
def findN (k p : Nat) : Nat → Nat
  | 0 => 0
  | a + 1 => bif Nat.blt p (cT (a + 1) k) then findN k p a else a + 1
def idxN : Nat → Nat → Nat → List Nat
  | 0, _, _ => []
  | k + 1, p, n => findN (k + 1) p (n - 1) :: idxN k (p - cT (findN (k + 1) p (n - 1)) (k + 1)) (findN (k + 1) p (n - 1))
def okN : Nat → Nat → Nat → Bool
  | 0, _, _ => true
  | k + 1, p, n => Nat.blt 0 n && okN k (p - cT (findN (k + 1) p (n - 1)) (k + 1)) (findN (k + 1) p (n - 1))
def sumN : List Nat → Nat
  | [] => 0
  | a :: as => cT a (as.length + 1) + sumN as
def vals (left : List Int) (bs : List Nat) : List Int := bs.map fun b => left.getD b 0
theorem find_eq {k p : Nat} (hk : k < 6) : ∀ a, a < 14 → findAt k (p : Int) a = findN k p a
  | 0, _ => rfl
  | a + 1, ha => by
    have ih := find_eq (p := p) hk a (by omega)
    show (if (p : Int) < waysI ((a + 1 : Nat) : Int) k then findAt k p a else a + 1) = (bif Nat.blt p (cT (a + 1) k) then findN k p a else a + 1)
    rw [cT_eq (a + 1) ha k hk, ih]
    by_cases c : p < cT (a + 1) k
    · rw [if_pos (by omega), show Nat.blt p (cT (a + 1) k) = true from Nat.ble_eq.mpr c]; rfl
    · rw [if_neg (by omega), show Nat.blt p (cT (a + 1) k) = false from Bool.eq_false_iff.mpr fun z => c (Nat.ble_eq.mp z)]; rfl
theorem find_le {k p : Nat} (hk : k < 5) : ∀ a, cT (findN (k + 1) p a) (k + 1) ≤ p
  | 0 => by
    show cT 0 (k + 1) ≤ p
    rw [cT_0 k hk]; omega
  | a + 1 => by
    have ih := find_le (p := p) hk a
    show cT (bif Nat.blt p (cT (a + 1) (k + 1)) then findN (k + 1) p a else a + 1) (k + 1) ≤ p
    cases c : Nat.blt p (cT (a + 1) (k + 1)) with
    | true => exact ih
    | false =>
      show cT (a + 1) (k + 1) ≤ p
      have : ¬ p < cT (a + 1) (k + 1) := fun z => by
        have := show Nat.blt p (cT (a + 1) (k + 1)) = true from Nat.ble_eq.mpr z
        rw [c] at this; cases this
      omega
theorem findN_le (k p : Nat) : ∀ a, findN k p a ≤ a
  | 0 => Nat.le_refl _
  | a + 1 => by
    have ih := findN_le k p a
    show (bif Nat.blt p (cT (a + 1) k) then findN k p a else a + 1) ≤ a + 1
    cases Nat.blt p (cT (a + 1) k) with
    | true => exact Nat.le_succ_of_le ih
    | false => exact Nat.le_refl _
theorem fa_idx (left : List Int) : ∀ (k p n : Nat), k ≤ 5 → n ≤ 13 → n ≤ left.length → okN k p n = true → faOk k (p : Int) (left.take n) = true ∧ faL k (p : Int) (left.take n) = vals left (idxN k p n) ∧ ∀ b ∈ idxN k p n, b < n
  | 0, _, _, _, _, _, _ => ⟨rfl, rfl, fun b h => by cases h⟩
  | k + 1, p, n, hk, hn, hl, ok => by
    rw [okN, Bool.and_eq_true] at ok
    have n0 : 0 < n := Nat.ble_eq.mp ok.1
    have tl : (left.take n).length = n := by rw [List.length_take]; omega
    have fe : findAt (k + 1) (p : Int) ((left.take n).length - 1) = findN (k + 1) p (n - 1) := by rw [tl]; exact find_eq (by omega) _ (by omega)
    obtain ⟨a, ha⟩ : ∃ a, a = findN (k + 1) p (n - 1) := ⟨_, rfl⟩
    have al : a ≤ n - 1 := by rw [ha]; exact findN_le _ _ _
    have ap : cT a (k + 1) ≤ p := by rw [ha]; exact find_le (by omega) _
    have we : waysI (a : Int) (k + 1) = (cT a (k + 1) : Int) := cT_eq a (by omega) (k + 1) (by omega)
    have sb : (p : Int) - (cT a (k + 1) : Int) = ((p - cT a (k + 1) : Nat) : Int) := by omega
    have tk : (left.take n).take a = left.take a := by rw [List.take_take, Nat.min_eq_left (by omega)]
    have gd : (left.take n).getD a 0 = left.getD a 0 := by
      rw [List.getD_eq_getElem?_getD, List.getD_eq_getElem?_getD, List.getElem?_take, if_pos (by omega)]
    have w0 : waysI 0 (k + 1) = 0 := by
      have := cT_eq 0 (by omega) (k + 1) (by omega)
      rw [cT_0 k (by omega)] at this
      exact this
    rw [← ha] at ok fe
    obtain ⟨i1, i2, i3⟩ := fa_idx left k (p - cT a (k + 1)) a (by omega) (by omega) (by omega) ok.2
    refine ⟨?_, ?_, ?_⟩
    · rw [faOk, fe, tk, we, sb, i1, w0, tl, decide_eq_true n0, decide_eq_true (by omega : (0 : Int) ≤ (p : Int))]
      rfl
    · rw [faL, fe, tk, we, sb, i2, gd, idxN, ← ha]
      rfl
    · intro b hb
      rw [idxN, ← ha] at hb
      rcases List.mem_cons.mp hb with e | e
      · omega
      · have := i3 b e; omega
theorem idx_len : ∀ k p n : Nat, (idxN k p n).length = k
  | 0, _, _ => rfl
  | k + 1, p, n => by
    show (idxN k _ _).length + 1 = k + 1
    rw [idx_len k]
theorem pf_sum {gone left : List Int} {n : Nat} (hn : n ≤ 13) (low : ∀ b : Nat, b < n → left.getD b 0 - 2 - (((gone.filter fun o => decide (o < left.getD b 0)).length : Nat) : Int) = (b : Int)) : ∀ bs : List Nat, (∀ b ∈ bs, b < n) → bs.length ≤ 5 → pfM gone (vals left bs) = (sumN bs : Int)
  | [], _, _ => rfl
  | b :: bs, hb, hl => by
    rw [List.length_cons] at hl
    have ih := pf_sum hn low bs (fun x hx => hb x (List.mem_cons_of_mem _ hx)) (by omega)
    have b1 := hb b List.mem_cons_self
    show waysI (left.getD b 0 - 2 - (((gone.filter fun o => decide (o < left.getD b 0)).length : Nat) : Int)) ((vals left bs).length + 1) + pfM gone (vals left bs) = ((cT b (bs.length + 1) + sumN bs : Nat) : Int)
    rw [ih, low b b1, show (vals left bs).length = bs.length from List.length_map _, cT_eq b (by omega) _ (by omega)]
    omega
theorem low_nil : ∀ b : Nat, b < 13 → every.getD b 0 - 2 - ((((([] : List Int)).filter fun o => decide (o < every.getD b 0)).length : Nat) : Int) = (b : Int) := by decide
theorem sub_desc : ∀ (l rs : List Int), l.Pairwise (fun a b => b < a) → rs.Pairwise (fun a b => b < a) → (∀ x ∈ rs, x ∈ l) → rs.Sublist l
  | l, [], _, _, _ => List.nil_sublist l
  | [], r :: rs, _, _, h => by cases h r List.mem_cons_self
  | x :: l, r :: rs, hl, hr, h => by
    obtain ⟨hl1, hl2⟩ := List.pairwise_cons.mp hl
    obtain ⟨hr1, hr2⟩ := List.pairwise_cons.mp hr
    by_cases e : r = x
    · subst e
      refine List.Sublist.cons₂ _ (sub_desc l rs hl2 hr2 fun y hy => ?_)
      rcases List.mem_cons.mp (h y (List.mem_cons_of_mem _ hy)) with z | z
      · have := hr1 y hy; omega
      · exact z
    · have rl : r ∈ l := (List.mem_cons.mp (h r List.mem_cons_self)).resolve_left e
      refine List.Sublist.cons _ (sub_desc l (r :: rs) hl2 hr fun y hy => ?_)
      rcases List.mem_cons.mp (h y hy) with z | z
      · have := hl1 r rl
        rcases List.mem_cons.mp hy with w | w
        · omega
        · have := hr1 y w; omega
      · exact z
theorem adj_desc : ∀ rs : List Int, ((rs.dropLast.zip (rs.drop 1)).all fun p => decide (p.2 < p.1)) = true → rs.Pairwise fun a b => b < a
  | [], _ => List.Pairwise.nil
  | [a], _ => List.pairwise_singleton _ _
  | a :: b :: rs, h => by
    have h' : (decide (b < a) && (((b :: rs).dropLast.zip ((b :: rs).drop 1)).all fun p => decide (p.2 < p.1))) = true := h
    rw [Bool.and_eq_true, decide_eq_true_iff] at h'
    have ih := adj_desc (b :: rs) h'.2
    refine List.pairwise_cons.mpr ⟨fun y hy => ?_, ih⟩
    rcases List.mem_cons.mp hy with e | e
    · omega
    · have := (List.pairwise_cons.mp ih).1 y e; omega
theorem downs_desc : downs.Pairwise fun a b => b < a := by decide
theorem fall_mem {rs : List Int} {m : Nat} (h : fallB rs m = true) : rs ∈ chooseM downs m := by
  unfold fallB at h
  rw [Bool.and_eq_true, Bool.and_eq_true, decide_eq_true_iff] at h
  refine (choose_mem _ _ _).mpr ⟨sub_desc _ _ downs_desc (adj_desc _ h.2.2) fun x hx => ?_, h.1⟩
  have := List.all_eq_true.mp h.2.1 x hx
  rw [Bool.and_eq_true, decide_eq_true_iff, decide_eq_true_iff] at this
  exact downs_mem.mpr this
end Cd
set_option Elab.async false
set_option linter.all false
set_option maxRecDepth 100000
set_option maxHeartbeats 4000000
namespace Cd
open PySem L2
def fallN : List Nat → Nat → Prop
  | [], _ => True
  | b :: bs, n => b < n ∧ fallN bs b
theorem cT_k0 : ∀ m : Nat, m < 14 → cT m 0 = 1 := by decide
theorem cT_pas : ∀ m : Nat, m < 13 → ∀ k : Nat, k < 5 → cT (m + 1) (k + 1) = cT m (k + 1) + cT m k := by decide
theorem find_lt {k p : Nat} (hk : k < 5) : ∀ a, p < cT (a + 1) (k + 1) → p < cT (findN (k + 1) p a + 1) (k + 1)
  | 0, h => h
  | a + 1, h => by
    show p < cT ((bif Nat.blt p (cT (a + 1) (k + 1)) then findN (k + 1) p a else a + 1) + 1) (k + 1)
    cases c : Nat.blt p (cT (a + 1) (k + 1)) with
    | true => exact find_lt hk a (Nat.ble_eq.mp c)
    | false => exact h
theorem idx_sum : ∀ (k p n : Nat), k ≤ 5 → n ≤ 13 → p < cT n k → okN k p n = true ∧ sumN (idxN k p n) = p ∧ fallN (idxN k p n) n
  | 0, p, n, _, hn, h => by
    rw [cT_k0 n (by omega)] at h
    refine ⟨rfl, ?_, trivial⟩
    show 0 = p
    omega
  | k + 1, p, n, hk, hn, h => by
    have n0 : 0 < n := by
      rcases Nat.eq_zero_or_pos n with e | e
      · subst e; rw [cT_0 k (by omega)] at h; omega
      · exact e
    obtain ⟨a, ha⟩ : ∃ a, a = findN (k + 1) p (n - 1) := ⟨_, rfl⟩
    have al : a ≤ n - 1 := by rw [ha]; exact findN_le _ _ _
    have ap : cT a (k + 1) ≤ p := by rw [ha]; exact find_le (by omega) _
    have au : p < cT (a + 1) (k + 1) := by rw [ha]; exact find_lt (by omega) (n - 1) (by rw [show n - 1 + 1 = n by omega]; exact h)
    rw [cT_pas a (by omega) k (by omega)] at au
    obtain ⟨i1, i2, i3⟩ := idx_sum k (p - cT a (k + 1)) a (by omega) (by omega) (by omega)
    refine ⟨?_, ?_, ?_⟩
    · rw [okN, ← ha, i1, show Nat.blt 0 n = true from Nat.ble_eq.mpr n0]; rfl
    · rw [idxN, ← ha]
      show cT a ((idxN k (p - cT a (k + 1)) a).length + 1) + sumN (idxN k (p - cT a (k + 1)) a) = p
      rw [idx_len, i2]
      omega
    · rw [idxN, ← ha]
      exact ⟨by omega, i3⟩
/-- the first ahead of the second -/
def ltN : List Nat → List Nat → Bool
  | [], _ => false
  | _ :: _, [] => false
  | x :: xs, y :: ys => if x = y then ltN xs ys else decide (x < y)
theorem find_mono {k p p' : Nat} (h : p ≤ p') : ∀ a, findN k p a ≤ findN k p' a
  | 0 => Nat.le_refl _
  | a + 1 => by
    have ih := find_mono (k := k) h a
    show (bif Nat.blt p (cT (a + 1) k) then findN k p a else a + 1) ≤ (bif Nat.blt p' (cT (a + 1) k) then findN k p' a else a + 1)
    cases c' : Nat.blt p' (cT (a + 1) k) with
    | true =>
      have : p' < cT (a + 1) k := Nat.ble_eq.mp c'
      rw [show Nat.blt p (cT (a + 1) k) = true from Nat.ble_eq.mpr (by show p + 1 ≤ _; omega)]
      exact ih
    | false =>
      have := findN_le k p (a + 1)
      exact this
theorem idx_lt : ∀ (k p p' n : Nat), k ≤ 5 → n ≤ 13 → p < p' → p' < cT n k → ltN (idxN k p n) (idxN k p' n) = true
  | 0, p, p', n, _, hn, h, h' => by
    rw [cT_k0 n (by omega)] at h'
    omega
  | k + 1, p, p', n, hk, hn, h, h' => by
    obtain ⟨o1, s1, f1⟩ := idx_sum (k + 1) p n hk hn (by omega)
    obtain ⟨o2, s2, f2⟩ := idx_sum (k + 1) p' n hk hn h'
    have m := find_mono (k := k + 1) (show p ≤ p' by omega) (n - 1)
    have al := findN_le (k + 1) p' (n - 1)
    have ap : cT (findN (k + 1) p (n - 1)) (k + 1) ≤ p := find_le (by omega) _
    have n0 : 0 < n := by
      rcases Nat.eq_zero_or_pos n with e | e
      · subst e; rw [cT_0 k (by omega)] at h'; omega
      · exact e
    have au : p' < cT (findN (k + 1) p' (n - 1) + 1) (k + 1) := find_lt (by omega) (n - 1) (by rw [show n - 1 + 1 = n by omega]; exact h')
    show (if findN (k + 1) p (n - 1) = findN (k + 1) p' (n - 1) then ltN (idxN k (p - cT (findN (k + 1) p (n - 1)) (k + 1)) (findN (k + 1) p (n - 1))) (idxN k (p' - cT (findN (k + 1) p' (n - 1)) (k + 1)) (findN (k + 1) p' (n - 1))) else decide (findN (k + 1) p (n - 1) < findN (k + 1) p' (n - 1))) = true
    by_cases c : findN (k + 1) p (n - 1) = findN (k + 1) p' (n - 1)
    · rw [if_pos c, ← c]
      rw [← c, cT_pas _ (by omega) k (by omega)] at au
      exact idx_lt k _ _ _ (by omega) (by omega) (by omega) (by omega)
    · rw [if_neg c]
      exact decide_eq_true (by omega)
end Cd
set_option Elab.async false
set_option linter.all false
set_option maxRecDepth 100000
set_option maxHeartbeats 4000000
namespace Cd
open PySem L2
theorem top_nn {rs : List Int} (h : ∀ x ∈ rs, 2 ≤ x ∧ x ≤ 14) : 0 ≤ topM rs := by
  unfold topM
  have hd : 0 ≤ rs.headD 0 := by
    cases rs with
    | nil => decide
    | cons x xs => have := h x List.mem_cons_self; show 0 ≤ x; omega
  split
  · decide
  · split
    · exact hd
    · decide
theorem rise_at {left : List Int} (hl : left.Pairwise fun a b => a < b) {b b' : Nat} (h : b' < b) (hb : b < left.length) : left.getD b' 0 < left.getD b 0 := by
  rw [List.getD_eq_getElem?_getD, List.getD_eq_getElem?_getD, List.getElem?_eq_getElem hb, List.getElem?_eq_getElem (by omega), Option.getD_some, Option.getD_some]
  exact List.pairwise_iff_getElem.mp hl b' b (by omega) hb h
theorem vals_desc {left : List Int} (hl : left.Pairwise fun a b => a < b) : ∀ (bs : List Nat) (n : Nat), fallN bs n → n ≤ left.length → (vals left bs).Pairwise (fun a b => b < a) ∧ ∀ x ∈ vals left bs, ∃ b, b < n ∧ x = left.getD b 0
  | [], _, _, _ => ⟨List.Pairwise.nil, fun x h => by cases h⟩
  | b :: bs, n, h, hn => by
    obtain ⟨h1, h2⟩ := h
    obtain ⟨i1, i2⟩ := vals_desc hl bs b h2 (by omega)
    refine ⟨List.pairwise_cons.mpr ⟨fun y hy => ?_, i1⟩, fun x hx => ?_⟩
    · obtain ⟨b', hb', rfl⟩ := i2 y hy
      exact rise_at hl hb' (by omega)
    · rcases List.mem_cons.mp hx with e | e
      · exact ⟨b, h1, e⟩
      · obtain ⟨b', hb', e'⟩ := i2 x e
        exact ⟨b', by omega, e'⟩
theorem vals_lt {left : List Int} (hl : left.Pairwise fun a b => a < b) : ∀ bs bs' : List Nat, (∀ b ∈ bs, b < left.length) → (∀ b ∈ bs', b < left.length) → ltN bs bs' = true → ltI (vals left bs) (vals left bs') = true
  | [], _, _, _, h => by cases h
  | _ :: _, [], _, _, h => by cases h
  | x :: xs, y :: ys, h1, h2, h => by
    show ltI (left.getD x 0 :: vals left xs) (left.getD y 0 :: vals left ys) = true
    unfold ltI
    have h : (if x = y then ltN xs ys else decide (x < y)) = true := h
    by_cases c : x = y
    · subst c
      rw [if_pos rfl] at h ⊢
      exact vals_lt hl xs ys (fun b hb => h1 b (List.mem_cons_of_mem _ hb)) (fun b hb => h2 b (List.mem_cons_of_mem _ hb)) h
    · rw [if_neg c] at h
      have r := rise_at hl (of_decide_eq_true h) (h2 y List.mem_cons_self)
      rw [if_neg (by omega)]
      exact decide_eq_true r
theorem ix_mem {left : List Int} {b : Nat} (h : b < left.length) : left.getD b 0 ∈ left := by
  rw [List.getD_eq_getElem?_getD, List.getElem?_eq_getElem h, Option.getD_some]
  exact List.getElem_mem h
theorem adj_ofP : ∀ rs : List Int, rs.Pairwise (fun a b => b < a) → ((rs.dropLast.zip (rs.drop 1)).all fun p => decide (p.2 < p.1)) = true
  | [], _ => rfl
  | [a], _ => rfl
  | a :: b :: rs, h => by
    obtain ⟨h1, h2⟩ := List.pairwise_cons.mp h
    show (decide (b < a) && (((b :: rs).dropLast.zip ((b :: rs).drop 1)).all fun p => decide (p.2 < p.1))) = true
    rw [decide_eq_true (h1 b List.mem_cons_self), Bool.true_and]
    exact adj_ofP (b :: rs) h2
theorem fall_ofP {rs : List Int} {m : Nat} (hl : rs.length = m) (hd : rs.Pairwise fun a b => b < a) (hr : ∀ x ∈ rs, 2 ≤ x ∧ x ≤ 14) : fallB rs m = true := by
  unfold fallB
  rw [decide_eq_true hl, Bool.true_and, Bool.and_eq_true]
  refine ⟨List.all_eq_true.mpr fun x hx => ?_, adj_ofP rs hd⟩
  have := hr x hx
  rw [decide_eq_true this.1, decide_eq_true this.2]; rfl
theorem fall_inv {rs : List Int} {m : Nat} (h : fallB rs m = true) : rs.length = m ∧ rs.Pairwise (fun a b => b < a) ∧ ∀ x ∈ rs, 2 ≤ x ∧ x ≤ 14 := by
  unfold fallB at h
  rw [Bool.and_eq_true, Bool.and_eq_true, decide_eq_true_iff] at h
  refine ⟨h.1, adj_desc _ h.2.2, fun x hx => ?_⟩
  have := List.all_eq_true.mp h.2.1 x hx
  rwa [Bool.and_eq_true, decide_eq_true_iff, decide_eq_true_iff] at this
theorem every_rise : every.Pairwise fun a b => a < b := by decide
theorem left_rise (g : List Int) : (leftM g).Pairwise fun a b => a < b := every_rise.filter _
def aN (fr w p : Nat) : List Int := vals every (idxN fr (p / w) 13)
def bN (fr mo w p : Nat) : List Int := vals (leftM (aN fr w p)) (idxN mo (p % w) (13 - fr))
def lowB (fr : Nat) (a : List Int) : Bool := Nat.beq (leftM a).length (13 - fr) && (List.range (13 - fr)).all fun b => decide ((leftM a).getD b 0 - 2 - (((a.filter fun o => decide (o < (leftM a).getD b 0)).length : Nat) : Int) = (b : Int))
theorem low_2 : ((chooseM downs 2).all (lowB 2)) = true := by decide +kernel
structure Kds (k : Int) (fr mo w n : Nat) : Prop where
  efr : frM k = fr
  emo : moM k = mo
  ew : waysI (13 - (fr : Int)) mo = (w : Int)
  cw : cT (13 - fr) mo = w
  cn : n = cT 13 fr * w
  w0 : 0 < w
  f2 : fr = 1 ∨ fr = 2
  m3 : mo ≤ 3
  kk : k = 1 ∨ k = 2 ∨ k = 3 ∨ k = 6 ∨ k = 7
  low : ∀ a, fallB a fr = true → lowB fr a = true
theorem low2 : ∀ a, fallB a 2 = true → lowB 2 a = true := fun a h => List.all_eq_true.mp low_2 a (fall_mem h)
theorem low_facts {fr : Nat} {a : List Int} (h : lowB fr a = true) : (leftM a).length = 13 - fr ∧ ∀ b : Nat, b < 13 - fr → (leftM a).getD b 0 - 2 - (((a.filter fun o => decide (o < (leftM a).getD b 0)).length : Nat) : Int) = (b : Int) := by
  unfold lowB at h
  rw [Bool.and_eq_true] at h
  exact ⟨Nat.eq_of_beq_eq_true h.1, fun b hb => of_decide_eq_true (List.all_eq_true.mp h.2 b (List.mem_range.mpr hb))⟩
theorem Kds.parts {k : Int} {fr mo w n p : Nat} (K : Kds k fr mo w n) (hp : p < n) : p / w < cT 13 fr ∧ p % w < cT (13 - fr) mo := by
  have w0 := K.w0
  refine ⟨?_, by rw [K.cw]; exact Nat.mod_lt _ w0⟩
  rw [K.cn] at hp
  exact (Nat.div_lt_iff_lt_mul w0).mpr hp
theorem Kds.fallA {k : Int} {fr mo w n p : Nat} (K : Kds k fr mo w n) (hp : p < n) : fallB (aN fr w p) fr = true := by
  obtain ⟨q1, q2⟩ := K.parts hp
  have f2 := K.f2
  obtain ⟨o1, s1, f1⟩ := idx_sum fr (p / w) 13 (by omega) (by decide) q1
  obtain ⟨d1, d2⟩ := vals_desc every_rise _ _ f1 (by decide)
  refine fall_ofP (by unfold aN vals; rw [List.length_map, idx_len]) d1 fun x hx => ?_
  obtain ⟨b, hb, rfl⟩ := d2 x hx
  exact every_in (ix_mem hb)
theorem Kds.at {k : Int} {fr mo w n p : Nat} (K : Kds k fr mo w n) (hp : p < n) : okKP k p ∧ rkM k p = (k, aN fr w p ++ bN fr mo w p) ∧ Frm (rkM k p) ∧ vldB (rkM k p) = true ∧ pkM (rkM k p) = (p : Int) := by
  have kk := K.kk
  have f2 := K.f2
  have m3 := K.m3
  have w0 := K.w0
  have n48 : ¬ (k = 4 ∨ k = 8) := by omega
  have n05 : ¬ (k = 0 ∨ k = 5) := by omega
  obtain ⟨q1, q2⟩ := K.parts hp
  obtain ⟨t1, t3, tf1⟩ := idx_sum fr (p / w) 13 (by omega) (by decide) q1
  obtain ⟨t2, t4, tf2⟩ := idx_sum mo (p % w) (13 - fr) (by omega) (by omega) q2
  have t5 := K.fallA hp
  obtain ⟨ll, lo⟩ := low_facts (K.low _ t5)
  obtain ⟨db, db2⟩ := vals_desc (left_rise (aN fr w p)) _ _ tf2 (by omega)
  have inL : ∀ x ∈ bN fr mo w p, x ∈ leftM (aN fr w p) := fun x hx => by
    obtain ⟨b, hb, rfl⟩ := db2 x hx
    exact ix_mem (by omega)
  have t6 : fallB (bN fr mo w p) mo = true := fall_ofP (by unfold bN vals; rw [List.length_map, idx_len]) db fun x hx => left_rng (inL x hx)
  have t7 : ((bN fr mo w p).any fun x => decide (x ∈ aN fr w p)) = false := by
    rw [List.any_eq_false]
    intro x hx
    have := (List.mem_filter.mp (inL x hx)).2
    simpa using this
  have fd : (p : Int).fdiv (w : Int) = ((p / w : Nat) : Int) := by
    rw [Int.fdiv_eq_ediv_of_nonneg _ (by omega)]
    rfl
  have dm : (p : Int) - ((p / w : Nat) : Int) * (w : Int) = ((p % w : Nat) : Int) := by
    have := Nat.div_add_mod p w
    have h2 : (w : Int) * ((p / w : Nat) : Int) + ((p % w : Nat) : Int) = (p : Int) := by
      rw [← Int.natCast_mul, ← Int.natCast_add, this]
    rw [Int.mul_comm] at h2
    omega
  obtain ⟨a1, a2, a3⟩ := fa_idx every fr (p / w) 13 (by omega) (by decide) (by decide) t1
  have a1 : faOk fr ((p / w : Nat) : Int) every = true := a1
  have a2 : faL fr ((p / w : Nat) : Int) every = aN fr w p := a2
  obtain ⟨b1, b2, b3⟩ := fa_idx (leftM (aN fr w p)) mo (p % w) (13 - fr) (by omega) (by omega) (by omega) t2
  rw [← ll, List.take_length] at b1 b2
  have b2 : faL mo ((p % w : Nat) : Int) (leftM (aN fr w p)) = bN fr mo w p := by
    rw [b2, ll]; rfl
  have ae : aheadM k p = aN fr w p := by
    unfold aheadM
    rw [K.efr, K.emo, K.ew, fd, a2]
  have be : backM k p = ((p % w : Nat) : Int) := by
    unfold backM
    rw [K.efr, K.emo, K.ew, fd, dm]
  have re : rkM k p = (k, aN fr w p ++ bN fr mo w p) := by
    unfold rkM
    rw [if_neg n48, if_neg n05, ae, be, K.emo, b2]
  have la : (aN fr w p).length = fr := by
    unfold aN vals
    rw [List.length_map, idx_len]
  have lb : (bN fr mo w p).length = mo := by
    unfold bN vals
    rw [List.length_map, idx_len]
  have tk : (aN fr w p ++ bN fr mo w p).take fr = aN fr w p := List.take_left' la
  have dr : (aN fr w p ++ bN fr mo w p).drop fr = bN fr mo w p := List.drop_left' la
  rw [re]
  refine ⟨.inr (.inr ⟨kk, ?_, ?_⟩), rfl, ⟨by show 0 ≤ k; omega, by show k ≤ 8; omega, ?_, ?_⟩, ?_, ?_⟩
  · rw [K.efr, K.emo, K.ew, fd]; exact a1
  · rw [ae, be, K.emo]; exact b1
  · show (aN fr w p ++ bN fr mo w p).length = lenM k
    unfold lenM
    rw [if_neg n05, if_neg n48, List.length_append, la, lb, K.efr, K.emo]
  · intro x hx
    rcases List.mem_append.mp hx with e | e
    · rw [← a2] at e
      exact every_in (faL_mem _ _ _ a1 x e)
    · rw [← b2] at e
      exact left_rng (faL_mem _ _ _ b1 x e)
  · unfold vldB
    rw [if_neg (show ¬ (k = 4 ∨ k = 8) from n48), if_neg (show ¬ (k = 0 ∨ k = 5) from n05)]
    show (fallB ((aN fr w p ++ bN fr mo w p).take (frM k)) (frM k) && (fallB ((aN fr w p ++ bN fr mo w p).drop (frM k)) (moM k) && !(((aN fr w p ++ bN fr mo w p).drop (frM k)).any fun x => decide (x ∈ (aN fr w p ++ bN fr mo w p).take (frM k))))) = true
    rw [K.efr, K.emo, tk, dr, t5, t6, t7]
    rfl
  · unfold pkM
    rw [if_neg n48, if_neg n05]
    show pfM [] ((aN fr w p ++ bN fr mo w p).take (frM k)) * waysI (13 - (frM k : Int)) (moM k) + pfM ((aN fr w p ++ bN fr mo w p).take (frM k)) ((aN fr w p ++ bN fr mo w p).drop (frM k)) = _
    rw [K.efr, K.emo, tk, dr, K.ew]
    have s1 : pfM [] (aN fr w p) = ((p / w : Nat) : Int) := by
      have := pf_sum (gone := []) (left := every) (n := 13) (by decide) low_nil (idxN fr (p / w) 13) a3 (by rw [idx_len]; omega)
      rw [t3] at this
      exact this
    have s2 : pfM (aN fr w p) (bN fr mo w p) = ((p % w : Nat) : Int) := by
      have := pf_sum (gone := aN fr w p) (left := leftM (aN fr w p)) (n := 13 - fr) (by omega) lo (idxN mo (p % w) (13 - fr)) b3 (by rw [idx_len]; omega)
      rw [t4] at this
      exact this
    rw [s1, s2]
    omega
theorem ltI_appL : ∀ a a' b b' : List Int, a.length = a'.length → ltI a a' = true → ltI (a ++ b) (a' ++ b') = true
  | [], [], _, _, _, h => by cases h
  | [], _ :: _, _, _, h, _ => by cases h
  | _ :: _, [], _, _, h, _ => by cases h
  | x :: xs, y :: ys, b, b', hl, h => by
    show ltI (x :: (xs ++ b)) (y :: (ys ++ b')) = true
    unfold ltI at h ⊢
    by_cases c : x = y
    · rw [if_pos c] at h ⊢
      exact ltI_appL xs ys b b' (by simpa using hl) h
    · rw [if_neg c] at h ⊢
      exact h
theorem ltI_appR : ∀ a b b' : List Int, ltI b b' = true → ltI (a ++ b) (a ++ b') = true
  | [], _, _, h => h
  | x :: xs, b, b', h => by
    show ltI (x :: (xs ++ b)) (x :: (xs ++ b')) = true
    unfold ltI
    rw [if_pos rfl]
    exact ltI_appR xs b b' h
theorem Kds.lt {k : Int} {fr mo w n p : Nat} (K : Kds k fr mo w n) (hp : p + 1 < n) : ltI (rkM k p).2 (rkM k (p + 1)).2 = true := by
  rw [(K.at (show p < n by omega)).2.1, (K.at hp).2.1]
  show ltI (aN fr w p ++ bN fr mo w p) (aN fr w (p + 1) ++ bN fr mo w (p + 1)) = true
  have f2 := K.f2
  have m3 := K.m3
  have w0 := K.w0
  obtain ⟨q1, q2⟩ := K.parts (show p < n by omega)
  obtain ⟨r1, r2⟩ := K.parts hp
  have le : p / w ≤ (p + 1) / w := Nat.div_le_div_right (by omega)
  rcases Nat.eq_or_lt_of_le le with e | e
  · have a := Nat.div_add_mod p w
    have b := Nat.div_add_mod (p + 1) w
    rw [← e] at b
    have lt : p % w < (p + 1) % w := by omega
    have ea : aN fr w (p + 1) = aN fr w p := by unfold aN; rw [← e]
    have eb : bN fr mo w (p + 1) = vals (leftM (aN fr w p)) (idxN mo ((p + 1) % w) (13 - fr)) := by unfold bN; rw [ea]
    rw [ea, eb]
    refine ltI_appR _ _ _ ?_
    obtain ⟨ll, _⟩ := low_facts (K.low _ (K.fallA (show p < n by omega)))
    obtain ⟨o1, _, _⟩ := idx_sum mo (p % w) (13 - fr) (by omega) (by omega) q2
    obtain ⟨o2, _, _⟩ := idx_sum mo ((p + 1) % w) (13 - fr) (by omega) (by omega) r2
    have b1 := (fa_idx (leftM (aN fr w p)) mo (p % w) (13 - fr) (by omega) (by omega) (by omega) o1).2.2
    have b2 := (fa_idx (leftM (aN fr w p)) mo ((p + 1) % w) (13 - fr) (by omega) (by omega) (by omega) o2).2.2
    exact vals_lt (left_rise _) _ _ (fun b hb => by have := b1 b hb; omega) (fun b hb => by have := b2 b hb; omega) (idx_lt mo _ _ _ (by omega) (by omega) lt r2)
  · refine ltI_appL _ _ _ _ (by unfold aN vals; rw [List.length_map, List.length_map, idx_len, idx_len]) ?_
    obtain ⟨o1, _, _⟩ := idx_sum fr (p / w) 13 (by omega) (by decide) q1
    obtain ⟨o2, _, _⟩ := idx_sum fr ((p + 1) / w) 13 (by omega) (by decide) r1
    exact vals_lt every_rise _ _ (fa_idx every fr (p / w) 13 (by omega) (by decide) (by decide) o1).2.2 (fa_idx every fr ((p + 1) / w) 13 (by omega) (by decide) (by decide) o2).2.2 (idx_lt fr _ _ _ (by omega) (by decide) e r1)
end Cd
set_option Elab.async false
set_option linter.all false
set_option maxRecDepth 100000
set_option maxHeartbeats 4000000
namespace Cd
open PySem L2
end Cd
set_option Elab.async false
set_option linter.all false
set_option maxRecDepth 100000
set_option maxHeartbeats 4000000
namespace Cd
open PySem L2
open TL (tl tl_append len_tl ext_tl split_join map_tl_inj)
end Cd
set_option Elab.async false
set_option linter.all false
set_option maxRecDepth 100000
set_option maxHeartbeats 4000000
namespace Cd
open PySem L2
def hhh : List Str := ["h", "h", "h", "h", "h"]
def hhs : List Str := ["h", "h", "s", "h", "h"]
def oftM (k : Int) : List Int := if k = 1 then [2, 1, 1, 1] else if k = 2 then [2, 2, 1] else if k = 3 then [3, 1, 1] else if k = 6 then [3, 2] else [4, 1]
def grpM (ps : List (Int × Int)) : List Card := ps.flatMap fun p => (suitsL.take p.2.toNat).map fun s => (p.1, s)
def fiveM (r : Rank) : List Card :=
  if r.1 = 4 ∨ r.1 = 8 then rowC (r.2.headD 0) (if r.1 = 8 then hhh else hhs)
  else if r.1 = 0 ∨ r.1 = 5 then r.2.zip (if r.1 = 5 then ccc else ccd)
  else grpM (r.2.zip (oftM r.1))
theorem row_h {t : Int} (h5 : 5 ≤ t) (h14 : t ≤ 14) : (Fit (rowC t hhh) ∧ (rowC t hhh).length = 5 ∧ rankM (rowC t hhh) = (8, [t])) ∧ (Fit (rowC t hhs) ∧ (rowC t hhs).length = 5 ∧ rankM (rowC t hhs) = (4, [t])) := by
  have all : ∀ i : _root_.Fin 10, ((rowC (5 + (i.val : Int)) hhh).map (·.1)).Nodup ∧ (∀ c ∈ rowC (5 + (i.val : Int)) hhh, 2 ≤ c.1 ∧ c.1 ≤ 14) ∧ (rowC (5 + (i.val : Int)) hhh).length = 5 ∧ rankM (rowC (5 + (i.val : Int)) hhh) = (8, [5 + (i.val : Int)]) ∧
      ((rowC (5 + (i.val : Int)) hhs).map (·.1)).Nodup ∧ (∀ c ∈ rowC (5 + (i.val : Int)) hhs, 2 ≤ c.1 ∧ c.1 ≤ 14) ∧ (rowC (5 + (i.val : Int)) hhs).length = 5 ∧ rankM (rowC (5 + (i.val : Int)) hhs) = (4, [5 + (i.val : Int)]) := by decide +kernel
  obtain ⟨j, hj⟩ : ∃ j : Nat, t = 5 + (j : Int) := ⟨(t - 5).toNat, by omega⟩
  have := all ⟨j, by omega⟩
  rw [show (5 + ((⟨j, by omega⟩ : _root_.Fin 10).val : Int)) = t from hj.symm] at this
  obtain ⟨a1, a2, a3, a4, b1, b2, b3, b4⟩ := this
  exact ⟨⟨⟨fun r => by have := List.nodup_iff_count.mp a1 r; omega, a2⟩, a3, a4⟩, ⟨⟨fun r => by have := List.nodup_iff_count.mp b1 r; omega, b2⟩, b3, b4⟩⟩
theorem desc_sort {l : List Int} (h : l.Pairwise (fun a b => b < a)) : (sortI l).reverse = l := by
  have nd : l.Nodup := h.imp fun h => by omega
  exact desc_uniq (rev_desc nd) h fun x => by rw [List.mem_reverse, (sortI_perm l).mem_iff]
theorem five_rank {r : Rank} (f : Frm r) (hv : vldB r = true) : Fit (fiveM r) ∧ (fiveM r).length = 5 ∧ rankM (fiveM r) = r ∧ ∀ c ∈ fiveM r, c.2 ∈ suitsL := by
  obtain ⟨k, rs⟩ := r
  have h0 : 0 ≤ k := f.lo
  have h8 : k ≤ 8 := f.hi
  have hl : rs.length = lenM k := f.len
  have rg : ∀ x ∈ rs, 2 ≤ x ∧ x ≤ 14 := f.rng
  have sc : ∀ s ∈ ccc, s ∈ suitsL := by decide
  have sd : ∀ s ∈ ccd, s ∈ suitsL := by decide
  have sh : ∀ s ∈ hhh, s ∈ suitsL := by decide
  have ss : ∀ s ∈ hhs, s ∈ suitsL := by decide
  unfold vldB at hv
  unfold fiveM
  simp only at hv ⊢
  by_cases c1 : k = 4 ∨ k = 8
  · rw [if_pos c1] at hv ⊢
    rw [Bool.and_eq_true] at hv
    have l1 : rs.length = 1 := by rcases c1 with rfl | rfl <;> exact hl
    obtain ⟨t, rfl⟩ := List.length_eq_one_iff.mp l1
    have ht : 5 ≤ t ∧ t ≤ 14 := by
      have := of_decide_eq_true hv.2
      simp only [List.headD_cons, List.mem_cons, List.not_mem_nil, or_false] at this
      omega
    obtain ⟨⟨a1, a2, a3⟩, b1, b2, b3⟩ := row_h ht.1 ht.2
    rcases c1 with rfl | rfl
    · exact ⟨b1, b2, b3, fun c hc => ss _ (List.of_mem_zip hc).2⟩
    · exact ⟨a1, a2, a3, fun c hc => sh _ (List.of_mem_zip hc).2⟩
  · rw [if_neg c1] at hv ⊢
    by_cases c2 : k = 0 ∨ k = 5
    · rw [if_pos c2] at hv ⊢
      rw [Bool.and_eq_true] at hv
      obtain ⟨l5, hd, _⟩ := fall_inv hv.1
      have t0 := of_decide_eq_true hv.2
      rw [top_eqL l5 hd] at t0
      have nr : isRow rs = false := by
        unfold isRow
        unfold topL at t0
        by_cases q1 : rs = [14, 5, 4, 3, 2]
        · rw [if_pos q1] at t0; exact absurd t0 (by decide)
        · rw [if_neg q1] at t0
          by_cases q2 : rs.headD 0 - rs.getD 4 0 = 4
          · rw [if_pos q2] at t0
            have : 2 ≤ rs.headD 0 := by
              match rs, l5 with
              | x :: _, _ => exact (rg x List.mem_cons_self).1
            omega
          · rw [decide_eq_false q2, decide_eq_false (show ¬ rs = lowRow from q1)]; rfl
      match rs, l5, nr, hd, rg with
      | [a, b, c, d, e], _, nr, hd, rg =>
        rcases c2 with rfl | rfl
        · obtain ⟨u1, u2, u3⟩ := unlike_rank (five := [a, b, c, d, e].zip ccd) rfl hd rg rfl
          refine ⟨u1, u2, ?_, fun c hc => sd _ (List.of_mem_zip hc).2⟩
          rw [show (if (0 : Int) = 5 then ccc else ccd) = ccd from rfl, u3]
          have al : alikeM ([a, b, c, d, e].zip ccd) = false := rfl
          unfold dueU
          rw [al, nr]
          rfl
        · obtain ⟨u1, u2, u3⟩ := unlike_rank (five := [a, b, c, d, e].zip ccc) rfl hd rg rfl
          refine ⟨u1, u2, ?_, fun c hc => sc _ (List.of_mem_zip hc).2⟩
          rw [show (if (5 : Int) = 5 then ccc else ccd) = ccc from rfl, u3]
          have al : alikeM ([a, b, c, d, e].zip ccc) = true := rfl
          unfold dueU
          rw [al, nr]
          rfl
    · rw [if_neg c2] at hv ⊢
      rw [Bool.and_eq_true, Bool.and_eq_true] at hv
      obtain ⟨v1, v2, v3⟩ := hv
      obtain ⟨_, d1, _⟩ := fall_inv v1
      obtain ⟨_, d2, _⟩ := fall_inv v2
      have hk : k = 1 ∨ k = 2 ∨ k = 3 ∨ k = 6 ∨ k = 7 := by omega
      have su : ∀ ps : List (Int × Int), ∀ c ∈ grpM ps, c.2 ∈ suitsL := fun ps c hc => by
        obtain ⟨p, _, h⟩ := List.mem_flatMap.mp hc
        obtain ⟨s, hs, rfl⟩ := List.mem_map.mp h
        exact List.mem_of_mem_take hs
      rcases hk with rfl | rfl | rfl | rfl | rfl
      · match rs, hl, d1, d2, v3, rg with
        | [a, b, c, d], _, d1, d2, v3, rg =>
          have d2' : [b, c, d].Pairwise (fun x y => y < x) := d2
          have na : a ∉ [b, c, d] := by
            intro hm
            simp [frM] at v3
            simp at hm
            rcases hm with e | e | e <;> simp [e] at v3
          have nd : [a, b, c, d].Nodup := List.nodup_cons.mpr ⟨na, d2'.imp fun h => by omega⟩
          obtain ⟨u1, u2, u3⟩ := shape_rank (five := grpM ([a, b, c, d].zip (oftM 1))) (rs := [a, b, c, d]) (ks := (1, [2, 1, 1, 1])) (by decide) rfl nd rg rfl
          refine ⟨u1, u2, u3.trans ?_, su _⟩
          have e : dueAll ([a, b, c, d].zip [2, 1, 1, 1]) = (sortI []).reverse ++ ((sortI []).reverse ++ ((sortI [a]).reverse ++ ((sortI [b, c, d]).reverse ++ []))) := rfl
          show (1, dueAll ([a, b, c, d].zip [2, 1, 1, 1])) = _
          rw [e, desc_sort d2']
          rfl
      · match rs, hl, d1, d2, v3, rg with
        | [a, b, c], _, d1, d2, v3, rg =>
          have d1' : [a, b].Pairwise (fun x y => y < x) := d1
          have nd : [a, b, c].Nodup := by
            simp [frM] at v3
            simp at d1'
            simp
            omega
          obtain ⟨u1, u2, u3⟩ := shape_rank (five := grpM ([a, b, c].zip (oftM 2))) (rs := [a, b, c]) (ks := (2, [2, 2, 1])) (by decide) rfl nd rg rfl
          refine ⟨u1, u2, u3.trans ?_, su _⟩
          have e : dueAll ([a, b, c].zip [2, 2, 1]) = (sortI []).reverse ++ ((sortI []).reverse ++ ((sortI [a, b]).reverse ++ ((sortI [c]).reverse ++ []))) := rfl
          show (2, dueAll ([a, b, c].zip [2, 2, 1])) = _
          rw [e, desc_sort d1']
          rfl
      · match rs, hl, d1, d2, v3, rg with
        | [a, b, c], _, d1, d2, v3, rg =>
          have d2' : [b, c].Pairwise (fun x y => y < x) := d2
          have nd : [a, b, c].Nodup := by
            simp [frM] at v3
            simp at d2'
            simp
            omega
          obtain ⟨u1, u2, u3⟩ := shape_rank (five := grpM ([a, b, c].zip (oftM 3))) (rs := [a, b, c]) (ks := (3, [3, 1, 1])) (by decide) rfl nd rg rfl
          refine ⟨u1, u2, u3.trans ?_, su _⟩
          have e : dueAll ([a, b, c].zip [3, 1, 1]) = (sortI []).reverse ++ ((sortI [a]).reverse ++ ((sortI []).reverse ++ ((sortI [b, c]).reverse ++ []))) := rfl
          show (3, dueAll ([a, b, c].zip [3, 1, 1])) = _
          rw [e, desc_sort d2']
          rfl
      · match rs, hl, d1, d2, v3, rg with
        | [a, b], _, d1, d2, v3, rg =>
          have nd : [a, b].Nodup := by
            simp [frM] at v3
            simp
            omega
          obtain ⟨u1, u2, u3⟩ := shape_rank (five := grpM ([a, b].zip (oftM 6))) (rs := [a, b]) (ks := (6, [3, 2])) (by decide) rfl nd rg rfl
          refine ⟨u1, u2, u3.trans ?_, su _⟩
          rfl
      · match rs, hl, d1, d2, v3, rg with
        | [a, b], _, d1, d2, v3, rg =>
          have nd : [a, b].Nodup := by
            simp [frM] at v3
            simp
            omega
          obtain ⟨u1, u2, u3⟩ := shape_rank (five := grpM ([a, b].zip (oftM 7))) (rs := [a, b]) (ks := (7, [4, 1])) (by decide) rfl nd rg rfl
          refine ⟨u1, u2, u3.trans ?_, su _⟩
          rfl
end Cd
set_option Elab.async false
set_option linter.all false
set_option maxRecDepth 100000
set_option maxHeartbeats 4000000
namespace Cd
open PySem L2
theorem adj_of : ∀ rs : List Int, rs.Pairwise (fun a b => b < a) → ((rs.dropLast.zip (rs.drop 1)).all fun p => decide (p.2 < p.1)) = true
  | [], _ => rfl
  | [a], _ => rfl
  | a :: b :: rs, h => by
    obtain ⟨h1, h2⟩ := List.pairwise_cons.mp h
    show (decide (b < a) && (((b :: rs).dropLast.zip ((b :: rs).drop 1)).all fun p => decide (p.2 < p.1))) = true
    rw [decide_eq_true (h1 b List.mem_cons_self), Bool.true_and]
    exact adj_of (b :: rs) h2
theorem fall_of {rs : List Int} {m : Nat} (hl : rs.length = m) (hd : rs.Pairwise fun a b => b < a) (hr : ∀ x ∈ rs, 2 ≤ x ∧ x ≤ 14) : fallB rs m = true := by
  unfold fallB
  rw [decide_eq_true hl, Bool.true_and, Bool.and_eq_true]
  refine ⟨List.all_eq_true.mpr fun x hx => ?_, adj_of rs hd⟩
  have := hr x hx
  rw [decide_eq_true this.1, decide_eq_true this.2]; rfl
theorem le_step {c : Int → Int} {r r' : Int} (h : leP (c r', r') (c r, r) = true ∧ ((c r, r) : Int × Int) ≠ (c r', r')) (e : c r = c r') : r' < r := by
  obtain ⟨h1, h2⟩ := h
  unfold leP at h1
  rw [e] at h1 h2
  have : r ≠ r' := fun z => h2 (by rw [z])
  simp at h1
  omega
theorem len2 : ∀ l : List Int, l.length = 2 → ∃ a b, l = [a, b]
  | [a, b], _ => ⟨a, b, rfl⟩
theorem len3 : ∀ l : List Int, l.length = 3 → ∃ a b c, l = [a, b, c]
  | [a, b, c], _ => ⟨a, b, c, rfl⟩
theorem len4 : ∀ l : List Int, l.length = 4 → ∃ a b c d, l = [a, b, c, d]
  | [a, b, c, d], _ => ⟨a, b, c, d, rfl⟩
theorem grp (cnt : Int → Int) (l : List Int) (x : Int) (hs : (l.map cnt, x) ∈ shapes) (hp : (l.map fun r => (cnt r, r)).Pairwise fun p q => leP q p = true ∧ p ≠ q) (rg : ∀ r ∈ l, 2 ≤ r ∧ r ≤ 14) : Frm (x, l) ∧ vldB (x, l) = true := by
  simp only [shapes, List.mem_cons, List.not_mem_nil, or_false, Prod.mk.injEq] at hs
  have ne : ∀ a b, cnt a ≠ cnt b → a ≠ b := fun a b h e => h (by rw [e])
  rcases hs with ⟨h, rfl⟩ | ⟨h, rfl⟩ | ⟨h, rfl⟩ | ⟨h, rfl⟩ | ⟨h, rfl⟩
  · obtain ⟨a, b, c, d, rfl⟩ := len4 l (by have := congrArg List.length h; rwa [List.length_map] at this)
    · skip
      simp only [List.map_cons, List.map_nil, List.cons.injEq, and_true] at h
      obtain ⟨ha, hb, hc, hd⟩ := h
      simp only [List.map_cons, List.map_nil, List.pairwise_cons, List.mem_cons, List.not_mem_nil, or_false, forall_eq_or_imp, forall_eq] at hp
      have s1 := le_step hp.2.1.1 (by rw [hb, hc])
      have s2 := le_step hp.2.2.1 (by rw [hc, hd])
      have n1 := ne a b (by rw [ha, hb]; decide)
      have n2 := ne a c (by rw [ha, hc]; decide)
      have n3 := ne a d (by rw [ha, hd]; decide)
      refine ⟨⟨by show (0 : Int) ≤ 1; decide, by show (1 : Int) ≤ 8; decide, rfl, rg⟩, ?_⟩
      show (fallB [a] 1 && (fallB [b, c, d] 3 && !([b, c, d].any fun x => decide (x ∈ [a])))) = true
      rw [fall_of (m := 1) rfl (List.pairwise_singleton _ _) (fun x hx => rg x (by simp at hx; simp [hx])), fall_of (rs := [b, c, d]) (m := 3) rfl (by simp; omega) (fun x hx => rg x (List.mem_cons_of_mem _ hx))]
      simp; omega
  · obtain ⟨a, b, c, rfl⟩ := len3 l (by have := congrArg List.length h; rwa [List.length_map] at this)
    · skip
      simp only [List.map_cons, List.map_nil, List.cons.injEq, and_true] at h
      obtain ⟨ha, hb, hc⟩ := h
      simp only [List.map_cons, List.map_nil, List.pairwise_cons, List.mem_cons, List.not_mem_nil, or_false, forall_eq_or_imp, forall_eq] at hp
      have s1 := le_step hp.1.1 (by rw [ha, hb])
      have n1 := ne a c (by rw [ha, hc]; decide)
      have n2 := ne b c (by rw [hb, hc]; decide)
      refine ⟨⟨by show (0 : Int) ≤ 2; decide, by show (2 : Int) ≤ 8; decide, rfl, rg⟩, ?_⟩
      show (fallB [a, b] 2 && (fallB [c] 1 && !([c].any fun x => decide (x ∈ [a, b])))) = true
      rw [fall_of (rs := [a, b]) (m := 2) rfl (by simp; omega) (fun x hx => rg x (by simp at hx; rcases hx with h | h <;> simp [h])), fall_of (rs := [c]) (m := 1) rfl (List.pairwise_singleton _ _) (fun x hx => rg x (by simp at hx; simp [hx]))]
      simp; omega
  · obtain ⟨a, b, c, rfl⟩ := len3 l (by have := congrArg List.length h; rwa [List.length_map] at this)
    · skip
      simp only [List.map_cons, List.map_nil, List.cons.injEq, and_true] at h
      obtain ⟨ha, hb, hc⟩ := h
      simp only [List.map_cons, List.map_nil, List.pairwise_cons, List.mem_cons, List.not_mem_nil, or_false, forall_eq_or_imp, forall_eq] at hp
      have s1 := le_step hp.2.1 (by rw [hb, hc])
      have n1 := ne a b (by rw [ha, hb]; decide)
      have n2 := ne a c (by rw [ha, hc]; decide)
      refine ⟨⟨by show (0 : Int) ≤ 3; decide, by show (3 : Int) ≤ 8; decide, rfl, rg⟩, ?_⟩
      show (fallB [a] 1 && (fallB [b, c] 2 && !([b, c].any fun x => decide (x ∈ [a])))) = true
      rw [fall_of (rs := [a]) (m := 1) rfl (List.pairwise_singleton _ _) (fun x hx => rg x (by simp at hx; simp [hx])), fall_of (rs := [b, c]) (m := 2) rfl (by simp; omega) (fun x hx => rg x (List.mem_cons_of_mem _ hx))]
      simp; omega
  · obtain ⟨a, b, rfl⟩ := len2 l (by have := congrArg List.length h; rwa [List.length_map] at this)
    · skip
      simp only [List.map_cons, List.map_nil, List.cons.injEq, and_true] at h
      obtain ⟨ha, hb⟩ := h
      have n1 := ne a b (by rw [ha, hb]; decide)
      refine ⟨⟨by show (0 : Int) ≤ 6; decide, by show (6 : Int) ≤ 8; decide, rfl, rg⟩, ?_⟩
      show (fallB [a] 1 && (fallB [b] 1 && !([b].any fun x => decide (x ∈ [a])))) = true
      rw [fall_of (rs := [a]) (m := 1) rfl (List.pairwise_singleton _ _) (fun x hx => rg x (by simp at hx; simp [hx])), fall_of (rs := [b]) (m := 1) rfl (List.pairwise_singleton _ _) (fun x hx => rg x (by simp at hx; simp [hx]))]
      simp; omega
  · obtain ⟨a, b, rfl⟩ := len2 l (by have := congrArg List.length h; rwa [List.length_map] at this)
    · skip
      simp only [List.map_cons, List.map_nil, List.cons.injEq, and_true] at h
      obtain ⟨ha, hb⟩ := h
      have n1 := ne a b (by rw [ha, hb]; decide)
      refine ⟨⟨by show (0 : Int) ≤ 7; decide, by show (7 : Int) ≤ 8; decide, rfl, rg⟩, ?_⟩
      show (fallB [a] 1 && (fallB [b] 1 && !([b].any fun x => decide (x ∈ [a])))) = true
      rw [fall_of (rs := [a]) (m := 1) rfl (List.pairwise_singleton _ _) (fun x hx => rg x (by simp at hx; simp [hx])), fall_of (rs := [b]) (m := 1) rfl (List.pairwise_singleton _ _) (fun x hx => rg x (by simp at hx; simp [hx]))]
      simp; omega
theorem top_rng {rs : List Int} (hr : ∀ x ∈ rs, 2 ≤ x ∧ x ≤ 14) (hl : rs.length = 5) (h : 0 < topM rs) : topM rs ∈ ([5, 6, 7, 8, 9, 10, 11, 12, 13, 14] : List Int) := by
  have key : 5 ≤ topM rs ∧ topM rs ≤ 14 := by
    unfold topM at h ⊢
    split
    · omega
    · rename_i n1
      rw [if_neg n1] at h
      split
      · rename_i e
        match rs, hl, e with
        | [a, b, c, d, x], _, e =>
          have e5 : x = a - 4 := by
            have := congrArg (fun l : List Int => l.getD 4 0) e
            simpa using this
          have := hr a (by simp)
          have := hr x (by simp)
          show 5 ≤ a ∧ a ≤ 14
          omega
      · rename_i n2
        rw [if_neg n2] at h
        omega
  simp only [List.mem_cons, List.not_mem_nil, or_false]
  omega
theorem rank_frm {five : List Card} (h5 : five.length = 5) (f : Fit five) : Frm (rankM five) ∧ vldB (rankM five) = true := by
  have rg : ∀ x ∈ ranksM five, 2 ≤ x ∧ x ≤ 14 := fun x hx => by
    obtain ⟨c, hc, rfl⟩ := List.mem_map.mp (ranks_mem hx)
    exact f.2 c hc
  unfold rankM
  by_cases c : (ranksM five).length < 5
  · rw [if_pos c]
    obtain ⟨x, hx⟩ := Option.isSome_iff_exists.mp (shape_ok h5 f.1 c)
    rw [hx, Option.getD_some]
    have re := rows_eqL f
    have e1 : ranksM five = ranksL (five.map (·.1)) := ranks_eqL f
    have e2 : shapeM five = (ranksM five).map fun r => (((five.map (·.1)).count r : Nat) : Int) := by
      rw [e1]
      unfold shapeM
      rw [re, List.map_map]; rfl
    have m := lookup_memL hx
    rw [e2] at m
    exact grp (fun r => (((five.map (·.1)).count r : Nat) : Int)) _ x m (by rw [e1]; exact rowsL_desc _) rg
  · rw [if_neg c]
    obtain ⟨l5, pd, _⟩ := unlike h5 f c
    have tp : 0 < topM (ranksM five) → topM (ranksM five) ∈ ([5, 6, 7, 8, 9, 10, 11, 12, 13, 14] : List Int) := top_rng rg l5
    have tn := top_nn rg
    have one : ∀ k : Int, k = 4 ∨ k = 8 → 0 < topM (ranksM five) → Frm (k, [topM (ranksM five)]) ∧ vldB (k, [topM (ranksM five)]) = true := fun k hk h0 => by
      have t := tp h0
      generalize topM (ranksM five) = T at t
      have t' := t
      simp only [List.mem_cons, List.not_mem_nil, or_false] at t'
      refine ⟨⟨by show 0 ≤ k; omega, by show k ≤ 8; omega, ?_, fun x hx => by rw [List.mem_singleton.mp hx]; omega⟩, ?_⟩
      · show 1 = lenM k
        unfold lenM
        rw [if_neg (by omega), if_pos hk]
      · unfold vldB
        rw [if_pos (show k = 4 ∨ k = 8 from hk)]
        show (fallB [T] 1 && decide (T ∈ _)) = true
        rw [fall_of (rs := [T]) (m := 1) rfl (List.pairwise_singleton _ _) (fun x hx => by rw [List.mem_singleton.mp hx]; omega), Bool.true_and]
        exact decide_eq_true t
    have many : ∀ k : Int, k = 0 ∨ k = 5 → topM (ranksM five) = 0 → Frm (k, ranksM five) ∧ vldB (k, ranksM five) = true := fun k hk h0 => by
      refine ⟨⟨by show 0 ≤ k; omega, by show k ≤ 8; omega, ?_, rg⟩, ?_⟩
      · show (ranksM five).length = lenM k
        unfold lenM
        rw [if_pos hk, l5]
      · unfold vldB
        rw [if_neg (show ¬ (k = 4 ∨ k = 8) by omega), if_pos (show k = 0 ∨ k = 5 from hk)]
        show (fallB (ranksM five) 5 && decide (topM (ranksM five) = 0)) = true
        rw [fall_of l5 pd rg, decide_eq_true h0]; rfl
    by_cases t0 : 0 < topM (ranksM five)
    · cases al : alikeM five with
      | true =>
        rw [decide_eq_true t0, Bool.true_and, if_pos rfl]
        exact one 8 (.inr rfl) t0
      | false =>
        rw [Bool.and_false, if_neg (by decide), if_neg (by decide), if_pos t0]
        exact one 4 (.inl rfl) t0
    · cases al : alikeM five with
      | true =>
        rw [decide_eq_false t0, Bool.false_and, if_neg (by decide), if_pos rfl]
        exact many 5 (.inr rfl) (by omega)
      | false =>
        rw [Bool.and_false, if_neg (by decide), if_neg (by decide), if_neg t0]
        exact many 0 (.inl rfl) (by omega)
end Cd
set_option Elab.async false
set_option linter.all false
set_option maxRecDepth 100000
set_option maxHeartbeats 4000000
namespace Cd
open PySem L2
def fallD (ts : List PyData) (m : Nat) : Bool := match intsD ts with
  | some ns => fallB ns m
  | none => false
def isrB : PyData → Bool
  | .tuple [.int k, .tuple ts] => decide (0 ≤ k ∧ k ≤ 8) && (match intsD ts with
    | some ns => vldB (k, ns)
    | none => false)
  | _ => false
theorem intsD_some : ∀ {ts : List PyData} {ns : List Int}, intsD ts = some ns → ts = ns.map .int
  | [], ns, e => by simp [intsD] at e; subst e; rfl
  | d :: ts, ns, e => by
    cases d with
    | int i =>
      simp only [intsD, Option.map_eq_some_iff] at e
      obtain ⟨ms, e1, rfl⟩ := e
      rw [intsD_some e1]; rfl
    | _ => simp [intsD] at e
theorem intsD_none_mem : ∀ {ts : List PyData}, intsD ts = none → ∃ d ∈ ts, ∀ i, d ≠ .int i
  | [], e => by cases e
  | d :: ts, e => by
    cases d with
    | int i =>
      simp only [intsD, Option.map_eq_none_iff] at e
      obtain ⟨x, hx, h⟩ := intsD_none_mem e
      exact ⟨x, List.mem_cons_of_mem _ hx, h⟩
    | _ => exact ⟨_, List.mem_cons_self, fun i z => by cases z⟩
theorem intsD_none_of : ∀ {ts : List PyData} {d : PyData}, d ∈ ts → (∀ i, d ≠ .int i) → intsD ts = none
  | [], d, h, _ => nomatch h
  | e :: ts, d, h, hd => by
    rcases List.mem_cons.mp h with rfl | h
    · cases d with
      | int i => exact absurd rfl (hd i)
      | _ => rfl
    · have r := intsD_none_of h hd
      cases e with
      | int i =>
        show (intsD ts).map (i :: ·) = none
        rw [r]; rfl
      | _ => rfl
theorem fall_none {ts : List PyData} (e : intsD ts = none) (f m : Nat) : (fallD (ts.take f) f && fallD (ts.drop f) m) = false := by
  obtain ⟨d, hd, h⟩ := intsD_none_mem e
  have : d ∈ ts.take f ∨ d ∈ ts.drop f := by
    rw [← List.take_append_drop f ts] at hd
    exact List.mem_append.mp hd
  rcases this with h1 | h1
  · have : fallD (ts.take f) f = false := by unfold fallD; rw [intsD_none_of h1 h]
    rw [this]; rfl
  · have : fallD (ts.drop f) m = false := by unfold fallD; rw [intsD_none_of h1 h]
    rw [this, Bool.and_false]
theorem fallD_ints (ns : List Int) (m : Nat) : fallD (ns.map .int) m = fallB ns m := by unfold fallD; rw [intsD_map]
theorem fallB_len {ns : List Int} {m : Nat} (h : fallB ns m = true) : ns.length = m := by
  unfold fallB at h
  simp only [Bool.and_eq_true, decide_eq_true_eq] at h
  exact h.1
theorem fallB_rng {ns : List Int} {m : Nat} (h : fallB ns m = true) : ∀ x ∈ ns, 2 ≤ x ∧ x ≤ 14 := fun x hx => by
  unfold fallB at h
  simp only [Bool.and_eq_true, decide_eq_true_eq, List.all_eq_true] at h
  exact h.2.1 x hx
theorem vld_rng {k : Int} {ns : List Int} (h : vldB (k, ns) = true) : ∀ x ∈ ns, 2 ≤ x ∧ x ≤ 14 := by
  unfold vldB at h
  split at h
  · rw [Bool.and_eq_true] at h; exact fallB_rng h.1
  split at h
  · rw [Bool.and_eq_true] at h; exact fallB_rng h.1
  · rw [Bool.and_eq_true, Bool.and_eq_true] at h
    intro x hx
    rw [← List.take_append_drop (frM k) ns] at hx
    rcases List.mem_append.mp hx with hx | hx
    · exact fallB_rng h.1 x hx
    · exact fallB_rng h.2.1 x hx
theorem vld_len {k : Int} {ns : List Int} (h : vldB (k, ns) = true) : ns.length = lenM k := by
  unfold vldB at h
  unfold lenM
  split at h
  · rename_i c
    rw [Bool.and_eq_true] at h
    have := fallB_len h.1
    rw [if_neg (by simp only at c; omega), if_pos c]; exact this
  split at h
  · rename_i c
    rw [Bool.and_eq_true] at h
    have := fallB_len h.1
    rw [if_pos c]; exact this
  · rename_i c1 c2
    rw [Bool.and_eq_true, Bool.and_eq_true] at h
    rw [if_neg c2, if_neg c1]
    have a := fallB_len h.1
    have b := fallB_len h.2.1
    simp only at a b
    rw [List.length_take] at a
    rw [List.length_drop] at b
    have := lenB_pos (k := k)
    omega
where lenB_pos {k : Int} : 1 ≤ moM k := by unfold moM; split <;> (try split) <;> omega
section
variable {fns : Nat → Option FnD} {h : Hi} {cf : Calls} {q : Nat}
theorem sl_from (ts : List PyData) (j : Nat) : opf3 (.slice true false) (.tuple ts) (.int (j : Int)) .none = some (.tuple (ts.drop j)) := by
  have := slice_T (f := fun d : PyData => d) (xs := ts) (l := true) (u := false) (a := .int (j : Int)) (b := .none) (lo := some (j : Int)) (hi := none) rfl rfl
  rw [List.map_id' ts, cut_from, List.map_id'] at this
  exact this
theorem sl_to (ts : List PyData) (j : Nat) : opf3 (.slice false true) (.tuple ts) .none (.int (j : Int)) = some (.tuple (ts.take j)) := by
  have := slice_T (f := fun d : PyData => d) (xs := ts) (l := false) (u := true) (a := .none) (b := .int (j : Int)) (lo := none) (hi := some (j : Int)) rfl rfl
  rw [List.map_id' ts, cut_lo, List.map_id'] at this
  exact this
def okR : PyData → Bool
  | .int i => decide (2 ≤ i) && decide (i ≤ 14)
  | _ => false
/-- is_falling of any tuple -/
theorem fallingD_eval (F94 : fns 94 = some d94) {ts : List PyData} {m : Nat} (hz : ts.length < 900) : callF fns (q + 1) 94 [.p (.tuple ts), .p (.int (m : Int))] h = .ok (.p (.bool (fallD ts m))) h := by
  cases e : intsD ts with
  | some ns =>
    have := intsD_some e
    subst this
    rw [List.length_map] at hz
    rw [fallD_ints]
    exact falling_eval F94 hz
  | none =>
    have fd : fallD ts m = false := by unfold fallD; rw [e]
    rw [fd, call_eq F94 rfl]
    generalize callF fns q = cf
    let X : Ev := [some (.p (.tuple ts)), some (.p (.int (m : Int))), none, none]
    have c1 : evalE cf X (.comp [2] (.name 2) (.e (.var 0)) [] (.and_ (.isi (.var 2) .int) (.and_ (.not_ (.isi (.var 2) .bool)) (.and_ (.op2d .le (.lit (.int 2)) (.var 2)) (.op2d .le (.var 2) (.lit (.int 14))))))) h = .ok (.p (.list ((ts.map okR).map .bool))) h := by
      rw [List.map_map]
      refine comp_all (fun d : PyData => d) (fun d => .bool (okR d)) (by simp [X]) (by omega) fun x hx => ⟨[some (.p (.tuple ts)), some (.p (.int (m : Int))), some (.p x), none], by simp [X], ?_⟩
      cases x with
      | int i =>
        by_cases c : 2 ≤ i
        · simp [isTy, andK, notK, c, okR]
        · simp [isTy, andK, notK, c, okR]
      | bool b => simp [isTy, andK, notK, okR]
      | _ => simp [isTy, andK, notK, okR]
    have al : ((ts.map okR).all id) = false := by
      obtain ⟨d, hd, hn⟩ := intsD_none_mem e
      rw [← Bool.not_eq_true]
      intro z
      rw [List.all_eq_true] at z
      have := z (okR d) (List.mem_map.mpr ⟨d, hd, rfl⟩)
      cases d with
      | int i => exact hn i rfl
      | _ => cases this
    show finF h.length (evalSs cf b94 X h) = _
    rw [b94_eq]
    unfold ls94
    by_cases c : ts.length = m
    · have ne : ((ts.length : Int) ≠ (m : Int)) = False := by simp; omega
      have t0 : evalS cf s94_0 X h = .ok .nx X h := by
        unfold s94_0
        simp [X, isTy, ne, c]
      rw [ss_cons, t0, RS.bind_nx, ss_cons]
      simp only [s94_1, st_if, et_not, et_val, bor_op1, ev_op1, bor_comp, c1, R.bind_ok, unP_p, o_allL, al, Option.map_some, ofO_some, truth_b, Bool.not_false, R.toS_ok, if_true, ss_cons, st_ret, ev_lit, RS.bind_rt, fin_rp, List.take_length]
    · have ne : ((ts.length : Int) = (m : Int)) = False := by simp; omega
      rw [ss_cons]
      simp [s94_0, X, isTy, ne]
abbrev envI (d : PyData) (v1 v2 v3 v4 : Option Val) : Ev := [some (.p d), v1, v2, v3, v4, none]
theorem isr_eval (F48 : fns 48 = some d48) (F94 : fns 94 = some d94) (F95 : fns 95 = some d95) {d : PyData} (few : ∀ k ts, d = .tuple [.int k, .tuple ts] → ts.length < 900) : callF fns (q + 2) 95 [.p d] h = .ok (.p (.bool (isrB d))) h := by
  have e94 : ∀ (ts : List PyData) (m : Nat), ts.length < 900 → callF fns (q + 1) 94 [.p (.tuple ts), .p (.int (m : Int))] h = .ok (.p (.bool (fallD ts m))) h := fun ts m z => fallingD_eval F94 z
  have e48 : ∀ rs : List Int, rs.length = 5 → callF fns (q + 1) 48 [.p (intsT rs)] h = .ok (.p (.int (topM rs))) h := fun rs z => top_eval F48 z
  rw [call_eq F95 rfl]
  generalize callF fns (q + 1) = cf at e94 e48
  show finF h.length (evalSs cf b95 (envI d none none none none) h) = _
  rw [b95_eq]
  unfold ls95
  have bad : isrB d = false → evalT cf (envI d none none none none) (.or_ (.not_ (.val (.isi (.var 0) .tuple))) (.or_ (.val (.op2 .ne (.op1 .len (.var 0)) (.lit (.int 2)))) (.not_ (.val (.isi (.op2b .ix (.var 0) (.lit (.int 1))) .tuple))))) h = .ok true h → finF h.length (evalSs cf (s95_0 :: [s95_1, s95_2, s95_3, s95_4, s95_5, s95_6, s95_7]) (envI d none none none none) h) = .ok (.p (.bool (isrB d))) h := fun e1 e2 => by
    rw [ss_cons, e1]
    simp only [s95_0, st_if, e2, R.toS_ok, if_true, ss_cons, st_ret, ev_lit, RS.bind_rt, fin_rp, List.take_length]
  match d, few, bad with
  | .none, _, bad => exact bad rfl (by simp [isTy])
  | .bool _, _, bad => exact bad rfl (by simp [isTy])
  | .int _, _, bad => exact bad rfl (by simp [isTy])
  | .str _, _, bad => exact bad rfl (by simp [isTy])
  | .list _, _, bad => exact bad rfl (by simp [isTy])
  | .dict _, _, bad => exact bad rfl (by simp [isTy])
  | .tuple [], _, bad => exact bad rfl (by simp [isTy])
  | .tuple [a], _, bad => exact bad (by cases a <;> rfl) (by simp [isTy])
  | .tuple (a :: b :: c :: r), _, bad =>
    refine bad (by cases a <;> first | rfl | (cases b <;> rfl)) ?_
    have : ¬ ((r.length : Int) + 1 + 1 + 1 = 2) := by omega
    simp [isTy, this]
  | .tuple [a, b], few, bad =>
    have a1 : atI [a, b] 1 = some b := rfl
    by_cases hb : ∃ ts, b = .tuple ts
    case neg =>
      have tb : isTy .tuple b = false := by
        cases b with
        | tuple ts => exact absurd ⟨ts, rfl⟩ hb
        | _ => rfl
      have ta : isTy .tuple (.tuple [a, b]) = true := rfl
      refine bad ?_ (by simp [ta, a1, tb])
      cases b with
      | tuple ts => exact absurd ⟨ts, rfl⟩ hb
      | _ => cases a <;> rfl
    obtain ⟨ts, rfl⟩ := hb
    let Rs : Option Val := some (.p (.tuple ts))
    have t0 : evalS cf s95_0 (envI (.tuple [a, .tuple ts]) none none none none) h = .ok .nx (envI (.tuple [a, .tuple ts]) none none none none) h := by
      simp [s95_0, isTy, a1]
    have t1 : evalS cf s95_1 (envI (.tuple [a, .tuple ts]) none none none none) h = .ok .nx (envI (.tuple [a, .tuple ts]) (some (.p a)) Rs none none) h := by simp [s95_1, Rs]
    rw [ss_cons, t0, RS.bind_nx, ss_cons, t1, RS.bind_nx, ss_cons]
    have badk : isrB (.tuple [a, .tuple ts]) = false → evalT cf (envI (.tuple [a, .tuple ts]) (some (.p a)) Rs none none) (.or_ (.not_ (.val (.isi (.var 1) .int))) (.or_ (.val (.isi (.var 1) .bool)) (.not_ (.val (.and_ (.op2d .le (.lit (.int 0)) (.var 1)) (.op2d .le (.var 1) (.lit (.int 8)))))))) h = .ok true h → finF h.length ((evalS cf s95_2 (envI (.tuple [a, .tuple ts]) (some (.p a)) Rs none none) h).bind (evalSs cf [s95_3, s95_4, s95_5, s95_6, s95_7])) = .ok (.p (.bool (isrB (.tuple [a, .tuple ts])))) h := fun e1 e2 => by
      rw [e1]
      simp only [s95_2, st_if, e2, R.toS_ok, if_true, ss_cons, st_ret, ev_lit, RS.bind_rt, fin_rp, List.take_length]
    match a, few, badk with
    | .none, _, badk => exact badk rfl (by simp [isTy])
    | .bool _, _, badk => exact badk rfl (by simp [isTy])
    | .str _, _, badk => exact badk rfl (by simp [isTy])
    | .list _, _, badk => exact badk rfl (by simp [isTy])
    | .tuple _, _, badk => exact badk rfl (by simp [isTy])
    | .dict _, _, badk => exact badk rfl (by simp [isTy])
    | .int k, few, badk =>
      let Kd : Option Val := some (.p (.int k))
      have hz := few k ts rfl
      by_cases kr : 0 ≤ k ∧ k ≤ 8
      case neg =>
        refine badk (by show (decide (0 ≤ k ∧ k ≤ 8) && _) = false; rw [decide_eq_false kr]; rfl) ?_
        by_cases c0 : 0 ≤ k
        · have c8 : ¬ k ≤ 8 := fun z => kr ⟨c0, z⟩
          simp [isTy, andK, c0, c8]
        · simp [isTy, andK, c0]
      obtain ⟨lo, hi⟩ := kr
      have isr : isrB (.tuple [.int k, .tuple ts]) = (match intsD ts with
        | some ns => vldB (k, ns)
        | none => false) := by
        show (decide (0 ≤ k ∧ k ≤ 8) && _) = _
        rw [decide_eq_true ⟨lo, hi⟩, Bool.true_and]
      rw [isr]
      have t2 : evalS cf s95_2 (envI (.tuple [.int k, .tuple ts]) Kd Rs none none) h = .ok .nx (envI (.tuple [.int k, .tuple ts]) Kd Rs none none) h := by simp [s95_2, Kd, isTy, andK, lo, hi]
      rw [t2, RS.bind_nx, ss_cons]
      by_cases c48 : k = 4 ∨ k = 8
      · have i4 := in48 k
        rw [decide_eq_true c48] at i4
        have e9 : cf 94 [.p (.tuple ts), .p (.int 1)] h = .ok (.p (.bool (fallD ts 1))) h := e94 ts 1 hz
        have u : evalS cf s95_3 (envI (.tuple [.int k, .tuple ts]) Kd Rs none none) h = .ok (.rt (.p (.bool (match intsD ts with
          | some ns => vldB (k, ns)
          | none => false)))) (envI (.tuple [.int k, .tuple ts]) Kd Rs none none) h := by
          simp only [s95_3, st_if, et_val, bor_op2, ev_op2, ev_var, Kd, Rs, slot_0, slot_s, ofO_some, R.bind_ok, unP_p, bor_tup, ev_tup, eps_cons, eps_nil, ev_lit, i4, Option.map_some, truth_b, R.toS_ok, if_true, ss_cons, st_ret, ev_and, ev_call, ees_cons, ees_nil, e9]
          cases ei : intsD ts with
          | none =>
            have : fallD ts 1 = false := by unfold fallD; rw [ei]
            simp only [this, andK, R.toS_ok, RS.bind_rt]
          | some ns =>
            have := intsD_some ei
            subst this
            simp only [fallD_ints]
            have vv : vldB (k, ns) = (fallB ns 1 && decide (ns.headD 0 ∈ ([5, 6, 7, 8, 9, 10, 11, 12, 13, 14] : List Int))) := by unfold vldB; rw [if_pos c48]
            rw [vv]
            cases ef : fallB ns 1 with
            | false => simp only [andK, R.toS_ok, RS.bind_rt, Bool.false_and]
            | true =>
              obtain ⟨x, rfl⟩ := List.length_eq_one_iff.mp (fallB_len ef)
              have tp := o_inI x [5, 6, 7, 8, 9, 10, 11, 12, 13, 14]
              have tp' : opf2 .isIn (.int x) (.tuple [.int 5, .int 6, .int 7, .int 8, .int 9, .int 10, .int 11, .int 12, .int 13, .int 14]) = some (.bool (decide (x ∈ ([5, 6, 7, 8, 9, 10, 11, 12, 13, 14] : List Int)))) := tp
              simp only [andK, bor_op2b, ev_op2b, ev_op2, bor_var, ev_var, slot_0, slot_s, borV_p, ofO_some, R.bind_ok, unP_p, bor_lit, ev_lit, List.map_cons, List.map_nil, o_ixT, atI_c0, tp', Option.map_some, R.toS_ok, RS.bind_rt, Bool.true_and, List.headD_cons]
              rfl
        rw [u, RS.bind_rt, fin_rp, List.take_length]
      · have i4 := in48 k
        rw [decide_eq_false c48] at i4
        have t3 : evalS cf s95_3 (envI (.tuple [.int k, .tuple ts]) Kd Rs none none) h = .ok .nx (envI (.tuple [.int k, .tuple ts]) Kd Rs none none) h := by
          simp only [s95_3, st_if, et_val, bor_op2, ev_op2, ev_var, Kd, Rs, slot_0, slot_s, ofO_some, R.bind_ok, unP_p, bor_tup, ev_tup, eps_cons, eps_nil, ev_lit, i4, Option.map_some, truth_b, R.toS_ok, Bool.false_eq_true, if_false, ss_nil]
        rw [t3, RS.bind_nx, ss_cons]
        have i0 := in05 k
        by_cases c05 : k = 0 ∨ k = 5
        · rw [decide_eq_true c05] at i0
          have e9 : cf 94 [.p (.tuple ts), .p (.int 5)] h = .ok (.p (.bool (fallD ts 5))) h := e94 ts 5 hz
          have u : evalS cf s95_4 (envI (.tuple [.int k, .tuple ts]) Kd Rs none none) h = .ok (.rt (.p (.bool (match intsD ts with
            | some ns => vldB (k, ns)
            | none => false)))) (envI (.tuple [.int k, .tuple ts]) Kd Rs none none) h := by
            simp only [s95_4, st_if, et_val, bor_op2, ev_op2, ev_var, Kd, Rs, slot_0, slot_s, ofO_some, R.bind_ok, unP_p, bor_tup, ev_tup, eps_cons, eps_nil, ev_lit, i0, Option.map_some, truth_b, R.toS_ok, if_true, ss_cons, st_ret, ev_and, ev_call, ees_cons, ees_nil, e9]
            cases ei : intsD ts with
            | none =>
              have : fallD ts 5 = false := by unfold fallD; rw [ei]
              simp only [this, andK, R.toS_ok, RS.bind_rt]
            | some ns =>
              have := intsD_some ei
              subst this
              simp only [fallD_ints]
              have vv : vldB (k, ns) = (fallB ns 5 && decide (topM ns = 0)) := by unfold vldB; rw [if_neg c48, if_pos c05]
              rw [vv]
              cases ef : fallB ns 5 with
              | false => simp only [andK, R.toS_ok, RS.bind_rt, Bool.false_and]
              | true =>
                have e4 := e48 ns (fallB_len ef)
                simp only [andK, ev_op2, bor_call, ev_call, ees_cons, ees_nil, ev_var, slot_0, slot_s, ofO_some, R.bind_ok, e4, unP_p, bor_lit, ev_lit, o_eqI, Option.map_some, R.toS_ok, RS.bind_rt, Bool.true_and]
          rw [u, RS.bind_rt, fin_rp, List.take_length]
        · rw [decide_eq_false c05] at i0
          have kk : k = 1 ∨ k = 2 ∨ k = 3 ∨ k = 6 ∨ k = 7 := by omega
          have t4 : evalS cf s95_4 (envI (.tuple [.int k, .tuple ts]) Kd Rs none none) h = .ok .nx (envI (.tuple [.int k, .tuple ts]) Kd Rs none none) h := by
            simp only [s95_4, st_if, et_val, bor_op2, ev_op2, ev_var, Kd, Rs, slot_0, slot_s, ofO_some, R.bind_ok, unP_p, bor_tup, ev_tup, eps_cons, eps_nil, ev_lit, i0, Option.map_some, truth_b, R.toS_ok, Bool.false_eq_true, if_false, ss_nil]
          have sh := shared_at kk
          let Fi : Option Val := some (.p (.int (frM k : Int)))
          let Mo : Option Val := some (.p (.int (moM k : Int)))
          have t5 : evalS cf s95_5 (envI (.tuple [.int k, .tuple ts]) Kd Rs none none) h = .ok .nx (envI (.tuple [.int k, .tuple ts]) Kd Rs Fi Mo) h := by
            unfold s95_5
            simp only [sharedL] at sh
            simp only [st_unpack, ev_op2b, bor_lit, ev_lit, R.bind_ok, unP_p, ev_var, Kd, slot_0, slot_s, ofO_some, o_ixT, sh, Option.map_some, R.toS_ok, bt_tup, bts_cons, bts_nil, bt_name, Option.bind_some, setSlot_0, setSlot_s, Fi, Mo]
          have sa := sl_from ts (frM k)
          have sb := sl_to ts (frM k)
          have e9a := e94 (ts.take (frM k)) (frM k) (by rw [List.length_take]; omega)
          have e9b := e94 (ts.drop (frM k)) (moM k) (by rw [List.length_drop]; omega)
          rw [t4, RS.bind_nx, ss_cons, t5, RS.bind_nx, ss_cons]
          have tt : evalT cf (envI (.tuple [.int k, .tuple ts]) Kd Rs Fi Mo) (.or_ (.not_ (.val (.call 94 [(.op3b (.slice false true) (.var 2) (.lit .none) (.var 3)), (.var 3)]))) (.not_ (.val (.call 94 [(.op3b (.slice true false) (.var 2) (.var 3) (.lit .none)), (.var 4)])))) h = .ok (!(fallD (ts.take (frM k)) (frM k) && fallD (ts.drop (frM k)) (moM k))) h := by
            simp only [et_or, et_not, et_val, bor_call, ev_call, ees_cons, ees_nil, ev_op3b, bor_var, ev_var, ev_lit, Rs, Fi, Mo, slot_0, slot_s, borV_p, ofO_some, R.bind_ok, unP_p, sa, sb, Option.map_some, e9a, truth_b]
            cases fallD (ts.take (frM k)) (frM k) with
            | false => simp
            | true => simp [e9b]
          cases ef : (fallD (ts.take (frM k)) (frM k) && fallD (ts.drop (frM k)) (moM k)) with
          | false =>
            have z : (match intsD ts with
              | some ns => vldB (k, ns)
              | none => false) = false := by
              cases ei : intsD ts with
              | none => rfl
              | some ns =>
                have := intsD_some ei
                subst this
                rw [← List.map_take, ← List.map_drop, fallD_ints, fallD_ints] at ef
                show vldB (k, ns) = false
                unfold vldB
                rw [if_neg c48, if_neg c05]
                simp only
                rw [← Bool.and_assoc, ef, Bool.false_and]
            rw [z]
            simp only [s95_6, st_if, tt, ef, Bool.not_false, R.toS_ok, if_true, ss_cons, st_ret, ev_lit, RS.bind_rt, fin_rp, List.take_length]
          | true =>
            cases ei : intsD ts with
            | none =>
              rw [fall_none ei] at ef
              cases ef
            | some ns =>
              have := intsD_some ei
              subst this
              have vv : vldB (k, ns) = !((ns.drop (frM k)).any fun x => decide (x ∈ ns.take (frM k))) := by
                rw [← List.map_take, ← List.map_drop, fallD_ints, fallD_ints] at ef
                unfold vldB
                rw [if_neg c48, if_neg c05]
                simp only
                rw [← Bool.and_assoc, ef, Bool.true_and]
              have t6 : evalS cf s95_6 (envI (.tuple [.int k, .tuple (ns.map .int)]) Kd Rs Fi Mo) h = .ok .nx (envI (.tuple [.int k, .tuple (ns.map .int)]) Kd Rs Fi Mo) h := by
                simp only [s95_6, st_if, tt, ef, Bool.not_true, R.toS_ok, Bool.false_eq_true, if_false, ss_nil]
              rw [t6, RS.bind_nx, ss_cons]
              rw [List.length_map] at hz
              rw [← List.map_drop] at sa
              rw [← List.map_take] at sb
              have c1 : evalE cf (envI (.tuple [.int k, .tuple (ns.map .int)]) Kd Rs Fi Mo) (.comp [5] (.name 5) (.e (.op3b (.slice true false) (.var 2) (.var 3) (.lit .none))) [] (.op2 .isIn (.var 5) (.op3b (.slice false true) (.var 2) (.lit .none) (.var 3)))) h = .ok (.p (.list (((ns.drop (frM k)).map fun x => decide (x ∈ ns.take (frM k))).map .bool))) h := by
                rw [List.map_map]
                refine comp_all PyData.int _ (by simp only [es_e, ev_op3b, bor_var, Rs, Fi, slot_0, slot_s, borV_p, ev_var, ofO_some, R.bind_ok, unP_p, ev_lit, sa, Option.map_some, items_T]) (by rw [List.length_drop]; omega) fun x hx => ⟨[some (.p (.tuple [.int k, .tuple (ns.map .int)])), Kd, Rs, Fi, Mo, some (.p (.int x))], by simp, ?_⟩
                have ii := o_inI x (ns.take (frM k))
                simp only [ev_op2, bor_op3b, ev_op3b, bor_var, ev_var, Rs, Fi, slot_0, slot_s, borV_p, ofO_some, R.bind_ok, unP_p, ev_lit, sb, Option.map_some, ii]
                rfl
              have an : (((ns.drop (frM k)).map fun x => decide (x ∈ ns.take (frM k))).any id) = (ns.drop (frM k)).any fun x => decide (x ∈ ns.take (frM k)) := by rw [List.any_map]; rfl
              simp only [s95_7, st_ret, ev_not, ev_op1, bor_comp, c1, R.bind_ok, unP_p, o_anyL, an, Option.map_some, ofO_some, notK_t, R.toS_ok, RS.bind_rt, fin_rp, List.take_length, vv]
end
end Cd
set_option Elab.async false
set_option linter.all false
set_option maxRecDepth 100000
set_option maxHeartbeats 4000000
namespace Cd
open PySem L2
def fiM (k : Int) : Nat := if k = 0 ∨ k = 5 then 5 else frM k
def descB (p : List Int) : Bool := decide (p = (sortI p).reverse)
def fitsM (k : Int) (ns : List Int) : Bool := decide (ns.length = lenM k) && (decide ((dedup ns).length = ns.length) && (descB (ns.take (fiM k)) && (descB (ns.drop (fiM k)) &&
  (if k = 4 ∨ k = 8 then decide (5 ≤ ns.headD 0) else (!decide (k = 0 ∨ k = 5)) || (!decide (gi ns 0 - gi ns 4 = 4) && !decide (ns = [14, 5, 4, 3, 2]))))))
theorem dedup_iff (l : List Int) : (dedup l).length = l.length ↔ l.Nodup := by
  constructor
  · induction l with
    | nil => exact fun _ => List.nodup_nil
    | cons x r ih =>
      intro h
      unfold dedup at h
      have h1 := dedup_le r
      split at h
      · rw [List.length_cons] at h; omega
      · rename_i hx
        rw [List.length_cons, List.length_cons] at h
        exact List.nodup_cons.mpr ⟨hx, ih (by omega)⟩
  · induction l with
    | nil => exact fun _ => rfl
    | cons x r ih =>
      intro h
      obtain ⟨h1, h2⟩ := List.nodup_cons.mp h
      unfold dedup
      rw [if_neg h1, List.length_cons, ih h2, List.length_cons]
theorem desc_iff (p : List Int) : descB p = true ↔ p.Pairwise (fun a b => b ≤ a) := by
  unfold descB
  rw [decide_eq_true_iff]
  constructor
  · intro e
    rw [e, List.pairwise_reverse]
    exact sortI_sorted p
  · intro h
    have := sorted_uniq (l := sortI p) (m := p.reverse) ((sortI_perm p).trans p.reverse_perm.symm) (sortI_sorted p) (by rw [List.pairwise_reverse]; exact h)
    rw [this, List.reverse_reverse]
theorem strict_iff {p : List Int} (hn : p.Nodup) : p.Pairwise (fun a b => b ≤ a) ↔ p.Pairwise (fun a b => b < a) := by
  constructor
  · intro h
    exact h.imp₂ (fun a b h1 (h2 : a ≠ b) => by omega) hn
  · intro h; exact h.imp fun z => by omega
theorem fall_iff {p : List Int} {m : Nat} (hr : ∀ x ∈ p, 2 ≤ x ∧ x ≤ 14) : fallB p m = true ↔ p.length = m ∧ p.Pairwise (fun a b => b < a) :=
  ⟨fun h => ⟨(fall_inv h).1, (fall_inv h).2.1⟩, fun h => fall_of h.1 h.2 hr⟩
theorem top_zero {ns : List Int} (h5 : ns.length = 5) (hd : ns.Pairwise fun a b => b < a) (hr : ∀ x ∈ ns, 2 ≤ x ∧ x ≤ 14) : (!decide (gi ns 0 - gi ns 4 = 4) && !decide (ns = [14, 5, 4, 3, 2])) = decide (topM ns = 0) := by
  match ns, h5 with
  | [a, b, c, d, e], _ =>
    simp only [List.pairwise_cons, List.mem_cons, List.not_mem_nil, or_false, forall_eq_or_imp, forall_eq] at hd hr
    obtain ⟨⟨a1, a2, a3, a4⟩, ⟨b1, b2, b3⟩, ⟨c1, c2⟩, d1, _⟩ := hd
    unfold topM
    have lst : (List.range 5).map (fun k : Nat => ([a, b, c, d, e] : List Int).headD 0 - (k : Int)) = [a - 0, a - 1, a - 2, a - 3, a - 4] := rfl
    rw [lst]
    have g0 : gi [a, b, c, d, e] 0 = a := rfl
    have g4 : gi [a, b, c, d, e] 4 = e := rfl
    rw [g0, g4]
    by_cases l : ([a, b, c, d, e] : List Int) = [14, 5, 4, 3, 2]
    · rw [if_pos l, decide_eq_true l]; simp
    · rw [if_neg l, decide_eq_false l]
      by_cases q : a - e = 4
      · have : ([a, b, c, d, e] : List Int) = [a - 0, a - 1, a - 2, a - 3, a - 4] := by
          simp only [List.cons.injEq, and_true]
          omega
        rw [if_pos this, decide_eq_true q]
        have : ¬ (a = 0) := by omega
        simp [this]
      · have : ¬ ([a, b, c, d, e] : List Int) = [a - 0, a - 1, a - 2, a - 3, a - 4] := by
          simp only [List.cons.injEq, and_true]
          omega
        rw [if_neg this, decide_eq_false q]
        rfl
theorem fits_vld {k : Int} {ns : List Int} (h0 : 0 ≤ k) (h8 : k ≤ 8) (hr : ∀ x ∈ ns, 2 ≤ x ∧ x ≤ 14) : fitsM k ns = vldB (k, ns) := by
  have rt : ∀ j, ∀ x ∈ ns.take j, 2 ≤ x ∧ x ≤ 14 := fun j x hx => hr x (List.mem_of_mem_take hx)
  have rd : ∀ j, ∀ x ∈ ns.drop j, 2 ≤ x ∧ x ≤ 14 := fun j x hx => hr x (List.mem_of_mem_drop hx)
  rw [Bool.eq_iff_iff]
  unfold fitsM
  rw [Bool.and_eq_true, Bool.and_eq_true, Bool.and_eq_true, Bool.and_eq_true, decide_eq_true_iff, decide_eq_true_iff, desc_iff, desc_iff, dedup_iff]
  unfold vldB
  simp only
  by_cases c48 : k = 4 ∨ k = 8
  · have n05 : ¬ (k = 0 ∨ k = 5) := by omega
    rw [if_pos c48, if_pos c48, Bool.and_eq_true, fall_iff hr, decide_eq_true_iff, decide_eq_true_iff]
    have l1 : lenM k = 1 := by unfold lenM; rw [if_neg n05, if_pos c48]
    rw [l1]
    constructor
    · rintro ⟨a, b, _, _, e⟩
      obtain ⟨x, rfl⟩ := List.length_eq_one_iff.mp a
      have := hr x List.mem_cons_self
      simp only [List.headD_cons] at e ⊢
      refine ⟨⟨rfl, List.pairwise_singleton _ _⟩, ?_⟩
      simp only [List.mem_cons, List.not_mem_nil, or_false]
      omega
    · rintro ⟨⟨a, _⟩, e⟩
      obtain ⟨x, rfl⟩ := List.length_eq_one_iff.mp a
      have f1 : fiM k = 1 := by unfold fiM frM; rw [if_neg n05, if_neg (by omega)]
      rw [f1]
      simp only [List.headD_cons, List.mem_cons, List.not_mem_nil, or_false] at e ⊢
      refine ⟨rfl, by simp, List.pairwise_singleton _ _, List.Pairwise.nil, by omega⟩
  rw [if_neg c48, if_neg c48]
  by_cases c05 : k = 0 ∨ k = 5
  · have l5 : lenM k = 5 := by unfold lenM; rw [if_pos c05]
    have f5 : fiM k = 5 := by unfold fiM; rw [if_pos c05]
    rw [if_pos c05, l5, f5, Bool.and_eq_true, fall_iff hr, decide_eq_true c05, Bool.not_true, Bool.false_or]
    constructor
    · rintro ⟨a, b, c, _, e⟩
      rw [List.take_of_length_le (by omega)] at c
      have st := (strict_iff b).mp c
      rw [top_zero a st hr] at e
      exact ⟨⟨a, st⟩, e⟩
    · rintro ⟨⟨a, st⟩, e⟩
      rw [← top_zero a st hr] at e
      rw [List.take_of_length_le (by omega), List.drop_of_length_le (by omega)]
      exact ⟨a, st.imp fun z => by omega, st.imp fun z => by omega, List.Pairwise.nil, e⟩
  · rw [if_neg c05]
    have lm : lenM k = frM k + moM k := by unfold lenM; rw [if_neg c05, if_neg c48]
    have fm : fiM k = frM k := by unfold fiM; rw [if_neg c05]
    rw [lm, fm, Bool.and_eq_true, Bool.and_eq_true, fall_iff (rt _), fall_iff (rd _), decide_eq_false c05, Bool.not_false, Bool.true_or]
    rw [Bool.not_eq_true', List.any_eq_false, List.length_take, List.length_drop]
    constructor
    · rintro ⟨a, b, c, d, _⟩
      have nd := b
      rw [← List.take_append_drop (frM k) ns, List.nodup_append] at nd
      obtain ⟨n1, n2, n3⟩ := nd
      refine ⟨⟨by omega, (strict_iff n1).mp c⟩, ⟨by omega, (strict_iff n2).mp d⟩, fun x hx => ?_⟩
      rw [decide_eq_true_iff]
      exact fun hy => n3 x hy x hx rfl
    · rintro ⟨⟨a, b⟩, ⟨c, d⟩, e⟩
      refine ⟨?_, ?_, b.imp fun z => by omega, d.imp fun z => by omega, rfl⟩
      · have : 1 ≤ moM k := by unfold moM; split <;> (try split) <;> omega
        omega
      · rw [← List.take_append_drop (frM k) ns, List.nodup_append]
        refine ⟨b.imp fun z => by omega, d.imp fun z => by omega, fun x hx y hy z => ?_⟩
        have := e y hy
        rw [decide_eq_true_iff] at this
        rw [z] at hx
        exact this hx
end Cd
set_option Elab.async false
set_option linter.all false
set_option maxRecDepth 100000
set_option maxHeartbeats 4000000
namespace Cd
open PySem L2
theorem grp_nd : ∀ {ps : List (Int × Int)}, (ps.map (·.1)).Nodup → (grpM ps).Nodup
  | [], _ => List.nodup_nil
  | p :: ps, h => by
    obtain ⟨h1, h2⟩ := List.nodup_cons.mp h
    show (((suitsL.take p.2.toNat).map fun s => (p.1, s)) ++ grpM ps).Nodup
    refine List.nodup_append.mpr ⟨?_, grp_nd h2, fun a ha b hb e => ?_⟩
    · have : (suitsL.take p.2.toNat).Nodup := (show suitsL.Nodup by decide).sublist (List.take_sublist _ _)
      unfold List.Nodup
      rw [List.pairwise_map]
      exact this.imp fun hn e => hn (congrArg Prod.snd e)
    · subst e
      obtain ⟨s, _, rfl⟩ := List.mem_map.mp ha
      obtain ⟨q, hq, hb⟩ := List.mem_flatMap.mp hb
      obtain ⟨s', _, e⟩ := List.mem_map.mp hb
      exact h1 (List.mem_map.mpr ⟨q, hq, (Prod.mk.inj e).1⟩)
theorem len_subK {α : Type} [DecidableEq α] : ∀ (xs ys : List α), xs.Nodup → (∀ x ∈ xs, x ∈ ys) → xs.length ≤ ys.length
  | [], _, _, _ => Nat.zero_le _
  | x :: xs, ys, nd, h => by
    obtain ⟨n1, n2⟩ := List.nodup_cons.mp nd
    have hx := h x List.mem_cons_self
    have := len_subK xs (ys.erase x) n2 fun y hy => (List.mem_erase_of_ne (fun e => n1 (by rw [← e]; exact hy))).mpr (h y (List.mem_cons_of_mem _ hy))
    rw [List.length_erase_of_mem hx] at this
    have := List.length_pos_of_mem hx
    rw [List.length_cons]; omega
/-- unlike cards of the deck -/
theorem nd_fit {cs : List Card} (nd : cs.Nodup) (h : ∀ c ∈ cs, (2 ≤ c.1 ∧ c.1 ≤ 14) ∧ c.2 ∈ suitsL) : Fit cs := by
  refine ⟨fun r => ?_, fun c hc => (h c hc).1⟩
  have e : (cs.map (·.1)).count r = ((cs.filter fun c => c.1 == r).map (·.2)).length := by
    rw [List.length_map, ← List.countP_eq_length_filter, List.count, List.countP_map]
    rfl
  rw [e]
  refine len_subK _ suitsL ?_ fun s hs => ?_
  · unfold List.Nodup
    rw [List.pairwise_map]
    refine (nd.sublist (List.filter_sublist (p := fun c : Card => c.1 == r))).imp_of_mem fun {a b} ha hb hn e => hn ?_
    have h1 := (List.mem_filter.mp ha).2
    have h2 := (List.mem_filter.mp hb).2
    have h1' : a.1 = r := by simpa using h1
    have h2' : b.1 = r := by simpa using h2
    exact Prod.ext (h1'.trans h2'.symm) e
  · obtain ⟨c, hc, rfl⟩ := List.mem_map.mp hs
    exact (h c (List.mem_filter.mp hc).1).2
def cccd : List Str := ["c", "c", "c", "c", "d"]
def shp (k : Int) : List Int := if k = 0 ∨ k = 5 then [1, 1, 1, 1, 1] else oftM k
/-- the five that the law makes of a thing -/
def fiveH (k : Int) (ns : List Int) : List Card := if k = 0 then (grpM (ns.zip (shp k))).set 4 (ns.getD 4 0, ("d" : Str)) else grpM (ns.zip (shp k))
/-- what the law says of a thing -/
def handB (k : Int) (ns : List Int) : Bool :=
  if k = 4 ∨ k = 8 then decide (ns.length = 1) && decide (5 ≤ ns.headD 0)
  else decide (ns.length = (shp k).length) && (decide ((fiveH k ns).Nodup) && decide (rankM (fiveH k ns) = (k, ns)))
theorem shp_len {k : Int} (h0 : 0 ≤ k) (h8 : k ≤ 8) (c : ¬ (k = 4 ∨ k = 8)) : (shp k).length = lenM k := by
  have : k = 0 ∨ k = 1 ∨ k = 2 ∨ k = 3 ∨ k = 5 ∨ k = 6 ∨ k = 7 := by omega
  rcases this with rfl | rfl | rfl | rfl | rfl | rfl | rfl <;> rfl
theorem grp_mem {ps : List (Int × Int)} {c : Card} (h : c ∈ grpM ps) : c.2 ∈ suitsL ∧ c.1 ∈ ps.map (·.1) := by
  obtain ⟨p, hp, h⟩ := List.mem_flatMap.mp h
  obtain ⟨s, hs, rfl⟩ := List.mem_map.mp h
  exact ⟨List.mem_of_mem_take hs, List.mem_map.mpr ⟨p, hp, rfl⟩⟩
theorem five_mem {k : Int} {ns : List Int} (hl : ns.length = (shp k).length) {c : Card} (h : c ∈ fiveH k ns) : c.2 ∈ suitsL ∧ c.1 ∈ ns := by
  have g : ∀ c ∈ grpM (ns.zip (shp k)), c.2 ∈ suitsL ∧ c.1 ∈ ns := fun c hc => by
    obtain ⟨h1, h2⟩ := grp_mem hc
    rw [List.map_fst_zip (by omega)] at h2
    exact ⟨h1, h2⟩
  unfold fiveH at h
  split at h
  · rename_i e
    rcases List.mem_or_eq_of_mem_set h with h | rfl
    · exact g c h
    · refine ⟨show ("d" : Str) ∈ suitsL by decide, ?_⟩
      subst e
      have : ns.length = 5 := hl
      show ns.getD 4 0 ∈ ns
      rw [List.getD_eq_getElem?_getD, List.getElem?_eq_getElem (by omega), Option.getD_some]
      exact List.getElem_mem _
  · exact g c h
theorem len5 : ∀ l : List Int, l.length = 5 → ∃ a b c d e, l = [a, b, c, d, e]
  | [a, b, c, d, e], _ => ⟨a, b, c, d, e, rfl⟩
theorem five_len {k : Int} {ns : List Int} (h0 : 0 ≤ k) (h8 : k ≤ 8) (c : ¬ (k = 4 ∨ k = 8)) (hl : ns.length = (shp k).length) : (fiveH k ns).length = 5 := by
  have : k = 0 ∨ k = 1 ∨ k = 2 ∨ k = 3 ∨ k = 5 ∨ k = 6 ∨ k = 7 := by omega
  rcases this with rfl | rfl | rfl | rfl | rfl | rfl | rfl
  · obtain ⟨a, b, c, d, e, rfl⟩ := len5 ns hl; rfl
  · obtain ⟨a, b, c, d, rfl⟩ := len4 ns hl; rfl
  · obtain ⟨a, b, c, rfl⟩ := len3 ns hl; rfl
  · obtain ⟨a, b, c, rfl⟩ := len3 ns hl; rfl
  · obtain ⟨a, b, c, d, e, rfl⟩ := len5 ns hl; rfl
  · obtain ⟨a, b, rfl⟩ := len2 ns hl; rfl
  · obtain ⟨a, b, rfl⟩ := len2 ns hl; rfl
theorem dedup_iffG {α : Type} [DecidableEq α] (l : List α) : (dedup l).length = l.length ↔ l.Nodup := by
  constructor
  · induction l with
    | nil => exact fun _ => List.nodup_nil
    | cons x r ih =>
      intro h
      unfold dedup at h
      have h1 := dedup_le r
      split at h
      · rw [List.length_cons] at h; omega
      · rename_i hx
        rw [List.length_cons, List.length_cons] at h
        exact List.nodup_cons.mpr ⟨hx, ih (by omega)⟩
  · induction l with
    | nil => exact fun _ => rfl
    | cons x r ih =>
      intro h
      obtain ⟨h1, h2⟩ := List.nodup_cons.mp h
      unfold dedup
      rw [if_neg h1, List.length_cons, ih h2, List.length_cons]
theorem nd_of_fst {cs : List Card} (h : (cs.map (·.1)).Nodup) : cs.Nodup := by
  unfold List.Nodup at h ⊢
  rw [List.pairwise_map] at h
  exact h.imp fun hn e => hn (by rw [e])
theorem vld_nd {k : Int} {ns : List Int} (h0 : 0 ≤ k) (h8 : k ≤ 8) (hr : ∀ x ∈ ns, 2 ≤ x ∧ x ≤ 14) (h : vldB (k, ns) = true) : ns.Nodup := by
  rw [← fits_vld h0 h8 hr] at h
  unfold fitsM at h
  rw [Bool.and_eq_true, Bool.and_eq_true] at h
  exact (dedup_iff ns).mp (of_decide_eq_true h.2.1)
theorem hand_vld {k : Int} {ns : List Int} (h0 : 0 ≤ k) (h8 : k ≤ 8) (hr : ∀ x ∈ ns, 2 ≤ x ∧ x ≤ 14) : handB k ns = vldB (k, ns) := by
  rw [Bool.eq_iff_iff]
  by_cases c : k = 4 ∨ k = 8
  · unfold handB vldB
    rw [if_pos c, if_pos (show (k, ns).1 = 4 ∨ (k, ns).1 = 8 from c), Bool.and_eq_true, Bool.and_eq_true, decide_eq_true_iff, decide_eq_true_iff, decide_eq_true_iff]
    constructor
    · rintro ⟨h1, h2⟩
      obtain ⟨t, rfl⟩ := List.length_eq_one_iff.mp h1
      have := hr t List.mem_cons_self
      refine ⟨fall_of rfl (List.pairwise_singleton _ _) hr, ?_⟩
      simp only [List.headD_cons] at h2 ⊢
      simp only [List.mem_cons, List.not_mem_nil, or_false]
      omega
    · rintro ⟨h1, h2⟩
      refine ⟨(fall_inv h1).1, ?_⟩
      simp only [List.mem_cons, List.not_mem_nil, or_false] at h2
      omega
  · unfold handB
    rw [if_neg c, Bool.and_eq_true, Bool.and_eq_true, decide_eq_true_iff, decide_eq_true_iff, decide_eq_true_iff]
    constructor
    · rintro ⟨h1, h2, h3⟩
      have ft := nd_fit h2 fun x hx => ⟨hr _ (five_mem h1 hx).2, (five_mem h1 hx).1⟩
      have := (rank_frm (five_len h0 h8 c h1) ft).2
      rw [h3] at this
      exact this
    · intro hv
      have hl := vld_len hv
      have hn := vld_nd h0 h8 hr hv
      have hl' : ns.length = (shp k).length := by rw [shp_len h0 h8 c]; exact hl
      have fr : Frm (k, ns) := ⟨h0, h8, hl, hr⟩
      have fv := (five_rank fr hv).2.2.1
      refine ⟨hl', ?_⟩
      have kk : k = 0 ∨ k = 5 ∨ (¬ k = 0 ∧ ¬ (k = 0 ∨ k = 5)) := by omega
      rcases kk with rfl | rfl | ⟨k0, k5⟩
      · obtain ⟨a, b, c', d, e, rfl⟩ := len5 ns hl
        have fe : fiveH 0 [a, b, c', d, e] = [a, b, c', d, e].zip cccd := rfl
        rw [fe]
        unfold vldB at hv
        rw [if_neg (show ¬ ((0 : Int) = 4 ∨ (0 : Int) = 8) by decide), if_pos (show (0 : Int) = 0 ∨ (0 : Int) = 5 by decide), Bool.and_eq_true] at hv
        obtain ⟨l5, hd, _⟩ := fall_inv hv.1
        have t0 := of_decide_eq_true hv.2
        rw [top_eqL l5 hd] at t0
        have nr : isRow [a, b, c', d, e] = false := by
          unfold isRow
          unfold topL at t0
          by_cases q1 : [a, b, c', d, e] = [14, 5, 4, 3, 2]
          · rw [if_pos q1] at t0; exact absurd t0 (by decide)
          · rw [if_neg q1] at t0
            by_cases q2 : [a, b, c', d, e].headD 0 - [a, b, c', d, e].getD 4 0 = 4
            · rw [if_pos q2] at t0
              have := (hr a List.mem_cons_self).1
              have t0' : a = 0 := t0
              omega
            · rw [decide_eq_false q2, decide_eq_false (show ¬ [a, b, c', d, e] = lowRow from q1)]; rfl
        obtain ⟨u1, u2, u3⟩ := unlike_rank (five := [a, b, c', d, e].zip cccd) rfl hd hr rfl
        refine ⟨nd_of_fst hn, ?_⟩
        rw [u3]
        have al : alikeM ([a, b, c', d, e].zip cccd) = false := rfl
        unfold dueU
        rw [al, nr]
        rfl
      · obtain ⟨a, b, c', d, e, rfl⟩ := len5 ns hl
        have fe : fiveH 5 [a, b, c', d, e] = fiveM (5, [a, b, c', d, e]) := rfl
        rw [fe]
        exact ⟨nd_of_fst hn, fv⟩
      · have fe : fiveH k ns = fiveM (k, ns) := by
          unfold fiveH fiveM shp
          rw [if_neg k0, if_neg k5, if_neg (show ¬ ((k, ns).1 = 4 ∨ (k, ns).1 = 8) from c), if_neg (show ¬ ((k, ns).1 = 0 ∨ (k, ns).1 = 5) from k5)]
        refine ⟨?_, by rw [fe]; exact fv⟩
        unfold fiveH
        rw [if_neg k0]
        refine grp_nd ?_
        rw [List.map_fst_zip (by omega)]
        exact hn
end Cd
set_option Elab.async false
set_option linter.all false
set_option maxRecDepth 100000
set_option maxHeartbeats 4000000
namespace Cd
open PySem L2
def s181_0 : S := .if_ (.or_ (.not_ (.val (.isi (.var 0) .tuple))) (.or_ (.val (.op2 .ne (.op1 .len (.var 0)) (.lit (.int 2)))) (.not_ (.val (.isi (.op2b .ix (.var 0) (.lit (.int 1))) .tuple))))) [.ret (.lit (.bool false))] []
def s181_1 : S := .unpack (.tup [(.name 1), (.name 2)]) (.var 0)
def s181_2_0 : S := .if_ (.or_ (.not_ (.val (.isi (.var 3) .int))) (.val (.isi (.var 3) .bool))) [.ret (.lit (.bool false))] []
def ls181_2 : List S := [s181_2_0]
def s181_2 : S := .for_ (.name 3) (.e (.op2d .add (.var 2) (.tup [(.var 1)]))) ls181_2
def s181_3 : S := .if_ (.or_ (.val (.op2 .lt (.var 1) (.lit (.int 0)))) (.or_ (.val (.op2 .gt (.var 1) (.lit (.int 8)))) (.val (.comp [3] (.name 3) (.e (.var 2)) [(.or_ (.val (.op2 .lt (.var 3) (.lit (.int 2)))) (.val (.op2 .gt (.var 3) (.lit (.int 14)))))] (.var 3))))) [.ret (.lit (.bool false))] []
def s181_4 : S := .if_ (.val (.op2 .isIn (.var 1) (.tup [(.lit (.int 4)), (.lit (.int 8))]))) [.ret (.and_ (.op2 .eq (.op1 .len (.var 2)) (.lit (.int 1))) (.op2 .ge (.op2b .ix (.var 2) (.lit (.int 0))) (.lit (.int 5))))] []
def s181_5 : S := .set 4 (.op2b .ix (.lst [(.tup [(.lit (.int 1)), (.lit (.int 1)), (.lit (.int 1)), (.lit (.int 1)), (.lit (.int 1))]), (.tup [(.lit (.int 2)), (.lit (.int 1)), (.lit (.int 1)), (.lit (.int 1))]), (.tup [(.lit (.int 2)), (.lit (.int 2)), (.lit (.int 1))]), (.tup [(.lit (.int 3)), (.lit (.int 1)), (.lit (.int 1))]), (.tup []), (.tup [(.lit (.int 1)), (.lit (.int 1)), (.lit (.int 1)), (.lit (.int 1)), (.lit (.int 1))]), (.tup [(.lit (.int 3)), (.lit (.int 2))]), (.tup [(.lit (.int 4)), (.lit (.int 1))])]) (.var 1))
def s181_6 : S := .if_ (.val (.op2 .ne (.op1 .len (.var 2)) (.op1 .len (.var 4)))) [.ret (.lit (.bool false))] []
def s181_7 : S := .set 5 (.mk (.lst []))
def s181_8_0 : S := .set 5 (.mk (.catB 5 (.comp [8] (.name 8) (.e (.op3b (.sliceS false true) (.lit (.str ("cdhs" : Str))) (.lit .none) (.var 7))) [] (.tup [(.var 6), (.var 8)]))))
def ls181_8 : List S := [s181_8_0]
def s181_8 : S := .for_ (.tup [(.name 6), (.name 7)]) (.zip (.var 2) (.var 4)) ls181_8
def s181_9 : S := .if_ (.val (.op2 .eq (.var 1) (.lit (.int 0)))) [.setIx (.var 5) (.lit (.int 4)) (.tup [(.op2b .ix (.var 2) (.lit (.int 4))), (.lit (.str ("d" : Str)))])] []
def s181_10 : S := .ret (.and_ (.op2 .eq (.op1 .lenSetT (.var 5)) (.lit (.int 5))) (.op2 .eq (.call 76 [(.freeze 5)]) (.var 0)))
def ls181 : List S := [s181_0, s181_1, s181_2, s181_3, s181_4, s181_5, s181_6, s181_7, s181_8, s181_9, s181_10]
theorem b181_eq : b181 = ls181 := rfl
end Cd
set_option Elab.async false
set_option linter.all false
set_option maxRecDepth 100000
set_option maxHeartbeats 4000000
namespace Cd
open PySem L2
def isI : PyData → Bool
  | .int _ => true
  | _ => false
def FewT (d : PyData) : Prop := ∀ a ts, d = .tuple [a, .tuple ts] → ts.length < 900
def ck (c : Card) : List Key := [.inl c.1, .inr c.2]
theorem tupsK_cards : ∀ cs : List Card, tupsK (cs.map cardD) = some (cs.map ck)
  | [] => rfl
  | c :: cs => by
    rw [List.map_cons, List.map_cons]
    show ((keysT [.int c.1, .str c.2]).bind fun k => (tupsK (cs.map cardD)).map (k :: ·)) = _
    rw [tupsK_cards cs]
    rfl
theorem ck_inj {a b : Card} (h : ck a = ck b) : a = b := by
  unfold ck at h
  simp only [List.cons.injEq, Sum.inl.injEq, Sum.inr.injEq, and_true] at h
  exact Prod.ext h.1 h.2
theorem lenSet_five {cs : List Card} (h : cs.length = 5) : ∃ n : Int, opf1 .lenSetT (.list (cs.map cardD)) = some (.int n) ∧ decide (n = 5) = decide cs.Nodup := by
  refine ⟨((dedup (cs.map ck)).length : Int), ?_, ?_⟩
  · show ((tupsK (cs.map cardD)).bind _) = _
    rw [tupsK_cards, Option.bind_some, if_pos (by rw [List.length_map]; omega)]
  · refine decide_eq_decide.mpr ?_
    have e : ((dedup (cs.map ck)).length : Int) = 5 ↔ (dedup (cs.map ck)).length = (cs.map ck).length := by
      rw [List.length_map, h]; omega
    rw [e, dedup_iffG]
    constructor
    · intro z
      unfold List.Nodup at z
      rw [List.pairwise_map] at z
      exact z.imp fun hn e => hn (by rw [e])
    · intro z
      unfold List.Nodup
      rw [List.pairwise_map]
      exact z.imp fun hn e => hn (ck_inj e)
theorem cut_suits {m : Int} (h : m = 1 ∨ m = 2 ∨ m = 3 ∨ m = 4) : ∃ z, opf3 (.sliceS false true) (.str ("cdhs" : Str)) .none (.int m) = some (.str z) ∧ itemsOf (.str z) = some ((suitsL.take m.toNat).map .str) := by
  rcases h with rfl | rfl | rfl | rfl
  · exact ⟨"c", rfl, rfl⟩
  · exact ⟨"cd", rfl, rfl⟩
  · exact ⟨"cdh", rfl, rfl⟩
  · exact ⟨"cdhs", rfl, rfl⟩
theorem shp_small {k : Int} : ∀ m ∈ shp k, m = 1 ∨ m = 2 ∨ m = 3 ∨ m = 4 := by
  intro m hm
  unfold shp oftM at hm
  split at hm
  · simp at hm; omega
  split at hm
  · simp at hm; omega
  split at hm
  · simp at hm; omega
  split at hm
  · simp at hm; omega
  split at hm
  · simp at hm; omega
  · simp at hm; omega
def shpD : List PyData := [.tuple [.int 1, .int 1, .int 1, .int 1, .int 1], .tuple [.int 2, .int 1, .int 1, .int 1], .tuple [.int 2, .int 2, .int 1], .tuple [.int 3, .int 1, .int 1], .tuple [], .tuple [.int 1, .int 1, .int 1, .int 1, .int 1], .tuple [.int 3, .int 2], .tuple [.int 4, .int 1]]
theorem shp_at {k : Int} (h0 : 0 ≤ k) (h8 : k ≤ 8) (c : ¬ (k = 4 ∨ k = 8)) : atI shpD k = some (.tuple ((shp k).map .int)) := by
  have : k = 0 ∨ k = 1 ∨ k = 2 ∨ k = 3 ∨ k = 5 ∨ k = 6 ∨ k = 7 := by omega
  rcases this with rfl | rfl | rfl | rfl | rfl | rfl | rfl <;> rfl
theorem grp_one (p : Int × Int) (ps : List (Int × Int)) : grpM (p :: ps) = ((suitsL.take p.2.toNat).map fun s => (p.1, s)) ++ grpM ps := rfl
section
variable {fns : Nat → Option FnD} {h : Hi} {cf : Calls} {q : Nat}
abbrev envA (d : PyData) (v1 v2 v3 v4 v5 v6 v7 : Option Val) : Ev := [some (.p d), v1, v2, v3, v4, v5, v6, v7, none]
theorem loop181a {d : PyData} {v1 v2 v4 v5 v6 v7 : Option Val} : ∀ (ts : List PyData) (v3 : Option Val), ∃ w3, forL (evalSs cf ls181_2) (bindT (.name 3)) ts (envA d v1 v2 v3 v4 v5 v6 v7) h =
    if ts.all isI = true then .ok .nx (envA d v1 v2 w3 v4 v5 v6 v7) h else .ok (.rt (.p (.bool false))) (envA d v1 v2 w3 v4 v5 v6 v7) h
  | [], v3 => ⟨v3, rfl⟩
  | x :: ts, v3 => by
    obtain ⟨w3, e⟩ := loop181a (d := d) (v1 := v1) (v2 := v2) (v4 := v4) (v5 := v5) (v6 := v6) (v7 := v7) ts (some (.p x))
    have eb : bindT (.name 3) x (envA d v1 v2 v3 v4 v5 v6 v7) = some (envA d v1 v2 (some (.p x)) v4 v5 v6 v7) := by
      simp only [bt_name, setSlot_0, setSlot_s]
    cases ix : isI x with
    | true =>
      refine ⟨w3, ?_⟩
      have st : evalSs cf ls181_2 (envA d v1 v2 (some (.p x)) v4 v5 v6 v7) h = .ok .nx (envA d v1 v2 (some (.p x)) v4 v5 v6 v7) h := by
        unfold ls181_2 s181_2_0
        cases x with
        | int i => simp [isTy]
        | _ => cases ix
      unfold forL
      rw [eb]
      simp only [st]
      rw [e, List.all_cons, ix, Bool.true_and]
    | false =>
      refine ⟨some (.p x), ?_⟩
      have st : evalSs cf ls181_2 (envA d v1 v2 (some (.p x)) v4 v5 v6 v7) h = .ok (.rt (.p (.bool false))) (envA d v1 v2 (some (.p x)) v4 v5 v6 v7) h := by
        unfold ls181_2 s181_2_0
        cases x with
        | int i => cases ix
        | _ => simp [isTy]
      unfold forL
      rw [eb]
      simp only [st]
      rw [List.all_cons, ix, Bool.false_and]
      rfl
theorem loop181b {d : PyData} {v1 v2 v3 v4 : Option Val} : ∀ (ps : List (Int × Int)) (done : List Card) (G : Hi) (v6 v7 : Option Val), h.length ≤ G.length → G.take h.length = h → (∀ p ∈ ps, p.2 = 1 ∨ p.2 = 2 ∨ p.2 = 3 ∨ p.2 = 4) → done.length + 4 * ps.length < 100 →
    ∃ (G' : Hi) (w6 w7 : Option Val), h.length ≤ G'.length ∧ G'.take h.length = h ∧ forL (evalSs cf ls181_8) (bindT (.tup [(.name 6), (.name 7)])) (ps.map fun p => .tuple [.int p.1, .int p.2]) (envA d v1 v2 v3 v4 (some (.ref G.length)) v6 v7) (G ++ [.lst (done.map cardD)]) =
      .ok .nx (envA d v1 v2 v3 v4 (some (.ref G'.length)) w6 w7) (G' ++ [.lst ((done ++ grpM ps).map cardD)])
  | [], done, G, v6, v7, hG, hT, _, _ => ⟨G, v6, v7, hG, hT, by rw [show grpM [] = [] from rfl, List.append_nil]; rfl⟩
  | p :: ps, done, G, v6, v7, hG, hT, hp, hl => by
    rw [List.length_cons] at hl
    have h4 := hp p List.mem_cons_self
    obtain ⟨z, z1, z2⟩ := cut_suits h4
    let new : List Card := (suitsL.take p.2.toNat).map fun s => (p.1, s)
    have nl : new.length ≤ 4 := by
      show ((suitsL.take p.2.toNat).map fun s => ((p.1, s) : Card)).length ≤ 4
      rw [List.length_map, List.length_take]
      have : suitsL.length = 4 := rfl
      omega
    obtain ⟨G', w6, w7, g1, g2, e⟩ := loop181b (d := d) (v1 := v1) (v2 := v2) (v3 := v3) (v4 := v4) ps (done ++ new) (G ++ [.lst (done.map cardD)]) (some (.p (.int p.1))) (some (.p (.int p.2))) (by simp; omega) (by rw [List.take_append_of_le_length hG]; exact hT) (fun x hx => hp x (List.mem_cons_of_mem _ hx)) (by rw [List.length_append]; omega)
    refine ⟨G', w6, w7, g1, g2, ?_⟩
    rw [List.append_assoc done] at e
    rw [List.map_cons, grp_one]
    unfold forL
    have eb : bindT (.tup [(.name 6), (.name 7)]) (.tuple [.int p.1, .int p.2]) (envA d v1 v2 v3 v4 (some (.ref G.length)) v6 v7) = some (envA d v1 v2 v3 v4 (some (.ref G.length)) (some (.p (.int p.1))) (some (.p (.int p.2)))) := by
      simp only [bt_tup, bts_cons, bts_nil, bt_name, Option.bind_some, setSlot_0, setSlot_s]
    rw [eb]
    have c1 : evalE cf (envA d v1 v2 v3 v4 (some (.ref G.length)) (some (.p (.int p.1))) (some (.p (.int p.2)))) (.comp [8] (.name 8) (.e (.op3b (.sliceS false true) (.lit (.str ("cdhs" : Str))) (.lit .none) (.var 7))) [] (.tup [(.var 6), (.var 8)])) (G ++ [.lst (done.map cardD)]) = .ok (.p (.list (new.map cardD))) (G ++ [.lst (done.map cardD)]) := by
      show _ = R.ok (Val.p (.list (((suitsL.take p.2.toNat).map fun s => (p.1, s)).map cardD))) _
      rw [List.map_map]
      refine comp_all PyData.str _ (by simp only [es_e, ev_op3b, bor_lit, ev_lit, ev_var, slot_0, slot_s, ofO_some, R.bind_ok, unP_p, z1, Option.map_some, z2]) (by rw [List.length_take]; have : suitsL.length = 4 := rfl; omega) fun x hx => ⟨[some (.p d), v1, v2, v3, v4, some (.ref G.length), some (.p (.int p.1)), some (.p (.int p.2)), some (.p (.str x))], by simp, ?_⟩
      simp only [ev_tup, eps_cons, eps_nil, ev_var, slot_0, slot_s, ofO_some, R.bind_ok, unP_p]
      rfl
    have ct : catD (.list (done.map cardD)) (.list (new.map cardD)) = some (.list ((done ++ new).map cardD)) := by
      unfold catD
      simp only
      rw [if_pos (sz_ok (by rw [List.length_map, List.length_map]; omega)), List.map_append]
    have st : evalSs cf ls181_8 (envA d v1 v2 v3 v4 (some (.ref G.length)) (some (.p (.int p.1))) (some (.p (.int p.2)))) (G ++ [.lst (done.map cardD)]) = .ok .nx (envA d v1 v2 v3 v4 (some (.ref (G ++ [Ob.lst (done.map cardD)]).length)) (some (.p (.int p.1))) (some (.p (.int p.2)))) (G ++ [.lst (done.map cardD)] ++ [.lst ((done ++ new).map cardD)]) := by
      unfold ls181_8 s181_8_0
      rw [ss_cons, st_set, ev_mk, ev_catB]
      simp only [lstOf_eq, slot_0, slot_s, refOf_r, Option.bind_some, listAt_app, Option.map_some]
      rw [c1]
      simp only [R.bind_ok, unP_p, catBK, lstOf_eq, slot_0, slot_s, refOf_r, Option.bind_some, listAt_app, Option.map_some, ct, ofO_some, mkK, R.toS_ok, setSlot_0, setSlot_s, RS.bind_nx, ss_nil]
    simp only [st]
    exact e
theorem hand_rest (F76 : fns 76 = some d76) {k : Int} {ns : List Int} (h0 : 0 ≤ k) (h8 : k ≤ 8) (c : ¬ (k = 4 ∨ k = 8)) (hr : ∀ x ∈ ns, 2 ≤ x ∧ x ≤ 14) (hl : ns.length = (shp k).length) {v3 v6 v7 v4 : Option Val} {G : Hi} :
    evalS (callF fns (q + 1)) s181_10 (envA (.tuple [.int k, .tuple (ns.map .int)]) (some (.p (.int k))) (some (.p (.tuple (ns.map .int)))) v3 v4 (some (.ref G.length)) v6 v7) (G ++ [.lst ((fiveH k ns).map cardD)]) =
      .ok (.rt (.p (.bool (decide ((fiveH k ns).Nodup) && decide (rankM (fiveH k ns) = (k, ns)))))) (envA (.tuple [.int k, .tuple (ns.map .int)]) (some (.p (.int k))) (some (.p (.tuple (ns.map .int)))) v3 v4 (some (.ref G.length)) v6 v7) (if (fiveH k ns).Nodup then G ++ [.dead] else G ++ [.lst ((fiveH k ns).map cardD)]) := by
  have l5 := five_len h0 h8 c hl
  have mem : ∀ x ∈ fiveH k ns, (2 ≤ x.1 ∧ x.1 ≤ 14) ∧ x.2 ∈ suitsL := fun x hx => ⟨hr _ (five_mem hl hx).2, (five_mem hl hx).1⟩
  generalize fiveH k ns = five at l5 mem ⊢
  obtain ⟨n, n1, n2⟩ := lenSet_five l5
  unfold s181_10
  by_cases nd : five.Nodup
  · have ft := nd_fit nd mem
    have e76 := rank76L_eval (q := q) (h := G ++ [.dead]) F76 l5 ft
    generalize callF fns (q + 1) = cf at e76
    rw [decide_eq_true nd] at n2 ⊢
    have rl : (rankM five).2.length < 1000 := by
      have := (rank_frm l5 ft).1
      have h1 := this.len
      unfold lenM frM moM at h1
      repeat' split at h1
      all_goals omega
    have eq : opf2 .eq (rankD (rankM five)) (.tuple [.int k, .tuple (ns.map .int)]) = some (.bool (decide (rankM five = (k, ns)))) := o_eqRank (b := (k, ns)) rl (by
      show ns.length < 1000
      rw [hl, shp_len h0 h8 c]
      unfold lenM frM moM
      repeat' split
      all_goals omega)
    simp only [st_ret, ev_and, ev_op2, ev_op1, bor_var, slot_0, slot_s, borV_r, listAt_app, R.bind_ok, n1, Option.map_some, ofO_some, unP_p, bor_lit, ev_lit, o_eqI, n2, andK_t, if_true, ev_call, ees_cons, ees_nil, ev_freeze, freezeK, lstOf_eq, refOf_r, Option.bind_some, set_app, e76, ev_var, borV_p, eq, R.toS_ok, Bool.true_and, if_pos nd]
  · rw [decide_eq_false nd] at n2 ⊢
    simp only [st_ret, ev_and, ev_op2, ev_op1, bor_var, slot_0, slot_s, borV_r, listAt_app, R.bind_ok, n1, Option.map_some, ofO_some, unP_p, bor_lit, ev_lit, o_eqI, n2, andK_t, Bool.false_eq_true, if_false, R.toS_ok, Bool.false_and, if_neg nd]
theorem hand_eval (F76 : fns 76 = some d76) (F181 : fns 181 = some d181) {d : PyData} (few : FewT d) : callF fns (q + 2) 181 [.p d] h = .ok (.p (.bool (isrB d))) h := by
  rw [call_eq F181 rfl]
  have hrest : ∀ {k : Int} {ns : List Int} (h0 : 0 ≤ k) (h8 : k ≤ 8) (c : ¬ (k = 4 ∨ k = 8)) (hr : ∀ x ∈ ns, 2 ≤ x ∧ x ≤ 14) (hl : ns.length = (shp k).length) {v3 v6 v7 v4 : Option Val} {G : Hi}, _ := @hand_rest fns q F76
  generalize callF fns (q + 1) = cf at hrest
  show finF h.length (evalSs cf b181 (envA d none none none none none none none) h) = _
  rw [b181_eq]
  unfold ls181
  have bad : isrB d = false → evalT cf (envA d none none none none none none none) (.or_ (.not_ (.val (.isi (.var 0) .tuple))) (.or_ (.val (.op2 .ne (.op1 .len (.var 0)) (.lit (.int 2)))) (.not_ (.val (.isi (.op2b .ix (.var 0) (.lit (.int 1))) .tuple))))) h = .ok true h → finF h.length (evalSs cf (s181_0 :: [s181_1, s181_2, s181_3, s181_4, s181_5, s181_6, s181_7, s181_8, s181_9, s181_10]) (envA d none none none none none none none) h) = .ok (.p (.bool (isrB d))) h := fun e1 e2 => by
    rw [ss_cons, e1]
    simp only [s181_0, st_if, e2, R.toS_ok, if_true, ss_cons, st_ret, ev_lit, RS.bind_rt, fin_rp, List.take_length]
  match d, few, bad with
  | .none, _, bad => exact bad rfl (by simp [isTy])
  | .bool _, _, bad => exact bad rfl (by simp [isTy])
  | .int _, _, bad => exact bad rfl (by simp [isTy])
  | .str _, _, bad => exact bad rfl (by simp [isTy])
  | .list _, _, bad => exact bad rfl (by simp [isTy])
  | .dict _, _, bad => exact bad rfl (by simp [isTy])
  | .tuple [], _, bad => exact bad rfl (by simp [isTy])
  | .tuple [a], _, bad => exact bad (by cases a <;> rfl) (by simp [isTy])
  | .tuple (a :: b :: c :: r), _, bad =>
    refine bad (by cases a <;> first | rfl | (cases b <;> rfl)) ?_
    have : ¬ ((r.length : Int) + 1 + 1 + 1 = 2) := by omega
    simp [isTy, this]
  | .tuple [a, b], few, bad =>
    have a1 : atI [a, b] 1 = some b := rfl
    by_cases hb : ∃ ts, b = .tuple ts
    case neg =>
      have tb : isTy .tuple b = false := by
        cases b with
        | tuple ts => exact absurd ⟨ts, rfl⟩ hb
        | _ => rfl
      have ta : isTy .tuple (.tuple [a, b]) = true := rfl
      refine bad ?_ (by simp [ta, a1, tb])
      cases b with
      | tuple ts => exact absurd ⟨ts, rfl⟩ hb
      | _ => cases a <;> rfl
    obtain ⟨ts, rfl⟩ := hb
    have fw := few a ts rfl
    let Rs : Option Val := some (.p (.tuple ts))
    let D : PyData := .tuple [a, .tuple ts]
    have t0 : evalS cf s181_0 (envA (.tuple [a, .tuple ts]) none none none none none none none) h = .ok .nx (envA (.tuple [a, .tuple ts]) none none none none none none none) h := by
      simp [s181_0, isTy, a1]
    have t1 : evalS cf s181_1 (envA (.tuple [a, .tuple ts]) none none none none none none none) h = .ok .nx (envA (.tuple [a, .tuple ts]) (some (.p a)) Rs none none none none none) h := by simp [s181_1, Rs]
    rw [ss_cons, t0, RS.bind_nx, ss_cons, t1, RS.bind_nx, ss_cons]
    obtain ⟨w3, e2⟩ := loop181a (cf := cf) (h := h) (d := .tuple [a, .tuple ts]) (v1 := some (.p a)) (v2 := Rs) (v4 := none) (v5 := none) (v6 := none) (v7 := none) (ts ++ [a]) none
    have s2 : evalS cf s181_2 (envA (.tuple [a, .tuple ts]) (some (.p a)) Rs none none none none none) h = forL (evalSs cf ls181_2) (bindT (.name 3)) (ts ++ [a]) (envA (.tuple [a, .tuple ts]) (some (.p a)) Rs none none none none none) h := by
      have ad : opf2 .add (.tuple ts) (.tuple [a]) = some (.tuple (ts ++ [a])) := addT_ok (by simp; omega)
      unfold s181_2
      simp only [st_for, es_e, ev_op2d, ev_var, Rs, slot_0, slot_s, ofO_some, R.bind_ok, unP_p, ev_tup, eps_cons, eps_nil, ad, Option.map_some, items_T, R.toS_ok]
    rw [s2, e2]
    by_cases al : (ts ++ [a]).all isI = true
    case neg =>
      rw [if_neg al, RS.bind_rt, fin_rp, List.take_length]
      have : isrB (.tuple [a, .tuple ts]) = false := by
        cases a with
        | int k =>
          have : ts.all isI ≠ true := fun z => al (by rw [List.all_append, z]; rfl)
          cases e : intsD ts with
          | none =>
            show (decide (0 ≤ k ∧ k ≤ 8) && (match intsD ts with | some ns => vldB (k, ns) | none => false)) = false
            rw [e, Bool.and_false]
          | some ns =>
            refine absurd ?_ this
            rw [intsD_some e, List.all_map, List.all_eq_true]
            exact fun _ _ => rfl
        | _ => rfl
      rw [this]
    rw [if_pos al, RS.bind_nx, ss_cons]
    rw [List.all_append, Bool.and_eq_true] at al
    obtain ⟨al1, al2⟩ := al
    obtain ⟨k, rfl⟩ : ∃ k, a = .int k := by
      cases a with
      | int k => exact ⟨k, rfl⟩
      | _ => cases al2
    obtain ⟨ns, hns⟩ : ∃ ns, intsD ts = some ns := by
      cases e : intsD ts with
      | some ns => exact ⟨ns, rfl⟩
      | none =>
        obtain ⟨x, hx, hn⟩ := intsD_none_mem e
        have := List.all_eq_true.mp al1 x hx
        cases x with
        | int i => exact absurd rfl (hn i)
        | _ => cases this
    have isr : isrB (.tuple [.int k, .tuple ts]) = (decide (0 ≤ k ∧ k ≤ 8) && vldB (k, ns)) := by
      show (decide (0 ≤ k ∧ k ≤ 8) && (match intsD ts with | some ns => vldB (k, ns) | none => false)) = _
      rw [hns]
    have := intsD_some hns
    subst this
    rw [List.length_map] at fw
    rw [isr]
    have cc : evalE cf (envA (.tuple [.int k, .tuple (ns.map .int)]) (some (.p (.int k))) Rs w3 none none none none) (.comp [3] (.name 3) (.e (.var 2)) [(.or_ (.val (.op2 .lt (.var 3) (.lit (.int 2)))) (.val (.op2 .gt (.var 3) (.lit (.int 14)))))] (.var 3)) h = .ok (.p (.list ((ns.filter fun x => decide (x < 2) || decide (14 < x)).map .int))) h := by
      refine comp_ok PyData.int PyData.int _ (by simp only [es_e, ev_var, Rs, slot_0, slot_s, ofO_some, R.bind_ok, unP_p, items_T]) (by omega) fun x hx => ⟨[some (.p (.tuple [.int k, .tuple (ns.map .int)])), some (.p (.int k)), Rs, some (.p (.int x)), none, none, none, none, none], by simp, ?_, fun _ => by simp⟩
      simp only [ets_one, et_or, et_val, bor_op2, ev_op2, ev_var, slot_0, slot_s, ofO_some, R.bind_ok, unP_p, bor_lit, ev_lit, o_lt, o_gt, Option.map_some, truth_b, ifK_eq]
      cases decide (x < 2) <;> rfl
    have tt : evalT cf (envA (.tuple [.int k, .tuple (ns.map .int)]) (some (.p (.int k))) Rs w3 none none none none) (.or_ (.val (.op2 .lt (.var 1) (.lit (.int 0)))) (.or_ (.val (.op2 .gt (.var 1) (.lit (.int 8)))) (.val (.comp [3] (.name 3) (.e (.var 2)) [(.or_ (.val (.op2 .lt (.var 3) (.lit (.int 2)))) (.val (.op2 .gt (.var 3) (.lit (.int 14)))))] (.var 3))))) h =
        .ok (decide (k < 0) || (decide (8 < k) || !((ns.filter fun x => decide (x < 2) || decide (14 < x)).map PyData.int).isEmpty)) h := by
      simp only [et_or, et_val, bor_op2, ev_op2, ev_var, slot_0, slot_s, ofO_some, R.bind_ok, unP_p, bor_lit, ev_lit, o_lt, o_gt, Option.map_some, truth_b, ifK_eq, bor_comp, cc, truth_l]
      cases decide (k < 0) <;> cases decide (8 < k) <;> rfl
    by_cases kr : 0 ≤ k ∧ k ≤ 8
    case neg =>
      rw [decide_eq_false kr, Bool.false_and]
      have : (decide (k < 0) || (decide (8 < k) || !((ns.filter fun x => decide (x < 2) || decide (14 < x)).map PyData.int).isEmpty)) = true := by
        by_cases c0 : k < 0
        · rw [decide_eq_true c0]; rfl
        · rw [decide_eq_true (show 8 < k by omega)]; simp
      simp only [s181_3, st_if, tt, this, R.toS_ok, if_true, ss_cons, st_ret, ev_lit, RS.bind_rt, fin_rp, List.take_length]
    obtain ⟨h0, h8⟩ := kr
    rw [decide_eq_true ⟨h0, h8⟩, Bool.true_and]
    rw [decide_eq_false (show ¬ k < 0 by omega), decide_eq_false (show ¬ 8 < k by omega), Bool.false_or, Bool.false_or] at tt
    by_cases hr : ∀ x ∈ ns, 2 ≤ x ∧ x ≤ 14
    case neg =>
      have vf : vldB (k, ns) = false := by
        cases e : vldB (k, ns) with
        | false => rfl
        | true => exact absurd (vld_rng e) hr
      have : (!((ns.filter fun x => decide (x < 2) || decide (14 < x)).map PyData.int).isEmpty) = true := by
        rw [Bool.not_eq_true', ← Bool.not_eq_true, List.isEmpty_iff]
        intro z
        rw [List.map_eq_nil_iff, List.filter_eq_nil_iff] at z
        refine hr fun x hx => ?_
        have := z x hx
        simp at this
        omega
      rw [vf]
      simp only [s181_3, st_if, tt, this, R.toS_ok, if_true, ss_cons, st_ret, ev_lit, RS.bind_rt, fin_rp, List.take_length]
    have em : (!((ns.filter fun x => decide (x < 2) || decide (14 < x)).map PyData.int).isEmpty) = false := by
      rw [Bool.not_eq_false', List.isEmpty_iff, List.map_eq_nil_iff, List.filter_eq_nil_iff]
      intro x hx
      have := hr x hx
      simp; omega
    have t3 : evalS cf s181_3 (envA (.tuple [.int k, .tuple (ns.map .int)]) (some (.p (.int k))) Rs w3 none none none none) h = .ok .nx (envA (.tuple [.int k, .tuple (ns.map .int)]) (some (.p (.int k))) Rs w3 none none none none) h := by
      simp only [s181_3, st_if, tt, em, R.toS_ok, Bool.false_eq_true, if_false, ss_nil]
    rw [t3, RS.bind_nx, ss_cons, ← hand_vld h0 h8 hr]
    have i4 := in48 k
    by_cases c : k = 4 ∨ k = 8
    · rw [decide_eq_true c] at i4
      unfold handB
      rw [if_pos c]
      have ln : (((ns.map PyData.int).length : Nat) : Int) = (ns.length : Int) := by rw [List.length_map]
      have dl : decide ((ns.length : Int) = 1) = decide (ns.length = 1) := decide_eq_decide.mpr (by omega)
      have u : evalS cf s181_4 (envA (.tuple [.int k, .tuple (ns.map .int)]) (some (.p (.int k))) Rs w3 none none none none) h = .ok (.rt (.p (.bool (decide (ns.length = 1) && decide (5 ≤ ns.headD 0))))) (envA (.tuple [.int k, .tuple (ns.map .int)]) (some (.p (.int k))) Rs w3 none none none none) h := by
        simp only [s181_4, st_if, et_val, bor_op2, ev_op2, ev_var, Rs, slot_0, slot_s, ofO_some, R.bind_ok, unP_p, bor_tup, ev_tup, eps_cons, eps_nil, ev_lit, i4, Option.map_some, truth_b, R.toS_ok, if_true, ss_cons, st_ret, ev_and, ev_op1, bor_var, borV_p, o_lenT, ln, bor_lit, o_eqI, dl]
        by_cases l1 : ns.length = 1
        · obtain ⟨t, rfl⟩ := List.length_eq_one_iff.mp l1
          simp only [List.length_singleton, decide_true, andK_t, if_true, ev_op2b, bor_var, slot_0, slot_s, borV_p, ev_var, ofO_some, R.bind_ok, unP_p, ev_lit, List.map_cons, List.map_nil, o_ixT, atI_c0, Option.map_some, o_ge, R.toS_ok, RS.bind_rt, Bool.true_and, List.headD_cons]
          rfl
        · rw [decide_eq_false l1]
          simp only [andK_t, Bool.false_eq_true, if_false, R.toS_ok, RS.bind_rt, Bool.false_and]
      rw [u, RS.bind_rt, fin_rp, List.take_length]
    · rw [decide_eq_false c] at i4
      unfold handB
      rw [if_neg c]
      have t4 : evalS cf s181_4 (envA (.tuple [.int k, .tuple (ns.map .int)]) (some (.p (.int k))) Rs w3 none none none none) h = .ok .nx (envA (.tuple [.int k, .tuple (ns.map .int)]) (some (.p (.int k))) Rs w3 none none none none) h := by
        simp only [s181_4, st_if, et_val, bor_op2, ev_op2, ev_var, Rs, slot_0, slot_s, ofO_some, R.bind_ok, unP_p, bor_tup, ev_tup, eps_cons, eps_nil, ev_lit, i4, Option.map_some, truth_b, R.toS_ok, Bool.false_eq_true, if_false, ss_nil]
      let Sp : Option Val := some (.p (.tuple ((shp k).map .int)))
      have sa := shp_at h0 h8 c
      have t5 : evalS cf s181_5 (envA (.tuple [.int k, .tuple (ns.map .int)]) (some (.p (.int k))) Rs w3 none none none none) h = .ok .nx (envA (.tuple [.int k, .tuple (ns.map .int)]) (some (.p (.int k))) Rs w3 Sp none none none) h := by
        unfold s181_5
        simp only [shpD] at sa
        simp only [st_set, ev_op2b, bor_lst, ev_lst, eps_cons, eps_nil, ev_tup, ev_lit, ev_var, slot_0, slot_s, ofO_some, R.bind_ok, unP_p, o_ixL, sa, Option.map_some, R.toS_ok, setSlot_0, setSlot_s, Sp]
      rw [t4, RS.bind_nx, ss_cons, t5, RS.bind_nx, ss_cons]
      have ln1 : (((ns.map PyData.int).length : Nat) : Int) = (ns.length : Int) := by rw [List.length_map]
      have ln2 : ((((shp k).map PyData.int).length : Nat) : Int) = ((shp k).length : Int) := by rw [List.length_map]
      by_cases hl : ns.length = (shp k).length
      case neg =>
        have dl : decide ((ns.length : Int) = ((shp k).length : Int)) = false := decide_eq_false (by omega)
        rw [decide_eq_false hl, Bool.false_and]
        simp only [s181_6, st_if, et_val, bor_op2, ev_op2, ev_op1, bor_op1, bor_var, Rs, Sp, slot_0, slot_s, borV_p, ev_var, ofO_some, R.bind_ok, unP_p, o_lenT, ln1, ln2, Option.map_some, o_neI, dl, Bool.not_false, truth_b, R.toS_ok, if_true, ss_cons, st_ret, ev_lit, RS.bind_rt, fin_rp, List.take_length]
      have dl : decide ((ns.length : Int) = ((shp k).length : Int)) = true := decide_eq_true (by omega)
      have t6 : evalS cf s181_6 (envA (.tuple [.int k, .tuple (ns.map .int)]) (some (.p (.int k))) Rs w3 Sp none none none) h = .ok .nx (envA (.tuple [.int k, .tuple (ns.map .int)]) (some (.p (.int k))) Rs w3 Sp none none none) h := by
        simp only [s181_6, st_if, et_val, bor_op2, ev_op2, ev_op1, bor_op1, bor_var, Rs, Sp, slot_0, slot_s, borV_p, ev_var, ofO_some, R.bind_ok, unP_p, o_lenT, ln1, ln2, Option.map_some, o_neI, dl, Bool.not_true, truth_b, R.toS_ok, Bool.false_eq_true, if_false, ss_nil]
      have t7 : evalS cf s181_7 (envA (.tuple [.int k, .tuple (ns.map .int)]) (some (.p (.int k))) Rs w3 Sp none none none) h = .ok .nx (envA (.tuple [.int k, .tuple (ns.map .int)]) (some (.p (.int k))) Rs w3 Sp (some (.ref h.length)) none none) (h ++ [.lst (([] : List Card).map cardD)]) := by
        unfold s181_7
        simp only [st_set, ev_mk, ev_lst, eps_nil, R.bind_ok, unP_p, mkK, R.toS_ok, setSlot_0, setSlot_s]
        rfl
      have sl5 : (shp k).length ≤ 5 := by
        rw [shp_len h0 h8 c]
        unfold lenM frM moM
        repeat' split
        all_goals omega
      obtain ⟨G, w6, w7, g1, g2, e8⟩ := loop181b (cf := cf) (h := h) (d := .tuple [.int k, .tuple (ns.map .int)]) (v1 := some (.p (.int k))) (v2 := Rs) (v3 := w3) (v4 := Sp) (ns.zip (shp k)) [] h none none (Nat.le_refl _) (List.take_length) (fun p hp => shp_small _ (List.of_mem_zip hp).2) (by rw [List.length_zip]; simp; omega)
      rw [List.nil_append] at e8
      have t8 : evalS cf s181_8 (envA (.tuple [.int k, .tuple (ns.map .int)]) (some (.p (.int k))) Rs w3 Sp (some (.ref h.length)) none none) (h ++ [.lst (([] : List Card).map cardD)]) = .ok .nx (envA (.tuple [.int k, .tuple (ns.map .int)]) (some (.p (.int k))) Rs w3 Sp (some (.ref G.length)) w6 w7) (G ++ [.lst ((grpM (ns.zip (shp k))).map cardD)]) := by
        unfold s181_8
        have zi : evalSrc cf (envA (.tuple [.int k, .tuple (ns.map .int)]) (some (.p (.int k))) Rs w3 Sp (some (.ref h.length)) none none) (.zip (.var 2) (.var 4)) (h ++ [.lst (([] : List Card).map cardD)]) = .ok ((ns.zip (shp k)).map fun p => .tuple [.int p.1, .int p.2]) (h ++ [.lst (([] : List Card).map cardD)]) := by
          simp only [es_zip, ev_var, Rs, Sp, slot_0, slot_s, ofO_some, R.bind_ok, unP_p, items_T, Option.bind_some, Option.map_some, zipD_ii]
        rw [st_for, zi, R.toS_ok]
        exact e8
      have t9 : evalS cf s181_9 (envA (.tuple [.int k, .tuple (ns.map .int)]) (some (.p (.int k))) Rs w3 Sp (some (.ref G.length)) w6 w7) (G ++ [.lst ((grpM (ns.zip (shp k))).map cardD)]) = .ok .nx (envA (.tuple [.int k, .tuple (ns.map .int)]) (some (.p (.int k))) Rs w3 Sp (some (.ref G.length)) w6 w7) (G ++ [.lst ((fiveH k ns).map cardD)]) := by
        unfold s181_9
        by_cases k0 : k = 0
        · subst k0
          have l5 : ns.length = 5 := hl
          have gl : (grpM (ns.zip (shp 0))).length = 5 := by
            obtain ⟨a, b, c, d, e, rfl⟩ := len5 ns l5
            rfl
          have gx : atI (ns.map PyData.int) 4 = some (.int (ns.getD 4 0)) := by
            have : atI (ns.map PyData.int) ((4 : Nat) : Int) = some (.int (ns.getD 4 0)) := by
              rw [atI_nat]; simp [l5]
            exact this
          have ix : ixN ((grpM (ns.zip (shp 0))).map cardD).length 4 = some 4 := by
            have : ixN ((grpM (ns.zip (shp 0))).map cardD).length ((4 : Nat) : Int) = some 4 := ixN_nat (by rw [List.length_map, gl]; decide)
            exact this
          have se : ((grpM (ns.zip (shp 0))).map cardD).set 4 (.tuple [.int (ns.getD 4 0), .str ("d" : Str)]) = (fiveH 0 ns).map cardD := by
            unfold fiveH
            rw [if_pos rfl, List.map_set]; rfl
          simp only [st_if, et_val, bor_op2, ev_op2, ev_var, slot_0, slot_s, ofO_some, R.bind_ok, unP_p, bor_lit, ev_lit, o_eqI, Option.map_some, decide_true, truth_b, R.toS_ok, if_true, ss_cons, ss_nil, st_setIx, ev_tup, eps_cons, eps_nil, ev_op2b, bor_var, Rs, borV_p, o_ixT, gx, getL_var, refOf_r, Option.bind_some, listAt_app, setIxH_var, ix, se, set_app, ofH_some, RS.bind_nx]
        · have : fiveH k ns = grpM (ns.zip (shp k)) := by unfold fiveH; rw [if_neg k0]
          rw [this]
          have z : decide (k = 0) = false := decide_eq_false k0
          simp only [st_if, et_val, bor_op2, ev_op2, ev_var, slot_0, slot_s, ofO_some, R.bind_ok, unP_p, bor_lit, ev_lit, o_eqI, z, Option.map_some, truth_b, R.toS_ok, Bool.false_eq_true, if_false, ss_nil]
      have t10 := hrest h0 h8 c hr hl (v3 := w3) (v6 := w6) (v7 := w7) (v4 := Sp) (G := G)
      rw [t6, RS.bind_nx, ss_cons, t7, RS.bind_nx, ss_cons, t8, RS.bind_nx, ss_cons, t9, RS.bind_nx, ss_cons, t10, RS.bind_rt, fin_rp, decide_eq_true hl, Bool.true_and]
      congr 1
      split <;> rw [List.take_append_of_le_length g1, g2]
end
end Cd
set_option Elab.async false
set_option linter.all false
set_option maxRecDepth 100000
set_option maxHeartbeats 4000000
namespace Cd
open PySem L2
def s182_0 : S := .set 1 (.call 72 [(.var 0), (.lit (.int 0))])
def s182_1 : S := .set 2 (.mk (.lst [(.lit .none), (.lit (.int 7)), (.lit (.str ("0" : Str))), (.tup []), (.tup [(.lit (.int 0)), (.tup [])]), (.tup [(.lit (.int 4)), (.tup [(.lit (.int 5))])]), (.tup [(.lit (.int 8)), (.tup [(.lit (.int 4))])]), (.tup [(.lit (.int 4)), (.tup [(.lit (.int 15))])]), (.tup [(.lit (.bool true)), (.tup [(.lit (.int 14)), (.lit (.int 13)), (.lit (.int 3)), (.lit (.int 2))])]), (.tup [(.lit (.int 9)), (.tup [])])]))
def s182_2 : S := .app (.var 2) (.tup [(.lit (.int 0)), (.tup [(.lit (.int 14)), (.lit (.int 5)), (.lit (.int 4)), (.lit (.int 3)), (.lit (.int 2))])])
def s182_3 : S := .set 3 (.op2d .add (.call 71 [(.var 1), (.lit (.int 1)), (.lit (.int 10))]) (.lit (.int 5)))
def s182_4 : S := .set 4 (.op1 .tuple (.comp [12] (.name 12) (.rng1 (.lit (.int 5))) [] (.ite (.val (.op2 .eq (.op2d .sub (.var 3) (.var 12)) (.lit (.int 1)))) (.lit (.int 14)) (.op2d .sub (.var 3) (.var 12)))))
def s182_5 : S := .set 5 (.op1 .tuple (.op1 .rev (.op1 .sorted (.var 4))))
def s182_6 : S := .set 2 (.mk (.catB 2 (.lst [(.tup [(.lit (.int 0)), (.var 5)]), (.tup [(.lit (.int 5)), (.var 5)]), (.tup [(.lit (.int 5)), (.var 4)]), (.tup [(.lit (.int 6)), (.tup [(.lit (.int 2)), (.lit (.int 2))])]), (.tup [(.lit (.int 1)), (.tup [(.lit (.bool true)), (.lit (.int 5)), (.lit (.int 4)), (.lit (.int 3))])])])))
def s182_7_0 : S := .unpack (.tup [(.name 8), (.name 9)]) (.call 76 [(.var 6)])
def s182_7_1 : S := .set 10 (.call 71 [(.var 1), (.lit (.int 10)), (.op1 .len (.var 9))])
def s182_7_2 : S := .set 11 (.call 71 [(.var 1), (.lit (.int 50)), (.lit (.int 16))])
def s182_7_3 : S := .set 2 (.mk (.catB 2 (.lst [(.tup [(.var 8), (.var 9)]), (.lst [(.var 8), (.var 9)]), (.tup [(.var 8), (.op1 .list (.var 9))]), (.tup [(.var 8), (.op1 .revT (.var 9))])])))
def s182_7_4 : S := .app (.var 2) (.tup [(.op2d .sub (.call 71 [(.var 1), (.lit (.int 50)), (.lit (.int 11))]) (.lit (.int 1))), (.var 9)])
def s182_7_5 : S := .set 2 (.mk (.catB 2 (.lst [(.tup [(.var 8), (.op2d .add (.op2d .add (.op3b (.slice false true) (.var 9) (.lit .none) (.var 10)) (.tup [(.var 11)])) (.op3b (.slice true false) (.var 9) (.op2d .addI (.var 10) (.lit (.int 1))) (.lit .none)))]), (.tup [(.var 8), (.op2d .add (.op2d .add (.op3b (.slice false true) (.var 9) (.lit .none) (.var 10)) (.tup [(.var 11)])) (.op3b (.slice true false) (.var 9) (.var 10) (.lit .none)))])])))
def s182_7_6 : S := .set 2 (.mk (.catB 2 (.lst [(.tup [(.var 8), (.op2d .add (.op3b (.slice false true) (.var 9) (.lit .none) (.var 10)) (.op3b (.slice true false) (.var 9) (.op2d .addI (.var 10) (.lit (.int 1))) (.lit .none)))]), (.tup [(.var 8), (.var 9), (.lit (.int 0))])])))
def s182_7_7 : S := .app (.var 2) (.tup [(.var 8), (.op2d .add (.op2d .add (.op3b (.slice false true) (.var 9) (.lit .none) (.var 10)) (.tup [(.lit .none)])) (.op3b (.slice true false) (.var 9) (.op2d .addI (.var 10) (.lit (.int 1))) (.lit .none)))])
def ls182_7 : List S := [s182_7_0, s182_7_1, s182_7_2, s182_7_3, s182_7_4, s182_7_5, s182_7_6, s182_7_7]
def s182_7 : S := .for_ (.name 6) (.e (.lst [(.call 74 [(.op3b (.slice true true) (.var 0) (.lit (.int 1)) (.lit (.int 6))), (.lit (.int 5))]), (.call 75 [(.op3b (.slice true true) (.var 0) (.lit (.int 1)) (.lit (.int 7))), (.lit (.int 5))]), (.call 75 [(.op3b (.slice true true) (.var 0) (.lit (.int 6)) (.lit (.int 12))), (.lit (.int 5))])])) ls182_7
def s182_8_0 : S := .if_ (.not_ (.val (.call 73 [(.call 95 [(.var 7)]), (.call 181 [(.var 7)])]))) [.ret (.lit (.bool false))] []
def ls182_8 : List S := [s182_8_0]
def s182_8 : S := .forB (.name 7) 2 ls182_8
def s182_9 : S := .ret (.lit (.bool true))
def ls182 : List S := [s182_0, s182_1, s182_2, s182_3, s182_4, s182_5, s182_6, s182_7, s182_8, s182_9]
theorem b182_eq : b182 = ls182 := rfl
end Cd
set_option Elab.async false
set_option linter.all false
set_option maxRecDepth 100000
set_option maxHeartbeats 4000000
namespace Cd
open PySem L2
def Thn (t : PyData) : Prop := FewT t ∧ sameD t t = true
theorem sameL_all : ∀ {ts : List PyData}, (∀ t ∈ ts, sameD t t = true) → sameL ts ts = true
  | [], _ => rfl
  | t :: ts, h => by
    show (sameD t t && sameL ts ts) = true
    rw [h t List.mem_cons_self, sameL_all fun x hx => h x (List.mem_cons_of_mem _ hx)]; rfl
theorem same_int1 (i : Int) : sameD (.int i) (.int i) = true := by simp [sameD]
theorem same_map (ns : List Int) : ∀ t ∈ ns.map PyData.int, sameD t t = true := fun t ht => by
  obtain ⟨i, _, rfl⟩ := List.mem_map.mp ht
  exact same_int1 i
theorem thn_pair {a : Int} {ts : List PyData} (hl : ts.length < 900) (hs : ∀ t ∈ ts, sameD t t = true) : Thn (.tuple [.int a, .tuple ts]) := by
  refine ⟨fun b us e => ?_, ?_⟩
  · simp only [PyData.tuple.injEq, List.cons.injEq, and_true] at e
    rw [← e.2]; exact hl
  · show (sameD (.int a) (.int a) && (sameL ts ts && true)) = true
    rw [same_int1, sameL_all hs]; rfl
theorem thn_lst {ts : List PyData} (hs : ∀ t ∈ ts, sameD t t = true) : Thn (.list ts) := ⟨fun _ _ e => (nomatch e), sameL_all hs⟩
theorem thn_tl {a : Int} {ts : List PyData} (hs : ∀ t ∈ ts, sameD t t = true) : Thn (.tuple [.int a, .list ts]) := by
  refine ⟨fun b us e => ?_, ?_⟩
  · simp only [PyData.tuple.injEq, List.cons.injEq, and_true] at e
    exact nomatch e.2
  · show (sameD (.int a) (.int a) && (sameL ts ts && true)) = true
    rw [same_int1, sameL_all hs]; rfl
theorem thn_3 {a c : Int} {ts : List PyData} (hs : ∀ t ∈ ts, sameD t t = true) : Thn (.tuple [.int a, .tuple ts, .int c]) := by
  refine ⟨fun b us e => ?_, ?_⟩
  · simp at e
  · show (sameD (.int a) (.int a) && (sameL ts ts && (sameD (.int c) (.int c) && true))) = true
    rw [same_int1, same_int1, sameL_all hs]; rfl
def T0 : List PyData := [.none, .int 7, .str ("0" : Str), .tuple [], .tuple [.int 0, .tuple []], .tuple [.int 4, .tuple [.int 5]], .tuple [.int 8, .tuple [.int 4]], .tuple [.int 4, .tuple [.int 15]], .tuple [.bool true, .tuple [.int 14, .int 13, .int 3, .int 2]], .tuple [.int 9, .tuple []], .tuple [.int 0, .tuple [.int 14, .int 5, .int 4, .int 3, .int 2]]]
theorem few_of {a : PyData} {ts : List PyData} (hl : ts.length < 900) : FewT (.tuple [a, .tuple ts]) := fun b us e => by
  simp only [PyData.tuple.injEq, List.cons.injEq, and_true] at e
  rw [← e.2]; exact hl
theorem thn_T0 : ∀ t ∈ T0, Thn t := by
  intro t ht
  simp only [T0, List.mem_cons, List.not_mem_nil, or_false] at ht
  rcases ht with rfl | rfl | rfl | rfl | rfl | rfl | rfl | rfl | rfl | rfl | rfl
  · exact ⟨fun _ _ e => (nomatch e), by decide +kernel⟩
  · exact ⟨fun _ _ e => (nomatch e), by decide +kernel⟩
  · exact ⟨fun _ _ e => (nomatch e), by decide +kernel⟩
  · exact ⟨fun _ _ e => (nomatch e), by decide +kernel⟩
  · exact ⟨few_of (by decide), by decide +kernel⟩
  · exact ⟨few_of (by decide), by decide +kernel⟩
  · exact ⟨few_of (by decide), by decide +kernel⟩
  · exact ⟨few_of (by decide), by decide +kernel⟩
  · exact ⟨few_of (by decide), by decide +kernel⟩
  · exact ⟨few_of (by decide), by decide +kernel⟩
  · exact ⟨few_of (by decide), by decide +kernel⟩
section
variable {h : Hi} {q : Nat} {ns : List Int}
theorem same_bool (b : Bool) : callF fns (q + 1) 73 [.p (.bool b), .p (.bool b)] h = .ok (.p (.bool true)) h := by
  rw [call_eq (d := d73) rfl rfl]
  generalize callF fns q = cf
  show finF h.length (evalSs cf b73 [some (.p (.bool b)), some (.p (.bool b)), none, none] h) = _
  rw [b73_eq]
  unfold ls73
  have e : opf2 .eq (.bool b) (.bool b) = some (.bool true) := by cases b <;> rfl
  simp [s73_0, s73_1, isNoneD, isTy, e]
abbrev XL (ns : List Int) (v1 v2 v3 v4 v5 v6 v7 v8 v9 v10 v11 v12 : Option Val) : Ev := [some (.p (.list (ns.map .int))), v1, v2, v3, v4, v5, v6, v7, v8, v9, v10, v11, v12]
theorem cat_new {cf : Calls} {env : Ev} {i : Nat} {b : E} {G : Hi} {T U : List PyData} (hi : slot env i = some (.ref G.length)) (e : (evalE cf env b (G ++ [.lst T])).bind unP = .ok (.list U) (G ++ [.lst T])) (hz : T.length + U.length ≤ 1000) :
    evalS cf (.set i (.mk (.catB i b))) env (G ++ [.lst T]) = .ok .nx (setSlot env i (some (.ref (G ++ [Ob.lst T]).length))) (G ++ [.lst T] ++ [.lst (T ++ U)]) := by
  have ct : catD (.list T) (.list U) = some (.list (T ++ U)) := by
    unfold catD
    simp only
    rw [if_pos (sz_ok hz)]
  rw [st_set, ev_mk, ev_catB]
  simp only [lstOf_eq, hi, refOf_r, Option.bind_some, listAt_app, Option.map_some, e, R.bind_ok, catBK, ct, ofO_some, unP_p, mkK, R.toS_ok]
theorem app_new {cf : Calls} {env : Ev} {i : Nat} {b : E} {G : Hi} {T : List PyData} {u : PyData} (hi : slot env i = some (.ref G.length)) (e : (evalE cf env b (G ++ [.lst T])).bind unP = .ok u (G ++ [.lst T])) (hz : T.length < 1000) :
    evalS cf (.app (.var i) b) env (G ++ [.lst T]) = .ok .nx env (G ++ [.lst (T ++ [u])]) := by
  rw [st_app]
  simp only [getL_var, hi, refOf_r, Option.bind_some, listAt_app, e, R.toS_ok, appH_var, if_pos (Nat.lt_trans hz size1000), Option.map_some, set_app, ofH_some]
theorem turn182 (c : Int) {five : List Card} (h5 : five.length = 5) (ft : Fit five) {G : Hi} {T : List PyData} (hT : ∀ t ∈ T, Thn t) (hz : T.length < 100) {v3 v4 v5 v7 v8 v9 v10 v11 v12 : Option Val} :
    ∃ (G' : Hi) (T' : List PyData) (w8 w9 w10 w11 : Option Val), (∀ t ∈ T', Thn t) ∧ T'.length = T.length + 10 ∧
      evalSs (callF fns (q + 3)) ls182_7 (XL ns (some (.p (.int c))) (some (.ref G.length)) v3 v4 v5 (some (.p (fivD five))) v7 v8 v9 v10 v11 v12) (G ++ [.lst T]) =
        .ok .nx (XL ns (some (.p (.int c))) (some (.ref G'.length)) v3 v4 v5 (some (.p (fivD five))) v7 w8 w9 w10 w11 v12) (G' ++ [.lst T']) := by
  have fr := (rank_frm h5 ft).1
  obtain ⟨k, rs, hr⟩ : ∃ k rs, rankM five = (k, rs) := ⟨_, _, rfl⟩
  have e76 := fun H : Hi => rank76_eval (fns := fns) (q := q + 2) (h := H) rfl h5 ft
  rw [hr] at fr
  simp only [hr] at e76
  have rl : rs.length = lenM k := fr.len
  have rl2 : 1 ≤ rs.length ∧ rs.length ≤ 5 := by
    rw [rl]
    unfold lenM frM moM
    repeat' split
    all_goals omega
  let Rr : List PyData := rs.map .int
  have rsl : Rr.length = rs.length := List.length_map _
  obtain ⟨v1, a0, a1, ea⟩ := d_eval (fns := fns) (q := q + 2) (h := G ++ [.lst T]) rfl c 10 (m := (rs.length : Int)) (by omega)
  obtain ⟨j, rfl⟩ := Int.eq_ofNat_of_zero_le a0
  obtain ⟨nw, b0, b1, eb⟩ := d_eval (fns := fns) (q := q + 2) (h := G ++ [.lst T]) rfl c 50 (m := 16) (by decide)
  let U3 : List PyData := [.tuple [.int k, .tuple Rr], .list [.int k, .tuple Rr], .tuple [.int k, .list Rr], .tuple [.int k, .tuple Rr.reverse]]
  let G1 : Hi := G ++ [.lst T]
  let T3 : List PyData := T ++ U3
  obtain ⟨n4, c0, c1, ec⟩ := d_eval (fns := fns) (q := q + 2) (h := G1 ++ [.lst T3]) rfl c 50 (m := 11) (by decide)
  let T4 : List PyData := T3 ++ [.tuple [.int (n4 - 1), .tuple Rr]]
  let U5 : List PyData := [.tuple [.int k, .tuple ((Rr.take j ++ [.int nw]) ++ Rr.drop (j + 1))], .tuple [.int k, .tuple ((Rr.take j ++ [.int nw]) ++ Rr.drop j)]]
  let G2 : Hi := G1 ++ [.lst T4]
  let T5 : List PyData := T4 ++ U5
  let U6 : List PyData := [.tuple [.int k, .tuple (Rr.take j ++ Rr.drop (j + 1))], .tuple [.int k, .tuple Rr, .int 0]]
  let G3 : Hi := G2 ++ [.lst T5]
  let T6 : List PyData := T5 ++ U6
  let T7 : List PyData := T6 ++ [.tuple [.int k, .tuple ((Rr.take j ++ [.none]) ++ Rr.drop (j + 1))]]
  have e76' := e76 (G ++ [.lst T])
  change ∀ H, callF fns (q + 3) 76 _ _ = _ at e76
  change callF fns (q + 3) 71 _ _ = _ at ea
  change callF fns (q + 3) 71 _ _ = _ at eb
  change callF fns (q + 3) 71 _ _ = _ at ec
  generalize callF fns (q + 3) = cf at e76 ea eb ec
  let W : Nat → Ev := fun g => XL ns (some (.p (.int c))) (some (.ref g)) v3 v4 v5 (some (.p (fivD five))) v7 (some (.p (.int k))) (some (.p (.tuple Rr))) (some (.p (.int (j : Int)))) (some (.p (.int nw))) v12
  have s1 : opf3 (.slice false true) (.tuple Rr) .none (.int (j : Int)) = some (.tuple (Rr.take j)) := sl_to Rr j
  have s2 : opf3 (.slice true false) (.tuple Rr) (.int ((j : Int) + 1)) .none = some (.tuple (Rr.drop (j + 1))) := sl_from Rr (j + 1)
  have s3 : opf3 (.slice true false) (.tuple Rr) (.int (j : Int)) .none = some (.tuple (Rr.drop j)) := sl_from Rr j
  have lt : (Rr.take j).length ≤ 5 := by rw [List.length_take]; omega
  have ld : ∀ i, (Rr.drop i).length ≤ 5 := fun i => by rw [List.length_drop]; omega
  have x1 : ∀ y : PyData, opf2 .add (.tuple (Rr.take j)) (.tuple [y]) = some (.tuple (Rr.take j ++ [y])) := fun y => addT_ok (by simp; omega)
  have x2 : ∀ (y : PyData) (i : Nat), opf2 .add (.tuple (Rr.take j ++ [y])) (.tuple (Rr.drop i)) = some (.tuple ((Rr.take j ++ [y]) ++ Rr.drop i)) := fun y i => addT_ok (by have := ld i; rw [List.length_append, List.length_singleton]; omega)
  have x3 : opf2 .add (.tuple (Rr.take j)) (.tuple (Rr.drop (j + 1))) = some (.tuple (Rr.take j ++ Rr.drop (j + 1))) := addT_ok (by have := ld (j + 1); omega)
  have u0 : evalS cf s182_7_0 (XL ns (some (.p (.int c))) (some (.ref G.length)) v3 v4 v5 (some (.p (fivD five))) v7 v8 v9 v10 v11 v12) (G ++ [.lst T]) = .ok .nx (XL ns (some (.p (.int c))) (some (.ref G.length)) v3 v4 v5 (some (.p (fivD five))) v7 (some (.p (.int k))) (some (.p (.tuple Rr))) v10 v11 v12) (G ++ [.lst T]) := by
    unfold s182_7_0
    simp only [st_unpack, ev_call, ees_cons, ees_nil, ev_var, slot_0, slot_s, ofO_some, R.bind_ok, e76, unP_p, R.toS_ok, rankD, bt_tup, bts_cons, bts_nil, bt_name, Option.bind_some, setSlot_0, setSlot_s, Rr]
  have u1 : evalS cf s182_7_1 (XL ns (some (.p (.int c))) (some (.ref G.length)) v3 v4 v5 (some (.p (fivD five))) v7 (some (.p (.int k))) (some (.p (.tuple Rr))) v10 v11 v12) (G ++ [.lst T]) = .ok .nx (XL ns (some (.p (.int c))) (some (.ref G.length)) v3 v4 v5 (some (.p (fivD five))) v7 (some (.p (.int k))) (some (.p (.tuple Rr))) (some (.p (.int (j : Int)))) v11 v12) (G ++ [.lst T]) := by
    unfold s182_7_1
    have ln : ((Rr.length : Nat) : Int) = (rs.length : Int) := by rw [rsl]
    simp only [st_set, ev_call, ees_cons, ees_nil, ev_var, ev_lit, ev_op1, bor_var, slot_0, slot_s, borV_p, ofO_some, R.bind_ok, unP_p, o_lenT, ln, Option.map_some, ea, R.toS_ok, setSlot_0, setSlot_s]
  have u2 : evalS cf s182_7_2 (XL ns (some (.p (.int c))) (some (.ref G.length)) v3 v4 v5 (some (.p (fivD five))) v7 (some (.p (.int k))) (some (.p (.tuple Rr))) (some (.p (.int (j : Int)))) v11 v12) (G ++ [.lst T]) = .ok .nx (W G.length) (G ++ [.lst T]) := by
    unfold s182_7_2
    simp only [st_set, ev_call, ees_cons, ees_nil, ev_var, ev_lit, slot_0, slot_s, ofO_some, R.bind_ok, eb, R.toS_ok, setSlot_0, setSlot_s, W]
  have rv : opf1 .revT (.tuple Rr) = some (.tuple Rr.reverse) := rfl
  have u3 : evalS cf s182_7_3 (W G.length) (G ++ [.lst T]) = .ok .nx (W G1.length) (G1 ++ [.lst T3]) := by
    unfold s182_7_3
    rw [cat_new (U := U3) rfl (by simp only [ev_lst, eps_cons, eps_nil, ev_tup, ev_var, ev_op1, bor_var, W, slot_0, slot_s, borV_p, ofO_some, R.bind_ok, unP_p, o_lstT, rv, Option.map_some, U3]) (by show T.length + 4 ≤ 1000; omega)]
    simp only [W, setSlot_0, setSlot_s, G1, T3]
  have u4 : evalS cf s182_7_4 (W G1.length) (G1 ++ [.lst T3]) = .ok .nx (W G1.length) (G1 ++ [.lst T4]) := by
    unfold s182_7_4
    have t3 : T3.length = T.length + 4 := by show (T ++ U3).length = _; rw [List.length_append]; rfl
    rw [app_new (u := .tuple [.int (n4 - 1), .tuple Rr]) rfl (by simp only [eps_cons, eps_nil, ev_tup, ev_op2d, ev_call, ees_cons, ees_nil, ev_lit, ev_var, W, slot_0, slot_s, ofO_some, R.bind_ok, ec, unP_p, o_sub, Option.map_some]) (by omega)]
  have u5 : evalS cf s182_7_5 (W G1.length) (G1 ++ [.lst T4]) = .ok .nx (W G2.length) (G2 ++ [.lst T5]) := by
    unfold s182_7_5
    have t4 : T4.length = T.length + 5 := by show ((T ++ U3) ++ [_]).length = _; rw [List.length_append, List.length_append]; rfl
    rw [cat_new (U := U5) rfl (by simp only [ev_lst, eps_cons, eps_nil, ev_tup, ev_var, ev_lit, ev_op2d, ev_op3b, bor_var, W, slot_0, slot_s, borV_p, ofO_some, R.bind_ok, unP_p, s1, s2, s3, x1, x2, o_addI, Option.map_some, U5]) (by show T4.length + 2 ≤ 1000; omega)]
    simp only [W, setSlot_0, setSlot_s, G2, T5]
  have u6 : evalS cf s182_7_6 (W G2.length) (G2 ++ [.lst T5]) = .ok .nx (W G3.length) (G3 ++ [.lst T6]) := by
    unfold s182_7_6
    have t5 : T5.length = T.length + 7 := by show (((T ++ U3) ++ [_]) ++ U5).length = _; rw [List.length_append, List.length_append, List.length_append]; rfl
    rw [cat_new (U := U6) rfl (by simp only [ev_lst, eps_cons, eps_nil, ev_tup, ev_var, ev_lit, ev_op2d, ev_op3b, bor_var, W, slot_0, slot_s, borV_p, ofO_some, R.bind_ok, unP_p, s1, s2, x3, o_addI, Option.map_some, U6]) (by show T5.length + 2 ≤ 1000; omega)]
    simp only [W, setSlot_0, setSlot_s, G3, T6]
  have u7 : evalS cf s182_7_7 (W G3.length) (G3 ++ [.lst T6]) = .ok .nx (W G3.length) (G3 ++ [.lst T7]) := by
    unfold s182_7_7
    have t6 : T6.length = T.length + 9 := by show ((((T ++ U3) ++ [_]) ++ U5) ++ U6).length = _; rw [List.length_append, List.length_append, List.length_append, List.length_append]; rfl
    rw [app_new (u := .tuple [.int k, .tuple ((Rr.take j ++ [.none]) ++ Rr.drop (j + 1))]) rfl (by simp only [eps_cons, eps_nil, ev_tup, ev_op2d, ev_op3b, bor_var, ev_lit, ev_var, W, slot_0, slot_s, borV_p, ofO_some, R.bind_ok, unP_p, s1, s2, x1, x2, o_addI, Option.map_some]) (by omega)]
  have sR : ∀ t ∈ Rr, sameD t t = true := same_map rs
  have sT : ∀ t ∈ Rr.take j, sameD t t = true := fun t ht => sR t (List.mem_of_mem_take ht)
  have sD : ∀ i, ∀ t ∈ Rr.drop i, sameD t t = true := fun i t ht => sR t (List.mem_of_mem_drop ht)
  have sA : ∀ y, sameD y y = true → ∀ i, ∀ t ∈ (Rr.take j ++ [y]) ++ Rr.drop i, sameD t t = true := fun y hy i t ht => by
    rcases List.mem_append.mp ht with ht | ht
    · rcases List.mem_append.mp ht with ht | ht
      · exact sT t ht
      · rw [List.mem_singleton.mp ht]; exact hy
    · exact sD i t ht
  have lA : ∀ (y : PyData) (i : Nat), ((Rr.take j ++ [y]) ++ Rr.drop i).length < 900 := fun y i => by
    have := ld i
    rw [List.length_append, List.length_append, List.length_singleton]; omega
  refine ⟨G3, T7, some (.p (.int k)), some (.p (.tuple Rr)), some (.p (.int (j : Int))), some (.p (.int nw)), fun t ht => ?_, ?_, ?_⟩
  · rcases List.mem_append.mp ht with ht | ht
    · rcases List.mem_append.mp ht with ht | ht
      · rcases List.mem_append.mp ht with ht | ht
        · rcases List.mem_append.mp ht with ht | ht
          · rcases List.mem_append.mp ht with ht | ht
            · exact hT t ht
            · simp only [U3, List.mem_cons, List.not_mem_nil, or_false] at ht
              rcases ht with rfl | rfl | rfl | rfl
              · exact thn_pair (by omega) sR
              · refine thn_lst fun u hu => ?_
                simp only [List.mem_cons, List.not_mem_nil, or_false] at hu
                rcases hu with rfl | rfl
                · exact same_int1 _
                · exact sameL_all sR
              · exact thn_tl sR
              · exact thn_pair (by rw [List.length_reverse]; omega) fun u hu => sR u (List.mem_reverse.mp hu)
          · rw [List.mem_singleton.mp ht]
            exact thn_pair (by omega) sR
        · simp only [U5, List.mem_cons, List.not_mem_nil, or_false] at ht
          rcases ht with rfl | rfl
          · exact thn_pair (lA _ _) (sA _ (same_int1 _) _)
          · exact thn_pair (lA _ _) (sA _ (same_int1 _) _)
      · simp only [U6, List.mem_cons, List.not_mem_nil, or_false] at ht
        rcases ht with rfl | rfl
        · refine thn_pair (by have := ld (j + 1); rw [List.length_append]; omega) fun u hu => ?_
          rcases List.mem_append.mp hu with hu | hu
          · exact sT u hu
          · exact sD _ u hu
        · exact thn_3 sR
    · rw [List.mem_singleton.mp ht]
      exact thn_pair (lA _ _) (sA _ (by simp [sameD]) _)
  · show (((((T ++ U3) ++ [_]) ++ U5) ++ U6) ++ [_]).length = _
    rw [List.length_append, List.length_append, List.length_append, List.length_append, List.length_append]; rfl
  · unfold ls182_7
    rw [ss_cons, u0, RS.bind_nx, ss_cons, u1, RS.bind_nx, ss_cons, u2, RS.bind_nx, ss_cons, u3, RS.bind_nx, ss_cons, u4, RS.bind_nx, ss_cons, u5, RS.bind_nx, ss_cons, u6, RS.bind_nx, ss_cons, u7, RS.bind_nx, ss_nil]
theorem loop182 (c : Int) : ∀ (fs : List (List Card)) (G : Hi) (T : List PyData) (v3 v4 v5 v6 v7 v8 v9 v10 v11 v12 : Option Val), (∀ f ∈ fs, f.length = 5 ∧ Fit f) → (∀ t ∈ T, Thn t) → T.length + 10 * fs.length < 100 →
    ∃ (G' : Hi) (T' : List PyData) (w6 w8 w9 w10 w11 : Option Val), (∀ t ∈ T', Thn t) ∧ T'.length < 100 ∧
      forL (evalSs (callF fns (q + 3)) ls182_7) (bindT (.name 6)) (fs.map fivD) (XL ns (some (.p (.int c))) (some (.ref G.length)) v3 v4 v5 v6 v7 v8 v9 v10 v11 v12) (G ++ [.lst T]) =
        .ok .nx (XL ns (some (.p (.int c))) (some (.ref G'.length)) v3 v4 v5 w6 v7 w8 w9 w10 w11 v12) (G' ++ [.lst T'])
  | [], G, T, v3, v4, v5, v6, v7, v8, v9, v10, v11, v12, _, hT, hz => ⟨G, T, v6, v8, v9, v10, v11, hT, by simpa using hz, rfl⟩
  | f :: fs, G, T, v3, v4, v5, v6, v7, v8, v9, v10, v11, v12, hf, hT, hz => by
    rw [List.length_cons] at hz
    obtain ⟨h5, ft⟩ := hf f List.mem_cons_self
    obtain ⟨G1, T1, w8, w9, w10, w11, p1, p2, e1⟩ := turn182 (q := q) (ns := ns) c h5 ft (G := G) hT (by omega) (v3 := v3) (v4 := v4) (v5 := v5) (v7 := v7) (v8 := v8) (v9 := v9) (v10 := v10) (v11 := v11) (v12 := v12)
    obtain ⟨G2, T2, x6, x8, x9, x10, x11, y1, y2, e2⟩ := loop182 c fs G1 T1 v3 v4 v5 (some (.p (fivD f))) v7 w8 w9 w10 w11 v12 (fun x hx => hf x (List.mem_cons_of_mem _ hx)) p1 (by omega)
    refine ⟨G2, T2, x6, x8, x9, x10, x11, y1, y2, ?_⟩
    rw [List.map_cons]
    unfold forL
    have eb : bindT (.name 6) (fivD f) (XL ns (some (.p (.int c))) (some (.ref G.length)) v3 v4 v5 v6 v7 v8 v9 v10 v11 v12) = some (XL ns (some (.p (.int c))) (some (.ref G.length)) v3 v4 v5 (some (.p (fivD f))) v7 v8 v9 v10 v11 v12) := by
      simp only [bt_name, setSlot_0, setSlot_s]
    rw [eb]
    simp only [e1]
    exact e2
theorem last182 {c : Int} {H : Hi} {n : Nat} {T : List PyData} (hl : listAt H n = some T) (hs : sameL T T = true) {v2 v3 v4 v5 v6 v8 v9 v10 v11 v12 : Option Val} : ∀ (ts : List PyData) (v7 : Option Val), (∀ t ∈ ts, Thn t) → ∃ w7,
    forLB (fun h => stillL h n T) (evalSs (callF fns (q + 3)) ls182_8) (bindT (.name 7)) ts (XL ns (some (.p (.int c))) v2 v3 v4 v5 v6 v7 v8 v9 v10 v11 v12) H = .ok .nx (XL ns (some (.p (.int c))) v2 v3 v4 v5 v6 w7 v8 v9 v10 v11 v12) H
  | [], v7, _ => ⟨v7, by
    unfold forLB
    have : stillL H n T = true := by unfold stillL; rw [hl]; exact hs
    rw [if_pos this]⟩
  | t :: ts, v7, ht => by
    obtain ⟨w7, e⟩ := last182 hl hs (v2 := v2) (v3 := v3) (v4 := v4) (v5 := v5) (v6 := v6) (v8 := v8) (v9 := v9) (v10 := v10) (v11 := v11) (v12 := v12) (c := c) ts (some (.p t)) (fun x hx => ht x (List.mem_cons_of_mem _ hx))
    refine ⟨w7, ?_⟩
    have th := ht t List.mem_cons_self
    have still : stillL H n T = true := by unfold stillL; rw [hl]; exact hs
    have e1 := isr_eval (fns := fns) (q := q + 1) (h := H) rfl rfl rfl (d := t) (fun k us z => th.1 _ us z)
    have e2 := hand_eval (fns := fns) (q := q + 1) (h := H) rfl rfl th.1
    have e3 := same_bool (q := q + 2) (h := H) (isrB t)
    change callF fns (q + 3) 95 _ _ = _ at e1
    change callF fns (q + 3) 181 _ _ = _ at e2
    change callF fns (q + 3) 73 _ _ = _ at e3
    generalize callF fns (q + 3) = cf at e1 e2 e3 e
    unfold forLB
    have eb : bindT (.name 7) t (XL ns (some (.p (.int c))) v2 v3 v4 v5 v6 v7 v8 v9 v10 v11 v12) = some (XL ns (some (.p (.int c))) v2 v3 v4 v5 v6 (some (.p t)) v8 v9 v10 v11 v12) := by
      simp only [bt_name, setSlot_0, setSlot_s]
    have st : evalSs cf ls182_8 (XL ns (some (.p (.int c))) v2 v3 v4 v5 v6 (some (.p t)) v8 v9 v10 v11 v12) H = .ok .nx (XL ns (some (.p (.int c))) v2 v3 v4 v5 v6 (some (.p t)) v8 v9 v10 v11 v12) H := by
      unfold ls182_8 s182_8_0
      simp only [ss_cons, ss_nil, st_if, et_not, et_val, bor_call, ev_call, ees_cons, ees_nil, ev_var, slot_0, slot_s, ofO_some, R.bind_ok, e1, e2, e3, unP_p, truth_b, Bool.not_true, R.toS_ok, Bool.false_eq_true, if_false, RS.bind_nx]
    rw [if_pos still, eb]
    simp only [st]
    exact e
theorem st_forB {cf : Calls} {tg : Tg} {i : Nat} {body : List S} {env : Ev} : evalS cf (.forB tg i body) env h = match lstOf env h i with
    | none => .stuck
    | some p => forLB (fun h => stillL h p.1 p.2) (evalSs cf body) (bindT tg) p.2 env h := id rfl
theorem law182 (ns : List Int) : ∃ h', callF fns 31 182 [.p (.list (ns.map .int))] [] = .ok (.p (.bool true)) h' := by
  rw [call_eq (d := d182) (n := 30) rfl rfl]
  obtain ⟨c, hc⟩ : ∃ c, c = ns.getD 0 0 := ⟨_, rfl⟩
  have e72 : callF fns 30 72 [.p (.list (ns.map .int)), .p (.int 0)] [] = .ok (.p (.int c)) [] := by
    have := cell_eval (fns := fns) (q := 29) (h := []) rfl ns (j := 0)
    rw [← hc] at this
    exact this
  let T1 : List PyData := T0.take 10
  obtain ⟨v, v0, v1, ed⟩ := d_eval (fns := fns) (q := 29) (h := [] ++ [.lst T0]) rfl c 1 (m := 10) (by decide)
  let top : Int := v + 5
  let row : List Int := (List.range 5).map fun i : Nat => if top - (i : Int) = 1 then 14 else top - (i : Int)
  let Rw : PyData := .tuple (row.map .int)
  let Fw : PyData := .tuple ((sortI row).map .int).reverse
  let U6 : List PyData := [.tuple [.int 0, Fw], .tuple [.int 5, Fw], .tuple [.int 5, Rw], .tuple [.int 6, .tuple [.int 2, .int 2]], .tuple [.int 1, .tuple [.bool true, .int 5, .int 4, .int 3]]]
  let G : Hi := [] ++ [.lst T0]
  let T : List PyData := T0 ++ U6
  have sl : ∀ a b : Int, opf3 (.slice true true) (.list (ns.map PyData.int)) (.int a) (.int b) = some (.list ((cutM ns (some a) (some b)).map PyData.int)) := fun a b => slice_L rfl rfl
  obtain ⟨f1, l1, k1, _, e1⟩ := cards74_eval (fns := fns) (q := 28) (h := G ++ [.lst T]) rfl rfl (cutM ns (some 1) (some 6)) (m := 5) (by decide)
  obtain ⟨low2, f2, w2, l2, k2, e2⟩ := close75_eval (fns := fns) (q := 28) (h := G ++ [.lst T]) rfl rfl (cutM ns (some 1) (some 7)) (m := 5) (by decide)
  obtain ⟨low3, f3, w3, l3, k3, e3⟩ := close75_eval (fns := fns) (q := 28) (h := G ++ [.lst T]) rfl rfl (cutM ns (some 6) (some 12)) (m := 5) (by decide)
  have fits : ∀ f ∈ [f1, f2, f3], f.length = 5 ∧ Fit f := fun f hf => by
    simp only [List.mem_cons, List.not_mem_nil, or_false] at hf
    rcases hf with rfl | rfl | rfl
    · exact ⟨l1, deckR_fit every_nd every_rng14 k1⟩
    · exact ⟨l2, deckR_fit (near_nd low2) (near_rng w2) k2⟩
    · exact ⟨l3, deckR_fit (near_nd low3) (near_rng w3) k3⟩
  have rl : row.length = 5 := by simp [row]
  have sR : ∀ t ∈ row.map PyData.int, sameD t t = true := same_map row
  have sF : ∀ t ∈ ((sortI row).map PyData.int).reverse, sameD t t = true := fun t ht => same_map (sortI row) t (List.mem_reverse.mp ht)
  have lF : ((sortI row).map PyData.int).reverse.length = 5 := by rw [List.length_reverse, List.length_map, (sortI_perm row).length_eq, rl]
  have lR : (row.map PyData.int).length = 5 := by rw [List.length_map, rl]
  have hT : ∀ t ∈ T, Thn t := fun t ht => by
    rcases List.mem_append.mp ht with ht | ht
    · exact thn_T0 t ht
    · simp only [U6, List.mem_cons, List.not_mem_nil, or_false] at ht
      rcases ht with rfl | rfl | rfl | rfl | rfl
      · exact thn_pair (by omega) sF
      · exact thn_pair (by omega) sF
      · exact thn_pair (by omega) sR
      · exact ⟨few_of (by decide), by decide +kernel⟩
      · exact ⟨few_of (by decide), by decide +kernel⟩
  obtain ⟨G7, T7, x6, x8, x9, x10, x11, p1, p2, e7⟩ := loop182 (q := 27) (ns := ns) c [f1, f2, f3] G T (some (.p (.int top))) (some (.p Rw)) (some (.p Fw)) none none none none none none none fits hT (by show 16 + 30 < 100; decide)
  have s7 : sameL T7 T7 = true := sameL_all fun t ht => (p1 t ht).2
  obtain ⟨w7, e8⟩ := last182 (q := 27) (ns := ns) (c := c) (H := G7 ++ [.lst T7]) (n := G7.length) (T := T7) listAt_app s7 (v2 := some (.ref G7.length)) (v3 := some (.p (.int top))) (v4 := some (.p Rw)) (v5 := some (.p Fw)) (v6 := x6) (v8 := x8) (v9 := x9) (v10 := x10) (v11 := x11) (v12 := none) T7 none p1
  change callF fns 30 71 _ _ = _ at ed
  change callF fns 30 74 _ _ = _ at e1
  change callF fns 30 75 _ _ = _ at e2
  change callF fns 30 75 _ _ = _ at e3
  change forL (evalSs (callF fns 30) ls182_7) _ _ _ _ = _ at e7
  change forLB _ (evalSs (callF fns 30) ls182_8) _ _ _ _ = _ at e8
  generalize callF fns 30 = cf at e72 ed e1 e2 e3 e7 e8
  let C : Option Val := some (.p (.int c))
  have t0 : evalS cf s182_0 (XL ns none none none none none none none none none none none none) [] = .ok .nx (XL ns C none none none none none none none none none none none) [] := by
    unfold s182_0
    simp only [st_set, ev_call, ees_cons, ees_nil, ev_var, ev_lit, slot_0, slot_s, ofO_some, R.bind_ok, e72, R.toS_ok, setSlot_0, setSlot_s, C]
  have t1 : evalS cf s182_1 (XL ns C none none none none none none none none none none none) [] = .ok .nx (XL ns C (some (.ref ([] : Hi).length)) none none none none none none none none none none) ([] ++ [.lst T1]) := by
    unfold s182_1
    simp only [st_set, ev_mk, ev_lst, ev_tup, eps_cons, eps_nil, ev_lit, R.bind_ok, unP_p, mkK, R.toS_ok, setSlot_0, setSlot_s]
    rfl
  have t2 : evalS cf s182_2 (XL ns C (some (.ref ([] : Hi).length)) none none none none none none none none none none) ([] ++ [.lst T1]) = .ok .nx (XL ns C (some (.ref ([] : Hi).length)) none none none none none none none none none none) G := by
    unfold s182_2
    rw [app_new (u := .tuple [.int 0, .tuple [.int 14, .int 5, .int 4, .int 3, .int 2]]) rfl (by simp only [ev_tup, eps_cons, eps_nil, ev_lit, R.bind_ok, unP_p]) (by decide)]
    rfl
  have t3 : evalS cf s182_3 (XL ns C (some (.ref ([] : Hi).length)) none none none none none none none none none none) G = .ok .nx (XL ns C (some (.ref ([] : Hi).length)) (some (.p (.int top))) none none none none none none none none none) G := by
    unfold s182_3
    simp only [st_set, ev_op2d, ev_call, ees_cons, ees_nil, ev_var, ev_lit, C, slot_0, slot_s, ofO_some, R.bind_ok, G, ed, unP_p, o_add, Option.map_some, R.toS_ok, setSlot_0, setSlot_s]
    rfl
  have c4 : evalE cf (XL ns C (some (.ref ([] : Hi).length)) (some (.p (.int top))) none none none none none none none none none) (.comp [12] (.name 12) (.rng1 (.lit (.int 5))) [] (.ite (.val (.op2 .eq (.op2d .sub (.var 3) (.var 12)) (.lit (.int 1)))) (.lit (.int 14)) (.op2d .sub (.var 3) (.var 12)))) G = .ok (.p (.list (row.map .int))) G := by
    show _ = R.ok (Val.p (.list (((List.range 5).map fun i : Nat => if top - (i : Int) = 1 then 14 else top - (i : Int)).map .int))) G
    rw [List.map_map]
    refine comp_all natD _ (src_nat (j := 5) (by simp) (by decide)) (by decide) fun i hi => ⟨XL ns C (some (.ref ([] : Hi).length)) (some (.p (.int top))) none none none none none none none none (some (.p (natD i))), by simp, ?_⟩
    simp only [ev_ite, et_val, bor_op2, ev_op2, ev_op2d, ev_var, slot_0, slot_s, natD, ofO_some, R.bind_ok, unP_p, o_sub, Option.map_some, bor_lit, ev_lit, o_eqI, truth_b, ifK_eq, Function.comp_apply]
    by_cases z : top - (i : Int) = 1
    · rw [decide_eq_true z, if_pos rfl, if_pos z]; rfl
    · rw [decide_eq_false z, if_neg (by decide), if_neg z]; rfl
  have t4 : evalS cf s182_4 (XL ns C (some (.ref ([] : Hi).length)) (some (.p (.int top))) none none none none none none none none none) G = .ok .nx (XL ns C (some (.ref ([] : Hi).length)) (some (.p (.int top))) (some (.p Rw)) none none none none none none none none) G := by
    unfold s182_4
    rw [st_set, ev_op1, bor_comp, c4]
    simp only [R.bind_ok, unP_p, o_tupL, Option.map_some, ofO_some, R.toS_ok, setSlot_0, setSlot_s, Rw]
  have so : opf1 .sorted Rw = some (.list ((sortI row).map .int)) := o_sortT
  have rv : opf1 .rev (.list ((sortI row).map .int)) = some (.list ((sortI row).map PyData.int).reverse) := rfl
  have t5 : evalS cf s182_5 (XL ns C (some (.ref ([] : Hi).length)) (some (.p (.int top))) (some (.p Rw)) none none none none none none none none) G = .ok .nx (XL ns C (some (.ref ([] : Hi).length)) (some (.p (.int top))) (some (.p Rw)) (some (.p Fw)) none none none none none none none) G := by
    unfold s182_5
    simp only [st_set, ev_op1, bor_op1, bor_var, ev_var, slot_0, slot_s, borV_p, ofO_some, R.bind_ok, unP_p, so, rv, Option.map_some, o_tupL, R.toS_ok, setSlot_0, setSlot_s, Fw]
  have t6 : evalS cf s182_6 (XL ns C (some (.ref ([] : Hi).length)) (some (.p (.int top))) (some (.p Rw)) (some (.p Fw)) none none none none none none none) G = .ok .nx (XL ns C (some (.ref G.length)) (some (.p (.int top))) (some (.p Rw)) (some (.p Fw)) none none none none none none none) (G ++ [.lst T]) := by
    unfold s182_6
    rw [cat_new (G := []) (T := T0) (U := U6) rfl (by simp only [ev_lst, ev_tup, eps_cons, eps_nil, ev_var, ev_lit, slot_0, slot_s, ofO_some, R.bind_ok, unP_p, U6]) (by show 11 + 5 ≤ 1000; decide)]
    simp only [setSlot_0, setSlot_s, G, T]
  have t7 : evalS cf s182_7 (XL ns C (some (.ref G.length)) (some (.p (.int top))) (some (.p Rw)) (some (.p Fw)) none none none none none none none) (G ++ [.lst T]) = .ok .nx (XL ns C (some (.ref G7.length)) (some (.p (.int top))) (some (.p Rw)) (some (.p Fw)) x6 none x8 x9 x10 x11 none) (G7 ++ [.lst T7]) := by
    unfold s182_7
    have src : evalSrc cf (XL ns C (some (.ref G.length)) (some (.p (.int top))) (some (.p Rw)) (some (.p Fw)) none none none none none none none) (.e (.lst [(.call 74 [(.op3b (.slice true true) (.var 0) (.lit (.int 1)) (.lit (.int 6))), (.lit (.int 5))]), (.call 75 [(.op3b (.slice true true) (.var 0) (.lit (.int 1)) (.lit (.int 7))), (.lit (.int 5))]), (.call 75 [(.op3b (.slice true true) (.var 0) (.lit (.int 6)) (.lit (.int 12))), (.lit (.int 5))])])) (G ++ [.lst T]) = .ok ([f1, f2, f3].map fivD) (G ++ [.lst T]) := by
      have e1' : cf 74 [.p (.list ((cutM ns (some 1) (some 6)).map .int)), .p (.int 5)] (G ++ [.lst T]) = .ok (.p (fivD f1)) (G ++ [.lst T]) := e1
      have e2' : cf 75 [.p (.list ((cutM ns (some 1) (some 7)).map .int)), .p (.int 5)] (G ++ [.lst T]) = .ok (.p (fivD f2)) (G ++ [.lst T]) := e2
      have e3' : cf 75 [.p (.list ((cutM ns (some 6) (some 12)).map .int)), .p (.int 5)] (G ++ [.lst T]) = .ok (.p (fivD f3)) (G ++ [.lst T]) := e3
      generalize G ++ [.lst T] = HH at e1' e2' e3' ⊢
      simp only [es_e, ev_lst, eps_cons, eps_nil, ev_call, ees_cons, ees_nil, ev_op3b, bor_var, ev_var, ev_lit, slot_0, slot_s, borV_p, ofO_some, R.bind_ok, unP_p, sl, Option.map_some, e1', e2', e3', items_L, List.map_cons, List.map_nil]
    rw [st_for, src, R.toS_ok]
    exact e7
  have t8 : evalS cf s182_8 (XL ns C (some (.ref G7.length)) (some (.p (.int top))) (some (.p Rw)) (some (.p Fw)) x6 none x8 x9 x10 x11 none) (G7 ++ [.lst T7]) = .ok .nx (XL ns C (some (.ref G7.length)) (some (.p (.int top))) (some (.p Rw)) (some (.p Fw)) x6 w7 x8 x9 x10 x11 none) (G7 ++ [.lst T7]) := by
    unfold s182_8
    rw [st_forB]
    simp only [lstOf_eq, slot_0, slot_s, refOf_r, Option.bind_some, listAt_app, Option.map_some]
    exact e8
  refine ⟨(G7 ++ [Ob.lst T7]).take 0, ?_⟩
  show finF 0 (evalSs cf b182 (XL ns none none none none none none none none none none none none) []) = _
  rw [b182_eq]
  unfold ls182
  rw [ss_cons, t0, RS.bind_nx, ss_cons, t1, RS.bind_nx, ss_cons, t2, RS.bind_nx, ss_cons, t3, RS.bind_nx, ss_cons, t4, RS.bind_nx, ss_cons, t5, RS.bind_nx, ss_cons, t6, RS.bind_nx, ss_cons, t7, RS.bind_nx, ss_cons, t8, RS.bind_nx, ss_cons]
  simp only [s182_9, st_ret, ev_lit, R.toS_ok, RS.bind_rt, fin_rp]
end
end Cd
set_option Elab.async false
set_option maxRecDepth 100000
set_option maxHeartbeats 4000000
namespace Cd
theorem holds (ns : List Int) (h : ns.length ≤ 63) : okTrue (callF Γ0.fns 31 182 [scriptD ns] []) = true := by
  rw [show Γ0.fns = fns from rfl]
  have : scriptD ns = .p (.list (ns.map .int)) := rfl
  rw [this]
  obtain ⟨h', e⟩ := law182 ns
  rw [e]
  rfl
end Cd
set_option Elab.async false
set_option linter.all false
set_option maxRecDepth 100000
set_option maxHeartbeats 4000000
open PySem PySem.W PyProof.Rows
set_option maxRecDepth 100000 in
set_option maxHeartbeats 0 in
theorem PySem.Challenge.cw_cardhands_k04_whole_things_as_ranks_holds : PySem.Challenge.rw_cardhands_k04_whole_things_as_ranks.Holds := by
  w_on; o_law; k_head; (case hw => w_witness2)
  k_fill
  refine Cd.walk_endK (l := PySem.Challenge.rw_cardhands_k04_whole_things_as_ranks) (Γ := Cd.Γ0) (fi := 182) (n := 30) "_law_script" rfl (by decide) rfl ⟨rfl, by decide, by decide⟩ Cd.holds (fun w h Y => PySem.W.kIn_of Y) ?F
  case F =>
    intro w mg fa h KX G hmg
    refine' Cd.all_mk KX G hmg ?a48 ?i48 ?l48 ?c48 ?k48 ?a94 ?i94 ?l94 ?c94 ?k94 ?a95 ?i95 ?l95 ?c95 ?k95 ?a71 ?i71 ?l71 ?c71 ?k71 ?a72 ?i72 ?l72 ?c72 ?k72 ?a73 ?i73 ?l73 ?c73 ?k73 ?a74 ?i74 ?l74 ?c74 ?k74 ?a75 ?i75 ?l75 ?c75 ?k75 ?a76 ?i76 ?l76 ?c76 ?k76 ?a181 ?i181 ?l181 ?c181 ?k181 ?a182 ?i182 ?l182 ?c182 ?k182 ?z0 ?z1 ?z2 ?z3 ?z4 ?z5 ?z6 ?z7 ?z8 ?z9 ?z10 ?z11 ?z12 ?cn0 ?ct0 ?cn1 ?ct1 ?cn2 ?ct2 ?ct2_8 ?ct2_7 ?ct2_6 ?ct2_5 ?ct2_4 ?ct2_3 ?ct2_2 ?ct2_1 ?ct2_0
    (case a48 => first | k_is | rfl)
    (case i48 => first | k_is | rfl)
    (case l48 => first | k_is | rfl)
    (case c48 => first | k_is | rfl)
    (case k48 => first | k_is | rfl)
    (case a94 => first | k_is | rfl)
    (case i94 => first | k_is | rfl)
    (case l94 => first | k_is | rfl)
    (case c94 => first | k_is | rfl)
    (case k94 => first | k_is | rfl)
    (case a95 => first | k_is | rfl)
    (case i95 => first | k_is | rfl)
    (case l95 => first | k_is | rfl)
    (case c95 => first | k_is | rfl)
    (case k95 => first | k_is | rfl)
    (case a71 => first | k_is | rfl)
    (case i71 => first | k_is | rfl)
    (case l71 => first | k_is | rfl)
    (case c71 => first | k_is | rfl)
    (case k71 => first | k_is | rfl)
    (case a72 => first | k_is | rfl)
    (case i72 => first | k_is | rfl)
    (case l72 => first | k_is | rfl)
    (case c72 => first | k_is | rfl)
    (case k72 => first | k_is | rfl)
    (case a73 => first | k_is | rfl)
    (case i73 => first | k_is | rfl)
    (case l73 => first | k_is | rfl)
    (case c73 => first | k_is | rfl)
    (case k73 => first | k_is | rfl)
    (case a74 => first | k_is | rfl)
    (case i74 => first | k_is | rfl)
    (case l74 => first | k_is | rfl)
    (case c74 => first | k_is | rfl)
    (case k74 => first | k_is | rfl)
    (case a75 => first | k_is | rfl)
    (case i75 => first | k_is | rfl)
    (case l75 => first | k_is | rfl)
    (case c75 => first | k_is | rfl)
    (case k75 => first | k_is | rfl)
    (case a76 => first | k_is | rfl)
    (case i76 => first | k_is | rfl)
    (case l76 => first | k_is | rfl)
    (case c76 => first | k_is | rfl)
    (case k76 => first | k_is | rfl)
    (case a181 => first | k_is | rfl)
    (case i181 => first | k_is | rfl)
    (case l181 => first | k_is | rfl)
    (case c181 => first | k_is | rfl)
    (case k181 => first | k_is | rfl)
    (case a182 => first | k_is | rfl)
    (case i182 => first | k_is | rfl)
    (case l182 => first | k_is | rfl)
    (case c182 => first | k_is | rfl)
    (case k182 => first | k_is | rfl)
    (case z0 => first | k_is | rfl)
    (case z1 => first | k_is | rfl)
    (case z2 => first | k_is | rfl)
    (case z3 => first | k_is | rfl)
    (case z4 => first | k_is | rfl)
    (case z5 => first | k_is | rfl)
    (case z6 => first | k_is | rfl)
    (case z7 => first | k_is | rfl)
    (case z8 => first | k_is | rfl)
    (case z9 => first | k_is | rfl)
    (case z10 => first | k_is | rfl)
    (case z11 => first | k_is | rfl)
    (case z12 => first | k_is | rfl)
    (case cn0 => first | k_is | rfl)
    (case ct0 => first | k_is | rfl)
    (case cn1 => first | k_is | rfl)
    (case ct1 => first | k_is | rfl)
    (case cn2 => first | k_is | rfl)
    (case ct2 => first | k_is | rfl)
    (case ct2_8 => first | k_is | rfl)
    (case ct2_7 => first | k_is | rfl)
    (case ct2_6 => first | k_is | rfl)
    (case ct2_5 => first | k_is | rfl)
    (case ct2_4 => first | k_is | rfl)
    (case ct2_3 => first | k_is | rfl)
    (case ct2_2 => first | k_is | rfl)
    (case ct2_1 => first | k_is | rfl)
    (case ct2_0 => first | k_is | rfl)
